import PyProof.Rows.All
import Wide.All
import OpenK.AllK
import Wide.FinOn
import HandS.Iter
import HandS.Rev
import HandS.Call
import KE.GoesEnum
import HandS.Zip
import KE.GoesZip
import KE.GoesMore
import HandS.ForMost
import HandS.ForExc
import HandS.EndTab
import HandS.Lambda
import HandS.Style
import HandS.TupAny
import HandS.TupMul
import HandS.Deep
import HandS.SortInts
import HandS.TupLen
import HandS.Replace
import HandS.Conv
import PyProof.StrOps2
import HandS.Codes
import HandS.SortRule
import KE.KSortTupAny
import PyProof.Rows.StrRev
import KE.KRevSl
import HandS.SetFor
import HandS.Flow
import HandS.TryOnly
import HandS.ExcOwn
import HandS.WordsExc
import HandS.DictComp
import HandS.ReplaceLit
import HandS.ReplaceDef
import HandS.ReplaceList
import HandS.Small
import HandS.Words
import PySem.Challenge.RW_shiftsandcells_k29_whole_slopes_and_putt
set_option Elab.async false
set_option linter.all false
set_option maxRecDepth 100000
set_option maxHeartbeats 4000000
/-! EvEn: enumerate over a tuple. -/
namespace EV
open PySem PySem.Spec PyProof.Rows L2
theorem meets_enumerate_new1 {v : Value} {o : Obj} {H : Heap → Prop} (B : Begins v o H) :
    Meets (Builtin.«enumerate.__new__» ⟨[.type "enumerate", v], []⟩) (fun _ R s => H s.heap ∧
      R (.ok (.ret (.ref (s.heap.push o).objs.size))) { s with heap := (s.heap.push o).push { cls := .type "enumerate", data := .fields #[.none, .bool false, .ref s.heap.objs.size, rawInt 0, .none, .none] } }) :=
  .of_wp fun prog w A R s h => by
    obtain ⟨hp, g, d, tk, os⟩ := s; obtain ⟨h1, h⟩ := h
    have hsub := sub_enumerate
    have q1 : ∀ {A' : Around} {E : Value → Shared → Prop} {Q : Value → Shared → Prop}, Q (.ref hp.objs.size) ⟨hp.push o, g, d, tk, os⟩ → wpAny (model prog w) A' (pyIter v) Q E ⟨hp, g, d, tk, os⟩ :=
      fun q => B.iter prog w _ _ ⟨hp, g, d, tk, os⟩ _ h1 q
    wp_walk using q1
    refine wpAny_stack_any fun st => wpAny_pure ?_
    split
    · rename_i c _ _ _ _ _
      cases (c == Value.type "enumerate")
      · wp_walk using q1
        exact ⟨_, rfl, h⟩
      · wp_walk using q1
        exact ⟨_, rfl, h⟩
    · wp_walk using q1
      exact ⟨_, rfl, h⟩
section
variable {prog : Program} {w : World} {A : Around} {E : Value → Shared → Prop} {s : Shared}
theorem enum_begins1 {v : Value} {o : Obj} {H : Heap → Prop} {Q : Value → Shared → Prop} (B : Begins v o H) (h1 : H s.heap)
    (h : ∀ h', IsEnum h' (s.heap.objs.size + 1) s.heap.objs.size 0 .none → h'.get? s.heap.objs.size = some o → h'.objs.size = s.heap.objs.size + 2 →
      (∀ b o, s.heap.get? b = some o → h'.get? b = some o) → Q (.ref (s.heap.objs.size + 1)) { s with heap := h' }) :
    wpAny (model prog w) A (call (.type "enumerate") [v]) Q E s := by
  refine callType_new F.called_enumerate (by decide) (F.typeCall_enumerate_1 _) (F.newCall_enumerate_1 _) (fun obj => F.args_object_init_2 obj _) F.entry_enumerate_new
    (meets_enumerate_new1 B) ⟨h1, ?_⟩
  have hz : (s.heap.push o).objs.size = s.heap.objs.size + 1 := Heap.size_push ..
  show _ ∧ _
  rw [hz]
  have he : IsEnum ((s.heap.push o).push { cls := .type "enumerate", data := .fields #[.none, .bool false, .ref s.heap.objs.size, rawInt 0, .none, .none] }) (s.heap.objs.size + 1) s.heap.objs.size 0 .none := by
    have := Heap.get?_push_size (s.heap.push o) (o := { cls := .type "enumerate", data := .fields #[.none, .bool false, .ref s.heap.objs.size, rawInt 0, .none, .none] }) rfl
    rw [hz] at this; exact this
  refine ⟨⟨_, he, rfl⟩, h _ he (Heap.get?_push_of_some _ (Heap.get?_push_size _ B.free)) (by rw [Heap.size_push, hz]) fun b o x => Heap.get?_push_of_some _ (Heap.get?_push_of_some _ x)⟩
end
theorem enum_endT {prog : Program} {w : World} {A : Around} {E : Value → Shared → Prop} {s : Shared} {e it l : Addr} {i : Nat} {c : Int} {items : Array Value} {old : Value} {Q : Option Value → Shared → Prop} (hh : A.handled = none)
    (he : IsEnum s.heap e it c old) (hit : s.heap.IsTupleIter it l i) (hl : s.heap.IsTuple l items) (hx : items[i]? = none)
    (hQ : ∀ h', Heap.ExtBut it s.heap h' → Q none { s with heap := h' }) : wpAny (model prog w) A (pyNext (.ref e)) Q E s := by
  have hTy : s.TypeIs (.ref e) "enumerate" := ⟨_, he, rfl⟩
  unfold pyNext
  refine wpAny_bind (wpAny_attempt (wpAny_callSpecial?_slot (name := Str.ofString "__next__") hTy F.slot_enumerate_next
    (wpAny_call_entry F.slot_enumerate_next hTy F.entry_enumerate_next ?_ (F.args_enumerate_next_1 _))))
  show wpAny _ _ (field (.ref e) 2 >>= _) _ _ _
  refine wpAny_bind (wpAny_field he rfl (x := .ref it) rfl ?_)
  refine wpAny_bind (wpAny_nextOf_tuple_end (by show A.in1.handled = none; exact hh) hit hl hx fun h' x he' hx' => ?_)
  obtain ⟨o, ho, hc⟩ := hx'
  refine wpAny_bind (wpAny_isInstance (T := "StopIteration") (b := true) ⟨o, ho, hc⟩ isSubtype_stop ?_)
  exact wpAny_pure (hQ _ he')
/-- the tuple at a, each item in a new pair -/
def IteT (K : PySem.W.Frag) (a : Addr) : It :=
  ⟨fun i H => ∃ (xs : List V) (x : V), SqT K H a xs ∧ xs[i]? = some x, fun i H v H' => ∃ T x, v = .ref T ∧ H T = none ∧ H' = upd H T (.tup [.int (i : Nat), x]) ∧ ∀ xs, SqT K H a xs → xs[i]? = some x, fun i H => ∃ xs : List V, SqT K H a xs ∧ xs.length ≤ i⟩
theorem turn_enumT {P : Program} {w : World} {K : PySem.W.Frag} {elts : List Expr} {kk : Nat} {tpos : Pos} (a e it : Addr) (hai : a ≠ it) (hea : e ≠ a) :
    Turn P w K (.Tuple elts kk tpos) (IteT K a) [e, it] e (fun i h => (∃ old, IsEnum h e it ((i : Nat) : Int) old) ∧ h.IsTupleIter it a i ∧ e ≠ it) where
  mem := by simp
  obj := fun i h st b hb => by
    obtain ⟨⟨old, he⟩, ⟨o, ho, hc, hd⟩, _⟩ := st
    have e' : b = e ∨ b = it := by simpa using hb
    rcases e' with z | z
    · rw [z]; exact ⟨_, he, fun v q => nomatch q⟩
    · rw [z]; exact ⟨o, ho, fun v q => by rw [hd] at q; cases q⟩
  keep := fun i h h' st k => let ⟨⟨old, he⟩, hi, hne⟩ := st; ⟨⟨old, k e (by simp) _ he⟩, hi.at fun o q => k it (by simp) o q, hne⟩
  item := by
    intro X hP hw hK hc i pins s σ H E I hf st hg
    subst hP hw hK
    obtain ⟨⟨old, he⟩, hit, hne⟩ := st
    obtain ⟨xs, x, hq, hx⟩ := hg
    obtain ⟨its, rv, p, hz⟩ := I.tuple hq
    obtain ⟨u, hu, ru⟩ := rv.get hx
    have hel : e < s.heap.objs.size := Heap.lt_size he
    have hil : it < s.heap.objs.size := by obtain ⟨_, q, _⟩ := hit; exact Heap.lt_size q
    have hlt : i < its.toArray.size := by
      rw [List.size_toArray]
      exact (List.getElem?_eq_some_iff.mp hu).1
    refine wpAny_pyNext_enum_itemD (Draws.tuple (by show X.A.in1.handled = none; exact I.ok.hd hc) it a hai its.toArray) he ⟨hit, p⟩ hlt hne (by simp [hne, hea]) fun x' h' tk hx' ho hst' hT hsz hk => ?_
    have hxu : x' = u := by
      have e1 : its.toArray[i]? = some u := by simpa using hu
      rw [e1] at hx'
      exact (Option.some.inj hx').symm
    subst hxu
    obtain ⟨hit', _⟩ := hst'
    refine ⟨_, rfl, wpAny_letOwnedTupleGo_enum (s := { s with heap := h', toks := tk + 1 }) ho fun h'' he' sb => ?_⟩
    have hT2 : h''.get? s.heap.objs.size = some { cls := .type "tuple", data := .seq #[.int i tk, x'] } := (sb.2 _ (Nat.ne_of_gt hel)).trans hT
    have new : ObjOk X.prog X.w (upd H s.heap.objs.size (.tup [.int (i : Nat), x])) h'' s.heap.objs.size (.tup [.int (i : Nat), x]) :=
      ⟨by show 2 ≤ sizeLine; decide, [.int i tk, x'], .cons ⟨_, rfl⟩ (.cons ru .nil), ⟨_, hT2, rfl, _, rfl⟩⟩
    have I1 : Inv X pins σ (upd H s.heap.objs.size (.tup [.int (i : Nat), x])) { s with heap := h'', toks := tk + 1 } :=
      I.turnedNew (t' := tk + 1) (ch := [e, it]) (fun b ob hb q => (sb.2 b (fun z => hb (by simp [z]))).trans (hk b ob (fun z => hb (by simp [z])) (fun z => hb (by simp [z])) q)) hf (Nat.le_refl _) new
    refine ⟨.ref s.heap.objs.size, _, I1, rfl, ⟨_, x, rfl, I.hok.fresh (Nat.le_refl _), rfl, fun ys hy => by rw [I.tuple_inj hy hq]; exact hx⟩, ⟨⟨x', ?_⟩, hit'.at fun o q => (sb.2 it (Ne.symm hne)).trans q, hne⟩, fun b hb => ?_⟩
    · have e1 : ((i + 1 : Nat) : Int) = (i : Int) + 1 := by omega
      rw [e1]; exact he'
    · have hb' : b < s.heap.objs.size := by
        have e' : b = e ∨ b = it := by simpa using hb
        rcases e' with z | z
        · rw [z]; exact hel
        · rw [z]; exact hil
      rw [upd_ne (Nat.ne_of_lt hb')]
      exact (hf b hb).1
  done := by
    intro X hP hw hK hc i pins s σ H E I hf st hg
    subst hP hw hK
    obtain ⟨⟨old, he⟩, hit, hne⟩ := st
    obtain ⟨xs, hq, hx⟩ := hg
    obtain ⟨its, rv, p, hz⟩ := I.tuple hq
    obtain ⟨f0, f1, f2, f3, f4, f5⟩ := hf it (by simp)
    have hl := rv.length
    exact enum_endT (I.ok.hd hc) he hit p (by simp; omega) fun h' eb => ⟨rfl, I.turned (t' := s.toks) (fun b o hb q => eb b o hb q) f0 f1 f3 f4 f5⟩
  self := fun A i s Q E st h => let ⟨⟨_, he⟩, _⟩ := st; wpAny_pyIter_enum he h
/-- enumerate(x), x a list or a tuple -/
def iEnumA (K : PySem.W.Frag) (te : TE) : TI := fun σ H R => te σ H fun v H1 => ∃ (a : Addr) (xs : List V), v = .ref a ∧ ((SqL K H1 a xs ∧ R (Ite K a) H1) ∨ (SqT K H1 a xs ∧ R (IteT K a) H1))
theorem pi_enumA {X : Cx} {e : Expr} {te : TE} {p pos tpos : Pos} {elts : List Expr} {kk : Nat} (hg : Gl X "enumerate") (hm : X.mg "enumerate" = none) (he : PE X e te) (hs : starEach [e] X.env = (false, eval e X.env) :: starEach [] X.env := by rfl) :
    PI X (.Tuple elts kk tpos) (.Call (.Name "enumerate" p) [e] [] pos) (iEnumA X.K te) := by
  refine ⟨fun pins s σ H R I h => ?_⟩
  refine Call_ (ld_blt I hg hm boot_enumerate (PyProof.Rows.callWith_type1 (args_cons (thn (he.run pins s σ H _ I h) fun u s1 ⟨v, H1, I1, r1, q1⟩ => args_nil ?_) hs) hs rfl))
  obtain ⟨a, xs, ev, q⟩ := q1
  subst ev
  obtain rfl : u = Value.ref a := r1
  have fp : ∀ b, b ∈ [s1.heap.objs.size + 1, s1.heap.objs.size] → s1.heap.objs.size ≤ b := fun b hb => by
    have e' : b = s1.heap.objs.size + 1 ∨ b = s1.heap.objs.size := by simpa using hb
    rcases e' with z | z
    · rw [z]; exact Nat.le_add_right _ _
    · rw [z]; exact Nat.le_refl _
  rcases q with ⟨hq, q⟩ | ⟨hq, q⟩
  · obtain ⟨its, rv, p', hz⟩ := I1.list hq
    refine call_enumerate_list p'.isList fun h' he hit hsz hk => wpAny_pyIter_enum he ?_
    have I2 : Inv X pins σ H1 { s1 with heap := h' } := I1.kept (t' := s1.toks) hk
    exact ⟨s1.heap.objs.size + 1, [s1.heap.objs.size + 1, s1.heap.objs.size], _, _, H1, rfl, I2, turn_enum a (s1.heap.objs.size + 1) s1.heap.objs.size, ⟨⟨.none, he⟩, hit, Nat.succ_ne_self _⟩, fun b hb => I1.fpOk (fp b hb) (I1.hok.fresh (fp b hb)), q⟩
  · obtain ⟨its, rv, p', hz⟩ := I1.tuple hq
    have hal : a < s1.heap.objs.size := by obtain ⟨o, ho, _⟩ := p'; exact Heap.lt_size ho
    refine enum_begins1 (begins_tuple a its.toArray) p' fun h' he hit hsz hk => wpAny_pyIter_enum he ?_
    have I2 : Inv X pins σ H1 { s1 with heap := h' } := I1.kept (t' := s1.toks) hk
    exact ⟨s1.heap.objs.size + 1, [s1.heap.objs.size + 1, s1.heap.objs.size], _, _, H1, rfl, I2, turn_enumT a (s1.heap.objs.size + 1) s1.heap.objs.size (Nat.ne_of_lt hal) (Nat.ne_of_gt (Nat.lt_succ_of_lt hal)), ⟨⟨.none, he⟩, ⟨_, hit, rfl, rfl⟩, Nat.succ_ne_self _⟩, fun b hb => I1.fpOk (fp b hb) (I1.hok.fresh (fp b hb)), q⟩
end EV

set_option Elab.async false
set_option linter.all false
set_option maxRecDepth 100000
set_option maxHeartbeats 4000000
/-! EvZi: zip of a list and a tuple. -/
namespace EV
open PySem PySem.Spec PyProof.Rows L2
/-- a list or (true) a tuple -/
def SqB (K : PySem.W.Frag) (H : Hp) (b : Bool) (a : Addr) (xs : List V) : Prop := match b with
  | true => SqT K H a xs
  | false => SqL K H a xs
def RawB (h : Heap) (b : Bool) (l : Addr) (items : Array Value) : Prop := match b with
  | true => h.IsTuple l items
  | false => h.IsList l items
def ItrB (h : Heap) (b : Bool) (it l : Addr) (i : Nat) : Prop := match b with
  | true => h.IsTupleIter it l i
  | false => h.IsListIter it l i
def itc (b : Bool) : String := match b with
  | true => "tuple_iterator"
  | false => "list_iterator"
theorem drawsB {prog : Program} {w : World} {A : Around} (hh : A.handled = none) (b : Bool) (it l : Addr) (hne : l ≠ it) (items : Array Value) :
    Draws prog w A it [it, l] items.size (fun i v => items[i]? = some v) (fun i h => ItrB h b it l i ∧ RawB h b l items) := by
  cases b with
  | true => exact Draws.tuple hh it l hne items
  | false => exact Draws.list hh it l hne items
theorem ItrB.live {h : Heap} {b : Bool} {it l : Addr} {i : Nat} (k : ItrB h b it l i) : ∃ o, h.get? it = some o ∧ ∀ v, o.data ≠ .cell v := by
  cases b with
  | true => obtain ⟨o, e, _, d⟩ := k; exact ⟨o, e, fun v q => by rw [d] at q; cases q⟩
  | false => obtain ⟨o, e, _, d⟩ := k; exact ⟨o, e, fun v q => by rw [d] at q; cases q⟩
theorem ItrB.move {h h' : Heap} {b : Bool} {it l : Addr} {i : Nat} (k : ItrB h b it l i) (e : ∀ o, h.get? it = some o → h'.get? it = some o) : ItrB h' b it l i := by
  cases b with
  | true => exact Heap.IsTupleIter.at k e
  | false => exact Heap.IsListIter.at k e
theorem Inv.sqB {X : Cx} {pins : List (Addr × Obj)} {σ : L2.St} {H : Hp} {s : Shared} (I : L2.Inv X pins σ H s) {b : Bool} {a : Addr} {xs : List V} (h : SqB X.K H b a xs) : ∃ its : List Value, Vals xs its ∧ RawB s.heap b a its.toArray ∧ a < s.heap.objs.size := by
  cases b with
  | true =>
    obtain ⟨its, rv, p, _⟩ := I.tuple h
    obtain ⟨o, ho, _⟩ := id p
    exact ⟨its, rv, p, Heap.lt_size ho⟩
  | false =>
    obtain ⟨its, rv, p, _⟩ := I.list h
    exact ⟨its, rv, p.isList, p.lt⟩
theorem sqB_inj {X : Cx} {pins : List (Addr × Obj)} {σ : L2.St} {H : Hp} {s : Shared} (I : L2.Inv X pins σ H s) {b : Bool} {a : Addr} {xs ys : List V} (h : SqB X.K H b a xs) (k : SqB X.K H b a ys) : xs = ys := by
  cases b with
  | true => exact I.tuple_inj h k
  | false => exact I.list_inj h k
def ItzB (K : PySem.W.Frag) (b c : Bool) (p q : Addr) : It where
  go := fun i H => ∃ (xs ys : List V) (x y : V), SqB K H b p xs ∧ SqB K H c q ys ∧ xs[i]? = some x ∧ ys[i]? = some y
  yld := fun i H v H' => ∃ t x y, v = .ref t ∧ H t = none ∧ H' = upd H t (.tup [x, y]) ∧ (∀ xs, SqB K H b p xs → xs[i]? = some x) ∧ ∀ ys, SqB K H c q ys → ys[i]? = some y
  stop := fun i H => ∃ xs ys : List V, SqB K H b p xs ∧ SqB K H c q ys ∧ (xs.length = i ∨ ys.length = i) ∧ i ≤ xs.length ∧ i ≤ ys.length
theorem turn_zipB {P : Program} {w : World} {K : PySem.W.Frag} {elts : List Expr} {kk : Nat} {tpos : Pos} {b c : Bool} {p q z TI TO i1 i2 : Addr} (S : ZipSep2 z TI TO i1 i2 [i1, p] [i2, q]) (ne1 : p ≠ i1) (ne2 : q ≠ i2) :
    Turn P w K (.Tuple elts kk tpos) (ItzB K b c p q) [z, TI, TO, i1, i2] z (fun i h => IsZip h z TI TO .none ∧ IsTupOf2 h TI (.ref i1) (.ref i2) ∧ (∃ x y, IsTupOf2 h TO x y) ∧ ItrB h b i1 p i ∧ ItrB h c i2 q i) := by
  have mem5 : ∀ {d : Addr}, d ∈ [z, TI, TO, i1, i2] → d = z ∨ d = TI ∨ d = TO ∨ d = i1 ∨ d = i2 := fun {d} h => by simpa using h
  have z1 : i1 ≠ z := fun e => S.zi1 e.symm
  have z2 : i2 ≠ z := fun e => S.zi2 e.symm
  refine ⟨by simp, fun i h st d hd => ?_, fun i h h' st k => ?_, ?_, ?_, fun A i s Q E st h => wpAny_pyIter_zip st.1 h⟩
  · obtain ⟨hz, hTI, ⟨x, y, hTO⟩, k1, k2⟩ := st
    rcases mem5 hd with e | e | e | e | e <;> subst e
    · exact ⟨_, hz, fun v e => nomatch e⟩
    · exact ⟨_, hTI, fun v e => nomatch e⟩
    · exact ⟨_, hTO, fun v e => nomatch e⟩
    · exact k1.live
    · exact k2.live
  · obtain ⟨hz, hTI, ⟨x, y, hTO⟩, k1, k2⟩ := st
    exact ⟨k z (by simp) _ hz, k TI (by simp) _ hTI, ⟨x, y, k TO (by simp) _ hTO⟩, k1.move fun o e => k i1 (by simp) o e, k2.move fun o e => k i2 (by simp) o e⟩
  · intro X hP hw hK hc i pins s σ H E I hf st hg
    subst hP hw hK
    obtain ⟨hz, hTI, ⟨x0, y0, hTO⟩, k1, k2⟩ := st
    obtain ⟨xs, ys, x, y, hx, hy, gx, gy⟩ := hg
    obtain ⟨its, rv, p1, lp⟩ := Inv.sqB I hx
    obtain ⟨its2, rv2, p2, lq⟩ := Inv.sqB I hy
    obtain ⟨u, hu, ru⟩ := rv.get gx
    obtain ⟨u2, hu2, ru2⟩ := rv2.get gy
    have l1 : i < its.toArray.size := by simpa using (List.getElem?_eq_some_iff.mp hu).1
    have l2 : i < its2.toArray.size := by simpa using (List.getElem?_eq_some_iff.mp hu2).1
    have zl : z < s.heap.objs.size := Heap.lt_size hz
    have old : ∀ d ∈ [z, TI, TO, i1, i2], d < s.heap.objs.size := fun d hd => by
      rcases mem5 hd with e | e | e | e | e <;> subst e
      · exact zl
      · exact Heap.lt_size hTI
      · exact Heap.lt_size hTO
      · obtain ⟨o, e, _⟩ := k1.live; exact Heap.lt_size e
      · obtain ⟨o, e, _⟩ := k2.live; exact Heap.lt_size e
    refine wpAny_pyNext_zipD2_item S (drawsB (A := X.A.in1) (I.ok.hd hc) b i1 p ne1 its.toArray) (drawsB (A := X.A.in1) (I.ok.hd hc) c i2 q ne2 its2.toArray) hz hTI hTO ⟨k1, p1⟩ ⟨k2, p2⟩ l1 l2 fun w1 w2 h' tk hw1 hw2 z' TO' k1' k2' hT hsz hk => ?_
    have e1 : w1 = u := by
      have a := hw1
      rw [List.getElem?_toArray, hu] at a
      exact (Option.some.inj a).symm
    have e2 : w2 = u2 := by
      have a := hw2
      rw [List.getElem?_toArray, hu2] at a
      exact (Option.some.inj a).symm
    subst e1; subst e2
    refine ⟨_, rfl, wpAny_letOwnedTupleGo_zip (s := { s with heap := h', toks := tk }) z' fun h2 zz sb => ?_⟩
    have keep : ∀ d o, d ∉ [z, TI, TO, i1, i2] → s.heap.get? d = some o → h2.get? d = some o := fun d o hd e => by
      have m : d ≠ z ∧ d ≠ TO ∧ d ≠ i1 ∧ d ≠ i2 := ⟨fun q => hd (by simp [q]), fun q => hd (by simp [q]), fun q => hd (by simp [q]), fun q => hd (by simp [q])⟩
      exact (sb.2 d m.1).trans (hk d o m.1 m.2.1 m.2.2.1 m.2.2.2 e)
    have hT2 : h2.get? s.heap.objs.size = some { cls := .type "tuple", data := .seq #[w1, w2] } := (sb.2 _ (Nat.ne_of_gt zl)).trans hT
    have new : ObjOk X.prog X.w (upd H s.heap.objs.size (.tup [x, y])) h2 s.heap.objs.size (.tup [x, y]) :=
      ⟨by show 2 ≤ sizeLine; decide, [w1, w2], .cons ru (.cons ru2 .nil), ⟨_, hT2, rfl, _, rfl⟩⟩
    refine ⟨.ref s.heap.objs.size, _, I.turnedNew (t' := tk) (ch := [z, TI, TO, i1, i2]) keep hf (Nat.le_refl _) new, rfl, ⟨_, x, y, rfl, I.hok.fresh (Nat.le_refl _), rfl, fun l hl => by rw [sqB_inj I hl hx]; exact gx, fun l hl => by rw [sqB_inj I hl hy]; exact gy⟩,
      ⟨zz, (sb.2 _ S.TIz).trans (hk _ _ S.TIz S.TITO S.TIi1 S.TIi2 hTI), ⟨w1, w2, (sb.2 _ S.TOz).trans TO'⟩, k1'.1.move fun o e => (sb.2 _ z1).trans e, k2'.1.move fun o e => (sb.2 _ z2).trans e⟩, fun d hd => ?_⟩
    rw [upd_ne (Nat.ne_of_lt (old d hd))]
    exact (hf d hd).1
  · intro X hP hw hK hc i pins s σ H E I hf st hg
    subst hP hw hK
    obtain ⟨hz, hTI, ⟨x0, y0, hTO⟩, k1, k2⟩ := st
    obtain ⟨xs, ys, hx, hy, he, hi1, hi2⟩ := hg
    obtain ⟨its, rv, p1, lp⟩ := Inv.sqB I hx
    obtain ⟨its2, rv2, p2, lq⟩ := Inv.sqB I hy
    have l1 : its.toArray.size = xs.length := by rw [List.size_toArray]; exact rv.length.symm
    have l2 : its2.toArray.size = ys.length := by rw [List.size_toArray]; exact rv2.length.symm
    refine wpAny_pyNext_zipD2_end S (drawsB (A := X.A.in1) (I.ok.hd hc) b i1 p ne1 its.toArray) (drawsB (A := X.A.in1) (I.ok.hd hc) c i2 q ne2 its2.toArray) hz hTI hTO ⟨k1, p1⟩ ⟨k2, p2⟩ (by omega) (by omega) (by omega) fun h' tk hk => ⟨rfl, ?_⟩
    exact I.turnedL (t' := tk) (ch := [z, TI, TO, i1, i2]) (fun d o hd e => hk d o (fun q => hd (by simp [q])) (fun q => hd (by simp [q])) (fun q => hd (by simp [q])) (fun q => hd (by simp [q])) e) hf
/-! ### zip(a, b), one a list, one a tuple -/
abbrev zq1 (b : Bool) (h : Heap) (p : Addr) : Heap := h.push { cls := .type (itc b), data := .fields #[.ref p, .int 0 0] }
abbrev zq3 (b c : Bool) (h : Heap) (p q : Addr) : Heap := (zq1 c (zq1 b h p) q).push { cls := .type "tuple", data := .seq #[.ref h.objs.size, .ref (zq1 b h p).objs.size] }
abbrev zq4 (b c : Bool) (h : Heap) (p q : Addr) : Heap := (zq3 b c h p q).push { cls := .type "tuple", data := .seq #[.none, .none] }
abbrev zq5 (b c : Bool) (h : Heap) (p q : Addr) : Heap := (zq4 b c h p q).push { cls := .type "zip", data := .fields #[.none, .bool false, .bool false, .ref (zq1 c (zq1 b h p) q).objs.size, .ref (zq3 b c h p q).objs.size] }
theorem newTL (p q : Addr) (xs ys : Array Value) : Meets (Builtin.«zip.__new__» ⟨[.type "zip", .ref p, .ref q], []⟩) (fun _ R s => RawB s.heap true p xs ∧ RawB s.heap false q ys ∧ R (.ok (.ret (.ref (zq4 true false s.heap p q).objs.size))) { s with heap := zq5 true false s.heap p q }) :=
  .of_wp fun prog w A R s h => by
    obtain ⟨hp, g, d, tk, os⟩ := s
    obtain ⟨k1, k2, h⟩ := h
    have hsub := sub_zip
    have L1 : Heap.IsTuple (Shared.heap ⟨hp, g, d, tk, os⟩) p xs := k1
    have L2 : Heap.IsList (Shared.heap ⟨hp.push { cls := .type "tuple_iterator", data := .fields #[.ref p, .int 0 0] }, g, d, tk, os⟩) q ys := Heap.IsList.push k2 _
    wp_walk using wpAny_pyIter_tuple L1, wpAny_pyIter_list L2
    exact ⟨_, rfl, h⟩
theorem newLT (p q : Addr) (xs ys : Array Value) : Meets (Builtin.«zip.__new__» ⟨[.type "zip", .ref p, .ref q], []⟩) (fun _ R s => RawB s.heap false p xs ∧ RawB s.heap true q ys ∧ R (.ok (.ret (.ref (zq4 false true s.heap p q).objs.size))) { s with heap := zq5 false true s.heap p q }) :=
  .of_wp fun prog w A R s h => by
    obtain ⟨hp, g, d, tk, os⟩ := s
    obtain ⟨k1, k2, h⟩ := h
    have hsub := sub_zip
    have L1 : Heap.IsList (Shared.heap ⟨hp, g, d, tk, os⟩) p xs := k1
    have L2 : Heap.IsTuple (Shared.heap ⟨hp.push { cls := .type "list_iterator", data := .fields #[.ref p, .int 0 0] }, g, d, tk, os⟩) q ys := Heap.IsTuple.push k2 _
    wp_walk using wpAny_pyIter_list L1, wpAny_pyIter_tuple L2
    exact ⟨_, rfl, h⟩
theorem itrB_new {h : Heap} {b : Bool} {it l : Addr} (e : h.get? it = some { cls := .type (itc b), data := .fields #[.ref l, .int 0 0] }) : ItrB h b it l 0 := by
  cases b <;> exact ⟨_, e, rfl, rfl⟩
theorem call_zqB {prog : Program} {w : World} {A : Around} {E : Value → Shared → Prop} {s : Shared} {b c : Bool} (hbc : b ≠ c) {p q : Addr} {xs ys : Array Value} {Q : Value → Shared → Prop} (k1 : RawB s.heap b p xs) (k2 : RawB s.heap c q ys)
    (h : ∀ n h', n = s.heap.objs.size → IsZip h' (n + 4) (n + 2) (n + 3) .none → IsTupOf2 h' (n + 2) (.ref n) (.ref (n + 1)) → IsTupOf2 h' (n + 3) .none .none → ItrB h' b n p 0 → ItrB h' c (n + 1) q 0 → (∀ d o, s.heap.get? d = some o → h'.get? d = some o) → Q (.ref (n + 4)) { s with heap := h' }) :
    wpAny (model prog w) A (call (.type "zip") [.ref p, .ref q]) Q E s := by
  have s1 : (zq1 b s.heap p).objs.size = s.heap.objs.size + 1 := Heap.size_push ..
  have s2 : (zq1 c (zq1 b s.heap p) q).objs.size = s.heap.objs.size + 2 := by rw [Heap.size_push, s1]
  have s3 : (zq3 b c s.heap p q).objs.size = s.heap.objs.size + 3 := by rw [Heap.size_push, s2]
  have s4 : (zq4 b c s.heap p q).objs.size = s.heap.objs.size + 4 := by rw [Heap.size_push, s3]
  have a5 : (zq5 b c s.heap p q).get? (zq4 b c s.heap p q).objs.size = some _ := Heap.get?_push_size _ rfl
  have a4 : (zq5 b c s.heap p q).get? (zq3 b c s.heap p q).objs.size = some _ := Heap.get?_push_of_some _ (Heap.get?_push_size _ rfl)
  have a3 : (zq5 b c s.heap p q).get? (zq1 c (zq1 b s.heap p) q).objs.size = some _ := Heap.get?_push_of_some _ (Heap.get?_push_of_some _ (Heap.get?_push_size _ rfl))
  have a2 : (zq5 b c s.heap p q).get? (zq1 b s.heap p).objs.size = some _ := Heap.get?_push_of_some _ (Heap.get?_push_of_some _ (Heap.get?_push_of_some _ (Heap.get?_push_size _ rfl)))
  have a1 : (zq5 b c s.heap p q).get? s.heap.objs.size = some _ := Heap.get?_push_of_some _ (Heap.get?_push_of_some _ (Heap.get?_push_of_some _ (Heap.get?_push_of_some _ (Heap.get?_push_size _ rfl))))
  have up : ∀ d o, s.heap.get? d = some o → (zq5 b c s.heap p q).get? d = some o := fun d o e => Heap.get?_push_of_some _ (Heap.get?_push_of_some _ (Heap.get?_push_of_some _ (Heap.get?_push_of_some _ (Heap.get?_push_of_some _ e))))
  rw [s2, s3, s4] at a5
  rw [s1, s2] at a3
  rw [s3] at a4
  rw [s1] at a2
  have fin : Q (.ref (s.heap.objs.size + 4)) { s with heap := zq5 b c s.heap p q } := h _ _ rfl a5 a3 a4 (itrB_new a1) (itrB_new a2) up
  cases b with
  | true => cases c with
    | true => exact absurd rfl hbc
    | false =>
      refine callType_new F.called_zip (by decide) (F.typeCall_zip_2 _ _) (F.newCall_zip_2 _ _) (fun obj => F.args_object_init_3 obj _ _) F.entry_zip_new (newTL p q xs ys) ⟨k1, k2, ?_⟩
      show _ ∧ _
      rw [s4]
      exact ⟨⟨_, a5, rfl⟩, fin⟩
  | false => cases c with
    | false => exact absurd rfl hbc
    | true =>
      refine callType_new F.called_zip (by decide) (F.typeCall_zip_2 _ _) (F.newCall_zip_2 _ _) (fun obj => F.args_object_init_3 obj _ _) F.entry_zip_new (newLT p q xs ys) ⟨k1, k2, ?_⟩
      show _ ∧ _
      rw [s4]
      exact ⟨⟨_, a5, rfl⟩, fin⟩
theorem sep_nat (n p q : Nat) (h1 : p < n) (h2 : q < n) : ZipSep2 (n + 4) (n + 2) (n + 3) n (n + 1) [n, p] [n + 1, q] := by
  have two : ∀ {a x y : Nat}, a ≠ x → a ≠ y → ¬ (@List.Mem Nat a [x, y]) := fun {a x y} k1 k2 m => by
    have m : a ∈ [x, y] := m
    simp at m
    rcases m with e | e
    · exact k1 e
    · exact k2 e
  exact ⟨show n + 2 ≠ n + 4 by omega, show n + 3 ≠ n + 4 by omega, show n + 2 ≠ n + 3 by omega, show n + 2 ≠ n by omega, List.mem_cons_self, two (by omega) (by omega), two (by omega) (by omega), show n + 2 ≠ n + 1 by omega, List.mem_cons_self, two (by omega) (by omega), two (by omega) (by omega), two (by omega) (by omega), two (by omega) (by omega)⟩
def iZipB (K : PySem.W.Frag) (ta : TA) : TI := fun σ H R => ta σ H fun vs H1 => ∃ (b c : Bool) (p q : Addr) (xs ys : List V), b ≠ c ∧ vs = [.ref p, .ref q] ∧ SqB K H1 b p xs ∧ SqB K H1 c q ys ∧ R (ItzB K b c p q) H1
theorem pi_zipB {X : Cx} {e e2 : Expr} {ta : TA} {p pos tpos : Pos} {elts : List Expr} {kk : Nat} (hg : Gl X "zip") (hm : X.mg "zip" = none) (ha : PA X [e, e2] ta)
    (hs : starEach [e, e2] X.env = (false, eval e X.env) :: starEach [e2] X.env) (hpl : (backTo pos (starEach [e2] X.env)).any (·.1) = false) :
    PI X (.Tuple elts kk tpos) (.Call (.Name "zip" p) [e, e2] [] pos) (iZipB X.K ta) := by
  refine ⟨fun pins s σ H R I h => ?_⟩
  refine Call_ (ld_blt I hg hm PyProof.Rows.boot_zip (PyProof.Rows.callWith_type1 (thn (ha.run pos pins s σ H _ I h) fun us s1 ⟨vs, H1, I1, r1, q1⟩ => ?_) hs hpl))
  obtain ⟨b, c, p, q, xs, ys, hbc, ex, hx, hy, k⟩ := q1
  subst ex
  obtain ⟨u1, u2, eu, ru1, ru2⟩ := vals2 r1
  subst eu
  obtain rfl : u1 = .ref p := ru1
  obtain rfl : u2 = .ref q := ru2
  obtain ⟨its, rv, p1, lp⟩ := Inv.sqB I1 hx
  obtain ⟨its2, rv2, p2, lq⟩ := Inv.sqB I1 hy
  refine call_zqB hbc p1 p2 fun n h' hn a5 a3 a4 a1 a2 up => wpAny_pyIter_zip a5 ?_
  subst hn
  have S := sep_nat s1.heap.objs.size p q lp lq
  generalize hn : s1.heap.objs.size = n at *
  refine ⟨n + 4, [n + 4, n + 2, n + 3, n, n + 1], _, _, H1, rfl, I1.kept (t' := s1.toks) up, turn_zipB S (Nat.ne_of_lt lp) (Nat.ne_of_lt (Nat.lt_succ_of_lt lq)), ⟨a5, a3, ⟨_, _, a4⟩, a1, a2⟩, fun d hd => ?_, k⟩
  have hd : d = n + 4 ∨ d = n + 2 ∨ d = n + 3 ∨ d = n ∨ d = n + 1 := by simpa using hd
  have le : s1.heap.objs.size ≤ d := by
    rw [hn]
    rcases hd with e | e | e | e | e <;> subst e
    · exact Nat.le_add_right _ _
    · exact Nat.le_add_right _ _
    · exact Nat.le_add_right _ _
    · exact Nat.le_refl _
    · exact Nat.le_add_right _ _
  exact I1.fpOk le (I1.hok.fresh le)
end EV

set_option Elab.async false
set_option linter.all false
set_option maxRecDepth 100000
set_option maxHeartbeats 4000000
/-! EvA: values as trees, what they stand for in the abstract heap, readings by an evaluator. -/
namespace EV
open PySem PySem.Spec PyProof.Rows L2

inductive D where
  | non | bl (b : Bool) | int (i : Int) | str (s : List Nat) | tup (xs : List D) | lst (xs : List D)
  | dic (t : Bool) (ks vs : List D) | rng (lo hi : Int) | tape
  deriving Inhabited

structure Tape where
  cells : List Int
  at_ : Int
  left : Int
  seed : Int
  salt : Int

inductive Res (α : Type) where
  | ok (a : α) (t : Tape) | exc (c : Nat) (t : Tape) | bad
abbrev M (α : Type) := Tape → Res α
def ret {α : Type} (a : α) : M α := fun t => .ok a t
def bad {α : Type} : M α := fun _ => .bad
def bnd {α β : Type} (x : M α) (f : α → M β) : M β := fun t => match x t with
  | .ok a t' => f a t'
  | .exc c t' => .exc c t'
  | .bad => .bad
def opt {α : Type} : Option α → M α
  | some a => fun t => .ok a t
  | none => fun _ => .bad
def nth {α : Type} : List α → Nat → Option α
  | [], _ => none
  | x :: _, 0 => some x
  | _ :: xs, n + 1 => nth xs n
theorem nth_eq {α : Type} : ∀ (l : List α) (i : Nat), nth l i = l[i]?
  | [], i => by simp [nth]
  | x :: _, 0 => by simp [nth]
  | _ :: xs, n + 1 => by simp [nth, nth_eq xs n]

/-! ### the setting -/
structure Gs where
  P : Program
  w : World
  K : PySem.W.Frag
  mg : Str → Option Value
  base : Heap
  /-- the tape's dict, its list of cells -/
  tp : Option (Addr × Addr)
  /-- tables of code objects -/
  tb : List (Addr × Str)
  /-- the classes of exceptions -/
  ca : Nat → Addr

def kD : Key → D
  | .inl i => .int i
  | .inr x => .str x.cps.toList

/-! ### values stand for trees -/
mutual
def Rep (g : Gs) (T : Hp) : D → V → Prop
  | .non, v => v = .non
  | .bl b, v => v = .bl b
  | .int i, v => v = .int i
  | .str s, v => v = .str ⟨s.toArray⟩
  | .tup ds, v => ∃ a vs, v = .ref a ∧ T a = some (.tup vs) ∧ RepL g T ds vs
  | .lst ds, v => ∃ a vs, v = .ref a ∧ T a = some (.lst vs) ∧ RepL g T ds vs
  | .dic t ks ds, v => ∃ a vs, v = .ref a ∧ RepL g T ds vs ∧
      ((t = false ∧ ∃ kvs : List (Key × V), T a = some (.dK kvs) ∧ ks = kvs.map (fun p => kD p.1) ∧ vs = kvs.map (·.2)) ∨
       (t = true ∧ ∃ kvs : List (List Key × V), T a = some (.dT kvs) ∧ ks = kvs.map (fun p => .tup (p.1.map kD)) ∧ vs = kvs.map (·.2)))
  | .rng lo hi, v => ∃ a, v = .ref a ∧ T a = some (.rng lo hi)
  | .tape, v => ∃ a c, g.tp = some (a, c) ∧ v = .ref a
def RepL (g : Gs) (T : Hp) : List D → List V → Prop
  | [], vs => vs = []
  | d :: ds, vs => ∃ v r, vs = v :: r ∧ Rep g T d v ∧ RepL g T ds r
end

abbrev Sub (T H : Hp) : Prop := ∀ b o, T b = some o → H b = some o
theorem Sub.refl (T : Hp) : Sub T T := fun _ _ h => h
theorem Sub.trans {A B C : Hp} (a : Sub A B) (b : Sub B C) : Sub A C := fun c o h => b c o (a c o h)
theorem Sub.new {T : Hp} {a : Addr} {o : HO} (h : T a = none) : Sub T (upd T a o) := fun b u e => by
  rw [upd_ne (ne_of_none e h)]; exact e

section
variable {g : Gs} {T T' : Hp}
mutual
theorem Rep.mono (s : Sub T T') : ∀ (d : D) (v : V), Rep g T d v → Rep g T' d v
  | .non, _, h => h
  | .bl _, _, h => h
  | .int _, _, h => h
  | .str _, _, h => h
  | .tup ds, _, ⟨a, vs, e, h, r⟩ => ⟨a, vs, e, s _ _ h, RepL.mono s ds vs r⟩
  | .lst ds, _, ⟨a, vs, e, h, r⟩ => ⟨a, vs, e, s _ _ h, RepL.mono s ds vs r⟩
  | .dic t ks ds, _, ⟨a, vs, e, r, h⟩ => ⟨a, vs, e, RepL.mono s ds vs r, by
      rcases h with ⟨ht, kvs, h, q⟩ | ⟨ht, kvs, h, q⟩
      · exact .inl ⟨ht, kvs, s _ _ h, q⟩
      · exact .inr ⟨ht, kvs, s _ _ h, q⟩⟩
  | .rng _ _, _, ⟨a, e, h⟩ => ⟨a, e, s _ _ h⟩
  | .tape, _, h => h
theorem RepL.mono (s : Sub T T') : ∀ (ds : List D) (vs : List V), RepL g T ds vs → RepL g T' ds vs
  | [], _, h => h
  | d :: ds, _, ⟨v, r, e, h, hr⟩ => ⟨v, r, e, Rep.mono s d v h, RepL.mono s ds r hr⟩
end
theorem RepL.length : ∀ {ds : List D} {vs : List V}, RepL g T ds vs → vs.length = ds.length
  | [], _, h => by rw [show _ = [] from h]; rfl
  | d :: ds, _, ⟨v, r, e, _, hr⟩ => by rw [e, List.length_cons, List.length_cons, RepL.length hr]
theorem RepL.get : ∀ {ds : List D} {vs : List V} {i : Nat} {d : D}, RepL g T ds vs → ds[i]? = some d → ∃ v, vs[i]? = some v ∧ Rep g T d v
  | [], _, _, _, _, e => by simp at e
  | d :: ds, _, 0, _, ⟨v, r, e, h, _⟩, q => by
    subst e; simp at q; subst q; exact ⟨v, rfl, h⟩
  | d :: ds, _, i + 1, x, ⟨v, r, e, _, hr⟩, q => by
    subst e
    obtain ⟨u, h1, h2⟩ := RepL.get (i := i) (d := x) hr (by simpa using q)
    exact ⟨u, by simpa using h1, h2⟩
theorem RepL.get' {ds : List D} {vs : List V} {i : Nat} {v : V} (h : RepL g T ds vs) (e : vs[i]? = some v) : ∃ d, ds[i]? = some d ∧ Rep g T d v := by
  have hl := h.length
  have hi : i < vs.length := (List.getElem?_eq_some_iff.mp e).1
  obtain ⟨d, hd⟩ : ∃ d, ds[i]? = some d := ⟨ds[i]'(by omega), List.getElem?_eq_getElem _⟩
  obtain ⟨u, h1, h2⟩ := h.get hd
  rw [e] at h1; cases h1
  exact ⟨d, hd, h2⟩
theorem RepL.append : ∀ {ds es : List D} {vs us : List V}, RepL g T ds vs → RepL g T es us → RepL g T (ds ++ es) (vs ++ us)
  | [], _, _, _, h, k => by rw [show _ = [] from h]; exact k
  | d :: ds, _, _, _, ⟨v, r, e, h, hr⟩, k => ⟨v, r ++ _, by rw [e]; rfl, h, RepL.append hr k⟩
theorem RepL.take (n : Nat) : ∀ {ds : List D} {vs : List V}, RepL g T ds vs → RepL g T (ds.take n) (vs.take n) := by
  induction n with
  | zero => intro ds vs _; exact (rfl : (vs.take 0) = [])
  | succ n ih =>
    intro ds vs h
    cases ds with
    | nil => rw [show vs = [] from h]; exact (rfl : ([] : List V) = [])
    | cons d ds => obtain ⟨v, r, e, h, hr⟩ := h; subst e; exact ⟨v, r.take n, rfl, h, ih hr⟩
theorem RepL.drop (n : Nat) : ∀ {ds : List D} {vs : List V}, RepL g T ds vs → RepL g T (ds.drop n) (vs.drop n) := by
  induction n with
  | zero => intro ds vs h; exact h
  | succ n ih =>
    intro ds vs h
    cases ds with
    | nil => rw [show vs = [] from h]; exact (rfl : ([] : List V) = [])
    | cons d ds => obtain ⟨v, r, e, h, hr⟩ := h; subst e; exact ih hr
theorem RepL.set {d : D} {v : V} (hd : Rep g T d v) (i : Nat) : ∀ {ds : List D} {vs : List V}, RepL g T ds vs → RepL g T (ds.set i d) (vs.set i v) := by
  induction i with
  | zero =>
    intro ds vs h
    cases ds with
    | nil => rw [show vs = [] from h]; exact (rfl : ([] : List V) = [])
    | cons d' ds => obtain ⟨v', r, e, h, hr⟩ := h; subst e; exact ⟨v, r, rfl, hd, hr⟩
  | succ i ih =>
    intro ds vs h
    cases ds with
    | nil => rw [show vs = [] from h]; exact (rfl : ([] : List V) = [])
    | cons d' ds => obtain ⟨v', r, e, h, hr⟩ := h; subst e; exact ⟨v', r.set i v, rfl, h, ih hr⟩
end

/-! ### cells -/
def isCell : D → Bool
  | .lst _ => true
  | .dic _ _ _ => true
  | _ => false
/-- the cell of d stands at a in H, its parts in T -/
def Cell (g : Gs) (T H : Hp) (d : D) (a : Addr) : Prop := match d with
  | .lst ds => ∃ vs, H a = some (.lst vs) ∧ RepL g T ds vs
  | .dic t ks ds => ∃ vs, RepL g T ds vs ∧
      ((t = false ∧ ∃ kvs : List (Key × V), H a = some (.dK kvs) ∧ ks = kvs.map (fun p => kD p.1) ∧ vs = kvs.map (·.2)) ∨
       (t = true ∧ ∃ kvs : List (List Key × V), H a = some (.dT kvs) ∧ ks = kvs.map (fun p => .tup (p.1.map kD)) ∧ vs = kvs.map (·.2)))
  | _ => False
section
variable {g : Gs} {T T' H H' : Hp} {d : D} {a : Addr} {v : V}
theorem Cell.rep (c : Cell g T T d a) : Rep g T d (.ref a) := by
  cases d with
  | lst ds => obtain ⟨vs, h, r⟩ := c; exact ⟨a, vs, rfl, h, r⟩
  | dic t ks ds => obtain ⟨vs, r, h⟩ := c; exact ⟨a, vs, rfl, r, h⟩
  | _ => exact c.elim
theorem Rep.cell (hc : isCell d = true) (h : Rep g T d v) : ∃ a, v = .ref a ∧ Cell g T T d a := by
  cases d with
  | lst ds => obtain ⟨a, vs, e, h, r⟩ := h; exact ⟨a, e, vs, h, r⟩
  | dic t ks ds => obtain ⟨a, vs, e, r, h⟩ := h; exact ⟨a, e, vs, r, h⟩
  | _ => exact absurd hc (by simp [isCell])
theorem Cell.mono (c : Cell g T H d a) (s : Sub T T') (e : ∀ o, H a = some o → H' a = some o) : Cell g T' H' d a := by
  cases d with
  | lst ds => obtain ⟨vs, h, r⟩ := c; exact ⟨vs, e _ h, RepL.mono s _ _ r⟩
  | dic t ks ds =>
    obtain ⟨vs, r, h⟩ := c
    refine ⟨vs, RepL.mono s _ _ r, ?_⟩
    rcases h with ⟨ht, kvs, h, q⟩ | ⟨ht, kvs, h, q⟩
    · exact .inl ⟨ht, kvs, e _ h, q⟩
    · exact .inr ⟨ht, kvs, e _ h, q⟩
  | _ => exact c.elim
theorem Cell.some (c : Cell g T H d a) : ∃ o, H a = some o ∧ ((∃ xs, o = .lst xs) ∨ (∃ k, o = .dK k) ∨ ∃ k, o = .dT k) := by
  cases d with
  | lst ds => obtain ⟨vs, h, r⟩ := c; exact ⟨_, h, .inl ⟨_, rfl⟩⟩
  | dic t ks ds =>
    obtain ⟨vs, r, h⟩ := c
    rcases h with ⟨ht, kvs, h, q⟩ | ⟨ht, kvs, h, q⟩
    · exact ⟨_, h, .inr (.inl ⟨_, rfl⟩)⟩
    · exact ⟨_, h, .inr (.inr ⟨_, rfl⟩)⟩
  | _ => exact c.elim
end
mutual
def imm : D → Bool
  | .lst _ => false
  | .dic _ _ _ => false
  | .tup ds => immL ds
  | _ => true
def immL : List D → Bool
  | [] => true
  | d :: ds => imm d && immL ds
end
section
variable {g : Gs} {T T' : Hp}
mutual
theorem Rep.imm (s : ∀ b o, T b = some o → (∃ xs, o = .tup xs) ∨ (∃ i j, o = .rng i j) → T' b = some o) : ∀ (d : D) (v : V), imm d = true → Rep g T d v → Rep g T' d v
  | .non, _, _, h => h
  | .bl _, _, _, h => h
  | .int _, _, _, h => h
  | .str _, _, _, h => h
  | .tup ds, _, i, ⟨a, vs, e, h, r⟩ => ⟨a, vs, e, s _ _ h (.inl ⟨_, rfl⟩), RepL.imm s ds vs i r⟩
  | .lst ds, _, i, _ => by simp [EV.imm] at i
  | .dic t ks ds, _, i, _ => by simp [EV.imm] at i
  | .rng _ _, _, _, ⟨a, e, h⟩ => ⟨a, e, s _ _ h (.inr ⟨_, _, rfl⟩)⟩
  | .tape, _, _, h => h
theorem RepL.imm (s : ∀ b o, T b = some o → (∃ xs, o = .tup xs) ∨ (∃ i j, o = .rng i j) → T' b = some o) : ∀ (ds : List D) (vs : List V), immL ds = true → RepL g T ds vs → RepL g T' ds vs
  | [], _, _, h => h
  | d :: ds, _, i, ⟨v, r, e, h, hr⟩ => by
    simp only [immL, Bool.and_eq_true] at i
    exact ⟨v, r, e, Rep.imm s d v i.1 h, RepL.imm s ds r i.2 hr⟩
end
end

/-! ### views and states -/
def plain : HO → Bool
  | .lst _ => true
  | .tup _ => true
  | .dK _ => true
  | .dT _ => true
  | .rng _ _ => true
  | _ => false
/-- the tape stands in the heap -/
def TapeOk (g : Gs) (H : Hp) (t : Tape) : Prop := ∀ a c, g.tp = some (a, c) →
  H a = some (.dK [(.inr "cells", .ref c), (.inr "at", .int t.at_), (.inr "left", .int t.left), (.inr "seed", .int t.seed), (.inr "salt", .int t.salt)]) ∧
  H c = some (.lst (t.cells.map V.int)) ∧ a ≠ c
structure SOk (g : Gs) (H : Hp) (t : Tape) : Prop where
  tape : TapeOk g H t
  tabs : LamX.Tabs g.tb H
structure VOk (g : Gs) (T : Hp) : Prop where
  pl : ∀ b o, T b = some o → plain o = true
  nt : ∀ a c, g.tp = some (a, c) → T a = none ∧ T c = none
/-- what stands stays, but the tape's dict and the tables -/
def Ext (g : Gs) (H H' : Hp) : Prop := ∀ b o, H b = some o → plain o = true → (∀ c, g.tp ≠ some (b, c)) → H' b = some o
def NPl (g : Gs) (H : Hp) (b : Addr) : Prop := (∀ c, g.tp ≠ some (b, c)) → ∀ o, H b = some o → plain o = false
theorem Ext.refl (g : Gs) (H : Hp) : Ext g H H := fun _ _ h _ _ => h
theorem Ext.trans {g : Gs} {A B C : Hp} (a : Ext g A B) (b : Ext g B C) : Ext g A C := fun c o h p t => b c o (a c o h p t) p t
theorem Ext.npl {g : Gs} {H H' : Hp} {b : Addr} (e : Ext g H H') (n : NPl g H' b) : NPl g H b := fun ht o h => by
  cases hp : plain o with
  | false => rfl
  | true => rw [← hp]; exact n ht o (e b o h hp ht)
theorem NPl.none {g : Gs} {H : Hp} {b : Addr} (h : H b = Option.none) : NPl g H b := fun _ o e => by rw [h] at e; cases e
theorem Ext.sub {g : Gs} {T H H' : Hp} (v : VOk g T) (s : Sub T H) (e : Ext g H H') : Sub T H' := fun b o h =>
  e b o (s b o h) (v.pl b o h) fun c hc => by rw [(v.nt b c hc).1] at h; cases h
theorem Ext.new {g : Gs} {H : Hp} {p : Addr} {o : HO} (h : H p = Option.none) : Ext g H (upd H p o) := fun b u e _ _ => by
  rw [upd_ne (ne_of_none e h)]; exact e
theorem SOk.ext {g : Gs} {H H' : Hp} {t : Tape} (s : SOk g H t) (e : Sub H H') : SOk g H' t :=
  ⟨fun a c h => let ⟨p, q, r⟩ := s.tape a c h; ⟨e _ _ p, e _ _ q, r⟩, s.tabs.ext e⟩
theorem SOk.new {g : Gs} {H : Hp} {t : Tape} {p : Addr} {o : HO} (s : SOk g H t) (h : H p = Option.none) : SOk g (upd H p o) t := s.ext (Sub.new h)
theorem VOk.new {g : Gs} {T : Hp} {H : Hp} {t : Tape} {p : Addr} {o : HO} (v : VOk g T) (s : SOk g H t) (h : H p = Option.none) (ho : plain o = true) : VOk g (upd T p o) :=
  ⟨fun b u e => by
    by_cases hb : b = p
    · subst hb; rw [upd_same] at e; cases e; exact ho
    · rw [upd_ne hb] at e; exact v.pl b u e,
   fun a c e => by
    obtain ⟨h1, h2, _⟩ := s.tape a c e
    have n1 : a ≠ p := ne_of_none h1 h
    have n2 : c ≠ p := ne_of_none h2 h
    rw [upd_ne n1, upd_ne n2]; exact v.nt a c e⟩
theorem Sub.both {T H : Hp} {p : Addr} {o : HO} (s : Sub T H) : Sub (upd T p o) (upd H p o) := fun b u e => by
  by_cases hb : b = p
  · subst hb; rw [upd_same] at e ⊢; exact e
  · rw [upd_ne hb] at e ⊢; exact s b u e
theorem Sub.none {T H : Hp} {p : Addr} (s : Sub T H) (h : H p = Option.none) : T p = Option.none := by
  cases e : T p with
  | none => rfl
  | some o => rw [s p o e] at h; cases h

/-- behind an expression: fr, a value whose cell is out of the view -/
structure Gone (g : Gs) (T H : Hp) (t' : Tape) (T' H' : Hp) : Prop where
  sub : Sub T T'
  in_ : Sub T' H'
  vok : VOk g T'
  new : ∀ b o, T' b = some o → T b = none → NPl g H b
  ext : Ext g H H'
  sok : SOk g H' t'
def Stands (g : Gs) (fr : Bool) (H T' H' : Hp) (d : D) (v : V) : Prop :=
  match fr && isCell d with
  | true => ∃ a, v = .ref a ∧ T' a = none ∧ NPl g H a ∧ (∀ x c, g.tp = some (x, c) → a ≠ x ∧ a ≠ c) ∧ Cell g T' H' d a
  | false => Rep g T' d v
def Post (g : Gs) (fr : Bool) (T H : Hp) (t' : Tape) (d : D) (v : V) (H' : Hp) : Prop := ∃ T', Gone g T H t' T' H' ∧ Stands g fr H T' H' d v
section
variable {g : Gs} {T T' T2 H H' H2 : Hp} {t t' : Tape} {d : D} {v : V} {fr : Bool}
theorem Gone.refl (s : Sub T H) (v : VOk g T) (k : SOk g H t) : Gone g T H t T H := ⟨Sub.refl _, s, v, fun b o h n => (by rw [h] at n; cases n), Ext.refl _ _, k⟩
theorem Gone.trans (a : Gone g T H t T' H') (b : Gone g T' H' t' T2 H2) : Gone g T H t' T2 H2 where
  sub := a.sub.trans b.sub
  in_ := b.in_
  vok := b.vok
  new := fun c o h n => by
    cases e : T' c with
    | none => exact a.ext.npl (b.new c o h e)
    | some u => exact a.new c u e n
  ext := a.ext.trans b.ext
  sok := b.sok
/-- a new object, seen -/
theorem Gone.laid {p : Addr} {o : HO} (s : Sub T H) (v : VOk g T) (k : SOk g H t) (h : H p = none) (ho : plain o = true) : Gone g T H t (upd T p o) (upd H p o) where
  sub := Sub.new (s.none h)
  in_ := s.both
  vok := v.new k h ho
  new := fun b u e n => by
    by_cases hb : b = p
    · subst hb; exact NPl.none h
    · rw [upd_ne hb] at e; rw [e] at n; cases n
  ext := Ext.new h
  sok := k.new h
/-- .. not seen -/
theorem Gone.aside {p : Addr} {o : HO} (s : Sub T H) (v : VOk g T) (k : SOk g H t) (h : H p = none) : Gone g T H t T (upd H p o) where
  sub := Sub.refl _
  in_ := s.trans (Sub.new h)
  vok := v
  new := fun b u e n => by rw [e] at n; cases n
  ext := Ext.new h
  sok := k.new h
theorem Post.back {d' : D} (a : Gone g T H t T' H') (p : Post g fr T' H' t' d v H2) : Post g fr T H t' d v H2 := by
  obtain ⟨T2, q, s⟩ := p
  refine ⟨T2, a.trans q, ?_⟩
  unfold Stands at s ⊢
  split at s
  · obtain ⟨x, e, n, np, nt, c⟩ := s
    exact ⟨x, e, n, a.ext.npl np, nt, c⟩
  · exact s
theorem Post.same (s : Sub T H) (v' : VOk g T) (k : SOk g H t) (r : Rep g T d v) : Post g false T H t d v H := ⟨T, Gone.refl s v' k, r⟩
/-- a cell aside is taken into the view -/
theorem Post.seen (p : Post g true T H t' d v H') : Post g false T H t' d v H' := by
  obtain ⟨T', q, s⟩ := p
  unfold Stands at s
  cases hc : isCell d with
  | false =>
    rw [hc] at s
    exact ⟨T', q, s⟩
  | true =>
    rw [hc] at s
    obtain ⟨a, rfl, n, np, nt, c⟩ := s
    obtain ⟨o, ho, k⟩ := c.some
    have hp : plain o = true := by
      rcases k with ⟨_, rfl⟩ | ⟨_, rfl⟩ | ⟨_, rfl⟩ <;> rfl
    have sb : Sub T' (upd T' a o) := Sub.new n
    refine ⟨upd T' a o, ⟨q.sub.trans sb, fun b u e => ?_, ⟨fun b u e => ?_, fun x y e => ?_⟩, fun b u e m => ?_, q.ext, q.sok⟩, ?_⟩
    · by_cases hb : b = a
      · subst hb; rw [upd_same] at e; cases e; exact ho
      · rw [upd_ne hb] at e; exact q.in_ b u e
    · by_cases hb : b = a
      · subst hb; rw [upd_same] at e; cases e; exact hp
      · rw [upd_ne hb] at e; exact q.vok.pl b u e
    · obtain ⟨n1, n2⟩ := nt x y e
      rw [upd_ne (Ne.symm n1), upd_ne (Ne.symm n2)]; exact q.vok.nt x y e
    · by_cases hb : b = a
      · subst hb; exact np
      · rw [upd_ne hb] at e; exact q.new b u e m
    · show Rep g (upd T' a o) d (.ref a)
      have z : Cell g (upd T' a o) (upd T' a o) d a := c.mono sb fun u e => by
        rw [ho] at e; cases e; exact upd_same
      exact z.rep
theorem Post.of (p : Post g fr T H t' d v H') : Post g false T H t' d v H' := by
  cases fr with
  | true => exact p.seen
  | false => exact p
end

/-! ### readings by an evaluator -/
/-- what the slots hold -/
def VR (g : Gs) (T : Hp) (ρ : List (Option D)) (σ : L2.St) : Prop := ∀ i d, nth ρ i = some (some d) → ∃ v, σ[i]? = some (some v) ∧ Rep g T d v
theorem VR.mono {g : Gs} {T T' : Hp} {ρ : List (Option D)} {σ : L2.St} (h : VR g T ρ σ) (s : Sub T T') : VR g T' ρ σ := fun i d e =>
  let ⟨v, a, b⟩ := h i d e; ⟨v, a, b.mono s d v⟩
abbrev Wish := WX
/-- the wish for exceptions c -/
def Exc (g : Gs) (W : WX) (H : Hp) (σ : L2.St) (c : Nat) (t' : Tape) : Prop := ∀ H', Ext g H H' → SOk g H' t' → W (.ref (g.ca c)) none σ H'
def Good (g : Gs) (W : WX) (fr : Bool) (T H : Hp) (σ : L2.St) (r : Res D) (Q : VK) : Prop := match r with
  | .ok d t' => ∀ v H', Post g fr T H t' d v H' → Q v H'
  | .exc c t' => Exc g W H σ c t'
  | .bad => False
def GoodL (g : Gs) (W : WX) (T H : Hp) (σ : L2.St) (r : Res (List D)) (Q : List V → Hp → Prop) : Prop := match r with
  | .ok ds t' => ∀ vs T' H', Gone g T H t' T' H' → RepL g T' ds vs → Q vs H'
  | .exc c t' => Exc g W H σ c t'
  | .bad => False
def GoodB (g : Gs) (W : WX) (T H : Hp) (σ : L2.St) (r : Res Bool) (Q : Bool → Hp → Prop) : Prop := match r with
  | .ok b t' => ∀ T' H', Gone g T H t' T' H' → Q b H'
  | .exc c t' => Exc g W H σ c t'
  | .bad => False
/-- the state ahead -/
structure At (g : Gs) (T H : Hp) (t : Tape) (ρ : List (Option D)) (σ : L2.St) : Prop where
  sub : Sub T H
  vok : VOk g T
  sok : SOk g H t
  vr : VR g T ρ σ
  len : ρ.length = σ.length
theorem At.gone {g : Gs} {T T' H H' : Hp} {t t' : Tape} {ρ : List (Option D)} {σ : L2.St} (a : At g T H t ρ σ) (q : Gone g T H t' T' H') : At g T' H' t' ρ σ :=
  ⟨q.in_, q.vok, q.sok, a.vr.mono q.sub, a.len⟩
theorem At.refl {g : Gs} {T H : Hp} {t : Tape} {ρ : List (Option D)} {σ : L2.St} (a : At g T H t ρ σ) : Gone g T H t T H := Gone.refl a.sub a.vok a.sok
abbrev Ev := List (Option D) → M D
abbrev EvL := List (Option D) → M (List D)
abbrev EvB := List (Option D) → M Bool
def tE (g : Gs) (W : WX) (fr : Bool) (ev : Ev) : TE := fun σ H Q => ∃ T ρ t, At g T H t ρ σ ∧ Good g W fr T H σ (ev ρ t) Q
def tA (g : Gs) (W : WX) (ev : EvL) : TA := fun σ H Q => ∃ T ρ t, At g T H t ρ σ ∧ GoodL g W T H σ (ev ρ t) Q
def tT (g : Gs) (W : WX) (ev : EvB) : TT := fun σ H Q => ∃ T ρ t, At g T H t ρ σ ∧ GoodB g W T H σ (ev ρ t) Q
section
variable {g : Gs} {W : WX} {X : Cx} {T T' H H' : Hp} {t t' : Tape} {ρ : List (Option D)} {σ : L2.St} {d : D} {v : V} {fr : Bool}
theorem Exc.back {c : Nat} (q : Ext g H H') (h : Exc g W H σ c t') : Exc g W H' σ c t' := fun H2 e s => h H2 (q.trans e) s
theorem PE.weak {e : Expr} {a b : TE} (h : PE X e a) (k : ∀ σ H Q, b σ H Q → a σ H Q) : PE X e b := ⟨fun pins s σ H Q I z => h.run pins s σ H Q I (k σ H Q z)⟩
theorem PT.weak {e : Expr} {a b : TT} (h : PT X e a) (k : ∀ σ H Q, b σ H Q → a σ H Q) : PT X e b := ⟨fun pins s σ H Q I z => h.run pins s σ H Q I (k σ H Q z)⟩
theorem PA.weak {e : List Expr} {a b : TA} (h : PA X e a) (k : ∀ σ H Q, b σ H Q → a σ H Q) : PA X e b := ⟨fun pos pins s σ H Q I z => h.run pos pins s σ H Q I (k σ H Q z)⟩
theorem tE.seen {ev : Ev} {Q : VK} (h : tE g W false ev σ H Q) : tE g W true ev σ H Q := by
  obtain ⟨T, ρ, t, a, q⟩ := h
  refine ⟨T, ρ, t, a, ?_⟩
  unfold Good at q ⊢
  split at q
  · exact fun v H' p => q v H' p.seen
  · exact q
  · exact q
theorem PE.seen {e : Expr} {ev : Ev} (h : PE X e (tE g W true ev)) : PE X e (tE g W false ev) := PE.weak h fun _ _ _ z => tE.seen z
/-- one part, then the rest -/
theorem Good.bind {α : Type} {x : M D} {f : D → M α} {R : Res α → Prop} {fr : Bool} (hR : ∀ c t', R (.exc c t') → Exc g W H σ c t') (hb : R .bad → False) (h : R (bnd x f t))
    (Q : VK) (k : ∀ d t' v H', R (f d t') → Post g fr T H t' d v H' → Q v H') : Good g W fr T H σ (x t) Q := by
  unfold bnd at h
  unfold Good
  cases e : x t with
  | ok d t' => rw [e] at h; exact fun v H' p => k d t' v H' h p
  | exc c t' => rw [e] at h; exact hR c t' h
  | bad => rw [e] at h; exact hb h
theorem GoodL.bind {α : Type} {x : M (List D)} {f : List D → M α} {R : Res α → Prop} (hR : ∀ c t', R (.exc c t') → Exc g W H σ c t') (hb : R .bad → False) (h : R (bnd x f t))
    (Q : List V → Hp → Prop) (k : ∀ ds t' vs T' H', R (f ds t') → Gone g T H t' T' H' → RepL g T' ds vs → Q vs H') : GoodL g W T H σ (x t) Q := by
  unfold bnd at h
  unfold GoodL
  cases e : x t with
  | ok d t' => rw [e] at h; exact fun v T' H' p q => k d t' v T' H' h p q
  | exc c t' => rw [e] at h; exact hR c t' h
  | bad => rw [e] at h; exact hb h
theorem GoodB.bind {α : Type} {x : M Bool} {f : Bool → M α} {R : Res α → Prop} (hR : ∀ c t', R (.exc c t') → Exc g W H σ c t') (hb : R .bad → False) (h : R (bnd x f t))
    (Q : Bool → Hp → Prop) (k : ∀ b t' T' H', R (f b t') → Gone g T H t' T' H' → Q b H') : GoodB g W T H σ (x t) Q := by
  unfold bnd at h
  unfold GoodB
  cases e : x t with
  | ok d t' => rw [e] at h; exact fun T' H' p => k d t' T' H' h p
  | exc c t' => rw [e] at h; exact hR c t' h
  | bad => rw [e] at h; exact hb h
theorem Good.back {r : Res D} {Q : VK} (q : Gone g T H t T' H') (h : Good g W fr T H σ r Q) : Good g W fr T' H' σ r Q := by
  unfold Good at h ⊢
  split at h
  · exact fun v H2 p => h v H2 (Post.back (d' := .non) q p)
  · exact Exc.back q.ext h
  · exact h
theorem GoodL.back {r : Res (List D)} {Q : List V → Hp → Prop} (q : Gone g T H t T' H') (h : GoodL g W T H σ r Q) : GoodL g W T' H' σ r Q := by
  unfold GoodL at h ⊢
  split at h
  · exact fun v T2 H2 p r => h v T2 H2 (q.trans p) r
  · exact Exc.back q.ext h
  · exact h
theorem GoodB.back {r : Res Bool} {Q : Bool → Hp → Prop} (q : Gone g T H t T' H') (h : GoodB g W T H σ r Q) : GoodB g W T' H' σ r Q := by
  unfold GoodB at h ⊢
  split at h
  · exact fun T2 H2 p => h T2 H2 (q.trans p)
  · exact Exc.back q.ext h
  · exact h
theorem Good.exc {c : Nat} {Q : VK} (h : Good g W fr T H σ (.exc c t') Q) : Exc g W H σ c t' := h
end
end EV

set_option Elab.async false
set_option linter.all false
set_option maxRecDepth 100000
set_option maxHeartbeats 4000000
/-! EvB: operations on trees, and that the machine's do the same. -/
namespace EV
open PySem PySem.Spec PyProof.Rows L2

structure Ar (g : Gs) (T H : Hp) (t : Tape) : Prop where
  sub : Sub T H
  vok : VOk g T
  sok : SOk g H t
theorem At.ar {g : Gs} {T H : Hp} {t : Tape} {ρ : List (Option D)} {σ : L2.St} (a : At g T H t ρ σ) : Ar g T H t := ⟨a.sub, a.vok, a.sok⟩
theorem Gone.ar {g : Gs} {T T' H H' : Hp} {t t' : Tape} (a : Gone g T H t' T' H') : Ar g T' H' t' := ⟨a.in_, a.vok, a.sok⟩
abbrev S (l : List Nat) : Str := ⟨l.toArray⟩
abbrev SZ : Nat := 16777216
theorem sz : sizeLine = SZ := sizeLine_eq
theorem S_len (l : List Nat) : (S l).length = l.length := by simp [Str.length]
theorem S_app (a b : List Nat) : S a ++ S b = S (a ++ b) := TL.ext_tl (by rw [TL.tl_append])
section
variable {g : Gs} {T T' H H' : Hp} {t t' : Tape} {d : D} {v : V} {fr : Bool} {p : Addr} {ds : List D} {vs : List V}
theorem Post.val (a : Ar g T H t) (hc : isCell d = false) (r : Rep g T d v) : Post g fr T H t d v H := by
  refine ⟨T, Gone.refl a.sub a.vok a.sok, ?_⟩
  unfold Stands
  rw [hc, Bool.and_false]
  exact r
theorem Post.sh (a : Ar g T H t) (r : Rep g T d v) : Post g false T H t d v H := ⟨T, Gone.refl a.sub a.vok a.sok, r⟩
theorem Post.newT (a : Ar g T H t) (h : H p = none) (r : RepL g T ds vs) : Post g fr T H t (.tup ds) (.ref p) (upd H p (.tup vs)) := by
  refine ⟨upd T p (.tup vs), Gone.laid a.sub a.vok a.sok h rfl, ?_⟩
  unfold Stands
  have e : isCell (.tup ds) = false := rfl
  rw [e, Bool.and_false]
  exact ⟨p, vs, rfl, upd_same, RepL.mono (Sub.new (a.sub.none h)) _ _ r⟩
theorem Post.newR (a : Ar g T H t) (h : H p = none) (lo hi : Int) : Post g fr T H t (.rng lo hi) (.ref p) (upd H p (.rng lo hi)) := by
  refine ⟨upd T p (.rng lo hi), Gone.laid a.sub a.vok a.sok h rfl, ?_⟩
  unfold Stands
  have e : isCell (.rng lo hi) = false := rfl
  rw [e, Bool.and_false]
  exact ⟨p, rfl, upd_same⟩
theorem Post.newC {o : HO} (a : Ar g T H t) (h : H p = none) (hc : isCell d = true) (c : Cell g T (upd H p o) d p) : Post g true T H t d (.ref p) (upd H p o) := by
  refine ⟨T, Gone.aside a.sub a.vok a.sok h, ?_⟩
  unfold Stands
  rw [hc]
  refine ⟨p, rfl, a.sub.none h, NPl.none h, fun x c e => ?_, c⟩
  obtain ⟨h1, h2, _⟩ := a.sok.tape x c e
  exact ⟨Ne.symm (ne_of_none h1 h), Ne.symm (ne_of_none h2 h)⟩
theorem Post.newL (a : Ar g T H t) (h : H p = none) (r : RepL g T ds vs) : Post g true T H t (.lst ds) (.ref p) (upd H p (.lst vs)) :=
  Post.newC a h rfl ⟨vs, upd_same, r⟩
end

/-! ### by values -/
def r1 (g : Gs) (fr : Bool) (f : D → Option D) : V → Hp → VK → Prop := fun x H Q => ∃ T t d1 d, Ar g T H t ∧ Rep g T d1 x ∧ f d1 = some d ∧ ∀ v H', Post g fr T H t d v H' → Q v H'
def r2 (g : Gs) (fr : Bool) (f : D → D → Option D) : R2 := fun x y H Q => ∃ T t d1 d2 d, Ar g T H t ∧ Rep g T d1 x ∧ Rep g T d2 y ∧ f d1 d2 = some d ∧ ∀ v H', Post g fr T H t d v H' → Q v H'
def rN (g : Gs) (fr : Bool) (f : List D → Option D) : List V → Hp → VK → Prop := fun xs H Q => ∃ T t ds d, Ar g T H t ∧ RepL g T ds xs ∧ f ds = some d ∧ ∀ v H', Post g fr T H t d v H' → Q v H'
/-- the setting of a body -/
structure XG (X : Cx) (g : Gs) : Prop where
  P : X.prog = g.P
  w : X.w = g.w
  K : X.K = g.K
  mg : X.mg = g.mg
  base : X.base = g.base
  calm : X.calm = true
  un : X.A.units + 200 < cLine

/-! ### arithmetic -/
def CMulB (i j : Int) : Bool := (decide (-(2 ^ 64) < i) && decide (i < 2 ^ 64)) || (decide (-(2 ^ 64) < j) && decide (j < 2 ^ 64))
theorem CMulB.ok {i j : Int} (h : CMulB i j = true) : CMul i j := by
  unfold CMulB at h
  simp only [Bool.or_eq_true, Bool.and_eq_true, decide_eq_true_eq] at h
  exact h
def repL {α : Type} (n : Nat) (l : List α) : List α := match n with
  | 0 => []
  | n + 1 => l ++ repL n l
theorem repL_eq {α : Type} (l : List α) : ∀ n : Nat, repL n l = (List.replicate n l).flatten
  | 0 => rfl
  | n + 1 => by rw [repL, repL_eq l n, List.replicate_succ, List.flatten_cons]
def addD : D → D → Option D
  | .int i, .int j => some (.int (i + j))
  | .str a, .str b => if a.length + b.length ≤ SZ then some (.str (a ++ b)) else none
  | .lst a, .lst b => if a.length + b.length ≤ SZ then some (.lst (a ++ b)) else none
  | .tup a, .tup b => if a.length + b.length ≤ SZ then some (.tup (a ++ b)) else none
  | _, _ => none
def subD : D → D → Option D
  | .int i, .int j => some (.int (i - j))
  | _, _ => none
def mulD : D → D → Option D
  | .int i, .int j => if CMulB i j then some (.int (i * j)) else none
  | .str a, .int k => if k ≤ 1000000 ∧ -1000000 ≤ k ∧ a.length * k.toNat ≤ 1000000 then some (.str (repL k.toNat a)) else none
  | .lst a, .int k => if k ≤ 1000000 ∧ -1000000 ≤ k ∧ a.length * k.toNat ≤ 1000000 then some (.lst (repL k.toNat a)) else none
  | .tup a, .int k => if k = 1 then some (.tup a) else if a ≠ [] ∧ 2 ≤ k ∧ k ≤ 1000 ∧ a.length ≤ 1000 then some (.tup (repL k.toNat a)) else none
  | _, _ => none
def fdivD : D → D → Option D
  | .int i, .int j => if 0 < j ∧ j < 1073741824 then some (.int (i / j)) else none
  | _, _ => none
def modD : D → D → Option D
  | .int i, .int j => if 0 < j then some (.int (i % j)) else none
  | _, _ => none
def shlD : D → D → Option D
  | .int i, .int j => if 0 ≤ j ∧ j ≤ 1000000 ∧ i.natAbs < 2 ^ 64 then some (.int (i * 2 ^ j.toNat)) else none
  | _, _ => none
def shrD : D → D → Option D
  | .int i, .int j => if 0 ≤ j then some (.int (i / 2 ^ j.toNat)) else none
  | _, _ => none
def andD : D → D → Option D
  | .int i, .int j => some (.int (Builtin.bitAnd i j))
  | _, _ => none
def orD : D → D → Option D
  | .int i, .int j => some (.int (Builtin.bitOr i j))
  | _, _ => none

section
variable {g : Gs} {X : Cx}
theorem RepL.replicate {T : Hp} {ds : List D} {vs : List V} (r : RepL g T ds vs) : ∀ n : Nat, RepL g T (repL n ds) (List.replicate n vs).flatten
  | 0 => (rfl : ([] : List V) = [])
  | n + 1 => by
    rw [repL, List.replicate_succ, List.flatten_cons]
    exact r.append (RepL.replicate r n)
theorem foldl_app {α : Type} (x : Array α) : ∀ (n : Nat) (acc : Array α), ((List.replicate n x).foldl (· ++ ·) acc) = (acc.toList ++ (List.replicate n x.toList).flatten).toArray
  | 0, acc => by simp
  | n + 1, acc => by
    rw [List.replicate_succ, List.foldl_cons, foldl_app x n, List.replicate_succ, List.flatten_cons]
    simp [List.append_assoc]
theorem op_mul_str : OpR X (binaryOp .Mult) (fun x y H Q => ∃ a k, x = .str (S a) ∧ y = .int k ∧ k ≤ 1000000 ∧ -1000000 ≤ k ∧ a.length * k.toNat ≤ 1000000 ∧ Q (.str (S (repL k.toNat a))) H) := by
  intro pins s σ H x y v u Q I rx ry h
  obtain ⟨a, k, rfl, rfl, h1, h2, h3, q⟩ := h
  obtain ⟨t, rfl⟩ := rx
  obtain ⟨t', rfl⟩ := ry
  have hlen : (S a).length = a.length := S_len a
  by_cases hk : k < 1
  · have e0 : k.toNat = 0 := by omega
    rw [e0] at q
    exact P.mul_str_none hk (by omega) ⟨.str (S []), H, I.tok _, ⟨_, rfl⟩, q⟩
  · refine P.mul_str (by rw [decide_eq_false (by omega), decide_eq_false (by omega)]; rfl) (fun _ hb => ?_) (fun _ hb => ?_) ?_
    · rw [hlen]
      have p1 : (a.length : Int) * k ≤ 1000000 := by
        have z : ((a.length * k.toNat : Nat) : Int) ≤ 1000000 := by omega
        rw [Int.natCast_mul, Int.toNat_of_nonneg (by omega)] at z
        exact z
      intro hgt
      have z : (a.length : Int) * k ≤ 2 ^ 63 - 1 := by omega
      have := (Int.le_ediv_iff_mul_le (show (0 : Int) < k by omega)).mpr z
      omega
    · rw [hlen]
      show decide (a.length * k.toNat > sizeLine) = false
      rw [sz]
      exact decide_eq_false (by show ¬ _ > 16777216; omega)
    · rw [if_neg hk]
      by_cases h1' : (k == 1 || (S a).length == 0) = true
      · rw [if_pos h1']
        have e : repL k.toNat a = a := by
          rw [hlen] at h1'
          simp only [Bool.or_eq_true, beq_iff_eq] at h1'
          rcases h1' with e | e
          · rw [e]; show a ++ [] = a; rw [List.append_nil]
          · have ea : a = [] := List.length_eq_zero_iff.mp e
            rw [ea, repL_eq]; simp
        rw [e] at q
        exact ⟨.str (S a), H, I, ⟨_, rfl⟩, q⟩
      · rw [if_neg h1']
        have e : (⟨(List.replicate k.toNat (S a).cps).foldl (· ++ ·) #[]⟩ : Str) = S (repL k.toNat a) := by
          rw [foldl_app, repL_eq]
          simp
        rw [e]
        refine ⟨?_, ⟨.str (S (repL k.toNat a)), H, I.tok _, ⟨_, rfl⟩, q⟩⟩
        rw [S_len, repL_eq, sz]
        have e2 : ((List.replicate k.toNat a).flatten).length = a.length * k.toNat := by simp [Nat.mul_comm]
        rw [e2]
        show _ ≤ 16777216
        omega
theorem ob_add (x : XG X g) : OpR X (binaryOp .Add) (r2 g true addD) := by
  intro pins s σ H x' y v u Q I rx ry h
  obtain ⟨T, t, d1, d2, d, a, h1, h2, hf, k⟩ := h
  unfold addD at hf
  split at hf
  · cases hf
    exact op_add pins s σ H _ _ v u Q I rx ry ⟨_, _, h1, h2, k _ _ (Post.val a rfl rfl)⟩
  · split at hf
    · rename_i hz
      cases hf
      exact op_add_str pins s σ H _ _ v u Q I rx ry ⟨_, _, h1, h2, by rw [S_len, S_len, sz]; exact hz, k _ _ (Post.val a rfl (by rw [S_app]; exact rfl))⟩
    · cases hf
  · split at hf
    · rename_i hz
      cases hf
      obtain ⟨p1, vs1, e1, c1, q1⟩ := h1
      obtain ⟨p2, vs2, e2, c2, q2⟩ := h2
      refine op_cat pins s σ H _ _ v u Q I rx ry ⟨_, _, _, _, e1, e2, a.sub _ _ c1, a.sub _ _ c2, by rw [q1.length, q2.length, sz]; exact hz, fun p hp => k _ _ (Post.newL a hp (q1.append q2))⟩
    · cases hf
  · split at hf
    · rename_i hz
      cases hf
      obtain ⟨p1, vs1, e1, c1, q1⟩ := h1
      obtain ⟨p2, vs2, e2, c2, q2⟩ := h2
      refine op_catA pins s σ H _ _ v u Q I rx ry ⟨_, _, _, _, e1, e2, SqT.of (a.sub _ _ c1), SqT.of (a.sub _ _ c2), by rw [q1.length, q2.length, sz]; exact hz, fun z => ?_, fun z1 z2 => ?_, fun z1 z2 p hp => k _ _ (Post.newT a hp (q1.append q2))⟩
      · subst z
        have ea := List.length_eq_zero_iff.mp (show _ = 0 by rw [← q1.length]; rfl)
        subst ea
        exact k _ _ (Post.val a rfl ⟨p2, vs2, rfl, c2, q2⟩)
      · subst z2
        have ea := List.length_eq_zero_iff.mp (show _ = 0 by rw [← q2.length]; rfl)
        subst ea
        exact k _ _ (Post.val a rfl ⟨p1, vs1, rfl, c1, by rw [List.append_nil]; exact q1⟩)
    · cases hf
  · cases hf
theorem ob_sub (x : XG X g) : OpR X (binaryOp .Sub) (r2 g true subD) := by
  intro pins s σ H x' y v u Q I rx ry h
  obtain ⟨T, t, d1, d2, d, a, h1, h2, hf, k⟩ := h
  unfold subD at hf
  split at hf
  · cases hf
    exact op_sub pins s σ H _ _ v u Q I rx ry ⟨_, _, h1, h2, k _ _ (Post.val a rfl rfl)⟩
  · cases hf
/-! ### tuple * 1 -/
theorem tuple_mulOne (l : Addr) (items : Array Value) (n : Nat) (dd : Option Addr) (sl : Array (Option Value)) (u : Tok) :
    Meets (Builtin.«tuple.__mul__» ⟨[.ref l, .int 1 u], []⟩) (fun _ R s => s.heap.get? l = some { cls := .type "tuple", dict := dd, data := .seq items n, slots := sl } ∧ R (.ok (.ret (Value.ref l))) s) :=
  .of_wp fun prog w A R s h => by
    obtain ⟨hp, g, d, tk, os⟩ := s
    obtain ⟨hl, h⟩ := h
    have f1 := AutoSeq1.idx_int
    have c1 : (items.isEmpty || ((1 : Int) == 1)) = true := by rw [show ((1 : Int) == 1) = true from rfl, Bool.or_true]
    wp_walk using wpAny_loadPart' hl
    all_goals first
      | exact ⟨_, rfl, h⟩
      | skip
theorem op_repT1 {X : Cx} : OpR X (binaryOp .Mult) (fun x y H Q => ∃ l xs, x = .ref l ∧ y = .int 1 ∧ SqT X.K H l xs ∧ Q (.ref l) H) := by
  intro pins s σ H x y v u Q I rx ry h
  obtain ⟨l, xs, rfl, rfl, hT, q⟩ := h
  cases rx
  obtain ⟨t, rfl⟩ := ry
  obtain ⟨its, r, ⟨⟨cls, dd, data, sl⟩, ho, hc, n, hd⟩, hs⟩ := I.tuple hT
  simp only at hc hd
  subst hc hd
  refine wpAny_binaryOp_repeat_ref (T := "tuple") (U := "int") (by decide) ⟨_, ho, rfl⟩ (fun s' => typeIs_int s' 1 t) noFill_tuple_mul F.fills_int_mul F.slot_int_rmul repeat_tuple F.slot_int_index.lookup
    (call_meets F.slot_int_rmul (typeIs_int s 1 t) F.entry_int_rmul (F.args_int_rmul_2 _ _) (int_rmul_tuple 1 t l its.toArray n dd sl)
      ⟨ho, rfl, ⟨_, ho, rfl⟩, call_meets F.slot_tuple_mul ⟨_, ho, rfl⟩ F.entry_tuple_mul (F.args_tuple_mul_2 _ _) (tuple_mulOne l its.toArray n dd sl t) ⟨ho, ⟨.ref l, H, I, rfl, q⟩⟩⟩)
theorem ob_mul (x : XG X g) : OpR X (binaryOp .Mult) (r2 g true mulD) := by
  intro pins s σ H x' y v u Q I rx ry h
  obtain ⟨T, t, d1, d2, d, a, h1, h2, hf, k⟩ := h
  unfold mulD at hf
  split at hf <;> (try cases hf) <;> split at hf
  · rename_i hz
    cases hf
    exact op_mul pins s σ H _ _ v u Q I rx ry ⟨_, _, h1, h2, CMulB.ok hz, k _ _ (Post.val a rfl rfl)⟩
  · cases hf
  · rename_i hz
    cases hf
    exact op_mul_str pins s σ H _ _ v u Q I rx ry ⟨_, _, h1, h2, hz.1, hz.2.1, hz.2.2, k _ _ (Post.val a rfl rfl)⟩
  · cases hf
  · rename_i hz
    cases hf
    obtain ⟨p1, vs1, e1, c1, q1⟩ := h1
    refine op_rep pins s σ H _ _ v u Q I rx ry ⟨_, _, _, e1, h2, a.sub _ _ c1, by omega, by omega, by rw [q1.length, sz]; have := hz.2.2; show _ ≤ 16777216; omega, fun p hp => k _ _ (Post.newL a hp (q1.replicate _))⟩
  · cases hf
  · rename_i hz
    cases hf
    subst hz
    obtain ⟨p1, vs1, e1, c1, q1⟩ := h1
    exact op_repT1 pins s σ H _ _ v u Q I rx ry ⟨_, _, e1, h2, SqT.of (a.sub _ _ c1), e1 ▸ k _ _ (Post.val a rfl ⟨p1, vs1, e1, c1, q1⟩)⟩
  · split at hf
    rename_i hz
    cases hf
    obtain ⟨p1, vs1, e1, c1, q1⟩ := h1
    refine op_repT pins s σ H _ _ v u Q I rx ry ⟨_, _, _, e1, h2, SqT.of (a.sub _ _ c1), fun z => ?_, hz.2.1, hz.2.2.1, by rw [q1.length]; exact hz.2.2.2, fun p hp => k _ _ (Post.newT a hp (q1.replicate _))⟩
    subst z
    exact hz.1 (List.length_eq_zero_iff.mp (by rw [← q1.length]; rfl))
    cases hf
theorem ob_fdiv (x : XG X g) : OpR X (binaryOp .FloorDiv) (r2 g true fdivD) := by
  intro pins s σ H x' y v u Q I rx ry h
  obtain ⟨T, t, d1, d2, d, a, h1, h2, hf, k⟩ := h
  unfold fdivD at hf
  split at hf
  · split at hf
    · rename_i hz
      cases hf
      exact op_fdiv pins s σ H _ _ v u Q I rx ry ⟨_, _, h1, h2, hz, k _ _ (Post.val a rfl rfl)⟩
    · cases hf
  · cases hf
theorem ob_mod (x : XG X g) : OpR X (binaryOp .Mod) (r2 g true modD) := by
  intro pins s σ H x' y v u Q I rx ry h
  obtain ⟨T, t, d1, d2, d, a, h1, h2, hf, k⟩ := h
  unfold modD at hf
  split at hf
  · split at hf
    · rename_i hz
      cases hf
      exact op_mod pins s σ H _ _ v u Q I rx ry ⟨_, _, h1, h2, hz, k _ _ (Post.val a rfl rfl)⟩
    · cases hf
  · cases hf
theorem ob_shl (x : XG X g) : OpR X (binaryOp .LShift) (r2 g true shlD) := by
  intro pins s σ H x' y v u Q I rx ry h
  obtain ⟨T, t, d1, d2, d, a, h1, h2, hf, k⟩ := h
  unfold shlD at hf
  split at hf
  · split at hf
    · rename_i hz
      cases hf
      exact op_shl pins s σ H _ _ v u Q I rx ry ⟨_, _, h1, h2, hz, k _ _ (Post.val a rfl rfl)⟩
    · cases hf
  · cases hf
theorem ob_shr (x : XG X g) : OpR X (binaryOp .RShift) (r2 g true shrD) := by
  intro pins s σ H x' y v u Q I rx ry h
  obtain ⟨T, t, d1, d2, d, a, h1, h2, hf, k⟩ := h
  unfold shrD at hf
  split at hf
  · split at hf
    · rename_i hz
      cases hf
      exact op_shr pins s σ H _ _ v u Q I rx ry ⟨_, _, h1, h2, hz, k _ _ (Post.val a rfl rfl)⟩
    · cases hf
  · cases hf
theorem ob_and (x : XG X g) : OpR X (binaryOp .BitAnd) (r2 g true andD) := by
  intro pins s σ H x' y v u Q I rx ry h
  obtain ⟨T, t, d1, d2, d, a, h1, h2, hf, k⟩ := h
  unfold andD at hf
  split at hf
  · cases hf
    exact op_and pins s σ H _ _ v u Q I rx ry ⟨_, _, h1, h2, k _ _ (Post.val a rfl rfl)⟩
  · cases hf
theorem ob_or (x : XG X g) : OpR X (binaryOp .BitOr) (r2 g true orD) := by
  intro pins s σ H x' y v u Q I rx ry h
  obtain ⟨T, t, d1, d2, d, a, h1, h2, hf, k⟩ := h
  unfold orD at hf
  split at hf
  · cases hf
    exact op_or pins s σ H _ _ v u Q I rx ry ⟨_, _, h1, h2, k _ _ (Post.val a rfl rfl)⟩
  · cases hf
end

/-! ### comparisons -/
mutual
def pd : D → Option PyData
  | .non => some .none
  | .bl b => some (.bool b)
  | .int i => some (.int i)
  | .str s => some (.str (S s))
  | .tup ds => (pdL ds).map .tuple
  | .lst ds => (pdL ds).map .list
  | _ => none
def pdL : List D → Option (List PyData)
  | [] => some []
  | d :: ds => match pd d, pdL ds with
    | some x, some xs => some (x :: xs)
    | _, _ => none
end
mutual
def eqB : D → D → Bool
  | .non, .non => true
  | .bl a, .bl b => a == b
  | .bl a, .int j => decide ((if a then 1 else 0) = j)
  | .int i, .bl b => decide (i = (if b then 1 else 0))
  | .int i, .int j => decide (i = j)
  | .str x, .str y => x == y
  | .lst xs, .lst ys => eqBL xs ys
  | .tup xs, .tup ys => eqBL xs ys
  | _, _ => false
def eqBL : List D → List D → Bool
  | [], [] => true
  | x :: xs, y :: ys => eqB x y && eqBL xs ys
  | _, _ => false
end
def eqD (d e : D) : Option Bool := match pd d, pd e with
  | some a, some b => if SeqAt.shaped a && SeqAt.shaped b then some (PyData.eqv a b) else none
  | _, _ => none
section
variable {g : Gs} {T : Hp} {X : Cx}
mutual
theorem pd_dp {H : Hp} (s : Sub T H) (hK : X.K = g.K) : ∀ (d : D) (v : V) (a : PyData), Rep g T d v → pd d = some a → Dp X.K H v a
  | .non, v, a, h, e => by cases e; rw [show v = _ from h]; exact .non
  | .bl b, v, a, h, e => by cases e; rw [show v = _ from h]; exact .bl b
  | .int i, v, a, h, e => by cases e; rw [show v = _ from h]; exact .int i
  | .str x, v, a, h, e => by cases e; rw [show v = _ from h]; exact .str _
  | .tup ds, v, a, ⟨p, vs, ev, c, r⟩, e => by
    unfold pd at e
    cases q : pdL ds with
    | none => rw [q] at e; cases e
    | some xs => rw [q] at e; cases e; subst ev; exact .tup (SqT.of (s _ _ c)) (pd_dpL s hK ds vs xs r q)
  | .lst ds, v, a, ⟨p, vs, ev, c, r⟩, e => by
    unfold pd at e
    cases q : pdL ds with
    | none => rw [q] at e; cases e
    | some xs => rw [q] at e; cases e; subst ev; exact .lst (SqL.of (s _ _ c)) (pd_dpL s hK ds vs xs r q)
  | .dic _ _ _, v, a, h, e => by cases e
  | .rng _ _, v, a, h, e => by cases e
  | .tape, v, a, h, e => by cases e
theorem pd_dpL {H : Hp} (s : Sub T H) (hK : X.K = g.K) : ∀ (ds : List D) (vs : List V) (as : List PyData), RepL g T ds vs → pdL ds = some as → DpAll X.K H vs as
  | [], vs, as, h, e => by cases e; rw [show vs = [] from h]; exact .nil
  | d :: ds, vs, as, ⟨v, r, ev, h, hr⟩, e => by
    unfold pdL at e
    cases q : pd d with
    | none => rw [q] at e; cases e
    | some x =>
      cases q2 : pdL ds with
      | none => rw [q, q2] at e; cases e
      | some xs => rw [q, q2] at e; cases e; subst ev; exact .cons (pd_dp s hK d v x h q) (pd_dpL s hK ds r xs hr q2)
end
def eqO (d e : D) : Option D := (eqD d e).map .bl
def neO (d e : D) : Option D := (eqD d e).map fun b => .bl (!b)
theorem oc_eq (x : XG X g) : OpR X (compareOp .Eq) (r2 g true eqO) := by
  intro pins s σ H x' y v u Q I rx ry h
  obtain ⟨T, t, d1, d2, d, a, h1, h2, hf, k⟩ := h
  unfold eqO eqD at hf
  split at hf
  · rename_i p q e1 e2
    split at hf
    · rename_i hz
      cases hf
      simp only [Bool.and_eq_true] at hz
      exact op_eqD (by have := x.un; omega) pins s σ H _ _ v u Q I rx ry ⟨_, _, pd_dp a.sub x.K _ _ _ h1 e1, pd_dp a.sub x.K _ _ _ h2 e2, hz.1, hz.2, k _ _ (Post.val a rfl rfl)⟩
    · cases hf
  · cases hf
theorem oc_ne (x : XG X g) : OpR X (compareOp .NotEq) (r2 g true neO) := by
  intro pins s σ H x' y v u Q I rx ry h
  obtain ⟨T, t, d1, d2, d, a, h1, h2, hf, k⟩ := h
  unfold neO eqD at hf
  split at hf
  · rename_i p q e1 e2
    split at hf
    · rename_i hz
      cases hf
      simp only [Bool.and_eq_true] at hz
      exact op_neD (by have := x.un; omega) pins s σ H _ _ v u Q I rx ry ⟨_, _, pd_dp a.sub x.K _ _ _ h1 e1, pd_dp a.sub x.K _ _ _ h2 e2, hz.1, hz.2, k _ _ (Post.val a rfl rfl)⟩
    · cases hf
  · cases hf
/-- the ints of a list -/
def intsOf : List D → Option (List Int)
  | [] => some []
  | .int i :: ds => (intsOf ds).map (i :: ·)
  | _ :: _ => none
def strsOf : List D → Option (List (List Nat))
  | [] => some []
  | .str i :: ds => (strsOf ds).map (i :: ·)
  | _ :: _ => none
def blsOf : List D → Option (List Bool)
  | [] => some []
  | .bl i :: ds => (blsOf ds).map (i :: ·)
  | _ :: _ => none
theorem ints_rep : ∀ {ds : List D} {vs : List V} {ns : List Int}, RepL g T ds vs → intsOf ds = some ns → vs = ns.map V.int
  | [], vs, ns, h, e => by cases e; exact h
  | d :: ds, vs, ns, ⟨v, r, ev, h, hr⟩, e => by
    cases d with
    | int i =>
      unfold intsOf at e
      cases q : intsOf ds with
      | none => rw [q] at e; cases e
      | some ms => rw [q] at e; cases e; rw [ev, show v = .int i from h, ints_rep hr q]; rfl
    | _ => cases e
theorem strs_rep : ∀ {ds : List D} {vs : List V} {ns : List (List Nat)}, RepL g T ds vs → strsOf ds = some ns → vs = (ns.map S).map V.str
  | [], vs, ns, h, e => by cases e; exact h
  | d :: ds, vs, ns, ⟨v, r, ev, h, hr⟩, e => by
    cases d with
    | str i =>
      unfold strsOf at e
      cases q : strsOf ds with
      | none => rw [q] at e; cases e
      | some ms => rw [q] at e; cases e; rw [ev, show v = .str (S i) from h, strs_rep hr q]; rfl
    | _ => cases e
theorem bls_rep : ∀ {ds : List D} {vs : List V} {ns : List Bool}, RepL g T ds vs → blsOf ds = some ns → vs = ns.map V.bl
  | [], vs, ns, h, e => by cases e; exact h
  | d :: ds, vs, ns, ⟨v, r, ev, h, hr⟩, e => by
    cases d with
    | bl i =>
      unfold blsOf at e
      cases q : blsOf ds with
      | none => rw [q] at e; cases e
      | some ms => rw [q] at e; cases e; rw [ev, show v = .bl i from h, bls_rep hr q]; rfl
    | _ => cases e
theorem rep_ints (ns : List Int) : RepL g T (ns.map D.int) (ns.map V.int) := by
  induction ns with
  | nil => exact (rfl : ([] : List V) = [])
  | cons n ns ih => exact ⟨_, _, rfl, rfl, ih⟩
theorem rep_strs (ns : List (List Nat)) : RepL g T (ns.map D.str) ((ns.map S).map V.str) := by
  induction ns with
  | nil => exact (rfl : ([] : List V) = [])
  | cons n ns ih => exact ⟨_, _, rfl, rfl, ih⟩
def ltD : D → D → Option D
  | .int i, .int j => some (.bl (decide (i < j)))
  | .str a, .str b => some (.bl (decide (a < b)))
  | .tup a, .tup b => match intsOf a, intsOf b with
    | some x, some y => some (.bl (HT.lexLt x y))
    | _, _ => none
  | _, _ => none
def leD : D → D → Option D
  | .int i, .int j => some (.bl (decide (i ≤ j)))
  | .str a, .str b => some (.bl (!decide (b < a)))
  | _, _ => none
def gtD : D → D → Option D
  | .int i, .int j => some (.bl (decide (j < i)))
  | .str a, .str b => some (.bl (decide (b < a)))
  | _, _ => none
def geD : D → D → Option D
  | .int i, .int j => some (.bl (decide (j ≤ i)))
  | .str a, .str b => some (.bl (!decide (a < b)))
  | _, _ => none
theorem oc_lt (x : XG X g) : OpR X (compareOp .Lt) (r2 g true ltD) := by
  intro pins s σ H x' y v u Q I rx ry h
  obtain ⟨T, t, d1, d2, d, a, h1, h2, hf, k⟩ := h
  unfold ltD at hf
  split at hf
  · cases hf
    exact op_lt pins s σ H _ _ v u Q I rx ry ⟨_, _, h1, h2, k _ _ (Post.val a rfl rfl)⟩
  · cases hf
    exact op_lt_str pins s σ H _ _ v u Q I rx ry ⟨_, _, h1, h2, k _ _ (Post.val a rfl rfl)⟩
  · split at hf
    · rename_i e1 e2
      cases hf
      obtain ⟨p1, vs1, e3, c1, q1⟩ := h1
      obtain ⟨p2, vs2, e4, c2, q2⟩ := h2
      exact op_ltT (by have := x.un; omega) pins s σ H _ _ v u Q I rx ry ⟨_, _, _, _, e3, e4, SqT.of (by rw [← ints_rep q1 e1]; exact a.sub _ _ c1), SqT.of (by rw [← ints_rep q2 e2]; exact a.sub _ _ c2), k _ _ (Post.val a rfl rfl)⟩
    · cases hf
  · cases hf
theorem oc_le (x : XG X g) : OpR X (compareOp .LtE) (r2 g true leD) := by
  intro pins s σ H x' y v u Q I rx ry h
  obtain ⟨T, t, d1, d2, d, a, h1, h2, hf, k⟩ := h
  unfold leD at hf
  split at hf
  · cases hf
    exact op_le pins s σ H _ _ v u Q I rx ry ⟨_, _, h1, h2, k _ _ (Post.val a rfl rfl)⟩
  · cases hf
    exact op_le_str pins s σ H _ _ v u Q I rx ry ⟨_, _, h1, h2, k _ _ (Post.val a rfl rfl)⟩
  · cases hf
theorem oc_gt (x : XG X g) : OpR X (compareOp .Gt) (r2 g true gtD) := by
  intro pins s σ H x' y v u Q I rx ry h
  obtain ⟨T, t, d1, d2, d, a, h1, h2, hf, k⟩ := h
  unfold gtD at hf
  split at hf
  · cases hf
    exact op_gt pins s σ H _ _ v u Q I rx ry ⟨_, _, h1, h2, k _ _ (Post.val a rfl rfl)⟩
  · cases hf
    exact op_gt_str pins s σ H _ _ v u Q I rx ry ⟨_, _, h1, h2, k _ _ (Post.val a rfl rfl)⟩
  · cases hf
theorem oc_ge (x : XG X g) : OpR X (compareOp .GtE) (r2 g true geD) := by
  intro pins s σ H x' y v u Q I rx ry h
  obtain ⟨T, t, d1, d2, d, a, h1, h2, hf, k⟩ := h
  unfold geD at hf
  split at hf
  · cases hf
    exact op_ge pins s σ H _ _ v u Q I rx ry ⟨_, _, h1, h2, k _ _ (Post.val a rfl rfl)⟩
  · cases hf
    exact op_ge_str pins s σ H _ _ v u Q I rx ry ⟨_, _, h1, h2, k _ _ (Post.val a rfl rfl)⟩
  · cases hf
end
end EV

set_option Elab.async false
set_option linter.all false
set_option maxRecDepth 100000
set_option maxHeartbeats 4000000
/-! EvC: membership, places, slices, built-in functions and methods on trees. -/
namespace EV
open PySem PySem.Spec PyProof.Rows L2
section
variable {g : Gs} {T H : Hp} {X : Cx}

/-! ### a text in a text -/
/-- the text b is the beginning of some end of a -/
def infB (b : List Nat) : List Nat → Bool
  | [] => b == []
  | c :: r => TL.pre b (c :: r) || infB b r
theorem pre_iff (b a : List Nat) : TL.pre b a = true ↔ b <+: a := by
  unfold TL.pre
  rw [beq_iff_eq]
  constructor
  · intro h; rw [← h]; exact List.take_prefix _ _
  · rintro ⟨r, rfl⟩; simp
theorem infB_iff (b : List Nat) : ∀ a, infB b a = true ↔ ∃ i, i + b.length ≤ a.length ∧ TL.pre b (a.drop i) = true
  | [] => by
    unfold infB
    rw [beq_iff_eq]
    constructor
    · rintro rfl; exact ⟨0, by simp, by simp [TL.pre]⟩
    · rintro ⟨i, h1, _⟩; exact List.length_eq_zero_iff.mp (by have z := h1; simp only [List.length_nil] at z; omega)
  | c :: r => by
    unfold infB
    rw [Bool.or_eq_true, infB_iff b r]
    constructor
    · rintro (h | ⟨i, h1, h2⟩)
      · refine ⟨0, ?_, by simpa using h⟩
        have := ((pre_iff b (c :: r)).mp h).length_le
        simpa using this
      · exact ⟨i + 1, by simp; omega, by simpa using h2⟩
    · rintro ⟨i, h1, h2⟩
      cases i with
      | zero => exact .inl (by simpa using h2)
      | succ i => exact .inr ⟨i, by simp at h1; omega, by simpa using h2⟩
theorem subAt_pre (a b : List Nat) (i : Nat) : Builtin.Str.subAt (S a) (S b) i = TL.pre b (a.drop i) := by
  unfold Builtin.Str.subAt TL.pre
  rw [S_len]
  have e : (S a).cps.extract i (i + b.length) = ((a.drop i).take b.length).toArray := by
    simp [List.extract_eq_drop_take]
  rw [e, Bool.eq_iff_iff, beq_iff_eq, beq_iff_eq]
  constructor
  · intro h; have z := congrArg Array.toList h; simpa using z
  · intro h; rw [h]
theorem occ_inf (a b : List Nat) : (!(Builtin.Str.occurrences (S a) (S b) 0 (S a).length 1).isEmpty) = infB b a := by
  rw [Bool.eq_iff_iff, StrLaws.found_iff, infB_iff]
  simp only [S_len, subAt_pre]
theorem occ_count (a : List Nat) (c lim : Nat) : ∀ (l : List Nat) (k : Nat) (st : Array Nat × Nat), l = List.range' k (a.length + 1 - k) → k ≤ a.length + 1 → st.2 ≤ k → st.1.size + (a.length + 1 - k) ≤ lim →
    (forIn l st (StrLaws.occBody (S a) (S [c]) a.length lim)).run.fst.size = st.1.size + (a.drop k).count c
  | [], k, st, hl, hk, h2, h3 => by
    have e : a.length + 1 - k = 0 := by
      have := congrArg List.length hl
      simpa using this.symm
    have e2 : a.drop k = [] := List.drop_eq_nil_of_le (by omega)
    rw [e2]; simp
  | x :: l, k, st, hl, hk, h2, h3 => by
    have hn : a.length + 1 - k ≠ 0 := by
      intro z; rw [z] at hl; simp at hl
    obtain ⟨m, hm⟩ : ∃ m, a.length + 1 - k = m + 1 := ⟨a.length - k, by omega⟩
    rw [hm, List.range'_succ] at hl
    have e1 : x = k := (List.cons.inj hl).1
    have e2 : l = List.range' (k + 1) (a.length + 1 - (k + 1)) := by
      rw [(List.cons.inj hl).2]
      congr 1; omega
    subst e1
    rw [List.forIn_cons]
    unfold StrLaws.occBody
    rw [subAt_pre]
    have hlen : (S [c]).length = 1 := rfl
    rw [hlen]
    by_cases hx : x < a.length
    · have ed : a.drop x = a[x] :: a.drop (x + 1) := List.drop_eq_getElem_cons hx
      have ep : TL.pre [c] (a.drop x) = (a[x] == c) := by
        rw [ed]
        show ([a[x]] == [c]) = (a[x] == c)
        simp
      rw [ep, ed, List.count_cons]
      by_cases hc : a[x] = c
      · have cond : ((st.fst.size < lim ∧ st.snd ≤ x) ∧ x + 1 ≤ a.length) ∧ (a[x] == c) = true := ⟨⟨⟨by omega, h2⟩, by omega⟩, by simp [hc]⟩
        rw [if_pos cond]
        have ih := occ_count a c lim l (x + 1) (st.fst.push x, x + 1) e2 (by omega) (Nat.le_refl _) (by simp; omega)
        show (forIn l (st.fst.push x, x + 1) (StrLaws.occBody (S a) (S [c]) a.length lim)).run.fst.size = _
        rw [ih]
        simp [hc]; omega
      · have cond : ¬ (((st.fst.size < lim ∧ st.snd ≤ x) ∧ x + 1 ≤ a.length) ∧ (a[x] == c) = true) := fun z => hc (by simpa using z.2)
        rw [if_neg cond]
        have ih := occ_count a c lim l (x + 1) st e2 (by omega) (by omega) (by omega)
        show (forIn l (st.fst, st.snd) (StrLaws.occBody (S a) (S [c]) a.length lim)).run.fst.size = _
        rw [ih]
        simp [hc]
    · have cond : ¬ (((st.fst.size < lim ∧ st.snd ≤ x) ∧ x + 1 ≤ a.length) ∧ TL.pre [c] (a.drop x) = true) := fun z => absurd z.1.2 (by omega)
      rw [if_neg cond]
      have ih := occ_count a c lim l (x + 1) st e2 (by omega) (by omega) (by omega)
      show (forIn l (st.fst, st.snd) (StrLaws.occBody (S a) (S [c]) a.length lim)).run.fst.size = _
      rw [ih, List.drop_eq_nil_of_le (by omega : a.length ≤ x), List.drop_eq_nil_of_le (by omega : a.length ≤ x + 1)]
theorem count_S (a : List Nat) (c : Nat) : Txt.count (S a) (S [c]) = (a.count c : Nat) := by
  unfold Txt.count
  rw [StrLaws.occ_eq, S_len]
  have h := occ_count a c (a.length + 1) (List.range' 0 (a.length + 1 - 0)) 0 (#[], 0) rfl (by omega) (Nat.le_refl _) (by simp)
  simp only [Array.length_toList]
  rw [h]
  simp

/-! ### in, not in -/
def flatB : D → Bool
  | .non => true
  | .bl _ => true
  | .int _ => true
  | .str _ => true
  | _ => false
theorem flat_pd {d : D} {v : V} (f : flatB d = true) (r : Rep g T d v) : flatV v = true := by
  cases d <;> first | (rw [show v = _ from r]; rfl) | exact absurd f (by simp [flatB])
theorem flat_all : ∀ {ds : List D} {vs : List V}, ds.all flatB = true → RepL g T ds vs → vs.all flatV = true
  | [], _, _, r => by rw [show _ = [] from r]; rfl
  | d :: ds, _, f, ⟨v, vs, e, r, rs⟩ => by
    subst e
    simp only [List.all_cons, Bool.and_eq_true] at f ⊢
    exact ⟨flat_pd f.1 r, flat_all f.2 rs⟩
theorem S_beq (a b : List Nat) : (S a == S b) = (a == b) := by
  rw [Bool.eq_iff_iff, beq_iff_eq, beq_iff_eq]
  constructor
  · intro h; have := congrArg TL.tl h; simpa [TL.tl] using this
  · intro h; rw [h]
theorem eqV_B {d e : D} {v u : V} (fd : flatB d = true) (fe : flatB e = true) (r : Rep g T d v) (s : Rep g T e u) : eqV v u = eqB d e := by
  revert fd fe r s
  cases d <;> cases e <;> intro fd fe r s <;> first
    | (cases fd; done)
    | (cases fe; done)
    | (rw [show v = _ from r, show u = _ from s]; first | rfl | (simp [eqV, eqB, S_beq]; done) | (simp only [eqV, eqB, S_beq]; rw [Bool.eq_iff_iff]; simp; done))
theorem inV_B {d : D} {v : V} (fd : flatB d = true) (r : Rep g T d v) : ∀ {ds : List D} {vs : List V}, ds.all flatB = true → RepL g T ds vs → inV v vs = ds.any fun e => eqB e d
  | [], _, _, rs => by rw [show _ = [] from rs]; rfl
  | e :: ds, _, f, ⟨u, vs, ev, re, rs⟩ => by
    subst ev
    simp only [List.all_cons, Bool.and_eq_true] at f
    show (eqV u v || inV v vs) = (eqB e d || ds.any fun e => eqB e d)
    rw [eqV_B f.1 fd re r, inV_B fd r f.2 rs]
/-- keys -/
def keyK : D → Option Key
  | .int i => some (.inl i)
  | .str s => some (.inr (S s))
  | _ => none
def keysK : List D → Option (List Key)
  | [] => some []
  | d :: ds => match keyK d, keysK ds with
    | some k, some ks => some (k :: ks)
    | _, _ => none
theorem keyK_kD {d : D} {k : Key} (h : keyK d = some k) : d = kD k := by
  cases d <;> cases h <;> rfl
theorem keyK_rep {d : D} {k : Key} {v : V} (h : keyK d = some k) (r : Rep g T d v) : v = kV k := by
  cases d <;> cases h <;> exact r
theorem kD_inj {a b : Key} (h : kD a = kD b) : a = b := by
  cases a <;> cases b <;> simp only [kD] at h
  · cases h; rfl
  · cases h
  · cases h
  · injection h with h
    exact congrArg _ (TL.ext_tl h)
theorem keysK_rep : ∀ {ds : List D} {ks : List Key} {vs : List V}, keysK ds = some ks → RepL g T ds vs → vs = ks.map kV
  | [], _, _, h, r => by cases h; exact r
  | d :: ds, ks, vs, h, ⟨v, rs, e, r, rr⟩ => by
    unfold keysK at h
    cases q : keyK d with
    | none => rw [q] at h; cases h
    | some k =>
      cases q2 : keysK ds with
      | none => rw [q, q2] at h; cases h
      | some ks' => rw [q, q2] at h; cases h; rw [e, keyK_rep q r, keysK_rep q2 rr]; rfl
theorem keysK_kD : ∀ {ds : List D} {ks : List Key}, keysK ds = some ks → ds = ks.map kD
  | [], _, h => by cases h; rfl
  | d :: ds, ks, h => by
    unfold keysK at h
    cases q : keyK d with
    | none => rw [q] at h; cases h
    | some k =>
      cases q2 : keysK ds with
      | none => rw [q, q2] at h; cases h
      | some ks' => rw [q, q2] at h; cases h; rw [keyK_kD q, keysK_kD q2]; rfl
/-- equality of keys -/
def keyEq : D → D → Bool
  | .int i, .int j => decide (i = j)
  | .str a, .str b => a == b
  | .tup a, .tup b => eqBL a b
  | _, _ => false
def lookD : List D → List D → D → Option D
  | k :: ks, v :: vs, d => if keyEq k d then some v else lookD ks vs d
  | _, _, _ => none
theorem keyEq_k (a b : Key) : keyEq (kD a) (kD b) = decide (a = b) := by
  cases a <;> cases b <;> simp only [kD, keyEq]
  · simp
  · simp
  · simp
  · rename_i x y
    rw [Bool.eq_iff_iff, beq_iff_eq, decide_eq_true_iff]
    constructor
    · intro h; exact congrArg _ (TL.ext_tl h)
    · intro h; cases h; rfl
theorem eqB_k (a b : Key) : eqB (kD a) (kD b) = decide (a = b) := by
  cases a <;> cases b <;> simp only [kD, eqB]
  · simp
  · simp
  · simp
  · rename_i x y
    rw [Bool.eq_iff_iff, beq_iff_eq, decide_eq_true_iff]
    constructor
    · intro h; exact congrArg _ (TL.ext_tl h)
    · intro h; cases h; rfl
theorem eqBL_k : ∀ (a b : List Key), eqBL (a.map kD) (b.map kD) = decide (a = b)
  | [], [] => rfl
  | [], _ :: _ => rfl
  | _ :: _, [] => rfl
  | x :: a, y :: b => by
    show (eqB (kD x) (kD y) && eqBL (a.map kD) (b.map kD)) = _
    rw [eqB_k, eqBL_k a b]
    by_cases h1 : x = y <;> by_cases h2 : a = b <;> simp [h1, h2]
def OptRep (g : Gs) (T : Hp) : Option D → Option V → Prop
  | some d, some v => Rep g T d v
  | none, none => True
  | _, _ => False
theorem look_K (k : Key) : ∀ {kvs : List (Key × V)} {ds : List D}, RepL g T ds (kvs.map (·.2)) → OptRep g T (lookD (kvs.map fun p => kD p.1) ds (kD k)) (valV kvs k)
  | [], ds, r => by
    cases ds with
    | nil => trivial
    | cons d ds => obtain ⟨_, _, e, _⟩ := r; cases e
  | p :: kvs, ds, r => by
    cases ds with
    | nil => exact absurd (show _ = [] from r) (by simp)
    | cons d ds =>
      obtain ⟨v, vs, e, h, hr⟩ := r
      have e1 : p.2 = v := (List.cons.inj e).1
      have e2 := (List.cons.inj e).2
      subst e2
      show OptRep g T (if keyEq (kD p.1) (kD k) = true then some d else lookD (kvs.map fun p => kD p.1) ds (kD k)) _
      rw [keyEq_k]
      by_cases hk : p.1 = k
      · rw [if_pos (by simpa using hk), valV_pos hk, e1]; exact h
      · rw [if_neg (by simpa using hk), valV_neg hk]; exact look_K k hr
theorem look_T (k : List Key) : ∀ {kvs : List (List Key × V)} {ds : List D}, RepL g T ds (kvs.map (·.2)) → OptRep g T (lookD (kvs.map fun p => .tup (p.1.map kD)) ds (.tup (k.map kD))) (valV kvs k)
  | [], ds, r => by
    cases ds with
    | nil => trivial
    | cons d ds => obtain ⟨_, _, e, _⟩ := r; cases e
  | p :: kvs, ds, r => by
    cases ds with
    | nil => exact absurd (show _ = [] from r) (by simp)
    | cons d ds =>
      obtain ⟨v, vs, e, h, hr⟩ := r
      have e1 : p.2 = v := (List.cons.inj e).1
      have e2 := (List.cons.inj e).2
      subst e2
      show OptRep g T (if keyEq (.tup (p.1.map kD)) (.tup (k.map kD)) = true then some d else lookD (kvs.map fun p => .tup (p.1.map kD)) ds (.tup (k.map kD))) _
      have ek : keyEq (.tup (p.1.map kD)) (.tup (k.map kD)) = decide (p.1 = k) := eqBL_k _ _
      rw [ek]
      by_cases hk : p.1 = k
      · rw [if_pos (by simpa using hk), valV_pos hk, e1]; exact h
      · rw [if_neg (by simpa using hk), valV_neg hk]; exact look_T k hr
/-- a dict asked at a key -/
def dgetD : D → D → Option (Option D)
  | .dic false ks vs, d => match keyK d with
    | some _ => some (lookD ks vs d)
    | none => none
  | .dic true ks vs, .tup ds => match keysK ds with
    | some _ => some (lookD ks vs (.tup ds))
    | none => none
  | _, _ => none
theorem dget_ok {t : Tape} {d1 d2 : D} {v1 v2 : V} {o : Option D} (a : Ar g T H t) (h1 : Rep g T d1 v1) (h2 : Rep g T d2 v2) (e : dgetD d1 d2 = some o) :
    ∃ p r, v1 = .ref p ∧ DGet H p v2 r ∧ OptRep g T o r ∧ ((∃ kvs, H p = some (.dK kvs)) ∨ ∃ kvs, H p = some (.dT kvs)) := by
  cases d1 <;> try (cases e)
  rename_i tk ks ds
  obtain ⟨p, vs, ev, r, h⟩ := h1
  cases tk with
  | false =>
    rcases h with ⟨_, kvs, hT, e1, e2⟩ | ⟨z, _⟩
    · subst e1; subst e2
      unfold dgetD at e
      cases q : keyK d2 with
      | none => simp only [q] at e; cases e
      | some k =>
        simp only [q] at e; cases e
        have ek := keyK_kD q
        refine ⟨p, _, ev, .inl ⟨kvs, k, .inl (a.sub _ _ hT), keyK_rep q h2, rfl⟩, ?_, .inl ⟨kvs, a.sub _ _ hT⟩⟩
        rw [ek]
        exact look_K k r
    · cases z
  | true =>
    rcases h with ⟨z, _⟩ | ⟨_, kvs, hT, e1, e2⟩
    · cases z
    · subst e1; subst e2
      cases d2 <;> try (cases e)
      rename_i es
      unfold dgetD at e
      cases q : keysK es with
      | none => simp only [q] at e; cases e
      | some k =>
        simp only [q] at e; cases e
        obtain ⟨b, us, eb, hb, rb⟩ := h2
        have eu := keysK_rep q rb
        subst eu
        refine ⟨p, _, ev, .inr ⟨kvs, k, b, .inl (a.sub _ _ hT), eb, a.sub _ _ hb, rfl⟩, ?_, .inr ⟨kvs, a.sub _ _ hT⟩⟩
        rw [keysK_kD q]
        exact look_T k r
def inB (d c : D) : Option Bool := match c with
  | .str b => match d with
    | .str a => some (infB a b)
    | _ => none
  | .lst ds => match pd d, pdL ds with
    | some x, some xs => if SeqAt.shaped x && SeqAt.shaped (.list xs) then some (xs.any fun z => PyData.eqv z x) else none
    | _, _ => none
  | .tup ds => if flatB d && ds.all flatB then some (ds.any fun e => eqB e d) else none
  | .dic t ks vs => (dgetD (.dic t ks vs) d).map (·.isSome)
  | _ => none
def inO (d c : D) : Option D := (inB d c).map .bl
def ninO (d c : D) : Option D := (inB d c).map fun b => .bl (!b)
theorem optRep_isSome {o : Option D} {r : Option V} (h : OptRep g T o r) : o.isSome = r.isSome := by
  cases o <;> cases r <;> first | rfl | exact h.elim
theorem oc_in (x : XG X g) : OpR X (compareOp .In) (r2 g true inO) := by
  intro pins s σ H x' y v u Q I rx ry h
  obtain ⟨T, t, d1, d2, d, a, h1, h2, hf, k⟩ := h
  have fin : ∀ {b b' : Bool} {s' : Shared}, Inv X pins σ H s' → some (D.bl b) = some d → b' = b → EP X pins σ Q (.bool b') s' := fun {b b' s'} I' e e' => by
    cases e; subst e'
    exact ⟨.bl b', H, I', rfl, k _ _ (Post.val a rfl rfl)⟩
  have fin2 : ∀ {b b' : Bool}, some (D.bl b) = some d → b' = b → Q (.bl b') H := fun {b b'} e e' => by
    cases e; subst e'
    exact k _ _ (Post.val a rfl rfl)
  unfold inO at hf
  cases d2 with
  | str b =>
    cases d1 with
    | str a' =>
      exact op_in_str pins s σ H _ _ v u Q I rx ry ⟨_, _, h1, h2, fin2 hf (occ_inf b a')⟩
    | _ => cases hf
  | lst ds =>
    unfold inB at hf
    cases q : pd d1 with
    | none => simp only [q] at hf; cases hf
    | some xx =>
      cases q2 : pdL ds with
      | none => simp only [q, q2] at hf; cases hf
      | some xs =>
        simp only [q, q2] at hf
        split at hf
        · rename_i hz
          simp only [Bool.and_eq_true] at hz
          obtain ⟨p, vs, ev, c, rr⟩ := h2
          exact op_inD (by have := x.un; omega) pins s σ H _ _ v u Q I rx ry ⟨_, _, pd_dp a.sub x.K _ _ _ h1 q, by rw [ev]; exact .lst (SqL.of (a.sub _ _ c)) (pd_dpL a.sub x.K _ _ _ rr q2), hz.1, hz.2, fin2 hf rfl⟩
        · cases hf
  | tup ds =>
    unfold inB at hf
    dsimp only at hf
    split at hf
    · rename_i hz
      simp only [Bool.and_eq_true] at hz
      obtain ⟨p, vs, ev, c, rr⟩ := h2
      exact op_in_seq pins s σ H _ _ v u Q I rx ry ⟨p, vs, ev, .inr (SqT.of (a.sub _ _ c)), flat_pd hz.1 h1, flat_all hz.2 rr, fin2 hf (inV_B hz.1 h1 hz.2 rr)⟩
    · cases hf
  | dic tk ks vs =>
    unfold inB at hf
    dsimp only at hf
    cases q : dgetD (.dic tk ks vs) d1 with
    | none => rw [q] at hf; cases hf
    | some o =>
      rw [q] at hf
      obtain ⟨p, r, ev, dg, orr, _⟩ := dget_ok a h2 h1 q
      subst ev
      cases ry
      exact d_in (by have := x.un; omega) I dg rx fun s' I' => fin I' hf (optRep_isSome orr).symm
  | _ => cases hf
theorem oc_nin (x : XG X g) : OpR X (compareOp .NotIn) (r2 g true ninO) := by
  intro pins s σ H x' y v u Q I rx ry h
  obtain ⟨T, t, d1, d2, d, a, h1, h2, hf, k⟩ := h
  have fin : ∀ {b b' : Bool} {s' : Shared}, Inv X pins σ H s' → some (D.bl b) = some d → b' = b → EP X pins σ Q (.bool b') s' := fun {b b' s'} I' e e' => by
    cases e; subst e'
    exact ⟨.bl b', H, I', rfl, k _ _ (Post.val a rfl rfl)⟩
  have fin2 : ∀ {b b' : Bool}, some (D.bl b) = some d → b' = b → Q (.bl b') H := fun {b b'} e e' => by
    cases e; subst e'
    exact k _ _ (Post.val a rfl rfl)
  unfold ninO at hf
  cases d2 with
  | str b =>
    cases d1 with
    | str a' =>
      exact op_notin_str pins s σ H _ _ v u Q I rx ry ⟨_, _, h1, h2, fin2 hf (congrArg not (occ_inf b a'))⟩
    | _ => cases hf
  | lst ds =>
    unfold inB at hf
    cases q : pd d1 with
    | none => simp only [q] at hf; cases hf
    | some xx =>
      cases q2 : pdL ds with
      | none => simp only [q, q2] at hf; cases hf
      | some xs =>
        simp only [q, q2] at hf
        split at hf
        · rename_i hz
          simp only [Bool.and_eq_true] at hz
          obtain ⟨p, vs, ev, c, rr⟩ := h2
          exact op_notInD (by have := x.un; omega) pins s σ H _ _ v u Q I rx ry ⟨_, _, pd_dp a.sub x.K _ _ _ h1 q, by rw [ev]; exact .lst (SqL.of (a.sub _ _ c)) (pd_dpL a.sub x.K _ _ _ rr q2), hz.1, hz.2, fin2 hf rfl⟩
        · cases hf
  | tup ds =>
    unfold inB at hf
    dsimp only at hf
    split at hf
    · rename_i hz
      simp only [Bool.and_eq_true] at hz
      obtain ⟨p, vs, ev, c, rr⟩ := h2
      exact op_notIn_seq pins s σ H _ _ v u Q I rx ry ⟨p, vs, ev, .inr (SqT.of (a.sub _ _ c)), flat_pd hz.1 h1, flat_all hz.2 rr, fin2 hf (congrArg not (inV_B hz.1 h1 hz.2 rr))⟩
    · cases hf
  | dic tk ks vs =>
    unfold inB at hf
    dsimp only at hf
    cases q : dgetD (.dic tk ks vs) d1 with
    | none => rw [q] at hf; cases hf
    | some o =>
      rw [q] at hf
      obtain ⟨p, r, ev, dg, orr, _⟩ := dget_ok a h2 h1 q
      subst ev
      cases ry
      exact d_notIn (by have := x.un; omega) I dg rx fun s' I' => fin I' hf (congrArg not (optRep_isSome orr).symm)
  | _ => cases hf

/-! ### is None, is not True .. -/
def isnO : D → Option D
  | .non => some (.bl true)
  | .tape => none
  | _ => some (.bl false)
def nisnO : D → Option D
  | .non => some (.bl false)
  | .tape => none
  | _ => some (.bl true)
theorem rep_non {d : D} {v : V} (h : isnO d ≠ none) (r : Rep g T d v) : isnO d = some (.bl (decide (v = .non))) ∧ nisnO d = some (.bl (!decide (v = .non))) := by
  cases d <;> first
    | exact absurd rfl h
    | (rw [show v = _ from r]; simp [isnO, nisnO]; done)
    | (obtain ⟨a, vs, e, _⟩ := r; rw [e]; simp [isnO, nisnO]; done)
    | (obtain ⟨a, e, _⟩ := r; rw [e]; simp [isnO, nisnO]; done)

/-! ### places -/
def ixD : D → D → Option D
  | .lst ds, .int i => atI ds i
  | .tup ds, .int i => atI ds i
  | .str s, .int i => if s.length ≤ SZ then (atI s i).map fun c => .str [c] else none
  | .dic t ks vs, d => (dgetD (.dic t ks vs) d).getD none
  | _, _ => none
theorem at_rep {ds : List D} {vs : List V} {i : Int} {d : D} (r : RepL g T ds vs) (e : atI ds i = some d) : ∃ v, atI vs i = some v ∧ Rep g T d v := by
  unfold atI at e ⊢
  rw [r.length]
  cases q : ixN ds.length i with
  | none => rw [q] at e; cases e
  | some j => rw [q] at e; exact r.get e
theorem ox_ix (x : XG X g) : IxR X (r2 g false ixD) := by
  intro value slice pins s σ H x' y v u Q I rx ry h hs
  obtain ⟨T, t, d1, d2, d, a, h1, h2, hf, k⟩ := h
  cases d1 with
  | lst ds =>
    cases d2 with
    | int i =>
      obtain ⟨p, vs, e, c, r⟩ := h1
      obtain ⟨w, e1, e2⟩ := at_rep r hf
      exact ix_list value slice pins s σ H _ _ v u Q I rx ry ⟨p, vs, i, w, e, h2, SqL.of (a.sub _ _ c), e1, k _ _ (Post.sh a e2)⟩ hs
    | _ => cases hf
  | tup ds =>
    cases d2 with
    | int i =>
      obtain ⟨p, vs, e, c, r⟩ := h1
      obtain ⟨w, e1, e2⟩ := at_rep r hf
      exact ix_tup value slice pins s σ H _ _ v u Q I rx ry ⟨p, vs, i, w, e, h2, SqT.of (a.sub _ _ c), e1, k _ _ (Post.sh a e2)⟩ hs
    | _ => cases hf
  | str z =>
    cases d2 with
    | int i =>
      unfold ixD at hf
      dsimp only at hf
      split at hf
      · rename_i hz
        obtain ⟨c, e1, e2⟩ := Option.map_eq_some_iff.mp hf
        subst e2
        exact ix_str value slice pins s σ H _ _ v u Q I rx ry ⟨S z, i, c, h1, h2, by rw [S_len, sz]; exact hz, e1, k _ _ (Post.sh a rfl)⟩ hs
      · cases hf
    | _ => cases hf
  | dic tk ks vs =>
    have hf' : (dgetD (.dic tk ks vs) d2).getD none = some d := by
      cases d2 <;> exact hf
    cases q : dgetD (.dic tk ks vs) d2 with
    | none => rw [q] at hf'; cases hf'
    | some o =>
      rw [q] at hf'
      have eo : o = some d := hf'
      subst eo
      obtain ⟨p, r, ev, dg, orr, kind⟩ := dget_ok a h1 h2 q
      subst ev
      cases r with
      | none => exact orr.elim
      | some w =>
        cases rx
        have tI : s.TypeIs (.ref p) "dict" := by
          rcases kind with ⟨kvs, hk⟩ | ⟨kvs, hk⟩
          · obtain ⟨_, _, _, _, o, _, _, e, ex, _⟩ := I.hok p _ hk
            exact ⟨o, e, ex.1⟩
          · obtain ⟨_, _, _, _, o, _, _, e, ex, _⟩ := I.hok p _ hk
            exact ⟨o, e, ex.1⟩
        exact tail_any tI slot_dict_getitem.lookup (d_getItem (by have := x.un; omega) I dg ry fun w' s' I' rw' => ⟨w, H, I', rw', k _ _ (Post.sh a orr)⟩) hs
  | _ => cases d2 <;> cases hf
end
end EV

set_option Elab.async false
set_option linter.all false
set_option maxRecDepth 100000
set_option maxHeartbeats 4000000
/-! EvCa: sums, maxima and minima of tuples; sorting of tuples. -/
namespace EV
open PySem PySem.Spec PyProof.Rows L2
section
variable {prog : Program} {w : World} {A : Around} {E : Value → Shared → Prop} {s : Shared} {l : Addr} {its : List Value} {ns : List Int} {Q : Value → Shared → Prop}
theorem iter_tupT {items : Array Value} (hl : s.heap.IsTuple l items)
    (h : ∀ s₂ : Shared, s₂ = { s with heap := s.heap.push { cls := .type "tuple_iterator", data := .fields #[.ref l, .int 0 0] } } →
      (s₂.heap.IsTupleIter s.heap.objs.size l 0 ∧ s₂.heap.IsTuple l items) → (∀ b ∈ [s.heap.objs.size, l], b < s₂.heap.objs.size) → l ≠ s.heap.objs.size → Q (.ref s.heap.objs.size) s₂) : wpAny (model prog w) A (pyIter (.ref l)) Q E s := by
  have hlt : l < s.heap.objs.size := by obtain ⟨_, e, _⟩ := hl; exact Heap.lt_size e
  refine wpAny_pyIter_tuple hl (h _ rfl ⟨⟨_, Heap.get?_push_size _ rfl, rfl, rfl⟩, hl.at fun o e => Heap.get?_push_of_some _ e⟩ (fun b hb => ?_) (Nat.ne_of_lt hlt))
  show b < (s.heap.push _).objs.size
  rw [Heap.size_push]
  rcases List.mem_cons.mp hb with rfl | hb
  · exact Nat.lt_succ_self _
  · rcases List.mem_cons.mp hb with rfl | hb
    · exact Nat.lt_succ_of_lt hlt
    · cases hb
theorem kept_T {ob : Obj} {h' : Heap} (hk : ∀ b o, b ∉ [s.heap.objs.size] → (s.heap.push ob).get? b = some o → h'.get? b = some o) :
    ∀ b o, s.heap.get? b = some o → h'.get? b = some o := fun b o e => by
  refine hk b o (fun hm => ?_) (Heap.get?_push_of_some _ e)
  rcases List.mem_cons.mp hm with e1 | hm
  · exact absurd (e1 ▸ Heap.lt_size e) (Nat.lt_irrefl _)
  · cases hm
theorem sum_rawT (hh : A.handled = none) (hl : s.heap.IsTuple l its.toArray) (hi : IntsAre its ns)
    (h : ∀ h' tk t', (∀ b o, s.heap.get? b = some o → h'.get? b = some o) → Q (.int ns.sum t') { s with heap := h', toks := tk }) : wpAny (model prog w) A (call (.builtin "sum") [.ref l]) Q E s := by
  obtain ⟨xs, e⟩ := hi.allInts.items
  have hn : numsOf (intItems xs).toList = ns := by rw [← e]; exact hi.numsOf
  rw [nums_intItems] at hn
  rw [e] at hl
  refine call_sum_walkG (iter_tupT hl fun s₂ e2 st hfp hne => ?_)
  subst e2
  refine ⟨_, _, _, _, _, _, numAt xs, rfl, Walks.tuple (A := A.in1) hh _ l hne (intItems xs), st, hfp, fun _ _ => intItems_at, fun h' tk t' hk => ?_⟩
  have := h h' tk t' (kept_T hk)
  have e3 : preSum (numAt xs) (intItems xs).size = ns.sum := by
    rw [show (intItems xs).size = xs.size by simp [intItems], preSum_eq, List.take_of_length_le (by simp), hn]
  rw [e3]
  exact this
theorem max_rawT (hh : A.handled = none) (hl : s.heap.IsTuple l its.toArray) (hi : IntsAre its ns) (hne : 0 < ns.length)
    (h : ∀ h' tk M t', (∀ b o, s.heap.get? b = some o → h'.get? b = some o) → M ∈ ns → (∀ a, a ∈ ns → a ≤ M) → Q (.int M t') { s with heap := h', toks := tk }) : wpAny (model prog w) A (call (.builtin "max") [.ref l]) Q E s := by
  obtain ⟨xs, e⟩ := hi.allInts.items
  have hn : numsOf (intItems xs).toList = ns := by rw [← e]; exact hi.numsOf
  rw [nums_intItems] at hn
  subst hn
  rw [e] at hl
  have hsz : 0 < xs.size := by simpa using hne
  refine call_max_walk (iter_tupT hl fun s₂ e st hfp hlI => ?_)
  subst e
  refine ⟨_, _, _, _, _, _, _, rfl, Walks.tuple (A := A.in1) hh _ l hlI (intItems xs), st, hfp, by simpa [intItems] using hsz, CmpOf.ints_gt (numAt xs) (fun _ _ => intItems_at), fun v h' tk hv hk => ?_⟩
  have hz : (intItems xs).size = xs.size := by simp [intItems]
  rw [hz] at hv
  obtain ⟨t, rfl⟩ := intItems_at hv
  obtain ⟨h1, h2⟩ := argBest_gt (numAt xs) (xs.size - 1)
  refine h h' tk _ t (kept_T hk) ?_ fun a ha => ?_
  · rw [numAt_eq]; exact PySem.getD_mem (by rw [List.length_map, Array.length_toList]; omega)
  · obtain ⟨j, hj, rfl⟩ := mem_getD ha
    rw [List.length_map, Array.length_toList] at hj
    rw [← numAt_eq]; exact h2 j (by omega)
theorem min_rawT (hh : A.handled = none) (hl : s.heap.IsTuple l its.toArray) (hi : IntsAre its ns) (hne : 0 < ns.length)
    (h : ∀ h' tk M t', (∀ b o, s.heap.get? b = some o → h'.get? b = some o) → M ∈ ns → (∀ a, a ∈ ns → M ≤ a) → Q (.int M t') { s with heap := h', toks := tk }) : wpAny (model prog w) A (call (.builtin "min") [.ref l]) Q E s := by
  obtain ⟨xs, e⟩ := hi.allInts.items
  have hn : numsOf (intItems xs).toList = ns := by rw [← e]; exact hi.numsOf
  rw [nums_intItems] at hn
  subst hn
  rw [e] at hl
  have hsz : 0 < xs.size := by simpa using hne
  refine call_min_walk (iter_tupT hl fun s₂ e st hfp hlI => ?_)
  subst e
  refine ⟨_, _, _, _, _, _, _, rfl, Walks.tuple (A := A.in1) hh _ l hlI (intItems xs), st, hfp, by simpa [intItems] using hsz, CmpOf.ints_lt (numAt xs) (fun _ _ => intItems_at), fun v h' tk hv hk => ?_⟩
  have hz : (intItems xs).size = xs.size := by simp [intItems]
  rw [hz] at hv
  obtain ⟨t, rfl⟩ := intItems_at hv
  obtain ⟨h1, h2⟩ := argBest_lt (numAt xs) (xs.size - 1)
  refine h h' tk _ t (kept_T hk) ?_ fun a ha => ?_
  · rw [numAt_eq]; exact PySem.getD_mem (by rw [List.length_map, Array.length_toList]; omega)
  · obtain ⟨j, hj, rfl⟩ := mem_getD ha
    rw [List.length_map, Array.length_toList] at hj
    rw [← numAt_eq]; exact h2 j (by omega)
end
section
variable {X : Cx}
theorem cr_sumT (hc : X.calm = true) : CallR X (.builtin "sum") (fun vs H Q => ∃ (a : Addr) (ns : List Int), vs = [V.ref a] ∧ SqT X.K H a (ns.map V.int) ∧ Q (.int ns.sum) H) := by
  intro pins s σ H vs us Q I r h
  obtain ⟨a, ns, rfl, hs, q⟩ := h
  obtain ⟨its, rv, hl, _⟩ := I.tuple hs
  rw [Vals.ref1 r]
  exact sum_rawT (I.ok.hd hc) hl rv.ints fun h' tk t' hk => ⟨.int _, H, I.kept hk, ⟨_, rfl⟩, q⟩
theorem cr_maxT (hc : X.calm = true) : CallR X (.builtin "max") (fun vs H Q => ∃ (a : Addr) (ns : List Int), vs = [V.ref a] ∧ SqT X.K H a (ns.map V.int) ∧ 0 < ns.length ∧ ∀ m, m ∈ ns → (∀ y, y ∈ ns → y ≤ m) → Q (.int m) H) := by
  intro pins s σ H vs us Q I r h
  obtain ⟨a, ns, rfl, hs, hne, q⟩ := h
  obtain ⟨its, rv, hl, _⟩ := I.tuple hs
  rw [Vals.ref1 r]
  exact max_rawT (I.ok.hd hc) hl rv.ints hne fun h' tk m t' hk h1 h2 => ⟨.int _, H, I.kept hk, ⟨_, rfl⟩, q m h1 h2⟩
theorem cr_minT (hc : X.calm = true) : CallR X (.builtin "min") (fun vs H Q => ∃ (a : Addr) (ns : List Int), vs = [V.ref a] ∧ SqT X.K H a (ns.map V.int) ∧ 0 < ns.length ∧ ∀ m, m ∈ ns → (∀ y, y ∈ ns → m ≤ y) → Q (.int m) H) := by
  intro pins s σ H vs us Q I r h
  obtain ⟨a, ns, rfl, hs, hne, q⟩ := h
  obtain ⟨its, rv, hl, _⟩ := I.tuple hs
  rw [Vals.ref1 r]
  exact min_rawT (I.ok.hd hc) hl rv.ints hne fun h' tk m t' hk h1 h2 => ⟨.int _, H, I.kept hk, ⟨_, rfl⟩, q m h1 h2⟩
end
end EV
namespace EV
open PySem PySem.Spec PyProof.Rows L2
/-! ### sorted, of tuples of ints and texts -/
abbrev Tk := List (Int ⊕ List Nat)
def tupD (sh : Nat → Bool) : Nat → List D → Option Tk
  | _, [] => some []
  | i, .int n :: r => if sh i = true then none else (tupD sh (i + 1) r).map (Sum.inl n :: ·)
  | i, .str x :: r => if sh i = true then (tupD sh (i + 1) r).map (Sum.inr x :: ·) else none
  | _, _ :: _ => none
def keyTD (sh : Nat → Bool) : D → Option Tk
  | .tup (e :: es) => tupD sh 0 (e :: es)
  | _ => none
def keysTD (sh : Nat → Bool) : List D → Option (List Tk)
  | [] => some []
  | d :: ds => match keyTD sh d, keysTD sh ds with
    | some k, some ks => some (k :: ks)
    | _, _ => none
def shapeD (es : List D) (i : Nat) : Bool := match nth es i with
  | some (.str _) => true
  | _ => false
def toDk : Int ⊕ List Nat → D
  | .inl i => .int i
  | .inr s => .str s
def mkTk (k : Tk) : D := .tup (k.map toDk)
theorem tupD_mk {sh : Nat → Bool} : ∀ {i : Nat} {ds : List D} {k : Tk}, tupD sh i ds = some k → ds = k.map toDk
  | _, [], k, h => by cases h; rfl
  | i, d :: ds, k, h => by
    cases d <;> try (cases h; done)
    · rename_i n
      unfold tupD at h
      split at h
      · cases h
      · obtain ⟨k', h1, h2⟩ := Option.map_eq_some_iff.mp h
        rw [← h2, tupD_mk h1]; rfl
    · rename_i x
      unfold tupD at h
      split at h
      · obtain ⟨k', h1, h2⟩ := Option.map_eq_some_iff.mp h
        rw [← h2, tupD_mk h1]; rfl
      · cases h
theorem tupD_items {g : Gs} {T : Hp} {sh : Nat → Bool} : ∀ {i : Nat} {ds : List D} {k : Tk} {vs : List V} {us : List Value}, tupD sh i ds = some k → RepL g T ds vs → Vals vs us → tupItems sh i us = some k
  | _, [], k, vs, us, h, r, rv => by
    have e : vs = [] := r
    subst e
    cases rv; cases h; rfl
  | i, d :: ds, k, _, _, h, ⟨v, r, e, hd, hr⟩, rv => by
    subst e
    cases rv with
    | cons r1 r2 =>
      cases d <;> try (cases h; done)
      · rename_i n
        obtain rfl : v = .int n := hd
        obtain ⟨t, rfl⟩ := r1
        unfold tupD at h
        split at h
        · cases h
        · rename_i hs
          obtain ⟨k', h1, h2⟩ := Option.map_eq_some_iff.mp h
          subst h2
          unfold tupItems
          rw [if_neg hs, tupD_items h1 hr r2]; rfl
      · rename_i x
        obtain rfl : v = .str (S x) := hd
        obtain ⟨t, rfl⟩ := r1
        unfold tupD at h
        split at h
        · rename_i hs
          obtain ⟨k', h1, h2⟩ := Option.map_eq_some_iff.mp h
          subst h2
          unfold tupItems
          rw [if_pos hs, tupD_items h1 hr r2]
          simp [S]
        · cases h
def insBT (le : Tk → Tk → Bool) (x : Tk) : List Tk → List Tk
  | [] => [x]
  | y :: ys => if le x y then x :: y :: ys else y :: insBT le x ys
def srtBT (le : Tk → Tk → Bool) : List Tk → List Tk
  | [] => []
  | x :: xs => insBT le x (srtBT le xs)
def leK (a b : Tk) : Bool := !PyProof.Rows.lexLt itemOrd b a
theorem insBT_perm (x : Tk) : ∀ l : List Tk, (insBT leK x l).Perm (x :: l)
  | [] => List.Perm.refl _
  | y :: ys => by
    unfold insBT
    split
    · exact List.Perm.refl _
    · exact (List.Perm.cons y (insBT_perm x ys)).trans (List.Perm.swap x y ys)
theorem srtBT_perm : ∀ l : List Tk, (srtBT leK l).Perm l
  | [] => List.Perm.refl _
  | x :: xs => (insBT_perm x _).trans (List.Perm.cons x (srtBT_perm xs))
theorem leK_total (a b : Tk) : leK a b = true ∨ leK b a = true := by
  unfold leK
  cases h1 : PyProof.Rows.lexLt itemOrd b a with
  | false => exact .inl rfl
  | true =>
    cases h2 : PyProof.Rows.lexLt itemOrd a b with
    | false => exact .inr rfl
    | true =>
      have := PyProof.Rows.lex_trans (O := itemOrd) _ _ _ h1 h2
      rw [PyProof.Rows.lex_irrefl] at this; cases this
theorem leK_trans {a b c : Tk} (h1 : leK a b = true) (h2 : leK b c = true) : leK a c = true := by
  unfold leK at *
  rw [Bool.not_eq_true'] at *
  cases h : PyProof.Rows.lexLt itemOrd c a with
  | false => rfl
  | true =>
    rcases PyProof.Rows.lex_negTrans (O := itemOrd) _ b _ h with k | k
    · rw [h2] at k; cases k
    · rw [h1] at k; cases k
theorem leK_anti {a b : Tk} (h1 : leK a b = true) (h2 : leK b a = true) : a = b := by
  unfold leK at *
  rw [Bool.not_eq_true'] at *
  exact PyProof.Rows.lex_total (O := itemOrd) a b h2 h1
theorem insBT_sorted (x : Tk) : ∀ l : List Tk, l.Pairwise (fun a b => leK a b = true) → (insBT leK x l).Pairwise (fun a b => leK a b = true)
  | [], _ => by simp [insBT]
  | y :: ys, h => by
    unfold insBT
    obtain ⟨h1, h2⟩ := List.pairwise_cons.mp h
    split
    · rename_i c
      refine List.pairwise_cons.mpr ⟨fun b hb => ?_, h⟩
      rcases List.mem_cons.mp hb with e | hb
      · rw [e]; exact c
      · exact leK_trans c (h1 b hb)
    · rename_i c
      refine List.pairwise_cons.mpr ⟨fun b hb => ?_, insBT_sorted x ys h2⟩
      rcases List.mem_cons.mp ((insBT_perm x ys).mem_iff.mp hb) with e | hb
      · rw [e]; rcases leK_total x y with z | z
        · exact absurd z c
        · exact z
      · exact h1 b hb
theorem srtBT_sorted : ∀ l : List Tk, (srtBT leK l).Pairwise (fun a b => leK a b = true)
  | [] => by simp [srtBT]
  | x :: xs => insBT_sorted x _ (srtBT_sorted xs)
theorem sortedT_eq : ∀ {l m : List Tk}, l.Perm m → l.Pairwise (fun a b => leK a b = true) → m.Pairwise (fun a b => leK a b = true) → l = m
  | [], m, p, _, _ => (List.Perm.nil_eq p)
  | x :: xs, [], p, _, _ => absurd p.length_eq (by simp)
  | x :: xs, y :: ys, p, h, k => by
    obtain ⟨h1, h2⟩ := List.pairwise_cons.mp h
    obtain ⟨k1, k2⟩ := List.pairwise_cons.mp k
    have e : x = y := by
      rcases List.mem_cons.mp (p.mem_iff.mp (List.mem_cons_self ..)) with e | hx
      · exact e
      · rcases List.mem_cons.mp (p.mem_iff.mpr (List.mem_cons_self ..)) with e | hy
        · exact e.symm
        · exact leK_anti (h1 y hy) (k1 x hx)
    subst e
    rw [sortedT_eq (List.Perm.cons_inv p) h2 k2]
def sortTD : List D → Option D
  | .tup (e :: es) :: r => (keysTD (shapeD (e :: es)) (.tup (e :: es) :: r)).map fun ks => .lst ((srtBT leK ks).map mkTk)
  | _ => none
section
variable {g : Gs} {T H : Hp} {X : Cx} {pins : List (Addr × Obj)} {σ : L2.St} {s : Shared}
/-- a tuple's key in the machine's heap -/
theorem key_raw (I : Inv X pins σ H s) {t : Tape} (a : Ar g T H t) {sh : Nat → Bool} {d : D} {k : Tk} {v : V} {u : Value} (hk : keyTD sh d = some k) (r : Rep g T d v) (ru : RelV v u) :
    d = mkTk k ∧ ∃ b, v = .ref b ∧ u = .ref b ∧ tupKey s.heap sh u = some k ∧ ∃ f, TupOf s.heap sh u f := by
  unfold keyTD at hk
  split at hk
  · rename_i e es
    obtain ⟨b, vs, rfl, hT, rr⟩ := r
    obtain rfl : u = .ref b := ru
    obtain ⟨its, rv, ⟨o, ho, hc, n, hd⟩, hz⟩ := I.tuple (SqT.of (a.sub _ _ hT))
    have hi := tupD_items hk rr rv
    refine ⟨by unfold mkTk; rw [tupD_mk hk], b, rfl, rfl, ?_, ?_⟩
    · unfold tupKey
      simp only [ho, hd]
      exact hi
    · obtain ⟨v0, vr, e1, h0, _⟩ := rr
      subst e1
      cases rv with
      | cons r1 r2 =>
        rename_i u0 ur
        refine ⟨u0, b, o, _, n, rfl, ho, hc, hd, rfl, fun hs => ?_, fun hs => ?_⟩
        · obtain ⟨n', t', l', e2, _, _⟩ := tupItems_int hs hi
          exact ⟨n', t', e2⟩
        · obtain ⟨x', t', l', e2, _, _⟩ := tupItems_str hs hi
          exact ⟨x', t', e2⟩
  · cases hk
theorem TupOf.keeps {h h' : Heap} {sh : Nat → Bool} {v f : Value} (t : TupOf h sh v f) (k : ∀ b o, h.get? b = some o → o.cls = .type "tuple" → h'.get? b = some o) : TupOf h' sh v f := by
  obtain ⟨a, o, xs, n, e, ho, hc, r⟩ := t
  exact ⟨a, o, xs, n, e, k _ _ ho hc, hc, r⟩
theorem tupKey_keeps {h h' : Heap} {sh : Nat → Bool} {v f : Value} {k : Tk} (t : TupOf h sh v f) (kp : ∀ b o, h.get? b = some o → o.cls = .type "tuple" → h'.get? b = some o) (hk : tupKey h sh v = some k) : tupKey h' sh v = some k := by
  obtain ⟨a, o, xs, n, rfl, ho, hc, hd, r⟩ := t
  unfold tupKey at hk ⊢
  simp only [ho, hd] at hk
  simp only [kp _ _ ho hc, hd]
  exact hk
theorem keys_raw (I : Inv X pins σ H s) {t : Tape} (a : Ar g T H t) {sh : Nat → Bool} : ∀ {ds : List D} {ks : List Tk} {vs : List V} {us : List Value}, keysTD sh ds = some ks → RepL g T ds vs → Vals vs us →
    us.map (fun u => (tupKey s.heap sh u).getD []) = ks ∧ (∀ u ∈ us, ∃ k b f, tupKey s.heap sh u = some k ∧ u = .ref b ∧ TupOf s.heap sh u f ∧ Rep g T (mkTk k) (.ref b))
  | [], ks, vs, us, h, r, rv => by
    have e : vs = [] := r
    subst e
    cases rv; cases h
    exact ⟨rfl, fun u hu => by cases hu⟩
  | d :: ds, ks, _, _, h, ⟨v, r, e, hd, hr⟩, rv => by
    subst e
    cases rv with
    | cons r1 r2 =>
      unfold keysTD at h
      cases hk : keyTD sh d with
      | none => simp only [hk] at h; cases h
      | some k =>
        cases hks : keysTD sh ds with
        | none => simp only [hk, hks] at h; cases h
        | some ks' =>
          simp only [hk, hks] at h
          cases h
          obtain ⟨q1, b, q2, q3, q4, f, q5⟩ := key_raw I a hk hd r1
          obtain ⟨p1, p2⟩ := keys_raw I a hks hr r2
          refine ⟨by rw [List.map_cons, q4, p1]; rfl, fun u hu => ?_⟩
          rcases List.mem_cons.mp hu with e | hu
          · subst e
            subst q2
            exact ⟨k, b, f, q4, q3, q5, by rw [← q1]; exact hd⟩
          · exact p2 u hu
theorem repL_map {α : Type} {f : α → D} {h : α → V} : ∀ {l : List α}, (∀ x ∈ l, Rep g T (f x) (h x)) → RepL g T (l.map f) (l.map h)
  | [], _ => (rfl : _ = _)
  | x :: l, k => ⟨_, _, rfl, k x List.mem_cons_self, repL_map fun y hy => k y (List.mem_cons_of_mem _ hy)⟩
theorem firsts_all {h : Heap} {sh : Nat → Bool} : ∀ {vs : List Value}, (∀ v ∈ vs, ∃ f, TupOf h sh v f) → ∃ fs, TupsOf h sh vs fs ∧ fs.length = vs.length
  | [], _ => ⟨[], .nil, rfl⟩
  | v :: vs, k => by
    obtain ⟨f, hf⟩ := k v List.mem_cons_self
    obtain ⟨fs, h1, h2⟩ := firsts_all fun y hy => k y (List.mem_cons_of_mem _ hy)
    exact ⟨f :: fs, .cons hf h1, by simp [h2]⟩
theorem cr_sortTD {t : Tape} {ds : List D} {r : D} (hs : sortTD ds = some r) : CallR X (.builtin "sorted") (fun vs H Q => ∃ (a : Addr) (us : List V), vs = [V.ref a] ∧ Ar g T H t ∧ SqL X.K H a us ∧ RepL g T ds us ∧ ∀ p os, H p = none → (∃ es, r = .lst es ∧ RepL g T es os) → Q (.ref p) (upd H p (.lst os))) := by
  intro pins s σ H vs us Q I rs h
  obtain ⟨a, ws, rfl, ar, hsq, rr, q⟩ := h
  rw [Vals.ref1 rs]
  obtain ⟨its, rv, hl, hz⟩ := I.list hsq
  unfold sortTD at hs
  split at hs
  · rename_i e es rest
    obtain ⟨ks, hk, hr⟩ := Option.map_eq_some_iff.mp hs
    obtain ⟨p1, p2⟩ := keys_raw I ar hk rr rv
    generalize shapeD (e :: es) = sh at *
    have hO : SrtO.Swo (fun v u : Value => PyProof.Rows.lexLt itemOrd ((tupKey s.heap sh v).getD []) ((tupKey s.heap sh u).getD [])) := by
      refine ⟨fun x y h => ?_, fun x y z h1 h2 => ?_⟩
      · cases h2 : PyProof.Rows.lexLt itemOrd ((tupKey s.heap sh y).getD []) ((tupKey s.heap sh x).getD []) with
        | false => rfl
        | true =>
          have := PyProof.Rows.lex_trans (O := itemOrd) _ _ _ h h2
          rw [PyProof.Rows.lex_irrefl] at this; cases this
      · cases h3 : PyProof.Rows.lexLt itemOrd ((tupKey s.heap sh z).getD []) ((tupKey s.heap sh x).getD []) with
        | false => rfl
        | true =>
          rcases PyProof.Rows.lex_negTrans (O := itemOrd) _ ((tupKey s.heap sh y).getD []) _ h3 with k | k
          · rw [h2] at k; cases k
          · rw [h1] at k; cases k
    refine SrtO.sorted_ord hO hl.isList (by rw [← rv.length]; exact hz) (fun h2 h₁ a' ha kk => ?_) fun out hsd hst => ?_
    · intro h' keep
      have kp : ∀ b o, s.heap.get? b = some o → o.cls = .type "tuple" → h'.get? b = some o := fun b o e hc => by
        obtain ⟨k1, k2⟩ := kk b o e
        exact keep b o k1 k2
      obtain ⟨fs, f1, f2⟩ := firsts_all (h := h') (sh := sh) (vs := its) fun v hv => by
        obtain ⟨k, b, f, _, _, hf, _⟩ := p2 v hv
        exact ⟨f, TupOf.keeps hf kp⟩
      refine ⟨tuples' true, fun Q E hq => tup_kind (s := { s with heap := h' }) (by omega) f1 hq, fun p p' hp hp' => ?_⟩
      obtain ⟨k1, b1, g1, e1, _, t1, _⟩ := p2 _ hp
      obtain ⟨k2, b2, g2, e2, _, t2, _⟩ := p2 _ hp'
      refine tup_ltAt (s := { s with heap := h' }) (shape := sh) true _ _ _ _ k1 k2 (tupKey_keeps t1 kp e1) (tupKey_keeps t2 kp e2) ⟨rfl, ?_⟩
      show PyProof.Rows.lexLt itemOrd k1 k2 = PyProof.Rows.lexLt itemOrd _ _
      rw [e1, e2]; rfl
    · obtain ⟨ep, he⟩ := PyProof.Rows.sortedAll_at s.heap its out.toArray
      have hperm : out.Perm its := hst.perm
      have h3 : ∀ u ∈ out, ∃ a, u = Value.ref a := fun u hu => by
        obtain ⟨_, b, _, _, e, _, _⟩ := p2 u (hperm.mem_iff.mp hu)
        exact ⟨b, e⟩
      have hks : out.map (fun u => (tupKey s.heap sh u).getD []) = srtBT leK ks := by
        refine sortedT_eq ?_ ?_ (srtBT_sorted ks)
        · exact ((hperm.map _).trans (by rw [p1])).trans (srtBT_perm ks).symm
        · rw [List.pairwise_map]
          refine List.Pairwise.imp (fun {x y} hxy => ?_) hsd
          unfold leK
          rw [show PyProof.Rows.lexLt itemOrd ((tupKey s.heap sh y).getD []) ((tupKey s.heap sh x).getD []) = false from hxy]; rfl
      have hrep : RepL g T ((srtBT leK ks).map mkTk) (out.map backV) := by
        rw [← hks, List.map_map]
        refine repL_map fun u hu => ?_
        obtain ⟨k, b, f, e1, e2, _, rp⟩ := p2 u (hperm.mem_iff.mp hu)
        show Rep g T (mkTk ((tupKey s.heap sh u).getD [])) (backV u)
        rw [e1, e2]
        exact rp
      have hlen : (out.map backV).length ≤ sizeLine := by
        rw [List.length_map, hperm.length_eq, ← rv.length]; exact hz
      exact ⟨.ref _, upd H (s.heap.objs.size + 1) (.lst (out.map backV)), I.laid (t' := s.toks) (fun _ _ => PyProof.Rows.sortedAll_old) (Nat.le_succ _) ⟨hlen, out, ep, vals_back h3, he⟩, rfl, q _ _ (I.hok.fresh (Nat.le_succ _)) ⟨_, hr.symm, hrep⟩⟩
  · cases hs
end
end EV

set_option Elab.async false
set_option linter.all false
set_option maxRecDepth 100000
set_option maxHeartbeats 4000000
/-! EvD: slices, built-in functions and methods on trees. -/
namespace EV
open PySem PySem.Spec PyProof.Rows L2
section
variable {g : Gs} {T H : Hp} {X : Cx}

/-! ### slices -/
def cutL {α : Type} (xs : List α) (lo hi : Option Int) : List α := (xs.drop (HT.sIx xs.length 0 lo)).take (HT.sIx xs.length xs.length hi - HT.sIx xs.length 0 lo)
def slD (d : D) (lo hi : Option Int) : Option D := match d with
  | .str s => if s.length ≤ SZ then some (.str (cutL s lo hi)) else none
  | .lst ds => some (.lst (cutL ds lo hi))
  | .tup ds => some (.tup (cutL ds lo hi))
  | _ => none
def rSl (g : Gs) (fr : Bool) (f : D → Option Int → Option Int → Option D) : V → Option Int → Option Int → Hp → VK → Prop := fun x lo hi H Q => ∃ T t d1 d, Ar g T H t ∧ Rep g T d1 x ∧ f d1 lo hi = some d ∧ ∀ v H', Post g fr T H t d v H' → Q v H'
theorem RepL.cut {ds : List D} {vs : List V} (r : RepL g T ds vs) (lo hi : Option Int) : RepL g T (cutL ds lo hi) (cutV vs lo hi) := by
  unfold cutL cutV
  rw [r.length]
  exact (r.drop _).take _
theorem cutV_whole {vs : List V} {lo hi : Option Int} (h : HT.sIx vs.length 0 lo = 0 ∧ HT.sIx vs.length vs.length hi = vs.length) : cutV vs lo hi = vs := by
  unfold cutV
  rw [h.1, h.2]
  simp
theorem os_sl (x : XG X g) : SlR X (rSl g true slD) := by
  intro pins s σ H x' v vl vu lo hi sl Q I rx hs pl pu h
  obtain ⟨T, t, d1, d, a, h1, hf, k⟩ := h
  unfold slD at hf
  cases d1 with
  | str z =>
    dsimp only at hf
    split at hf
    · rename_i hz
      cases hf
      exact sl_str pins s σ H _ v vl vu lo hi sl Q I rx hs pl pu ⟨S z, h1, by rw [S_len, sz]; exact hz, k _ _ (Post.val a rfl rfl)⟩
    · cases hf
  | lst ds =>
    cases hf
    obtain ⟨p, vs, e, c, r⟩ := h1
    exact sl_list pins s σ H _ v vl vu lo hi sl Q I rx hs pl pu ⟨p, vs, e, SqL.of (a.sub _ _ c), fun q hq => k _ _ (Post.newL a hq (r.cut lo hi))⟩
  | tup ds =>
    cases hf
    obtain ⟨p, vs, e, c, r⟩ := h1
    refine sl_tupA pins s σ H _ v vl vu lo hi sl Q I rx hs pl pu ⟨p, vs, e, SqT.of (a.sub _ _ c), fun hw => ?_, fun _ q hq => k _ _ (Post.newT a hq (r.cut lo hi))⟩
    refine k _ _ (Post.val a rfl ⟨p, vs, rfl, c, ?_⟩)
    have z := r.cut lo hi
    rw [cutV_whole hw] at z
    exact z
  | _ => cases hf
/-- x[::-1] -/
def revD : D → Option D
  | .str s => if s.length ≤ SZ then some (.str s.reverse) else none
  | .lst ds => some (.lst ds.reverse)
  | _ => none
theorem RepL.reverse : ∀ {ds : List D} {vs : List V}, RepL g T ds vs → RepL g T ds.reverse vs.reverse
  | [], _, r => by rw [show _ = [] from r]; exact (rfl : ([] : List V) = [])
  | d :: ds, _, ⟨v, vs, e, r, rr⟩ => by
    subst e
    rw [List.reverse_cons, List.reverse_cons]
    exact RepL.append (RepL.reverse rr) ⟨v, [], rfl, r, rfl⟩
theorem made_rev (z : List Nat) (t : Tok) (tk : Tok) : sliceMade (S z) t none none (some (-1, tk)) = .str (S z.reverse) := by
  unfold sliceMade slicePicked
  have e0 : ((Option.map (·.1) (some ((-1 : Int), tk))).getD 1 == 1) = false := rfl
  rw [e0, Bool.false_and, if_neg Bool.false_ne_true]
  have e1 : Builtin.Str.strSliceIndices (Option.map (·.1) (none : Option (Int × Tok))) (Option.map (·.1) (none : Option (Int × Tok))) ((Option.map (·.1) (some ((-1 : Int), tk))).getD 1) (S z).length = (List.range (S z).length).reverse := by
    show Builtin.Str.strSliceIndices none none (-1) (S z).length = _
    rw [picked_rev, PySem.W.krv_range]
  rw [e1, List.filterMap_reverse]
  have e2 := PySem.W.krv_all (S z).cps
  have e3 : (List.range (S z).length).filterMap ((S z).cps[·]?) = z := by
    rw [show (S z).length = (S z).cps.size from rfl, e2]
  rw [e3]
def tRevO (g : Gs) (W : WX) (ev : Ev) : TE := fun σ H Q => tE g W false ev σ H fun x H1 => r1 g true revD x H1 Q
theorem pe_revO (x : XG X g) {W : WX} {ev : Ev} {e : Expr} {k : Nat} {p1 p2 p3 pos : Pos} (he : PE X e (tE g W false ev)) :
    PE X (.Subscript e (.Slice none none (some (.UnaryOp .USub (.Constant (.int 1) k p1) p2)) p3) pos) (tRevO g W ev) := by
  refine ⟨fun pins s σ H Q I h => ?_⟩
  refine Subscript_ (thn (he.run pins s σ H _ I h) fun v s1 ⟨y, H1, I1, ry, q1⟩ => ?_)
  obtain ⟨T, t, d1, d, a, h1, hf, kk⟩ := q1
  have hst : PO X (some (.UnaryOp .USub (.Constant (.int 1) k p1) p2)) (tPart (tUn (rU fun i => .int (-i)) (tC (.int 1)))) := po_some (pe_un un_neg pe_int)
  refine wpAny_Slice (thn (po_none.run pins s1 σ H1 (fun o H2 => o = none ∧ H2 = H1) I1 ⟨rfl, rfl⟩) fun vl s2 ⟨l, H2, I2, pl, el, e2⟩ => ?_)
  subst el e2
  refine thn (po_none.run pins s2 σ H2 (fun o H3 => o = none ∧ H3 = H2) I2 ⟨rfl, rfl⟩) fun vu s3 ⟨u, H3, I3, pu, eu, e3⟩ => ?_
  subst eu e3
  refine thn (hst.run pins s3 σ H3 (fun o H4 => o = some (-1) ∧ H4 = H3) I3 ⟨1, rfl, -1, rfl, rfl, rfl⟩) fun vs s4 ⟨o, H4, I4, ps, eo, e4⟩ => ?_
  subst eo e4
  have I5 : Inv X pins σ H4 { s4 with heap := s4.heap.push { cls := .type "slice", data := .fields #[vl, vu, vs] } } := I4.kept (t' := s4.toks) fun b ob q => Heap.get?_push_of_some _ q
  cases d1 with
  | lst ds =>
    cases hf
    obtain ⟨p, us, ex, c, r⟩ := h1
    subst ex
    cases ry
    obtain ⟨its, rr, ht, hz⟩ := I5.list (SqL.of (a.sub _ _ c))
    have hlen := rr.length
    show wpAny (model X.prog X.w) X.A (subscriptTail e (.Slice none none (some (.UnaryOp .USub (.Constant (.int 1) k p1) p2)) p3) (.ref p) (.ref s4.heap.objs.size)) (EP X pins σ Q) X.xe { s4 with heap := s4.heap.push { cls := .type "slice", data := .fields #[vl, vu, vs] } }
    refine tail_any (ops := [.ref p, .ref s4.heap.objs.size]) ht.isList.typeIs (PySem.slot_list_getitem.lookup) ?_ (by with_unfolding_all rfl)
    refine wpAny_getItem_list_slice ht.isList (Heap.IsSliceOf.new _ vl vu vs) pl pu ps (by decide) ?_ (by rw [List.size_toArray]; omega)
    rw [PySem.W.krv_pick]
    refine ⟨.ref _, _, I5.laid (t' := s4.toks) (o := .lst us.reverse) (fun b ob q => Heap.get?_push_of_some _ q) (Nat.le_refl _) ?_, rfl, kk _ _ (Post.newL a (I5.hok.fresh (Nat.le_refl _)) r.reverse)⟩
    exact ⟨by rw [List.length_reverse]; exact hz, _, 0, rr.reverse, Heap.get?_push_size _ rfl⟩
  | str z =>
    unfold revD at hf
    dsimp only at hf
    split at hf
    · rename_i hz
      cases hf
      rw [show y = .str (S z) from h1] at ry
      obtain ⟨tz, rfl⟩ := ry
      obtain ⟨l1, e1, e1'⟩ := IsPart.raw pl
      obtain ⟨u1, e2, e2'⟩ := IsPart.raw pu
      obtain ⟨w1, e3, e3'⟩ := IsPart.raw ps
      cases l1 <;> cases e1'
      cases u1 <;> cases e2'
      cases w1 with
      | none => cases e3'
      | some w1 =>
        obtain ⟨wi, wt⟩ := w1
        have ew : wi = -1 := (Option.some.inj (show some wi = some (-1) from e3'))
        subst ew
        refine tail_any (ops := [.str (S z) tz, .ref s4.heap.objs.size]) (T := "str") (typeIs_str _ _ _) F.slot_str_getitem.lookup ?_ (by with_unfolding_all rfl)
        refine wpAny_getItem_str_slice (l := none) (u := none) (st := some (-1, wt)) ⟨_, Heap.get?_push_size _ rfl, rfl, by rw [e1, e2, e3]⟩ rfl ?_
        rw [made_rev]
        exact ⟨by rw [S_len, List.length_reverse, sz]; exact hz, ⟨.str (S z.reverse), H4, I5.tok _, ⟨_, rfl⟩, kk _ _ (Post.val a rfl rfl)⟩⟩
    · cases hf
  | _ => cases hf

/-! ### functions -/
theorem rep1 {ds : List D} {vs : List V} {d : D} (e : ds = [d]) (r : RepL g T ds vs) : ∃ v, vs = [v] ∧ Rep g T d v := by
  subst e
  obtain ⟨v, r', e, h, hr⟩ := r
  exact ⟨v, by rw [e, show r' = [] from hr], h⟩
theorem rep2 {ds : List D} {vs : List V} {d e : D} (q : ds = [d, e]) (r : RepL g T ds vs) : ∃ v u, vs = [v, u] ∧ Rep g T d v ∧ Rep g T e u := by
  subst q
  obtain ⟨v, r', e, h, u, r2, e2, h2, hr⟩ := r
  exact ⟨v, u, by rw [e, e2, show r2 = [] from hr], h, h2⟩
def lenN : List D → Option D
  | [.str s] => if s.length ≤ SZ then some (.int s.length) else none
  | [.lst ds] => some (.int ds.length)
  | [.tup ds] => some (.int ds.length)
  | [.dic _ ks _] => some (.int ks.length)
  | _ => none
theorem cr_lenN (x : XG X g) : CallR X (.builtin "len") (rN g true lenN) := by
  intro pins s σ H xs us Q I rs h
  obtain ⟨T, t, ds, d, a, hr, hf, k⟩ := h
  unfold lenN at hf
  split at hf
  · split at hf
    · rename_i z hz
      cases hf
      obtain ⟨v, rfl, h1⟩ := rep1 rfl hr
      refine call_len pins s σ H _ us Q I rs ⟨v, z.length, rfl, ?_, k _ _ (Post.val a rfl rfl)⟩
      rw [show v = .str (S z) from h1]
      exact ⟨by rw [S_len, sz]; exact hz, (S_len z).symm⟩
    · cases hf
  · cases hf
    rename_i es
    obtain ⟨v, rfl, p, vs, rfl, c, r⟩ := rep1 rfl hr
    exact call_len pins s σ H _ us Q I rs ⟨_, es.length, rfl, .inl ⟨vs, SqL.of (a.sub _ _ c), r.length.symm⟩, k _ _ (Post.val a rfl rfl)⟩
  · cases hf
    rename_i es
    obtain ⟨v, rfl, p, vs, rfl, c, r⟩ := rep1 rfl hr
    exact call_len pins s σ H _ us Q I rs ⟨_, es.length, rfl, .inr ⟨vs, SqT.of (a.sub _ _ c), r.length.symm⟩, k _ _ (Post.val a rfl rfl)⟩
  · cases hf
    rename_i tk ks vs0
    obtain ⟨v, rfl, p, vs, rfl, r, h⟩ := rep1 rfl hr
    rcases h with ⟨_, kvs, hT, e1, e2⟩ | ⟨_, kvs, hT, e1, e2⟩
    · have el : ks.length = kvs.length := by rw [e1, List.length_map]
      exact call_lenD pins s σ H _ us Q I rs ⟨p, kvs, rfl, a.sub _ _ hT, by have := k _ _ (Post.val (fr := true) (d := .int ks.length) (v := .int ks.length) a rfl rfl); rw [el] at this; exact this⟩
    · have el : ks.length = kvs.length := by rw [e1, List.length_map]
      exact call_len_dT pins s σ H _ us Q I rs ⟨p, kvs, rfl, a.sub _ _ hT, by have := k _ _ (Post.val (fr := true) (d := .int ks.length) (v := .int ks.length) a rfl rfl); rw [el] at this; exact this⟩
  · cases hf
def absN : List D → Option D
  | [.int i] => some (.int (if i < 0 then -i else i))
  | _ => none
theorem cr_absN (x : XG X g) : CallR X (.builtin "abs") (rN g true absN) := by
  intro pins s σ H xs us Q I rs h
  obtain ⟨T, t, ds, d, a, hr, hf, k⟩ := h
  unfold absN at hf
  split at hf
  · cases hf
    obtain ⟨v, rfl, h1⟩ := rep1 rfl hr
    exact call_abs pins s σ H _ us Q I rs ⟨_, by rw [show v = _ from h1], k _ _ (Post.val a rfl rfl)⟩
  · cases hf
def intN : List D → Option D
  | [.int i] => some (.int i)
  | [.bl b] => some (.int (if b then 1 else 0))
  | [.str s] => if s.length ≤ 640 then (PySem.intText? (S s)).map .int else none
  | _ => none
theorem cr_intN (x : XG X g) : CallR X (.type "int") (rN g true intN) := by
  intro pins s σ H xs us Q I rs h
  obtain ⟨T, t, ds, d, a, hr, hf, k⟩ := h
  unfold intN at hf
  split at hf
  · cases hf
    obtain ⟨v, rfl, h1⟩ := rep1 rfl hr
    exact call_int1 pins s σ H _ us Q I rs (.inl ⟨_, by rw [show v = _ from h1], k _ _ (Post.val a rfl rfl)⟩)
  · cases hf
    obtain ⟨v, rfl, h1⟩ := rep1 rfl hr
    exact call_int1 pins s σ H _ us Q I rs (.inr ⟨_, by rw [show v = _ from h1], k _ _ (Post.val a rfl rfl)⟩)
  · split at hf
    · rename_i z hz
      obtain ⟨n, e1, e2⟩ := Option.map_eq_some_iff.mp hf
      subst e2
      obtain ⟨v, rfl, h1⟩ := rep1 rfl hr
      exact call_int_str pins s σ H _ us Q I rs ⟨S z, n, by rw [show v = _ from h1], e1, by rw [S_len]; exact hz, k _ _ (Post.val a rfl rfl)⟩
    · cases hf
  · cases hf
def strI (i : Int) : List Nat := (toString i).toList.map Char.toNat
def strN : List D → Option D
  | [.int i] => if i.natAbs.log2 < 1920 then some (.str (strI i)) else none
  | _ => none
theorem strI_S (i : Int) : S (strI i) = Str.ofString (toString i) := TL.ext_tl (by rw [TL.tl_ofString]; rfl)
theorem cr_strN (x : XG X g) : CallR X (.type "str") (rN g true strN) := by
  intro pins s σ H xs us Q I rs h
  obtain ⟨T, t, ds, d, a, hr, hf, k⟩ := h
  unfold strN at hf
  split at hf
  · split at hf
    · rename_i i hz
      cases hf
      obtain ⟨v, rfl, h1⟩ := rep1 rfl hr
      exact call_str_int pins s σ H _ us Q I rs ⟨_, by rw [show v = _ from h1], hz, by
        have z := k _ _ (Post.val (fr := true) (d := .str (strI i)) (v := .str (S (strI i))) a rfl rfl)
        rw [strI_S] at z
        exact z⟩
    · cases hf
  · cases hf
def tupN : List D → Option D
  | [.lst ds] => some (.tup ds)
  | [.tup ds] => some (.tup ds)
  | _ => none
theorem cr_tupN (x : XG X g) : CallR X (.type "tuple") (rN g true tupN) := by
  intro pins s σ H xs us Q I rs h
  obtain ⟨T, t, ds, d, a, hr, hf, k⟩ := h
  unfold tupN at hf
  split at hf
  · cases hf
    obtain ⟨v, rfl, p, vs, rfl, c, r⟩ := rep1 rfl hr
    exact call_tuple_of pins s σ H _ us Q I rs ⟨p, vs, rfl, .inl ⟨SqL.of (a.sub _ _ c), fun l hl => k _ _ (Post.newT a hl r)⟩⟩
  · cases hf
    obtain ⟨v, rfl, p, vs, rfl, c, r⟩ := rep1 rfl hr
    exact call_tuple_of pins s σ H _ us Q I rs ⟨p, vs, rfl, .inr ⟨SqT.of (a.sub _ _ c), k _ _ (Post.val a rfl ⟨p, vs, rfl, c, r⟩)⟩⟩
  · cases hf
def lstN : List D → Option D
  | [.lst ds] => some (.lst ds)
  | [.tup ds] => some (.lst ds)
  | [.dic false ks _] => some (.lst ks)
  | _ => none
theorem rep_kD : ∀ ks : List Key, RepL g T (ks.map kD) (ks.map kV)
  | [] => (rfl : ([] : List V) = [])
  | k :: ks => ⟨_, _, rfl, by cases k <;> exact rfl, rep_kD ks⟩
theorem cr_lstN (x : XG X g) : CallR X (.type "list") (rN g true lstN) := by
  intro pins s σ H xs us Q I rs h
  obtain ⟨T, t, ds, d, a, hr, hf, k⟩ := h
  unfold lstN at hf
  split at hf
  · cases hf
    obtain ⟨v, rfl, p, vs, rfl, c, r⟩ := rep1 rfl hr
    exact call_list_of pins s σ H _ us Q I rs ⟨p, vs, rfl, .inl (SqL.of (a.sub _ _ c)), fun l hl => k _ _ (Post.newL a hl r)⟩
  · cases hf
    obtain ⟨v, rfl, p, vs, rfl, c, r⟩ := rep1 rfl hr
    exact call_list_of pins s σ H _ us Q I rs ⟨p, vs, rfl, .inr (SqT.of (a.sub _ _ c)), fun l hl => k _ _ (Post.newL a hl r)⟩
  · cases hf
    obtain ⟨v, rfl, p, vs, rfl, r, h⟩ := rep1 rfl hr
    rcases h with ⟨_, kvs, hT, e1, e2⟩ | ⟨z, _⟩
    · refine call_list_dK x.calm pins s σ H _ us Q I rs ⟨p, kvs, rfl, a.sub _ _ hT, fun l hl => k _ _ (Post.newL a hl ?_)⟩
      rw [e1]
      have z := rep_kD (g := g) (T := T) (kvs.map (·.1))
      rw [List.map_map, List.map_map] at z
      exact z
    · cases z
  · cases hf
def sumN : List D → Option D
  | [.lst ds] => (intsOf ds).map fun ns => .int ns.sum
  | [.tup ds] => (intsOf ds).map fun ns => .int ns.sum
  | _ => none
theorem cr_sumN (x : XG X g) : CallR X (.builtin "sum") (rN g true sumN) := by
  intro pins s σ H xs us Q I rs h
  obtain ⟨T, t, ds, d, a, hr, hf, k⟩ := h
  unfold sumN at hf
  split at hf
  · obtain ⟨ns, e1, e2⟩ := Option.map_eq_some_iff.mp hf
    subst e2
    obtain ⟨v, rfl, p, vs, rfl, c, r⟩ := rep1 rfl hr
    exact cr_sum x.calm pins s σ H _ us Q I rs ⟨p, ns, rfl, SqL.of (by rw [← ints_rep r e1]; exact a.sub _ _ c), k _ _ (Post.val a rfl rfl)⟩
  · obtain ⟨ns, e1, e2⟩ := Option.map_eq_some_iff.mp hf
    subst e2
    obtain ⟨v, rfl, p, vs, rfl, c, r⟩ := rep1 rfl hr
    exact cr_sumT x.calm pins s σ H _ us Q I rs ⟨p, ns, rfl, SqT.of (by rw [← ints_rep r e1]; exact a.sub _ _ c), k _ _ (Post.val a rfl rfl)⟩
  · cases hf
/-- truth of bools and ints -/
def flg : List D → Option (List Bool)
  | [] => some []
  | .bl b :: ds => (flg ds).map (b :: ·)
  | .int i :: ds => (flg ds).map ((i != 0) :: ·)
  | _ :: _ => none
def anyN : List D → Option D
  | [.lst ds] => (flg ds).map fun ns => .bl (ns.any id)
  | [.tup ds] => (flg ds).map fun ns => .bl (ns.any id)
  | _ => none
def allN : List D → Option D
  | [.lst ds] => (flg ds).map fun ns => .bl (ns.all id)
  | [.tup ds] => (flg ds).map fun ns => .bl (ns.all id)
  | _ => none
theorem flg_len : ∀ {ds : List D} {bs : List Bool}, flg ds = some bs → ds.length = bs.length
  | [], _, h => by cases h; rfl
  | d :: ds, bs, h => by
    cases d <;> first | (cases h; done) | skip
    all_goals
      obtain ⟨ms, e1, e2⟩ := Option.map_eq_some_iff.mp h
      subst e2
      simp [flg_len e1]
theorem flg_get {T : Hp} : ∀ {ds : List D} {bs : List Bool} {vs : List V} {its : List Value} {i : Nat} {v : Value}, flg ds = some bs → RepL g T ds vs → Vals vs its → its[i]? = some v → (∃ b, v = .bool b ∧ bs.getD i false = b) ∨ ∃ n tk, v = .int n tk ∧ bs.getD i false = (n != 0)
  | [], _, vs, its, i, v, h, r, rv, hi => by
    rw [show vs = [] from r] at rv
    cases rv
    simp at hi
  | d :: ds, bs, vs, its, i, v, h, r, rv, hi => by
    obtain ⟨w, ws, e, h1, h2⟩ := r
    subst e
    cases rv with
    | cons ru rr =>
      cases d <;> first | (cases h; done) | skip
      · obtain ⟨ms, e1, e2⟩ := Option.map_eq_some_iff.mp h
        subst e2
        cases i with
        | zero =>
          simp at hi; subst hi
          rw [show w = _ from h1] at ru
          exact .inl ⟨_, ru, rfl⟩
        | succ i =>
          have q : (∃ b, v = .bool b ∧ ms.getD i false = b) ∨ ∃ n tk, v = .int n tk ∧ ms.getD i false = (n != 0) := flg_get (i := i) e1 h2 rr (by simpa using hi)
          exact q
      · obtain ⟨ms, e1, e2⟩ := Option.map_eq_some_iff.mp h
        subst e2
        cases i with
        | zero =>
          simp at hi; subst hi
          rw [show w = _ from h1] at ru
          obtain ⟨tk, ru⟩ := ru
          exact .inr ⟨_, tk, ru, rfl⟩
        | succ i =>
          have q : (∃ b, v = .bool b ∧ ms.getD i false = b) ∨ ∃ n tk, v = .int n tk ∧ ms.getD i false = (n != 0) := flg_get (i := i) e1 h2 rr (by simpa using hi)
          exact q
theorem truth_flg {prog : Program} {w : World} {A : Around} {T : Hp} {ds : List D} {bs : List Bool} {vs : List V} {its : List Value} (h : flg ds = some bs) (r : RepL g T ds vs) (rv : Vals vs its) :
    TruthOf prog w A (fun i v => its.toArray[i]? = some v) (fun i => bs.getD i false) := fun i v s Q E hv hq => by
  have hv' : its[i]? = some v := by simpa using hv
  have hq' : Q (bs.getD i false) s := hq
  rcases flg_get h r rv hv' with ⟨b, rfl, e⟩ | ⟨n, tk, rfl, e⟩
  · rw [e] at hq'; exact wpAny_truthy_bool hq'
  · rw [e] at hq'; exact PyProof.Rows.truthy_int hq'
theorem iter_anyT {prog : Program} {w : World} {A : Around} {E : Value → Shared → Prop} {s : Shared} {l : Addr} {items : Array Value} {Q : Value → Shared → Prop} (hl : s.heap.IsTuple l items)
    (h : ∀ s₂ : Shared, s₂ = { s with heap := s.heap.push { cls := .type "tuple_iterator", data := .fields #[.ref l, .int 0 0] } } →
      (s₂.heap.IsTupleIter s.heap.objs.size l 0 ∧ s₂.heap.IsTuple l items) → l ≠ s.heap.objs.size → Q (.ref s.heap.objs.size) s₂) : wpAny (model prog w) A (pyIter (.ref l)) Q E s := by
  have hlt : l < s.heap.objs.size := by obtain ⟨_, e, _⟩ := hl; exact Heap.lt_size e
  exact wpAny_pyIter_tuple hl (h _ rfl ⟨⟨_, Heap.get?_push_size _ rfl, rfl, rfl⟩, hl.at fun o e => Heap.get?_push_of_some _ e⟩ (Nat.ne_of_lt hlt))
theorem cr_anyF (x : XG X g) {T : Hp} {t : Tape} {ds : List D} {bs : List Bool} (hb : flg ds = some bs) : CallR X (.builtin "any") (fun vs H Q => ∃ (a : Addr) (us : List V), vs = [V.ref a] ∧ Ar g T H t ∧ RepL g T ds us ∧ (SqL X.K H a us ∨ SqT X.K H a us) ∧ Q (.bl (bs.any id)) H) := by
  intro pins s σ H vs us Q I r h
  obtain ⟨a, ws, rfl, ar, rr, hs, q⟩ := h
  rw [Vals.ref1 r]
  rcases hs with hs | hs
  · obtain ⟨its, rv, hl, _⟩ := I.list hs
    refine call_any_walk (iter_any hl.isList fun s₂ e2 st hne => ?_)
    subst e2
    refine ⟨_, _, _, _, _, _, _, rfl, Walks.list (A := X.A.in1) (I.ok.hd x.calm) _ a hne its.toArray, st, truth_flg hb rr rv, fun h' tk hk => ?_⟩
    refine ⟨.bl _, H, I.kept fun b o eo => hk b o (fun hmem => ?_) (Heap.get?_push_of_some _ eo), ?_, q⟩
    · rcases List.mem_cons.mp hmem with e1 | hmem
      · exact absurd (e1 ▸ Heap.lt_size eo) (Nat.lt_irrefl _)
      · cases hmem
    · show Value.bool _ = Value.bool _
      rw [← L2.any_range, List.size_toArray, ← rv.length, rr.length, flg_len hb]
  · obtain ⟨its, rv, hl, _⟩ := I.tuple hs
    refine call_any_walk (iter_anyT hl fun s₂ e2 st hne => ?_)
    subst e2
    refine ⟨_, _, _, _, _, _, _, rfl, Walks.tuple (A := X.A.in1) (I.ok.hd x.calm) _ a hne its.toArray, st, truth_flg hb rr rv, fun h' tk hk => ?_⟩
    refine ⟨.bl _, H, I.kept fun b o eo => hk b o (fun hmem => ?_) (Heap.get?_push_of_some _ eo), ?_, q⟩
    · rcases List.mem_cons.mp hmem with e1 | hmem
      · exact absurd (e1 ▸ Heap.lt_size eo) (Nat.lt_irrefl _)
      · cases hmem
    · show Value.bool _ = Value.bool _
      rw [← L2.any_range, List.size_toArray, ← rv.length, rr.length, flg_len hb]
theorem cr_anyN (x : XG X g) : CallR X (.builtin "any") (rN g true anyN) := by
  intro pins s σ H xs us Q I rs h
  obtain ⟨T, t, ds, d, a, hr, hf, k⟩ := h
  unfold anyN at hf
  split at hf
  · obtain ⟨ns, e1, e2⟩ := Option.map_eq_some_iff.mp hf
    subst e2
    obtain ⟨v, rfl, p, vs, rfl, c, r⟩ := rep1 rfl hr
    exact cr_anyF x e1 pins s σ H _ us Q I rs ⟨p, vs, rfl, a, r, .inl (SqL.of (a.sub _ _ c)), k _ _ (Post.val a rfl rfl)⟩
  · obtain ⟨ns, e1, e2⟩ := Option.map_eq_some_iff.mp hf
    subst e2
    obtain ⟨v, rfl, p, vs, rfl, c, r⟩ := rep1 rfl hr
    exact cr_anyF x e1 pins s σ H _ us Q I rs ⟨p, vs, rfl, a, r, .inr (SqT.of (a.sub _ _ c)), k _ _ (Post.val a rfl rfl)⟩
  · cases hf
theorem cr_allF (x : XG X g) {T : Hp} {t : Tape} {ds : List D} {bs : List Bool} (hb : flg ds = some bs) : CallR X (.builtin "all") (fun vs H Q => ∃ (a : Addr) (us : List V), vs = [V.ref a] ∧ Ar g T H t ∧ RepL g T ds us ∧ (SqL X.K H a us ∨ SqT X.K H a us) ∧ Q (.bl (bs.all id)) H) := by
  intro pins s σ H vs us Q I r h
  obtain ⟨a, ws, rfl, ar, rr, hs, q⟩ := h
  rw [Vals.ref1 r]
  rcases hs with hs | hs
  · obtain ⟨its, rv, hl, _⟩ := I.list hs
    refine call_all_walk (iter_any hl.isList fun s₂ e2 st hne => ?_)
    subst e2
    refine ⟨_, _, _, _, _, _, _, rfl, Walks.list (A := X.A.in1) (I.ok.hd x.calm) _ a hne its.toArray, st, truth_flg hb rr rv, fun h' tk hk => ?_⟩
    refine ⟨.bl _, H, I.kept fun b o eo => hk b o (fun hmem => ?_) (Heap.get?_push_of_some _ eo), ?_, q⟩
    · rcases List.mem_cons.mp hmem with e1 | hmem
      · exact absurd (e1 ▸ Heap.lt_size eo) (Nat.lt_irrefl _)
      · cases hmem
    · show Value.bool _ = Value.bool _
      rw [← L2.all_range, List.size_toArray, ← rv.length, rr.length, flg_len hb]
  · obtain ⟨its, rv, hl, _⟩ := I.tuple hs
    refine call_all_walk (iter_anyT hl fun s₂ e2 st hne => ?_)
    subst e2
    refine ⟨_, _, _, _, _, _, _, rfl, Walks.tuple (A := X.A.in1) (I.ok.hd x.calm) _ a hne its.toArray, st, truth_flg hb rr rv, fun h' tk hk => ?_⟩
    refine ⟨.bl _, H, I.kept fun b o eo => hk b o (fun hmem => ?_) (Heap.get?_push_of_some _ eo), ?_, q⟩
    · rcases List.mem_cons.mp hmem with e1 | hmem
      · exact absurd (e1 ▸ Heap.lt_size eo) (Nat.lt_irrefl _)
      · cases hmem
    · show Value.bool _ = Value.bool _
      rw [← L2.all_range, List.size_toArray, ← rv.length, rr.length, flg_len hb]
theorem cr_allN (x : XG X g) : CallR X (.builtin "all") (rN g true allN) := by
  intro pins s σ H xs us Q I rs h
  obtain ⟨T, t, ds, d, a, hr, hf, k⟩ := h
  unfold allN at hf
  split at hf
  · obtain ⟨ns, e1, e2⟩ := Option.map_eq_some_iff.mp hf
    subst e2
    obtain ⟨v, rfl, p, vs, rfl, c, r⟩ := rep1 rfl hr
    exact cr_allF x e1 pins s σ H _ us Q I rs ⟨p, vs, rfl, a, r, .inl (SqL.of (a.sub _ _ c)), k _ _ (Post.val a rfl rfl)⟩
  · obtain ⟨ns, e1, e2⟩ := Option.map_eq_some_iff.mp hf
    subst e2
    obtain ⟨v, rfl, p, vs, rfl, c, r⟩ := rep1 rfl hr
    exact cr_allF x e1 pins s σ H _ us Q I rs ⟨p, vs, rfl, a, r, .inr (SqT.of (a.sub _ _ c)), k _ _ (Post.val a rfl rfl)⟩
  · cases hf
/-- the greatest, the least -/
def maxL : Int → List Int → Int
  | m, [] => m
  | m, n :: ns => maxL (if m < n then n else m) ns
def minL : Int → List Int → Int
  | m, [] => m
  | m, n :: ns => minL (if n < m then n else m) ns
theorem maxL_ge : ∀ (ns : List Int) (m : Int), m ≤ maxL m ns ∧ (∀ y ∈ ns, y ≤ maxL m ns) ∧ (maxL m ns = m ∨ maxL m ns ∈ ns)
  | [], m => ⟨Int.le_refl _, by simp, .inl rfl⟩
  | n :: ns, m => by
    obtain ⟨h1, h2, h3⟩ := maxL_ge ns (if m < n then n else m)
    unfold maxL
    by_cases hc : m < n
    · rw [if_pos hc] at h1 h2 h3 ⊢
      refine ⟨by omega, fun y hy => ?_, ?_⟩
      · rcases List.mem_cons.mp hy with e | hy
        · rw [e]; exact h1
        · exact h2 y hy
      · rcases h3 with e | e
        · exact .inr (by rw [e]; simp)
        · exact .inr (List.mem_cons_of_mem _ e)
    · rw [if_neg hc] at h1 h2 h3 ⊢
      refine ⟨h1, fun y hy => ?_, ?_⟩
      · rcases List.mem_cons.mp hy with e | hy
        · rw [e]; omega
        · exact h2 y hy
      · rcases h3 with e | e
        · exact .inl e
        · exact .inr (List.mem_cons_of_mem _ e)
theorem minL_le : ∀ (ns : List Int) (m : Int), minL m ns ≤ m ∧ (∀ y ∈ ns, minL m ns ≤ y) ∧ (minL m ns = m ∨ minL m ns ∈ ns)
  | [], m => ⟨Int.le_refl _, by simp, .inl rfl⟩
  | n :: ns, m => by
    obtain ⟨h1, h2, h3⟩ := minL_le ns (if n < m then n else m)
    unfold minL
    by_cases hc : n < m
    · rw [if_pos hc] at h1 h2 h3 ⊢
      refine ⟨by omega, fun y hy => ?_, ?_⟩
      · rcases List.mem_cons.mp hy with e | hy
        · rw [e]; exact h1
        · exact h2 y hy
      · rcases h3 with e | e
        · exact .inr (by rw [e]; simp)
        · exact .inr (List.mem_cons_of_mem _ e)
    · rw [if_neg hc] at h1 h2 h3 ⊢
      refine ⟨h1, fun y hy => ?_, ?_⟩
      · rcases List.mem_cons.mp hy with e | hy
        · rw [e]; omega
        · exact h2 y hy
      · rcases h3 with e | e
        · exact .inl e
        · exact .inr (List.mem_cons_of_mem _ e)
def maxN : List D → Option D
  | [.int i, .int j] => some (.int (if j > i then j else i))
  | [.lst ds] => match intsOf ds with
    | some (n :: ns) => some (.int (maxL n ns))
    | _ => none
  | [.tup ds] => match intsOf ds with
    | some (n :: ns) => some (.int (maxL n ns))
    | _ => none
  | _ => none
def minN : List D → Option D
  | [.int i, .int j] => some (.int (if j < i then j else i))
  | [.lst ds] => match intsOf ds with
    | some (n :: ns) => some (.int (minL n ns))
    | _ => none
  | [.tup ds] => match intsOf ds with
    | some (n :: ns) => some (.int (minL n ns))
    | _ => none
  | _ => none
theorem cr_maxN (x : XG X g) : CallR X (.builtin "max") (rN g true maxN) := by
  intro pins s σ H xs us Q I rs h
  obtain ⟨T, t, ds, d, a, hr, hf, k⟩ := h
  unfold maxN at hf
  split at hf
  · cases hf
    obtain ⟨v, u, rfl, h1, h2⟩ := rep2 rfl hr
    exact call_max2 x.calm pins s σ H _ us Q I rs ⟨_, _, by rw [show v = _ from h1, show u = _ from h2], k _ _ (Post.val a rfl rfl)⟩
  · split at hf
    · rename_i n ns e1
      cases hf
      obtain ⟨v, rfl, p, vs, rfl, c, r⟩ := rep1 rfl hr
      refine cr_max x.calm pins s σ H _ us Q I rs ⟨p, n :: ns, rfl, SqL.of (by rw [← ints_rep r e1]; exact a.sub _ _ c), by simp, fun m hm hy => ?_⟩
      obtain ⟨g1, g2, g3⟩ := maxL_ge ns n
      have e : m = maxL n ns := by
        have q1 : maxL n ns ≤ m := by
          rcases g3 with e | e
          · rw [e]; exact hy _ (by simp)
          · exact hy _ (List.mem_cons_of_mem _ e)
        have q2 : m ≤ maxL n ns := by
          rcases List.mem_cons.mp hm with e | e
          · rw [e]; exact g1
          · exact g2 _ e
        omega
      rw [e]
      exact k _ _ (Post.val a rfl rfl)
    · cases hf
  · split at hf
    · rename_i n ns e1
      cases hf
      obtain ⟨v, rfl, p, vs, rfl, c, r⟩ := rep1 rfl hr
      refine cr_maxT x.calm pins s σ H _ us Q I rs ⟨p, n :: ns, rfl, SqT.of (by rw [← ints_rep r e1]; exact a.sub _ _ c), by simp, fun m hm hy => ?_⟩
      obtain ⟨g1, g2, g3⟩ := maxL_ge ns n
      have e : m = maxL n ns := by
        have q1 : maxL n ns ≤ m := by
          rcases g3 with e | e
          · rw [e]; exact hy _ (by simp)
          · exact hy _ (List.mem_cons_of_mem _ e)
        have q2 : m ≤ maxL n ns := by
          rcases List.mem_cons.mp hm with e | e
          · rw [e]; exact g1
          · exact g2 _ e
        omega
      rw [e]
      exact k _ _ (Post.val a rfl rfl)
    · cases hf
  · cases hf
theorem cr_minN (x : XG X g) : CallR X (.builtin "min") (rN g true minN) := by
  intro pins s σ H xs us Q I rs h
  obtain ⟨T, t, ds, d, a, hr, hf, k⟩ := h
  unfold minN at hf
  split at hf
  · cases hf
    obtain ⟨v, u, rfl, h1, h2⟩ := rep2 rfl hr
    exact call_min2 x.calm pins s σ H _ us Q I rs ⟨_, _, by rw [show v = _ from h1, show u = _ from h2], k _ _ (Post.val a rfl rfl)⟩
  · split at hf
    · rename_i n ns e1
      cases hf
      obtain ⟨v, rfl, p, vs, rfl, c, r⟩ := rep1 rfl hr
      refine cr_min x.calm pins s σ H _ us Q I rs ⟨p, n :: ns, rfl, SqL.of (by rw [← ints_rep r e1]; exact a.sub _ _ c), by simp, fun m hm hy => ?_⟩
      obtain ⟨g1, g2, g3⟩ := minL_le ns n
      have e : m = minL n ns := by
        have q1 : m ≤ minL n ns := by
          rcases g3 with e | e
          · rw [e]; exact hy _ (by simp)
          · exact hy _ (List.mem_cons_of_mem _ e)
        have q2 : minL n ns ≤ m := by
          rcases List.mem_cons.mp hm with e | e
          · rw [e]; exact g1
          · exact g2 _ e
        omega
      rw [e]
      exact k _ _ (Post.val a rfl rfl)
    · cases hf
  · split at hf
    · rename_i n ns e1
      cases hf
      obtain ⟨v, rfl, p, vs, rfl, c, r⟩ := rep1 rfl hr
      refine cr_minT x.calm pins s σ H _ us Q I rs ⟨p, n :: ns, rfl, SqT.of (by rw [← ints_rep r e1]; exact a.sub _ _ c), by simp, fun m hm hy => ?_⟩
      obtain ⟨g1, g2, g3⟩ := minL_le ns n
      have e : m = minL n ns := by
        have q1 : m ≤ minL n ns := by
          rcases g3 with e | e
          · rw [e]; exact hy _ (by simp)
          · exact hy _ (List.mem_cons_of_mem _ e)
        have q2 : minL n ns ≤ m := by
          rcases List.mem_cons.mp hm with e | e
          · rw [e]; exact g1
          · exact g2 _ e
        omega
      rw [e]
      exact k _ _ (Post.val a rfl rfl)
    · cases hf
  · cases hf
/-- in order -/
def insB {α : Type} (le : α → α → Bool) (x : α) : List α → List α
  | [] => [x]
  | y :: ys => if le x y then x :: y :: ys else y :: insB le x ys
def srtB {α : Type} (le : α → α → Bool) : List α → List α
  | [] => []
  | x :: xs => insB le x (srtB le xs)
theorem insB_perm {α : Type} (le : α → α → Bool) (x : α) : ∀ l : List α, (insB le x l).Perm (x :: l)
  | [] => List.Perm.refl _
  | y :: ys => by
    unfold insB
    split
    · exact List.Perm.refl _
    · exact (List.Perm.cons y (insB_perm le x ys)).trans (List.Perm.swap x y ys)
theorem srtB_perm {α : Type} (le : α → α → Bool) : ∀ l : List α, (srtB le l).Perm l
  | [] => List.Perm.refl _
  | x :: xs => (insB_perm le x _).trans (List.Perm.cons x (srtB_perm le xs))
theorem insB_sorted {α : Type} {le : α → α → Bool} (tot : ∀ a b, le a b = true ∨ le b a = true) (tr : ∀ a b c, le a b = true → le b c = true → le a c = true) (x : α) : ∀ l : List α, l.Pairwise (fun a b => le a b = true) → (insB le x l).Pairwise (fun a b => le a b = true)
  | [], _ => by simp [insB]
  | y :: ys, h => by
    unfold insB
    obtain ⟨h1, h2⟩ := List.pairwise_cons.mp h
    split
    · rename_i c
      refine List.pairwise_cons.mpr ⟨fun b hb => ?_, h⟩
      rcases List.mem_cons.mp hb with e | hb
      · rw [e]; exact c
      · exact tr _ _ _ c (h1 b hb)
    · rename_i c
      refine List.pairwise_cons.mpr ⟨fun b hb => ?_, insB_sorted tot tr x ys h2⟩
      rcases List.mem_cons.mp ((insB_perm le x ys).mem_iff.mp hb) with e | hb
      · rw [e]; rcases tot x y with z | z
        · exact absurd z c
        · exact z
      · exact h1 b hb
theorem srtB_sorted {α : Type} {le : α → α → Bool} (tot : ∀ a b, le a b = true ∨ le b a = true) (tr : ∀ a b c, le a b = true → le b c = true → le a c = true) : ∀ l : List α, (srtB le l).Pairwise (fun a b => le a b = true)
  | [] => by simp [srtB]
  | x :: xs => insB_sorted tot tr x _ (srtB_sorted tot tr xs)
theorem sorted_eq {α : Type} {le : α → α → Bool} (anti : ∀ a b, le a b = true → le b a = true → a = b) : ∀ {l m : List α}, l.Perm m → l.Pairwise (fun a b => le a b = true) → m.Pairwise (fun a b => le a b = true) → l = m
  | [], m, p, _, _ => (List.Perm.nil_eq p)
  | x :: xs, [], p, _, _ => absurd p.length_eq (by simp)
  | x :: xs, y :: ys, p, h, k => by
    obtain ⟨h1, h2⟩ := List.pairwise_cons.mp h
    obtain ⟨k1, k2⟩ := List.pairwise_cons.mp k
    have e : x = y := by
      rcases List.mem_cons.mp (p.mem_iff.mp (List.mem_cons_self ..)) with e | hx
      · exact e
      · rcases List.mem_cons.mp (p.mem_iff.mpr (List.mem_cons_self ..)) with e | hy
        · exact e.symm
        · exact anti _ _ (h1 y hy) (k1 x hx)
    subst e
    rw [sorted_eq anti (List.Perm.cons_inv p) h2 k2]
def leI (a b : Int) : Bool := decide (a ≤ b)
def sortI (ns : List Int) : List Int := srtB leI ns
def leS (a b : List Nat) : Bool := !decide (b < a)
def sortS (ns : List (List Nat)) : List (List Nat) := srtB leS ns
def sortedO (ds : List D) : Option D := match intsOf ds with
  | some ns => some (.lst ((sortI ns).map .int))
  | none => match strsOf ds with
    | some ss => if ss.length < 64 then some (.lst ((sortS ss).map .str)) else none
    | none => none
def sortedN : List D → Option D
  | [.lst ds] => match sortedO ds with
    | some r => some r
    | none => sortTD ds
  | [.dic false ks _] => if ks.length < 64 then sortedO ks else none
  | _ => none
theorem S_tl (y : Str) : S (TL.tl y) = y := by
  cases y with
  | mk a => simp [S, TL.tl]
theorem tl_S (a : List Nat) : TL.tl (S a) = a := by simp [S, TL.tl]
theorem leS_iff {a b : List Nat} : leS a b = true ↔ a ≤ b := by
  unfold leS
  simp [List.not_lt]
theorem rising_pair : ∀ (l : List Str) (p : Str), PyProof.Rows.risingS p l = true → ((p :: l).map TL.tl).Pairwise (fun a b => leS a b = true)
  | [], p, _ => by simp
  | x :: r, p, h => by
    have h : (!ltCps x.cps.toList p.cps.toList && PyProof.Rows.risingS x r) = true := h
    simp only [Bool.and_eq_true, Bool.not_eq_true'] at h
    have ih := rising_pair r x h.2
    have hp : leS (TL.tl p) (TL.tl x) = true := by
      have := h.1
      rw [PyProof.Rows.ltCps_eq] at this
      unfold leS
      show (!decide (x.cps.toList < p.cps.toList)) = true
      rw [this]; rfl
    rw [List.map_cons, List.pairwise_cons]
    refine ⟨fun b hb => ?_, ih⟩
    rw [List.map_cons] at hb
    rcases List.mem_cons.mp hb with e | e
    · rw [e]; exact hp
    · rw [List.map_cons, List.pairwise_cons] at ih
      have h2 := ih.1 b e
      rw [leS_iff] at hp h2 ⊢
      exact List.le_trans hp h2
theorem sorted_strs {ys : List Str} {ss : List (List Nat)} (hp : ys.Perm (ss.map S)) (hs : PyProof.Rows.sortedS ys = true) : ys = (sortS ss).map S := by
  have e1 : ys = (ys.map TL.tl).map S := by
    rw [List.map_map]
    conv => lhs; rw [← List.map_id ys]
    exact List.map_congr_left fun y _ => (S_tl y).symm
  have p2 : (ys.map TL.tl).Perm ss := by
    have := hp.map TL.tl
    rw [List.map_map] at this
    have e : ss.map (TL.tl ∘ S) = ss := by
      conv => rhs; rw [← List.map_id ss]
      exact List.map_congr_left fun a _ => tl_S a
    rw [e] at this; exact this
  have p3 : (ys.map TL.tl).Pairwise (fun a b => leS a b = true) := by
    cases ys with
    | nil => simp
    | cons y r => exact rising_pair r y hs
  have e2 : ys.map TL.tl = sortS ss := by
    refine sorted_eq (le := leS) (fun a b h1 h2 => ?_) (p2.trans (srtB_perm leS ss).symm) p3 (srtB_sorted (fun a b => ?_) (fun a b c h1 h2 => ?_) ss)
    · rw [leS_iff] at h1 h2; exact List.le_antisymm h1 h2
    · rw [leS_iff, leS_iff]; exact List.le_total a b
    · rw [leS_iff] at h1 h2 ⊢; exact List.le_trans h1 h2
  rw [e2] at e1
  exact e1
theorem sorted_ints {ns' ns : List Int} (hp : ns'.Perm ns) (hs : ns'.Pairwise (· ≤ ·)) : ns' = sortI ns := by
  refine sorted_eq (le := leI) (fun a b h1 h2 => ?_) (hp.trans (srtB_perm leI ns).symm) (hs.imp fun h => by simpa [leI] using h) (srtB_sorted (fun a b => ?_) (fun a b c h1 h2 => ?_) ns)
  · simp only [leI, decide_eq_true_eq] at h1 h2; omega
  · simp only [leI, decide_eq_true_eq]; omega
  · simp only [leI, decide_eq_true_eq] at h1 h2 ⊢; omega
theorem keys_ints : ∀ {kvs : List (Key × V)} {ns : List Int}, intsOf (kvs.map fun p => kD p.1) = some ns → kvs.map (·.1) = ns.map Sum.inl
  | [], ns, h => by cases h; rfl
  | p :: kvs, ns, h => by
    rw [List.map_cons] at h
    cases hk : p.1 with
    | inl i =>
      rw [hk] at h
      obtain ⟨ms, e1, e2⟩ := Option.map_eq_some_iff.mp (show (intsOf (kvs.map fun p => kD p.1)).map (i :: ·) = some ns from h)
      subst e2
      rw [List.map_cons, List.map_cons, hk, keys_ints e1]
    | inr x => rw [hk] at h; cases h
theorem keys_strs : ∀ {kvs : List (Key × V)} {ss : List (List Nat)}, strsOf (kvs.map fun p => kD p.1) = some ss → kvs.map (·.1) = (ss.map S).map Sum.inr
  | [], ns, h => by cases h; rfl
  | p :: kvs, ns, h => by
    rw [List.map_cons] at h
    cases hk : p.1 with
    | inl i => rw [hk] at h; cases h
    | inr x =>
      rw [hk] at h
      obtain ⟨ms, e1, e2⟩ := Option.map_eq_some_iff.mp (show (strsOf (kvs.map fun p => kD p.1)).map (x.cps.toList :: ·) = some ns from h)
      subst e2
      rw [List.map_cons, List.map_cons, List.map_cons, hk, keys_strs e1]
theorem cr_sortedN (x : XG X g) : CallR X (.builtin "sorted") (rN g true sortedN) := by
  intro pins s σ H xs us Q I rs h
  obtain ⟨T, t, ds, d, a, hr, hf, k⟩ := h
  unfold sortedN at hf
  split at hf
  · rename_i ds0
    obtain ⟨v, rfl, p, vs, rfl, c, r⟩ := rep1 rfl hr
    split at hf
    · rename_i r0 hf0
      cases hf
      have hf := hf0
      unfold sortedO at hf
      split at hf
      · rename_i ns e1
        cases hf
        refine cr_sortedI pins s σ H _ us Q I rs ⟨p, ns, rfl, SqL.of (by rw [← ints_rep r e1]; exact a.sub _ _ c), fun ns' q hp hs hq => ?_⟩
        rw [sorted_ints hp hs]
        exact k _ _ (Post.newL a hq (rep_ints _))
      · split at hf
        · rename_i ss e1
          split at hf
          · rename_i hl
            cases hf
            refine cr_sortedS pins s σ H _ us Q I rs ⟨p, ss.map S, rfl, SqL.of (by rw [← strs_rep r e1]; exact a.sub _ _ c), by rw [List.length_map]; exact hl, fun ys q hp hs hq => ?_⟩
            rw [sorted_strs hp hs]
            exact k _ _ (Post.newL a hq (rep_strs _))
          · cases hf
        · cases hf
    · refine cr_sortTD (g := g) (T := T) (t := t) (ds := ds0) (r := d) hf pins s σ H _ us Q I rs ⟨p, vs, rfl, a, SqL.of (a.sub _ _ c), r, fun q os hq ⟨es, e1, r2⟩ => ?_⟩
      subst e1
      exact k _ _ (Post.newL a hq r2)
  · rename_i ks vs0
    split at hf
    · rename_i hl
      obtain ⟨v, rfl, p, vs, rfl, r, hh⟩ := rep1 rfl hr
      rcases hh with ⟨_, kvs, hT, q1, q2⟩ | ⟨z, _⟩
      · subst q1
        unfold sortedO at hf
        split at hf
        · rename_i ns e1
          cases hf
          have ek := keys_ints e1
          refine call_sortedDI x.calm pins s σ H _ us Q I rs ⟨p, kvs, ns, rfl, .inl (a.sub _ _ hT), ek, ?_, fun ns' q hp hs hq => ?_⟩
          · have := congrArg List.length ek
            rw [List.length_map, List.length_map] at this
            rw [List.length_map] at hl; omega
          · rw [sorted_ints hp hs]
            exact k _ _ (Post.newL a hq (rep_ints _))
        · split at hf
          · rename_i ss e1
            split at hf
            · cases hf
              have ek := keys_strs e1
              refine call_sortedD x.calm pins s σ H _ us Q I rs ⟨p, kvs, ss.map S, rfl, .inl (a.sub _ _ hT), ek, ?_, fun ys q hp hs hq => ?_⟩
              · rw [List.length_map]; assumption
              · rw [sorted_strs hp hs]
                exact k _ _ (Post.newL a hq (rep_strs _))
            · cases hf
          · cases hf
      · cases z
    · cases hf
  · cases hf
/-! ### methods -/
def countS : D → List D → Option D
  | .str a, [.str [c]] => some (.int (a.count c : Nat))
  | _, _ => none
def countI : D → List D → Option D
  | .lst ds, [.int k] => (intsOf ds).map fun ns => .int (ns.count k : Nat)
  | .lst ds, [.str k] => (strsOf ds).map fun ns => .int (ns.count k : Nat)
  | _, _ => none
def joinM : D → List D → Option D
  | .str a, [.lst ds] => match strsOf ds with
    | some ys => if (ys.map (·.length)).sum + ys.length * a.length ≤ SZ then some (.str (TL.joinL a ys)) else none
    | none => none
  | .str a, [.tup ds] => match strsOf ds with
    | some ys => if (ys.map (·.length)).sum + ys.length * a.length ≤ SZ then some (.str (TL.joinL a ys)) else none
    | none => none
  | _, _ => none
def rM (g : Gs) (fr : Bool) (f : D → List D → Option D) : V → List V → Hp → VK → Prop := fun x xs H Q => ∃ T t d0 ds d, Ar g T H t ∧ Rep g T d0 x ∧ RepL g T ds xs ∧ f d0 ds = some d ∧ ∀ v H', Post g fr T H t d v H' → Q v H'
theorem mt_joinM (x : XG X g) : MtR X "str.join" (rM g true joinM) := by
  intro pins s σ H x' xs v us Q I rx rs h
  obtain ⟨T, t, d0, ds, d, a, h0, hr, hf, k⟩ := h
  have lens : ∀ ys : List (List Nat), ((ys.map S).map (·.length)).sum = (ys.map (·.length)).sum := fun ys => by
    rw [List.map_map]; exact congrArg List.sum (List.map_congr_left fun y _ => S_len y)
  unfold joinM at hf
  split at hf
  · split at hf
    · rename_i ys e1
      split at hf
      · rename_i hz
        cases hf
        obtain ⟨w, rfl, p, vs, rfl, c, r⟩ := rep1 rfl hr
        refine mt_join pins s σ H _ _ v us Q I rx rs ⟨_, p, ys.map S, h0, rfl, .inl (SqL.of (by rw [← strs_rep r e1]; exact a.sub _ _ c)), by rw [lens, List.length_map, S_len]; exact hz, ?_⟩
        rw [SX.join_S]
        exact k _ _ (Post.val a rfl rfl)
      · cases hf
    · cases hf
  · split at hf
    · rename_i ys e1
      split at hf
      · rename_i hz
        cases hf
        obtain ⟨w, rfl, p, vs, rfl, c, r⟩ := rep1 rfl hr
        refine mt_join pins s σ H _ _ v us Q I rx rs ⟨_, p, ys.map S, h0, rfl, .inr (SqT.of (by rw [← strs_rep r e1]; exact a.sub _ _ c)), by rw [lens, List.length_map, S_len]; exact hz, ?_⟩
        rw [SX.join_S]
        exact k _ _ (Post.val a rfl rfl)
      · cases hf
    · cases hf
  · cases hf
theorem mt_countS (x : XG X g) : MtR X "str.count" (rM g true countS) := by
  intro pins s σ H x' xs v us Q I rx rs h
  obtain ⟨T, t, d0, ds, d, a, h0, hr, hf, k⟩ := h
  unfold countS at hf
  split at hf
  · cases hf
    obtain ⟨w, rfl, h1⟩ := rep1 rfl hr
    refine mt_count pins s σ H _ _ v us Q I rx rs ⟨_, _, h0, by rw [show w = _ from h1], ?_⟩
    rw [count_S]
    exact k _ _ (Post.val a rfl rfl)
  · cases hf
/-- a list's texts counted -/
def eqSt (k : Str) (v : Value) : Bool := match v with
  | .str n _ => n == k
  | _ => false
theorem eqSt_gives {k : Str} {t : Tok} : ∀ {us : List Value} {ns : List (List Nat)}, Vals ((ns.map S).map V.str) us → ∀ y ∈ us, MeetsSeq.EqGives y (.str k t) (eqSt k y)
  | _, [], .nil => fun y hy => by cases hy
  | _, n :: ns, .cons r h => fun y hy => by
    obtain ⟨t', rfl⟩ := r
    rcases List.mem_cons.mp hy with e | e
    · rw [e]
      exact PyProof.Rows.eqGives_str (S n) k t' t
    · exact eqSt_gives h y e
theorem eqSt_count {k : List Nat} : ∀ {us : List Value} {ns : List (List Nat)}, Vals ((ns.map S).map V.str) us → us.countP (eqSt (S k)) = ns.count k
  | _, [], .nil => rfl
  | _, n :: ns, .cons r h => by
    obtain ⟨t', rfl⟩ := r
    have ih := eqSt_count (k := k) h
    rw [List.countP_cons, List.count_cons, ih]
    show _ + (if (S n == S k) = true then 1 else 0) = _
    rw [S_beq]
theorem mt_lcountS : MtR X "list.count" (fun x xs H Q => ∃ (p : Addr) (ns : List (List Nat)) (k : List Nat), x = .ref p ∧ xs = [.str (S k)] ∧ SqL X.K H p ((ns.map S).map V.str) ∧ Q (.int (ns.count k : Nat)) H) := by
  intro pins s σ H x xs v us Q I rx rxs h
  obtain ⟨p, ns, k, rfl, rfl, hs, q⟩ := h
  cases rx
  obtain ⟨u, rfl, ru⟩ := rxs.one
  obtain ⟨t, rfl⟩ := ru
  obtain ⟨its, rv, ⟨⟨cls, dd, data, sl⟩, n, ho, hc, hdn, hd⟩, hlen⟩ := I.list hs
  simp only at hc hd
  subst hc hd
  refine call_meets PySem.F.slot_list_count ⟨_, ho, rfl⟩ PySem.F.entry_list_count (PySem.F.args_list_count_2 _ _)
    (SeqAt.list_countAt p its.toArray n dd sl (.str (S k) t) (eqSt (S k))) ⟨ho, fun y hy => (eqSt_gives rv y (by simpa using hy)).at _ _, ?_⟩
  have ec : its.toArray.toList.countP (eqSt (S k)) = ns.count k := eqSt_count rv
  refine ⟨.int (ns.count k : Nat), H, I.tok _, ⟨s.toks, ?_⟩, q⟩
  show Value.int ((its.toArray.toList.countP (eqSt (S k)) : Nat) : Int) s.toks = Value.int ((ns.count k : Nat) : Int) s.toks
  rw [ec]
theorem mt_countI (x : XG X g) : MtR X "list.count" (rM g true countI) := by
  intro pins s σ H x' xs v us Q I rx rs h
  obtain ⟨T, t, d0, ds, d, a, h0, hr, hf, k⟩ := h
  unfold countI at hf
  split at hf
  · obtain ⟨ns, e1, e2⟩ := Option.map_eq_some_iff.mp hf
    subst e2
    obtain ⟨w, rfl, h1⟩ := rep1 rfl hr
    obtain ⟨p, vs, rfl, c, r⟩ := h0
    exact mt_lcount pins s σ H _ _ v us Q I rx rs ⟨p, ns, _, rfl, by rw [show w = _ from h1], SqL.of (by rw [← ints_rep r e1]; exact a.sub _ _ c), k _ _ (Post.val a rfl rfl)⟩
  · obtain ⟨ns, e1, e2⟩ := Option.map_eq_some_iff.mp hf
    subst e2
    obtain ⟨w, rfl, h1⟩ := rep1 rfl hr
    obtain ⟨p, vs, rfl, c, r⟩ := h0
    exact mt_lcountS pins s σ H _ _ v us Q I rx rs ⟨p, ns, _, rfl, by rw [show w = _ from h1], SqL.of (by rw [← strs_rep r e1]; exact a.sub _ _ c), k _ _ (Post.val a rfl rfl)⟩
  · cases hf
/-- the place of the first like item -/
def idxL (d : D) : List D → Nat → Option Nat
  | [], _ => none
  | x :: xs, i => if eqB x d then some i else idxL d xs (i + 1)
def indexM : D → List D → Option D
  | .lst ds, [d] => if flatB d && ds.all flatB then (idxL d ds 0).map fun i => .int (i : Nat) else none
  | _, _ => none
theorem idxL_ok {g : Gs} {T : Hp} {d : D} {v : V} (fd : flatB d = true) (r : Rep g T d v) : ∀ {ds : List D} {vs : List V} {i j : Nat}, ds.all flatB = true → RepL g T ds vs → idxL d ds i = some j → ∃ m z, j = i + m ∧ vs[m]? = some z ∧ eqV z v = true ∧ ∀ (n : Nat) (z' : V), n < m → vs[n]? = some z' → eqV z' v = false
  | [], _, _, _, _, _, e => by cases e
  | x :: ds, _, i, j, f, ⟨u, us, e1, h1, h2⟩, e => by
    subst e1
    simp only [List.all_cons, Bool.and_eq_true] at f
    have q := eqV_B f.1 fd h1 r
    unfold idxL at e
    cases hb : eqB x d with
    | true =>
      rw [hb] at e
      cases e
      exact ⟨0, u, rfl, rfl, by rw [q, hb], fun n z hn => (by omega)⟩
    | false =>
      rw [hb] at e
      obtain ⟨m, z, k1, k2, k3, k4⟩ := idxL_ok fd r f.2 h2 e
      refine ⟨m + 1, z, by omega, by simpa using k2, k3, fun n z' hn hz => ?_⟩
      cases n with
      | zero => simp at hz; subst hz; rw [q, hb]
      | succ n => exact k4 n z' (by omega) (by simpa using hz)
theorem mt_indexM (x : XG X g) : MtR X "list.index" (rM g true indexM) := by
  intro pins s σ H x' xs v us Q I rx rs h
  obtain ⟨T, t, d0, ds, d, a, h0, hr, hf, k⟩ := h
  unfold indexM at hf
  split at hf
  · rename_i ys y
    split at hf
    · rename_i hz
      simp only [Bool.and_eq_true] at hz
      obtain ⟨j, e1, e2⟩ := Option.map_eq_some_iff.mp hf
      subst e2
      obtain ⟨w, rfl, h1⟩ := rep1 rfl hr
      obtain ⟨p, vs, rfl, c, r⟩ := h0
      obtain ⟨m, z, k1, k2, k3, k4⟩ := idxL_ok hz.1 h1 hz.2 r e1
      have k1 : j = m := by omega
      subst k1
      exact mt_index pins s σ H _ _ v us Q I rx rs ⟨p, vs, w, j, z, rfl, rfl, SqL.of (a.sub _ _ c), flat_pd hz.1 h1, flat_all hz.2 r, k2, k3, k4, k _ _ (Post.val a rfl rfl)⟩
    · cases hf
  · cases hf
end
end EV

set_option Elab.async false
set_option linter.all false
set_option maxRecDepth 100000
set_option maxHeartbeats 4000000
/-! EvE: the language of the evaluator; what a loop walks; truth. -/
namespace EV
open PySem PySem.Spec PyProof.Rows L2

inductive O1 where
  | neg | isn | nisn | rev | isb (b k : Bool)
  deriving DecidableEq
inductive O2 where
  | add | sub | mul | fdiv | mod | shl | shr | band | bor | eq | ne | lt | le | gt | ge | in_ | nin | ix
  deriving DecidableEq
inductive Bi where
  | len | abs | int | str | tuple | list | sum | any | all | max | min | sorted
  deriving DecidableEq
inductive Me where
  | join | count | index | starts
  deriving DecidableEq
inductive Sk where
  | val | range | enum | zip | rev
  deriving DecidableEq
inductive Tg where
  | nm (i : Nat) | tp (is : List Nat)
inductive E where
  | var (i : Nat)
  | cst (d : D)
  | glo (i : Nat)
  | o1 (o : O1) (a : E)
  | o2 (o : O2) (a b : E)
  | ch (o p : O2) (a b c : E)
  | and (a b : E)
  | or (a b : E)
  | not (a : E)
  | ife (c a b : E)
  | tup (es : List E)
  | lst (es : List E)
  | sl (a : E) (lo hi : List E)
  | call (f : Nat) (es : List E)
  | bi (b : Bi) (es : List E)
  | me (m : Me) (o : E) (es : List E)
  | rf (a : E)
  | tf (i k : Nat)
  | tln (i : Nat)
  | tci (i : Nat) (a : E)
  | lc (own : List Nat) (tg : Tg) (k : Sk) (es : List E) (cs : List E) (elt : E)
  | c3 (o p q : O2) (a b c d : E)
  | lrg (es : List E)
  | dc (own : List Nat) (tg : Tg) (k : Sk) (es : List E) (cs : List E) (ek ev : E)
  | dnw (tk : Bool)
  | dcp (a : E)
  | g1 (o k : E)
  | g2 (o k z : E)

abbrev Cl := Nat → List D → M D
/-- what is fixed of the module -/
structure Md where
  /-- built-in names that the module does not bind -/
  bl : List Str
  /-- the defs -/
  fn : List Str
  /-- does the def hand back a new cell -/
  ff : Nat → Bool
  /-- constants -/
  gc : List (Str × D)
  /-- exceptions -/
  xc : List Str
  /-- the def that tries a lambda, what it catches -/
  rn : Str
  rx : List Nat
  /-- what may be called there -/
  lo : Option Cl

def f1 : O1 → D → Option D
  | .neg, .int i => some (.int (-i))
  | .neg, _ => none
  | .isn, d => isnO d
  | .nisn, d => nisnO d
  | .rev, d => revD d
  | .isb b k, .bl c => some (.bl (k == (c == b)))
  | .isb _ _, _ => none
def f2 : O2 → D → D → Option D
  | .add => addD | .sub => subD | .mul => mulD | .fdiv => fdivD | .mod => modD | .shl => shlD | .shr => shrD | .band => andD | .bor => orD
  | .eq => eqO | .ne => neO | .lt => ltD | .le => leD | .gt => gtD | .ge => geD | .in_ => inO | .nin => ninO | .ix => ixD
def fB : Bi → List D → Option D
  | .len => lenN | .abs => absN | .int => intN | .str => strN | .tuple => tupN | .list => lstN | .sum => sumN | .any => anyN | .all => allN | .max => maxN | .min => minN | .sorted => sortedN
def kM : Me → D → Bool
  | .join, .str _ => true
  | .count, .str _ => true
  | .count, .lst _ => true
  | .index, .lst _ => true
  | .starts, .str _ => true
  | _, _ => false
def startsM : D → List D → Option D
  | .str a, [.str b] => some (.bl (decide (b.length ≤ a.length) && TL.pre b a))
  | _, _ => none
def fM : Me → D → List D → Option D
  | .join => joinM
  | .count => fun d ds => match d with
    | .str _ => countS d ds
    | .lst _ => countI d ds
    | _ => none
  | .index => indexM
  | .starts => startsM
def trB : D → Option Bool
  | .non => some false
  | .bl b => some b
  | .int i => some (i != 0)
  | .str s => if s.length ≤ SZ then some (!s.isEmpty) else none
  | .tup ds => some (!ds.isEmpty)
  | .lst ds => some (!ds.isEmpty)
  | .dic false ks _ => some (!ks.isEmpty)
  | _ => none
def rgL (lo c : Int) : Nat → List D
  | 0 => []
  | n + 1 => .int lo :: rgL (lo + c) c n
def small62 (i : Int) : Bool := decide (-(2 ^ 62) ≤ i) && decide (i < 2 ^ 62)
def enL : Nat → List D → List D
  | _, [] => []
  | i, d :: ds => .tup [.int i, d] :: enL (i + 1) ds
def zpL : List D → List D → List D
  | a :: as, b :: bs => .tup [a, b] :: zpL as bs
  | _, _ => []
/-- what is walked -/
def itD : Sk → List D → Option (List D)
  | .val, [.lst ds] => some ds
  | .val, [.tup ds] => some ds
  | .val, [.str s] => some (s.map fun c => .str [c])
  | .range, [.int n] => if small62 n then some (rgL 0 1 n.toNat) else none
  | .range, [.int a, .int b] => if small62 a && small62 b then some (rgL a 1 (b - a).toNat) else none
  | .range, [.int a, .int b, .int c] => if 0 < c ∧ c ≤ 1000000 ∧ -1000000 ≤ a ∧ a ≤ 1000000000 ∧ -1000000 ≤ b ∧ b ≤ 1000000000 then some (rgL a c ((b - a + c - 1) / c).toNat) else none
  | .enum, [.lst ds] => some (enL 0 ds)
  | .enum, [.tup ds] => some (enL 0 ds)
  | .zip, [.lst a, .lst b] => some (zpL a b)
  | .zip, [.tup a, .tup b] => some (zpL a b)
  | .zip, [.tup a, .lst b] => some (zpL a b)
  | .zip, [.lst a, .tup b] => some (zpL a b)
  | .rev, [.lst ds] => some ds.reverse
  | .rev, [.tup ds] => some ds.reverse
  | _, _ => none
def setAll : List Nat → List D → List (Option D) → Option (List (Option D))
  | [], [], ρ => some ρ
  | i :: is, d :: ds, ρ => setAll is ds (ρ.set i (some d))
  | _, _, _ => none
def tgD : Tg → D → List (Option D) → Option (List (Option D))
  | .nm i, d, ρ => some (ρ.set i (some d))
  | .tp is, .tup ds, ρ => setAll is ds ρ
  | .tp is, .lst ds, ρ => setAll is ds ρ
  | _, _, _ => none
def wipeD (ρ : List (Option D)) : List Nat → List (Option D)
  | [] => ρ
  | v :: vs => (wipeD ρ vs).set v none
/-- no exception leaves -/
def noexc {α : Type} (x : M α) : M α := fun t => match x t with
  | .ok a t' => .ok a t'
  | _ => .bad
def lcRun (f : D → M (Option D)) : List D → M (List D)
  | [] => ret []
  | x :: xs => bnd (f x) fun o => bnd (lcRun f xs) fun ds => ret (match o with
    | some d => d :: ds
    | none => ds)
def lenOk (ds : List D) : M (List D) := if ds.length ≤ 1000000 then ret ds else bad
def hasD (ks : List D) (d : D) : Bool := ks.any fun k => keyEq k d
def putVs : List D → List D → D → D → List D
  | k :: ks, v :: vs, d, e => (if keyEq k d then e else v) :: putVs ks vs d e
  | _, _, _, _ => []
def putD (ks vs : List D) (d e : D) : List D × List D := if hasD ks d then (ks, putVs ks vs d e) else (ks ++ [d], vs ++ [e])
def dcRun (f : D → M (Option (D × D))) : List D → List D → List D → M D
  | [], ks, vs => ret (.dic false ks vs)
  | x :: xs, ks, vs => bnd (f x) fun o => match o with
    | none => dcRun f xs ks vs
    | some (d, e) => match keyK d with
      | some _ => dcRun f xs (putD ks vs d e).1 (putD ks vs d e).2
      | none => bad
/-- list(range(..)) -/
def lrgN : List D → Option D
  | [.int b] => if small62 b && decide (b ≤ 1000000) then some (.lst (rgL 0 1 b.toNat)) else none
  | [.int a, .int b] => if small62 a && small62 b && decide (b - a ≤ 1000000) then some (.lst (rgL a 1 (b - a).toNat)) else none
  | _ => none
/-- dict(..) of a list of pairs -/
def dcpL : List D → List D → List D → Option D
  | [], ks, vs => some (.dic false ks vs)
  | .tup [d, e] :: xs, ks, vs => match keyK d with
    | some _ => dcpL xs (putD ks vs d e).1 (putD ks vs d e).2
    | none => none
  | _, _, _ => none
def dcpD : D → Option D
  | .lst xs => if xs.length ≤ 1000000 then dcpL xs [] [] else none
  | _ => none
/-- d.get(k), d.get(k, x) -/
def dicB : D → Bool
  | .dic _ _ _ => true
  | _ => false
def get1D (d k : D) : Option D := match dgetD d k with
  | some (some v) => some v
  | some none => some .non
  | none => none
def get2D (d k z : D) : Option D := match dgetD d k with
  | some (some v) => some v
  | some none => some z
  | none => none
def slK (d : D) : List D → List D → Option D
  | [], [] => slD d none none
  | [.int i], [] => slD d (some i) none
  | [], [.int j] => slD d none (some j)
  | [.int i], [.int j] => slD d (some i) (some j)
  | _, _ => none
/-- the tape's numbers -/
def tfld : Nat → Tape → Int
  | 0, t => t.at_
  | 1, t => t.left
  | 2, t => t.seed
  | _, t => t.salt
def tset : Nat → Int → Tape → Tape
  | 0, x, t => { t with at_ := x }
  | 1, x, t => { t with left := x }
  | 2, x, t => { t with seed := x }
  | _, x, t => { t with salt := x }
def isTape : Option (Option D) → Bool
  | some (some .tape) => true
  | _ => false
def memN (c : Nat) : List Nat → Bool
  | [] => false
  | x :: xs => Nat.beq c x || memN c xs
/-- was it refused? -/
def rfR {α : Type} (rx : List Nat) : Res α → Res D
  | .ok _ t => .ok (.bl false) t
  | .exc c t => if memN c rx then .ok (.bl true) t else .bad
  | .bad => .bad

mutual
def evE (md : Md) (cl : Cl) : E → List (Option D) → M D
  | .var i => fun ρ => match nth ρ i with
    | some (some d) => ret d
    | _ => bad
  | .cst d => fun _ => ret d
  | .glo i => fun _ => match nth md.gc i with
    | some (_, d) => ret d
    | none => bad
  | .o1 o a => fun ρ => bnd (evE md cl a ρ) fun d => opt (f1 o d)
  | .o2 o a b => fun ρ => bnd (evE md cl a ρ) fun d => bnd (evE md cl b ρ) fun e => opt (f2 o d e)
  | .ch o p a b c => fun ρ => bnd (evE md cl a ρ) fun d => bnd (evE md cl b ρ) fun e => bnd (opt (f2 o d e)) fun r => match r with
    | .bl true => bnd (evE md cl c ρ) fun h => opt (f2 p e h)
    | .bl false => ret (.bl false)
    | _ => bad
  | .and a b => fun ρ => bnd (evE md cl a ρ) fun d => match trB d with
    | some true => evE md cl b ρ
    | some false => ret d
    | none => bad
  | .or a b => fun ρ => bnd (evE md cl a ρ) fun d => match trB d with
    | some true => ret d
    | some false => evE md cl b ρ
    | none => bad
  | .not a => fun ρ => bnd (evE md cl a ρ) fun d => match trB d with
    | some b => ret (.bl (!b))
    | none => bad
  | .ife c a b => fun ρ => bnd (evE md cl c ρ) fun d => match trB d with
    | some true => evE md cl a ρ
    | some false => evE md cl b ρ
    | none => bad
  | .tup es => fun ρ => bnd (evL md cl es ρ) fun ds => bnd (lenOk ds) fun ds => ret (.tup ds)
  | .lst es => fun ρ => bnd (evL md cl es ρ) fun ds => bnd (lenOk ds) fun ds => ret (.lst ds)
  | .sl a lo hi => fun ρ => bnd (evE md cl a ρ) fun d => bnd (noexc (evL md cl lo ρ)) fun l => bnd (noexc (evL md cl hi ρ)) fun h => opt (slK d l h)
  | .call f es => fun ρ => bnd (evL md cl es ρ) fun ds => cl f ds
  | .bi b es => fun ρ => bnd (evL md cl es ρ) fun ds => opt (fB b ds)
  | .me m o es => fun ρ => bnd (evE md cl o ρ) fun d => if kM m d then bnd (evL md cl es ρ) fun ds => opt (fM m d ds) else bad
  | .rf a => fun ρ => match md.lo with
    | some lo => fun t => rfR md.rx (evE md lo a ρ t)
    | none => bad
  | .tf i k => fun ρ => if isTape (nth ρ i) then fun t => .ok (.int (tfld k t)) t else bad
  | .tln i => fun ρ => if isTape (nth ρ i) then fun t => .ok (.int t.cells.length) t else bad
  | .tci i a => fun ρ => if isTape (nth ρ i) then bnd (evE md cl a ρ) fun d => match d with
      | .int k => fun t => match atI t.cells k with
        | some c => .ok (.int c) t
        | none => .bad
      | _ => bad
    else bad
  | .lc own tg k es cs elt => fun ρ => bnd (evL md cl es ρ) fun ds => match itD k ds with
    | none => bad
    | some xs => bnd (lenOk xs) fun xs => bnd (lcRun (fun x => match tgD tg x (wipeD ρ own) with
        | none => bad
        | some ρ2 => bnd (noexc (evC md cl cs ρ2)) fun b => if b then bnd (noexc (evE md cl elt ρ2)) fun d => ret (some d) else ret none) xs) fun ys => ret (.lst ys)
  | .c3 o p q a b c d => fun ρ => bnd (evE md cl a ρ) fun x => bnd (evE md cl b ρ) fun y => bnd (opt (f2 o x y)) fun r => match r with
    | .bl true => bnd (evE md cl c ρ) fun z => bnd (opt (f2 p y z)) fun r2 => match r2 with
      | .bl true => bnd (evE md cl d ρ) fun w => opt (f2 q z w)
      | .bl false => ret (.bl false)
      | _ => bad
    | .bl false => ret (.bl false)
    | _ => bad
  | .lrg es => fun ρ => bnd (evL md cl es ρ) fun ds => opt (lrgN ds)
  | .dc own tg k es cs ek ev => fun ρ => bnd (evL md cl es ρ) fun ds => match itD k ds with
    | none => bad
    | some xs => bnd (lenOk xs) fun xs => dcRun (fun x => match tgD tg x (wipeD ρ own) with
        | none => bad
        | some ρ2 => bnd (noexc (evC md cl cs ρ2)) fun b => if b then bnd (noexc (evE md cl ek ρ2)) fun d => bnd (noexc (evE md cl ev ρ2)) fun e => ret (some (d, e)) else ret none) xs [] []
  | .dnw tk => fun _ => ret (.dic tk [] [])
  | .dcp a => fun ρ => bnd (evE md cl a ρ) fun d => opt (dcpD d)
  | .g1 o k => fun ρ => bnd (evE md cl o ρ) fun d => if dicB d then bnd (evE md cl k ρ) fun x => opt (get1D d x) else bad
  | .g2 o k z => fun ρ => bnd (evE md cl o ρ) fun d => if dicB d then bnd (evE md cl k ρ) fun x => bnd (evE md cl z ρ) fun y => opt (get2D d x y) else bad
def evL (md : Md) (cl : Cl) : List E → List (Option D) → M (List D)
  | [] => fun _ => ret []
  | e :: es => fun ρ => bnd (evE md cl e ρ) fun d => bnd (evL md cl es ρ) fun ds => ret (d :: ds)
def evC (md : Md) (cl : Cl) : List E → List (Option D) → M Bool
  | [] => fun _ => ret true
  | e :: _ => fun ρ => bnd (evE md cl e ρ) fun d => opt (trB d)
end
def evT (md : Md) (cl : Cl) (e : E) (ρ : List (Option D)) : M Bool := bnd (evE md cl e ρ) fun d => opt (trB d)
/-- is the value a new cell, where it is one -/
def frE (md : Md) : E → Bool
  | .lst _ => true
  | .lc .. => true
  | .dc .. => true
  | .lrg _ => true
  | .dnw _ => true
  | .dcp _ => true
  | .o1 _ _ => true
  | .o2 o _ _ => match o with
    | .ix => false
    | _ => true
  | .sl .. => true
  | .bi .. => true
  | .me .. => true
  | .call f _ => md.ff f
  | .ife _ a b => frE md a && frE md b
  | _ => false

section
variable {g : Gs} {T H : Hp} {X : Cx}
theorem tr_ok {t : Tape} {d : D} {v : V} {b : Bool} (hK : X.K = g.K) (a : Ar g T H t) (r : Rep g T d v) (e : trB d = some b) : TruV X.K v H b := by
  cases d with
  | non => cases e; rw [show v = _ from r]; exact rfl
  | bl x => cases e; rw [show v = _ from r]; exact rfl
  | int i => cases e; rw [show v = _ from r]; exact rfl
  | str s =>
    unfold trB at e
    dsimp only at e
    split at e
    · rename_i hz
      cases e
      rw [show v = .str (S s) from r]
      refine ⟨by rw [S_len, sz]; exact hz, ?_⟩
      rw [S_len]
      cases s <;> rfl
    · cases e
  | tup ds =>
    cases e
    obtain ⟨p, vs, rfl, c, rr⟩ := r
    refine .inr (.inl ⟨vs, SqT.of (a.sub _ _ c), ?_⟩)
    have := rr.length
    cases ds <;> cases vs <;> first | rfl | simp at this
  | lst ds =>
    cases e
    obtain ⟨p, vs, rfl, c, rr⟩ := r
    refine .inl ⟨vs, SqL.of (a.sub _ _ c), ?_⟩
    have := rr.length
    cases ds <;> cases vs <;> first | rfl | simp at this
  | dic tk ks ds =>
    cases tk with
    | true => cases e
    | false =>
      cases e
      obtain ⟨p, vs, rfl, rr, h⟩ := r
      rcases h with ⟨_, kvs, hT, e1, e2⟩ | ⟨z, _⟩
      · refine .inr (.inr ⟨kvs, a.sub _ _ hT, ?_⟩)
        rw [e1]
        cases kvs <;> rfl
      · cases z
  | _ => cases e

/-! ### what is walked -/
def ItOk (g : Gs) (T : Hp) (J : It) (xs : List D) : Prop := ∀ (T' H' : Hp) (t : Tape) (i : Nat), Sub T T' → Ar g T' H' t →
  (∀ d, xs[i]? = some d → J.go i H' ∧ ∀ x H2, J.yld i H' x H2 → ∃ T2, Gone g T' H' t T2 H2 ∧ Rep g T2 d x) ∧ (xs.length = i → J.stop i H')
def GoodI (g : Gs) (W : WX) (k : Sk) (T H : Hp) (σ : L2.St) (r : Res (List D)) (R : It → Hp → Prop) : Prop := match r with
  | .ok xs t' => ∀ J T' H', Gone g T H t' T' H' → ItOk g T' J xs → (k = .range → ∀ Tx, ItOk g Tx J xs) → R J H'
  | .exc c t' => Exc g W H σ c t'
  | .bad => False
def tI (g : Gs) (W : WX) (k : Sk) (ev : EvL) : TI := fun σ H R => ∃ T ρ t, At g T H t ρ σ ∧ GoodI g W k T H σ (ev ρ t) R
theorem PI.weak {tg e : Expr} {a b : TI} (h : PI X tg e a) (k : ∀ σ H R, b σ H R → a σ H R) : PI X tg e b := ⟨fun pins s σ H R I z => h.run pins s σ H R I (k σ H R z)⟩
theorem it_list {p : Addr} {vs : List V} {ds : List D} (hT : T p = some (.lst vs)) (r : RepL g T ds vs) : ItOk g T (Itl X.K p) ds := by
  intro T' H' t i s a
  have hH : SqL X.K H' p vs := SqL.of (a.sub _ _ (s _ _ hT))
  refine ⟨fun d hd => ?_, fun hi' => have hi := Nat.le_of_eq hi'; ⟨vs, hH, by rw [r.length]; exact hi⟩⟩
  obtain ⟨v, hv, rv⟩ := r.get hd
  refine ⟨⟨vs, v, hH, hv⟩, fun x H2 ⟨e, y⟩ => ?_⟩
  subst e
  have e2 := y vs hH
  rw [hv] at e2; cases e2
  exact ⟨T', Gone.refl a.sub a.vok a.sok, rv.mono s _ _⟩
theorem it_tup {p : Addr} {vs : List V} {ds : List D} (hT : T p = some (.tup vs)) (r : RepL g T ds vs) : ItOk g T (Itt X.K p) ds := by
  intro T' H' t i s a
  have hH : SqT X.K H' p vs := SqT.of (a.sub _ _ (s _ _ hT))
  refine ⟨fun d hd => ?_, fun hi' => have hi := Nat.le_of_eq hi'; ⟨vs, hH, by rw [r.length]; exact hi⟩⟩
  obtain ⟨v, hv, rv⟩ := r.get hd
  refine ⟨⟨vs, v, hH, hv⟩, fun x H2 ⟨e, y⟩ => ?_⟩
  subst e
  have e2 := y vs hH
  rw [hv] at e2; cases e2
  exact ⟨T', Gone.refl a.sub a.vok a.sok, rv.mono s _ _⟩
theorem it_str (z : List Nat) : ItOk g T (Its (S z)) (z.map fun c => .str [c]) := by
  intro T' H' t i s a
  have hs : (S z).cps.size = z.length := S_len z
  refine ⟨fun d hd => ?_, fun hi' => ?_⟩
  · rw [List.getElem?_map] at hd
    obtain ⟨c, hc, e⟩ := Option.map_eq_some_iff.mp hd
    subst e
    have hi : i < z.length := (List.getElem?_eq_some_iff.mp hc).1
    refine ⟨(by rw [hs]; exact hi : i < (S z).cps.size), fun x H2 ⟨e, c', h1, h2⟩ => ?_⟩
    subst e
    have e3 : c' = c := by
      have : (S z).cps[i]? = z[i]? := by simp
      rw [this, hc] at h1
      exact (Option.some.inj h1).symm
    subst e3
    exact ⟨T', Gone.refl a.sub a.vok a.sok, h2⟩
  · show (S z).cps.size ≤ i
    have hi := Nat.le_of_eq hi'
    rw [hs]
    simpa using hi
theorem rgL_get (c : Int) : ∀ (n : Nat) (lo : Int) (i : Nat) (d : D), (rgL lo c n)[i]? = some d → i < n ∧ d = .int (lo + (i : Nat) * c)
  | 0, lo, i, d, h => by simp [rgL] at h
  | n + 1, lo, 0, d, h => by
    simp [rgL] at h
    exact ⟨by omega, by rw [← h]; simp⟩
  | n + 1, lo, i + 1, d, h => by
    simp only [rgL, List.getElem?_cons_succ] at h
    obtain ⟨h1, h2⟩ := rgL_get c n (lo + c) i d h
    refine ⟨by omega, ?_⟩
    rw [h2]
    congr 1
    have e : (((i + 1 : Nat) : Int)) * c = (i : Int) * c + c := by rw [Int.natCast_add, Int.add_mul]; simp
    rw [e]; omega
theorem rgL_length (c : Int) : ∀ (n : Nat) (lo : Int), (rgL lo c n).length = n
  | 0, _ => rfl
  | n + 1, lo => by simp [rgL, rgL_length c n]
theorem it_rng (lo : Int) (n : Nat) : ItOk g T (Itr lo n) (rgL lo 1 n) := by
  intro T' H' t i s a
  refine ⟨fun d hd => ?_, fun hi' => have hi := Nat.le_of_eq hi'; (by rw [rgL_length] at hi; exact hi : n ≤ i)⟩
  obtain ⟨h1, h2⟩ := rgL_get 1 n lo i d hd
  refine ⟨h1, fun x H2 ⟨e, e2⟩ => ?_⟩
  subst e
  rw [e2, h2, Int.mul_one]
  exact ⟨T', Gone.refl a.sub a.vok a.sok, rfl⟩
theorem it_rngC (lo c : Int) (n : Nat) : ItOk g T (Itc lo c n) (rgL lo c n) := by
  intro T' H' t i s a
  refine ⟨fun d hd => ?_, fun hi' => have hi := Nat.le_of_eq hi'; (by rw [rgL_length] at hi; exact hi : n ≤ i)⟩
  obtain ⟨h1, h2⟩ := rgL_get c n lo i d hd
  refine ⟨h1, fun x H2 ⟨e, e2⟩ => ?_⟩
  subst e
  rw [e2, h2]
  exact ⟨T', Gone.refl a.sub a.vok a.sok, rfl⟩
theorem it_rev {p : Addr} {vs : List V} {ds : List D} (hT : T p = some (.lst vs)) (r : RepL g T ds vs) : ItOk g T (Itv X.K p vs.length) ds.reverse := by
  intro T' H' t i s a
  have hH : SqL X.K H' p vs := SqL.of (a.sub _ _ (s _ _ hT))
  have hl := r.length
  refine ⟨fun d hd => ?_, fun hi' => have hi := Nat.le_of_eq hi'; (by rw [List.length_reverse] at hi; show vs.length ≤ i; omega)⟩
  have hi : i < ds.length := by
    have := (List.getElem?_eq_some_iff.mp hd).1
    simpa using this
  rw [List.getElem?_reverse hi] at hd
  obtain ⟨v, hv, rv⟩ := r.get hd
  have hv' : vs[vs.length - 1 - i]? = some v := by rw [hl]; exact hv
  refine ⟨⟨by omega, vs, v, hH, hv'⟩, fun x H2 ⟨e, y⟩ => ?_⟩
  subst e
  have e2 := y vs hH
  rw [hv'] at e2; cases e2
  exact ⟨T', Gone.refl a.sub a.vok a.sok, rv.mono s _ _⟩
theorem it_revT {p : Addr} {vs : List V} {ds : List D} (hT : T p = some (.tup vs)) (r : RepL g T ds vs) : ItOk g T (RT.ItvT X.K p vs.length) ds.reverse := by
  intro T' H' t i s a
  have hH : SqT X.K H' p vs := SqT.of (a.sub _ _ (s _ _ hT))
  have hl := r.length
  refine ⟨fun d hd => ?_, fun hi' => have hi := Nat.le_of_eq hi'; (by rw [List.length_reverse] at hi; show vs.length ≤ i; omega)⟩
  have hi : i < ds.length := by
    have := (List.getElem?_eq_some_iff.mp hd).1
    simpa using this
  rw [List.getElem?_reverse hi] at hd
  obtain ⟨v, hv, rv⟩ := r.get hd
  have hv' : vs[vs.length - 1 - i]? = some v := by rw [hl]; exact hv
  refine ⟨⟨by omega, vs, v, hH, hv'⟩, fun x H2 ⟨e, y⟩ => ?_⟩
  subst e
  have e2 := y vs hH
  rw [hv'] at e2; cases e2
  exact ⟨T', Gone.refl a.sub a.vok a.sok, rv.mono s _ _⟩
theorem enL_get : ∀ (ds : List D) (k i : Nat) (d : D), (enL k ds)[i]? = some d → ∃ x, ds[i]? = some x ∧ d = .tup [.int ((k + i : Nat) : Int), x]
  | [], k, i, d, h => by simp [enL] at h
  | x :: ds, k, 0, d, h => by
    simp [enL] at h
    exact ⟨x, rfl, h.symm⟩
  | x :: ds, k, i + 1, d, h => by
    simp only [enL, List.getElem?_cons_succ] at h
    obtain ⟨y, h1, h2⟩ := enL_get ds (k + 1) i d h
    exact ⟨y, by simpa using h1, by rw [h2]; congr 4; omega⟩
theorem enL_length : ∀ (ds : List D) (k : Nat), (enL k ds).length = ds.length
  | [], _ => rfl
  | _ :: ds, k => by simp [enL, enL_length ds]
theorem it_enum {p : Addr} {vs : List V} {ds : List D} (hT : T p = some (.lst vs)) (r : RepL g T ds vs) : ItOk g T (Ite X.K p) (enL 0 ds) := by
  intro T' H' t i s a
  have hH : SqL X.K H' p vs := SqL.of (a.sub _ _ (s _ _ hT))
  have hl := r.length
  refine ⟨fun d hd => ?_, fun hi' => have hi := Nat.le_of_eq hi'; ⟨vs, hH, (by rw [enL_length] at hi; omega)⟩⟩
  obtain ⟨x, hx, e⟩ := enL_get ds 0 i d hd
  subst e
  obtain ⟨v, hv, rv⟩ := r.get hx
  refine ⟨⟨vs, v, hH, hv⟩, fun y H2 ⟨q, z, e1, hq, e2, hz⟩ => ?_⟩
  subst e1; subst e2
  have e3 := hz vs hH
  rw [hv] at e3; cases e3
  refine ⟨upd T' q (.tup [.int (i : Nat), v]), Gone.laid a.sub a.vok a.sok hq rfl, q, _, rfl, upd_same, ?_⟩
  have sb : Sub T' (upd T' q (.tup [.int (i : Nat), v])) := Sub.new (a.sub.none hq)
  exact ⟨_, _, rfl, (by show V.int _ = V.int _; simp), _, _, rfl, rv.mono (s.trans sb) _ _, rfl⟩
theorem it_enumT {p : Addr} {vs : List V} {ds : List D} (hT : T p = some (.tup vs)) (r : RepL g T ds vs) : ItOk g T (IteT X.K p) (enL 0 ds) := by
  intro T' H' t i s a
  have hH : SqT X.K H' p vs := SqT.of (a.sub _ _ (s _ _ hT))
  have hl := r.length
  refine ⟨fun d hd => ?_, fun hi' => have hi := Nat.le_of_eq hi'; ⟨vs, hH, (by rw [enL_length] at hi; omega)⟩⟩
  obtain ⟨x, hx, e⟩ := enL_get ds 0 i d hd
  subst e
  obtain ⟨v, hv, rv⟩ := r.get hx
  refine ⟨⟨vs, v, hH, hv⟩, fun y H2 ⟨q, z, e1, hq, e2, hz⟩ => ?_⟩
  subst e1; subst e2
  have e3 := hz vs hH
  rw [hv] at e3; cases e3
  refine ⟨upd T' q (.tup [.int (i : Nat), v]), Gone.laid a.sub a.vok a.sok hq rfl, q, _, rfl, upd_same, ?_⟩
  have sb : Sub T' (upd T' q (.tup [.int (i : Nat), v])) := Sub.new (a.sub.none hq)
  exact ⟨_, _, rfl, (by show V.int _ = V.int _; simp), _, _, rfl, rv.mono (s.trans sb) _ _, rfl⟩
theorem zpL_get : ∀ (as bs : List D) (i : Nat) (d : D), (zpL as bs)[i]? = some d → ∃ x y, as[i]? = some x ∧ bs[i]? = some y ∧ d = .tup [x, y]
  | [], bs, i, d, h => by simp [zpL] at h
  | a :: as, [], i, d, h => by simp [zpL] at h
  | a :: as, b :: bs, 0, d, h => by
    simp [zpL] at h
    exact ⟨a, b, rfl, rfl, h.symm⟩
  | a :: as, b :: bs, i + 1, d, h => by
    simp only [zpL, List.getElem?_cons_succ] at h
    obtain ⟨x, y, h1, h2, h3⟩ := zpL_get as bs i d h
    exact ⟨x, y, by simpa using h1, by simpa using h2, h3⟩
theorem zpL_length : ∀ (as bs : List D), (zpL as bs).length = min as.length bs.length
  | [], bs => by simp [zpL]
  | a :: as, [] => by simp [zpL]
  | a :: as, b :: bs => by simp [zpL, zpL_length as bs]
theorem it_zipL {p q : Addr} {vs us : List V} {as bs : List D} (hT : T p = some (.lst vs)) (r : RepL g T as vs) (hT2 : T q = some (.lst us)) (r2 : RepL g T bs us) : ItOk g T (Itz X.K p q) (zpL as bs) := by
  intro T' H' t i s a
  have hH : SqL X.K H' p vs := SqL.of (a.sub _ _ (s _ _ hT))
  have hH2 : SqL X.K H' q us := SqL.of (a.sub _ _ (s _ _ hT2))
  have hl := r.length
  have hl2 := r2.length
  refine ⟨fun d hd => ?_, fun hi' => have hi := Nat.le_of_eq hi'; ⟨vs, us, hH, hH2, (by rw [zpL_length] at hi; omega)⟩⟩
  obtain ⟨x, y, hx, hy, e⟩ := zpL_get as bs i d hd
  subst e
  obtain ⟨v, hv, rv⟩ := r.get hx
  obtain ⟨u, hu, ru⟩ := r2.get hy
  refine ⟨⟨vs, us, v, u, hH, hH2, hv, hu⟩, fun z H2 ⟨w, z1, z2, e1, hq, e2, hz, hz2⟩ => ?_⟩
  subst e1; subst e2
  have e3 := hz vs hH
  have e4 := hz2 us hH2
  rw [hv] at e3; cases e3
  rw [hu] at e4; cases e4
  refine ⟨upd T' w (.tup [v, u]), Gone.laid a.sub a.vok a.sok hq rfl, w, _, rfl, upd_same, ?_⟩
  have sb : Sub T' (upd T' w (.tup [v, u])) := Sub.new (a.sub.none hq)
  exact ⟨_, _, rfl, rv.mono (s.trans sb) _ _, _, _, rfl, ru.mono (s.trans sb) _ _, rfl⟩
theorem it_zipT {p q : Addr} {vs us : List V} {as bs : List D} (hT : T p = some (.tup vs)) (r : RepL g T as vs) (hT2 : T q = some (.tup us)) (r2 : RepL g T bs us) : ItOk g T (RZ.ItzT X.K p q) (zpL as bs) := by
  intro T' H' t i s a
  have hH : SqT X.K H' p vs := SqT.of (a.sub _ _ (s _ _ hT))
  have hH2 : SqT X.K H' q us := SqT.of (a.sub _ _ (s _ _ hT2))
  have hl := r.length
  have hl2 := r2.length
  refine ⟨fun d hd => ?_, fun hi' => have hi := Nat.le_of_eq hi'; ⟨vs, us, hH, hH2, (by rw [zpL_length] at hi; omega)⟩⟩
  obtain ⟨x, y, hx, hy, e⟩ := zpL_get as bs i d hd
  subst e
  obtain ⟨v, hv, rv⟩ := r.get hx
  obtain ⟨u, hu, ru⟩ := r2.get hy
  refine ⟨⟨vs, us, v, u, hH, hH2, hv, hu⟩, fun z H2 ⟨w, z1, z2, e1, hq, e2, hz, hz2⟩ => ?_⟩
  subst e1; subst e2
  have e3 := hz vs hH
  have e4 := hz2 us hH2
  rw [hv] at e3; cases e3
  rw [hu] at e4; cases e4
  refine ⟨upd T' w (.tup [v, u]), Gone.laid a.sub a.vok a.sok hq rfl, w, _, rfl, upd_same, ?_⟩
  have sb : Sub T' (upd T' w (.tup [v, u])) := Sub.new (a.sub.none hq)
  exact ⟨_, _, rfl, rv.mono (s.trans sb) _ _, _, _, rfl, ru.mono (s.trans sb) _ _, rfl⟩
theorem it_zipB {b c : Bool} {p q : Addr} {vs us : List V} {as bs : List D} (hT : ∀ H, Sub T H → SqB X.K H b p vs) (r : RepL g T as vs) (hT2 : ∀ H, Sub T H → SqB X.K H c q us) (r2 : RepL g T bs us) : ItOk g T (ItzB X.K b c p q) (zpL as bs) := by
  intro T' H' t i s a
  have hH := hT H' (s.trans a.sub)
  have hH2 := hT2 H' (s.trans a.sub)
  have hl := r.length
  have hl2 := r2.length
  refine ⟨fun d hd => ?_, fun hi => ⟨vs, us, hH, hH2, (by rw [zpL_length] at hi; omega), (by rw [zpL_length] at hi; omega), (by rw [zpL_length] at hi; omega)⟩⟩
  obtain ⟨x, y, hx, hy, e⟩ := zpL_get as bs i d hd
  subst e
  obtain ⟨v, hv, rv⟩ := r.get hx
  obtain ⟨u, hu, ru⟩ := r2.get hy
  refine ⟨⟨vs, us, v, u, hH, hH2, hv, hu⟩, fun z H2 ⟨w, z1, z2, e1, hq, e2, hz, hz2⟩ => ?_⟩
  subst e1; subst e2
  have e3 := hz vs hH
  have e4 := hz2 us hH2
  rw [hv] at e3; cases e3
  rw [hu] at e4; cases e4
  refine ⟨upd T' w (.tup [v, u]), Gone.laid a.sub a.vok a.sok hq rfl, w, _, rfl, upd_same, ?_⟩
  have sb : Sub T' (upd T' w (.tup [v, u])) := Sub.new (a.sub.none hq)
  exact ⟨_, _, rfl, rv.mono (s.trans sb) _ _, _, _, rfl, ru.mono (s.trans sb) _ _, rfl⟩
end
end EV

set_option Elab.async false
set_option linter.all false
set_option maxRecDepth 100000
set_option maxHeartbeats 4000000
/-! EvF: does a text say what the language says; then the machine does what the evaluator does: expressions. -/
namespace EV
open PySem PySem.Spec PyProof.Rows L2

/-! ### the look at the text -/
def gl (sc : Scope) (x : Str) : Bool := decide (sc.names.lookup x = some .globalImplicit)
def vis (sc : Scope) (x : Str) : Bool := match sc.names.lookup x with
  | some .local => true
  | some .cell => true
  | some .free => true
  | _ => false
def plainName (x : Str) : Bool := !(x == ("__debug__" : Str)) && !(x == ("__classdict__" : Str)) && !(x == ("__name__" : Str))
def okE : Expr → Bool
  | .Starred .. => false
  | .Slice .. => false
  | .Set .. => false
  | _ => true
def cstOk : D → Const → Bool
  | .int i, .int j => decide (i = j)
  | .str s, .str x => decide (x = S s)
  | .bl b, .bool c => b == c
  | .non, .none => true
  | _, _ => false
def dec2 : O2 → Expr → Option (Expr × Expr)
  | .add, .BinOp a .Add b _ => some (a, b)
  | .sub, .BinOp a .Sub b _ => some (a, b)
  | .mul, .BinOp a .Mult b _ => some (a, b)
  | .fdiv, .BinOp a .FloorDiv b _ => some (a, b)
  | .mod, .BinOp a .Mod b _ => some (a, b)
  | .shl, .BinOp a .LShift b _ => some (a, b)
  | .shr, .BinOp a .RShift b _ => some (a, b)
  | .band, .BinOp a .BitAnd b _ => some (a, b)
  | .bor, .BinOp a .BitOr b _ => some (a, b)
  | .eq, .Compare a [.Eq] [b] _ => some (a, b)
  | .ne, .Compare a [.NotEq] [b] _ => some (a, b)
  | .lt, .Compare a [.Lt] [b] _ => some (a, b)
  | .le, .Compare a [.LtE] [b] _ => some (a, b)
  | .gt, .Compare a [.Gt] [b] _ => some (a, b)
  | .ge, .Compare a [.GtE] [b] _ => some (a, b)
  | .in_, .Compare a [.In] [b] _ => some (a, b)
  | .nin, .Compare a [.NotIn] [b] _ => some (a, b)
  | .ix, .Subscript a b _ => some (a, b)
  | _, _ => none
def cmpOf : O2 → Option CmpOp
  | .eq => some .Eq | .ne => some .NotEq | .lt => some .Lt | .le => some .LtE | .gt => some .Gt | .ge => some .GtE
  | _ => none
def dec1 : O1 → Expr → Option Expr
  | .neg, .UnaryOp .USub a _ => some a
  | .isn, .Compare a [.Is] [.Constant .none _ _] _ => some a
  | .nisn, .Compare a [.IsNot] [.Constant .none _ _] _ => some a
  | .rev, .Subscript a (.Slice none none (some (.UnaryOp .USub (.Constant (.int 1) _ _) _)) _) _ => some a
  | .isb b true, .Compare a [.Is] [.Constant (.bool c) _ _] _ => if c = b then some a else none
  | .isb b false, .Compare a [.IsNot] [.Constant (.bool c) _ _] _ => if c = b then some a else none
  | _, _ => none
def biName : Bi → Str
  | .len => "len" | .abs => "abs" | .int => "int" | .str => "str" | .tuple => "tuple" | .list => "list" | .sum => "sum" | .any => "any" | .all => "all" | .max => "max" | .min => "min" | .sorted => "sorted"
def meName : Me → Str
  | .join => "join" | .count => "count" | .index => "index" | .starts => "startswith"
def notCall0 : Expr → Bool
  | .Call (.Name _ _) [] [] _ => false
  | _ => true
def chkTgs (sc : Scope) (st : Str → Bool) (N : List Str) : List Nat → List Expr → Bool
  | [], [] => true
  | i :: is, .Name x _ :: xs => decide (N[i]? = some x) && (decide (sc.names.lookup x = some .local) || (decide (sc.names.lookup x = some .cell) && st x)) && chkTgs sc st N is xs
  | _, _ => false
def chkTg (sc : Scope) (st : Str → Bool) (N : List Str) : Tg → Expr → Bool
  | .nm i, x => chkTgs sc st N [i] [x]
  | .tp is, .Tuple xs _ _ => chkTgs sc st N is xs
  | _, _ => false
def tgSlots : Tg → List Nat
  | .nm i => [i]
  | .tp is => is
def isTup : Expr → Bool
  | .Tuple .. => true
  | _ => false
def ownOf (N : List Str) (own : List Nat) : List (Str × Nat) := own.map fun i => (N.getD i Str.empty, i)

def tfNm : Nat → Str
  | 0 => "at"
  | 1 => "left"
  | 2 => "seed"
  | _ => "salt"
/-- what a comprehension's block may store -/
def blkSt (scope : Scope) : Str → Bool := fun n => decide (scope.names.lookup n = some .cell) && !(n == ("<lambda>" : Str))
mutual
def chkE (md : Md) (N : List Str) : E → Scope → (Str → Bool) → Expr → Bool
  | .var i, sc, _, x => match x with
    | .Name y _ => decide (N[i]? = some y) && vis sc y && plainName y
    | _ => false
  | .cst d, _, _, x => match x with
    | .Constant c _ _ => cstOk d c
    | _ => false
  | .glo i, sc, _, x => match x with
    | .Name y _ => (match nth md.gc i with
      | some (z, _) => decide (z = y)
      | none => false) && gl sc y && plainName y
    | _ => false
  | .o1 o a, sc, st, x => match dec1 o x with
    | some y => okE y && chkE md N a sc st y
    | none => false
  | .o2 o a b, sc, st, x => match dec2 o x with
    | some (y, z) => okE y && okE z && chkE md N a sc st y && chkE md N b sc st z
    | none => false
  | .ch o p a b c, sc, st, x => match x with
    | .Compare y [o', p'] [z, w] _ => decide (cmpOf o = some o') && decide (cmpOf p = some p') && okE y && okE z && okE w && chkE md N a sc st y && chkE md N b sc st z && chkE md N c sc st w
    | _ => false
  | .and a b, sc, st, x => match x with
    | .BoolOp .And (y :: z :: r) pos => okE y && okE z && chkE md N a sc st y && (match r with
      | [] => chkE md N b sc st z
      | _ => chkE md N b sc st (.BoolOp .And (z :: r) pos))
    | _ => false
  | .or a b, sc, st, x => match x with
    | .BoolOp .Or (y :: z :: r) pos => okE y && okE z && chkE md N a sc st y && (match r with
      | [] => chkE md N b sc st z
      | _ => chkE md N b sc st (.BoolOp .Or (z :: r) pos))
    | _ => false
  | .not a, sc, st, x => match x with
    | .UnaryOp .Not y _ => okE y && chkE md N a sc st y
    | _ => false
  | .ife c a b, sc, st, x => match x with
    | .IfExp w y z _ => okE w && okE y && okE z && chkE md N c sc st w && chkE md N a sc st y && chkE md N b sc st z
    | _ => false
  | .tup es, sc, st, x => match x with
    | .Tuple xs _ _ => chkL md N es sc st xs
    | _ => false
  | .lst es, sc, st, x => match x with
    | .List xs _ => chkL md N es sc st xs
    | _ => false
  | .sl a lo hi, sc, st, x => match x with
    | .Subscript y (.Slice l h none _) _ => okE y && chkE md N a sc st y && (match l with
        | none => lo.isEmpty
        | some l => decide (lo.length = 1) && chkL md N lo sc st [l]) && (match h with
        | none => hi.isEmpty
        | some h => decide (hi.length = 1) && chkL md N hi sc st [h])
    | _ => false
  | .call f es, sc, st, x => match x with
    | .Call (.Name y _) (z :: zs) [] _ => decide (md.fn[f]? = some y) && gl sc y && plainName y && chkL md N es sc st (z :: zs)
    | _ => false
  | .bi b es, sc, st, x => match x with
    | .Call (.Name y _) (z :: zs) [] _ => decide (y = biName b) && decide (y ∈ md.bl) && gl sc y && chkL md N es sc st (z :: zs)
    | _ => false
  | .me m o es, sc, st, x => match x with
    | .Call (.Attribute y n ap) (z :: zs) [] cp => decide (n = meName m) && (ap.endLine == cp.line) && decide ((z :: zs).length < 29) && okE y && notCall0 y && chkE md N o sc st y && chkL md N es sc st (z :: zs)
    | _ => false
  | .rf a, sc, st, x => match x with
    | .Call (.Name y _) [.Lambda params b scope _] [] _ => decide (y = md.rn) && gl sc y && plainName y && st ("<lambda>" : Str) && LamX.lamSB sc scope && (match params with
        | ⟨[], [], none, [], [], none, []⟩ => true
        | _ => false) && okE b && chkE md N a scope (fun _ => false) b
    | _ => false
  | .tf i k, sc, _, x => match x with
    | .Subscript (.Name y _) (.Constant (.str z) _ _) _ => decide (N[i]? = some y) && vis sc y && plainName y && decide (z = tfNm k) && decide (k < 4)
    | _ => false
  | .tln i, sc, _, x => match x with
    | .Call (.Name l _) [.Subscript (.Name y _) (.Constant (.str z) _ _) _] [] _ => decide (N[i]? = some y) && vis sc y && plainName y && decide (z = "cells") && decide (l = "len") && decide (l ∈ md.bl) && gl sc l
    | _ => false
  | .tci i a, sc, st, x => match x with
    | .Subscript (.Subscript (.Name y _) (.Constant (.str z) _ _) _) w _ => decide (N[i]? = some y) && vis sc y && plainName y && decide (z = "cells") && okE w && chkE md N a sc st w
    | _ => false
  | .lc own tg k es cs elt, sc, st, x => match x with
    | .ListComp y [⟨t, it, ifs, 0⟩] scope _ => okE y && okE it && blkC N sc scope (ownOf N own) && chkTg (relS scope sc) (blkSt scope) N tg t && (tgSlots tg).all (fun i => decide (i ∈ own)) &&
        (match k, it with
        | .val, it => chkL md N es sc st [it]
        | .range, .Call (.Name n _) (z :: zs) [] _ => decide (n = "range") && decide (n ∈ md.bl) && gl sc n && decide ((z :: zs).length ≤ 3) && chkL md N es sc st (z :: zs)
        | .enum, .Call (.Name n _) [z] [] _ => decide (n = "enumerate") && decide (n ∈ md.bl) && gl sc n && isTup t && chkL md N es sc st [z]
        | .zip, .Call (.Name n _) [z, w] [] _ => decide (n = "zip") && decide (n ∈ md.bl) && gl sc n && isTup t && chkL md N es sc st [z, w]
        | .rev, .Call (.Name n _) [z] [] _ => decide (n = "reversed") && decide (n ∈ md.bl) && gl sc n && chkL md N es sc st [z]
        | _, _ => false) &&
        (match ifs with
        | [] => cs.isEmpty
        | [c] => decide (cs.length = 1) && chkL md N cs (relS scope sc) (blkSt scope) [c]
        | _ => false) &&
        chkE md N elt (relS scope sc) (blkSt scope) y
    | _ => false
  | .c3 o p q a b c d, sc, st, x => match x with
    | .Compare y [o', p', q'] [z, w, u] _ => decide (cmpOf o = some o') && decide (cmpOf p = some p') && decide (cmpOf q = some q') && okE y && okE z && okE w && okE u && chkE md N a sc st y && chkE md N b sc st z && chkE md N c sc st w && chkE md N d sc st u
    | _ => false
  | .lrg es, sc, st, x => match x with
    | .Call (.Name l _) [.Call (.Name n _) (z :: zs) [] _] [] _ => decide (l = "list") && decide (l ∈ md.bl) && gl sc l && decide (n = "range") && decide (n ∈ md.bl) && gl sc n && decide ((z :: zs).length ≤ 2) && chkL md N es sc st (z :: zs)
    | _ => false
  | .dc own tg k es cs ek ev, sc, st, x => match x with
    | .DictComp y u [⟨t, it, ifs, 0⟩] scope _ => okE y && okE u && okE it && blkC N sc scope (ownOf N own) && chkTg (relS scope sc) (blkSt scope) N tg t && (tgSlots tg).all (fun i => decide (i ∈ own)) &&
        (match k, it with
        | .val, it => chkL md N es sc st [it]
        | .range, .Call (.Name n _) (z :: zs) [] _ => decide (n = "range") && decide (n ∈ md.bl) && gl sc n && decide ((z :: zs).length ≤ 3) && chkL md N es sc st (z :: zs)
        | .enum, .Call (.Name n _) [z] [] _ => decide (n = "enumerate") && decide (n ∈ md.bl) && gl sc n && isTup t && chkL md N es sc st [z]
        | .zip, .Call (.Name n _) [z, w] [] _ => decide (n = "zip") && decide (n ∈ md.bl) && gl sc n && isTup t && chkL md N es sc st [z, w]
        | .rev, .Call (.Name n _) [z] [] _ => decide (n = "reversed") && decide (n ∈ md.bl) && gl sc n && chkL md N es sc st [z]
        | _, _ => false) &&
        (match ifs with
        | [] => cs.isEmpty
        | [c] => decide (cs.length = 1) && chkL md N cs (relS scope sc) (blkSt scope) [c]
        | _ => false) &&
        chkE md N ek (relS scope sc) (blkSt scope) y && chkE md N ev (relS scope sc) (blkSt scope) u
    | _ => false
  | .dnw _, _, _, x => match x with
    | .Dict [] [] _ => true
    | _ => false
  | .dcp a, sc, st, x => match x with
    | .Call (.Name l _) [z] [] _ => decide (l = "dict") && decide (l ∈ md.bl) && gl sc l && okE z && chkE md N a sc st z
    | _ => false
  | .g1 o k, sc, st, x => match x with
    | .Call (.Attribute y n ap) [z] [] cp => decide (n = "get") && (ap.endLine == cp.line) && okE y && notCall0 y && okE z && chkE md N o sc st y && chkE md N k sc st z
    | _ => false
  | .g2 o k w, sc, st, x => match x with
    | .Call (.Attribute y n ap) [z, u] [] cp => decide (n = "get") && (ap.endLine == cp.line) && okE y && notCall0 y && okE z && okE u && chkE md N o sc st y && chkE md N k sc st z && chkE md N w sc st u
    | _ => false
def chkL (md : Md) (N : List Str) : List E → Scope → (Str → Bool) → List Expr → Bool
  | [], _, _, xs => xs.isEmpty
  | e :: es, sc, st, xs => match xs with
    | x :: xs => okE x && chkE md N e sc st x && chkL md N es sc st xs
    | [] => false
end

/-! ### what stands around -/
/-- a def's promise -/
def GoodF (g : Gs) (fr : Bool) (T H : Hp) (r : Res D) (Q : VK) (E : XK) : Prop := match r with
  | .ok d t' => ∀ v H', Post g fr T H t' d v H' → Q v H'
  | .exc c t' => ∀ H', Ext g H H' → SOk g H' t' → E (.ref (g.ca c)) none H'
  | .bad => False
def fnSp (g : Gs) (fr : Bool) (np : Nat) (f : List D → M D) : Sp := fun vs H Q E => ∃ tp T t ds, vs.length = np ∧ Ar { g with tp := tp } T H t ∧ RepL { g with tp := tp } T ds vs ∧ GoodF { g with tp := tp } fr T H (f ds t) Q E
structure FnAt (g : Gs) (md : Md) (lv : Nat) (fr : Bool) (x : Str) (f : List D → M D) : Prop where
  ex : ∃ (a : Addr) (fd : FuncData) (ps : List Str), (∀ ds t, ds.length ≠ ps.length → f ds t = .bad) ∧ g.mg x = some (.ref a) ∧ PySem.W.keepIn g.K (.ref a) = true ∧ Binds g.K fd ps [] ∧ FnOk g.P g.w g.K g.mg g.base (L2.CX g.P g.w) lv a fd ps (fnSp g fr ps.length f)
structure ModOk (g : Gs) (md : Md) : Prop where
  bl : ∀ x, x ∈ md.bl → g.mg x = none
  gc : ∀ i x d, nth md.gc i = some (x, d) → ∃ v u, g.mg x = some u ∧ RelV v u ∧ ∀ tp T, Rep { g with tp := tp } T d v
def ClOk (g : Gs) (md : Md) (cl : Cl) (lv : Nat) : Prop := ∀ f x, md.fn[f]? = some x → FnAt g md lv (md.ff f) x (cl f)
/-- the def that tries a lambda -/
structure RfOk (g : Gs) (md : Md) : Prop where
  ex : ∃ (f CS : Addr) (pg : Arguments) (sg : Scope) (kV doc pm cdv ct oc : Value) (an od : Option Addr) (osl : Array (Option Value)) (Ng : List Str) (a e : Str) (j j2 : Nat) (p1 p2 p3 p4 p5 p6 p7 p8 p9 p10 : Pos),
    let bg : List Stmt := [.Try [.Expr (.Call (.Name a p1) [] [] p2) p3] [.ExceptHandler (some (.Name e p4)) none [.Return (some (.Constant (.bool true) j p5)) p6] p7] [] [] p8, .Return (some (.Constant (.bool false) j2 p9)) p10]
    g.mg md.rn = some (.ref f) ∧ PySem.W.keepIn g.K (.ref f) = true ∧ g.K.lookup f = some ⟨oc, od, .func (PySem.W.fnOf md.rn md.rn pg bg sg .none kV doc pm an cdv ct), osl⟩ ∧ PySem.W.codeIn g.K cdv md.rn = true ∧
    Binds g.K (PySem.W.fnOf md.rn md.rn pg bg sg .none kV doc pm an cdv ct) [a] [] ∧ FnScope Ng [a] sg ∧ Ng[0]? = some a ∧ Vis sg a ∧ plainName a = true ∧ sg.names.lookup e = some .globalImplicit ∧ plainName e = true ∧ g.mg e = some (.ref CS) ∧
    (∀ c, memN c md.rx = true → PySem.W.exmOne g.K (.ref (g.ca c)) (.ref CS) = some true)
/-- a body that makes lambdas -/
structure LamC (X : Cx) (g : Gs) (md : Md) : Prop where
  rf : RfOk g md
  tb : ∃ c P, LamX.TabB g.base g.mg c P ∧ X.env.code = .ref c ∧ (P, X.env.qual ++ "<lambda>") ∈ g.tb ∧ ∀ p ∈ g.tb, p.1 = P → p.2 = X.env.qual ++ "<lambda>"
  lo : ∀ lo, md.lo = some lo → ∃ k, Room (k + 2) X.A ∧ ClOk g md lo k
structure XC (X : Cx) (g : Gs) (md : Md) (lv : Nat) (sc : Scope) (N : List Str) (st : Str → Bool) : Prop where
  xg : XG X g
  room : Room lv X.A
  sc : X.env.scope = sc
  N : X.N = N
  nd : X.N.Nodup
  lam : st ("<lambda>" : Str) = true → LamC X g md
  st : ∀ x, st x = true → X.env.scope.names.lookup x = some .cell → X.fn x = true
section
variable {g : Gs} {md : Md} {cl : Cl} {lv : Nat} {X : Cx} {sc : Scope} {N : List Str} {st : Str → Bool} {W : WX}

theorem gl_of {x : Str} (c : XC X g md lv sc N st) (h : gl sc x = true) : Gl X x := by
  show X.env.kindOf x = _
  have e : X.env.scope.names.lookup x = some .globalImplicit := by rw [c.sc]; simpa [gl] using h
  exact e
theorem vis_of {x : Str} (c : XC X g md lv sc N st) (h : vis sc x = true) : Vis X.env.scope x := by
  rw [c.sc]
  unfold vis at h
  unfold Vis
  split at h
  · exact .inl ‹_›
  · exact .inr (.inl ‹_›)
  · exact .inr (.inr ‹_›)
  · cases h
theorem star_ok {x : Expr} {xs : List Expr} {env : Env} (h : okE x = true) : starEach (x :: xs) env = (false, eval x env) :: starEach xs env := by
  cases x <;> first | rfl | cases h
theorem mark_ok {x : Expr} {op : CmpOp} (h : okE x = true) : behindInMarks op x = false := by
  cases x <;> first | rfl | cases h
theorem ix_ok {x : Expr} (h : okE x = true) : PlainIx x := by
  intro o i
  cases x <;> first | rfl | cases h
theorem fold_ok {x : Expr} {env : Env} (h : okE x = true) : ∀ v, foldedSetIterable x env v = pure v := by
  intro v
  cases x <;> first | rfl | cases h
theorem chkL_ok : ∀ {es : List E} {xs : List Expr}, chkL md N es sc st xs = true → xs.all okE = true ∧ es.length = xs.length
  | [], xs, h => by
    unfold chkL at h
    have e : xs = [] := List.isEmpty_iff.mp h
    subst e
    exact ⟨rfl, rfl⟩
  | e :: es, [], h => by cases h
  | e :: es, x :: xs, h => by
    unfold chkL at h
    simp only [Bool.and_eq_true] at h
    obtain ⟨⟨h1, h2⟩, h3⟩ := h
    obtain ⟨q1, q2⟩ := chkL_ok h3
    exact ⟨by simp [h1, q1], by simp [q2]⟩
theorem plain_args {pos : Pos} {env : Env} : ∀ {xs : List Expr}, xs.all okE = true → (backTo pos (starEach xs env)).any (·.1) = false
  | [], _ => rfl
  | x :: xs, h => by
    simp only [List.all_cons, Bool.and_eq_true] at h
    rw [star_ok h.1]
    show (false || (backTo pos (starEach xs env)).any (·.1)) = false
    rw [plain_args h.2]
    rfl

/-! ### tests -/
theorem pt_ifE {c a b : Expr} {pos : Pos} {tc ta tb : TT} (hc : PT X c tc) (ha : PT X a ta) (hb : PT X b tb) : PT X (.IfExp c a b pos) (fun σ H Q => tc σ H fun k H1 => if k = true then ta σ H1 Q else tb σ H1 Q) := by
  refine ⟨fun pins s σ H Q I h => ?_⟩
  refine isTrue_IfExp (thn (hc.run pins s σ H _ I h) fun d s1 ⟨H1, I1, q1⟩ => ?_)
  cases d with
  | true => exact ha.run pins s1 σ H1 Q I1 q1
  | false => exact hb.run pins s1 σ H1 Q I1 q1
def plainTest : Expr → Bool
  | .UnaryOp .Not _ _ => false
  | .BoolOp .. => false
  | .IfExp .. => false
  | .Compare .. => false
  | _ => true
theorem plain_isTrue {x : Expr} {env : Env} (h : plainTest x = true) : ∀ whole, isTrue x env whole = (do let v ← whole; standAt x.pos; holding [v] (truthy v)) := by
  intro whole
  cases x <;> first | rfl | cases h | (rename_i op _ _; cases op <;> first | rfl | cases h)
/-- what the machine does with the text x where the evaluator goes through e -/
structure SE (X : Cx) (g : Gs) (md : Md) (cl : Cl) (W : WX) (e : E) (x : Expr) : Prop where
  pe : PE X x (tE g W (frE md e) (evE md cl e))
  pt : PT X x (tT g W (evT md cl e))
  pw : ∀ op vs pos, x = .BoolOp op vs pos → PW X x (tT g W (evT md cl e))
theorem Good.of {fr : Bool} {T H : Hp} {σ : L2.St} {r : Res D} {Q : VK} (h : Good g W false T H σ r Q) : Good g W fr T H σ r Q := by
  unfold Good at h ⊢
  split at h
  · exact fun v H' p => h v H' p.of
  · exact h
  · exact h
theorem PE.of {fr : Bool} {x : Expr} {ev : Ev} (h : PE X x (tE g W fr ev)) : PE X x (tE g W false ev) := PE.weak h fun σ H Q ⟨T, ρ, t, a, q⟩ => ⟨T, ρ, t, a, Good.of q⟩
/-- a value's truth behind it -/
theorem tT_val {e : E} {x : Expr} (xg : XG X g) (h : PE X x (tE g W (frE md e) (evE md cl e))) (hp : plainTest x = true) : PT X x (tT g W (evT md cl e)) := by
  refine PT.weak (pt_truth (PE.of h) (plain_isTrue hp)) fun σ H Q ⟨T, ρ, t, a, q⟩ => ⟨T, ρ, t, a, ?_⟩
  have q : GoodB g W T H σ (bnd (evE md cl e ρ) (fun d => opt (trB d)) t) Q := q
  refine Good.bind (R := fun r => GoodB g W T H σ r Q) (fun c t' z => z) (fun z => z) q _ fun d t' v H' r p => ?_
  cases hb : trB d with
  | none => rw [hb] at r; exact r.elim
  | some b =>
    rw [hb] at r
    obtain ⟨T', gn, sd⟩ := p
    have sd' : Rep g T' d v := sd
    exact ⟨b, tr_ok xg.K (gn.ar (t := t)) sd' hb, r T' H' gn⟩
/-- the values are true and false alone -/
theorem tT_bl {fr : Bool} {e : E} {σ : L2.St} {H : Hp} {Q : Bool → Hp → Prop} (hb : ∀ ρ t d t', evE md cl e ρ t = .ok d t' → ∃ b, d = .bl b) (z : tT g W (evT md cl e) σ H Q) : tE g W fr (evE md cl e) σ H (fun v H' => ∃ k, v = .bl k ∧ Q k H') := by
  obtain ⟨T, ρ, t, a, q⟩ := z
  refine ⟨T, ρ, t, a, ?_⟩
  have q : GoodB g W T H σ (bnd (evE md cl e ρ) (fun d => opt (trB d)) t) Q := q
  unfold bnd at q
  unfold Good
  cases ee : evE md cl e ρ t with
  | ok d t' =>
    rw [ee] at q
    obtain ⟨b, rfl⟩ := hb ρ t d t' ee
    exact fun v H' p => by
      obtain ⟨T', gn, sd⟩ := p.of
      exact ⟨b, sd, q T' H' gn⟩
  | exc c t' => rw [ee] at q; exact q
  | bad => rw [ee] at q; exact q
end
end EV

set_option Elab.async false
set_option linter.all false
set_option maxRecDepth 100000
set_option maxHeartbeats 4000000
/-! EvG: the machine does what the evaluator does: the kinds of expressions one by one. -/
namespace EV
open PySem PySem.Spec PyProof.Rows L2
section
variable {g : Gs} {md : Md} {cl : Cl} {lv : Nat} {X : Cx} {sc : Scope} {N : List Str} {st : Str → Bool} {W : WX}

theorem Good.ret {fr : Bool} {T H : Hp} {σ : L2.St} {d : D} {t : Tape} {Q : VK} (h : Good g W fr T H σ (ret d t) Q) : ∀ v H', Post g fr T H t d v H' → Q v H' := h
theorem Gone.arr {T T' H H' : Hp} {t' : Tape} (a : Gone g T H t' T' H') : Ar g T' H' t' := ⟨a.in_, a.vok, a.sok⟩
/-- an expression, then what is made of its value -/
theorem tE_then {fr fa : Bool} {T H : Hp} {σ : L2.St} {t : Tape} {ρ : List (Option D)} {ev : Ev} {f : D → M D} {Q Q' : VK} (a : At g T H t ρ σ) (q : Good g W fr T H σ (bnd (ev ρ) f t) Q)
    (k : ∀ d t' v T1 H1, Gone g T H t' T1 H1 → At g T1 H1 t' ρ σ → Stands g fa H T1 H1 d v → Good g W fr T1 H1 σ (f d t') Q → Q' v H1) : tE g W fa ev σ H Q' := by
  refine ⟨T, ρ, t, a, ?_⟩
  refine Good.bind (R := fun r => Good g W fr T H σ r Q) (fun c t' z => z) (fun z => z) q _ fun d t' v H1 r ⟨T1, gn, sd⟩ => ?_
  exact k d t' v T1 H1 gn (a.gone gn) sd (Good.back gn r)
theorem tA_then {fr : Bool} {T H : Hp} {σ : L2.St} {t : Tape} {ρ : List (Option D)} {ev : EvL} {f : List D → M D} {Q : VK} {Q' : List V → Hp → Prop} (a : At g T H t ρ σ) (q : Good g W fr T H σ (bnd (ev ρ) f t) Q)
    (k : ∀ ds t' vs T1 H1, Gone g T H t' T1 H1 → At g T1 H1 t' ρ σ → RepL g T1 ds vs → Good g W fr T1 H1 σ (f ds t') Q → Q' vs H1) : tA g W ev σ H Q' := by
  refine ⟨T, ρ, t, a, ?_⟩
  refine GoodL.bind (R := fun r => Good g W fr T H σ r Q) (fun c t' z => z) (fun z => z) q _ fun ds t' vs T1 H1 r gn sd => ?_
  exact k ds t' vs T1 H1 gn (a.gone gn) sd (Good.back gn r)
theorem tT_then {fr : Bool} {T H : Hp} {σ : L2.St} {t : Tape} {ρ : List (Option D)} {e : E} {f : D → M D} {Q : VK} {Q' : Bool → Hp → Prop} (a : At g T H t ρ σ) (q : Good g W fr T H σ (bnd (evE md cl e ρ) f t) Q)
    (k : ∀ d b t' T1 H1, trB d = some b → Gone g T H t' T1 H1 → At g T1 H1 t' ρ σ → Good g W fr T1 H1 σ (f d t') Q → Q' b H1) (hn : ∀ d t', trB d = none → f d t' = .bad) : tT g W (evT md cl e) σ H Q' := by
  refine ⟨T, ρ, t, a, ?_⟩
  show GoodB g W T H σ (bnd (evE md cl e ρ) (fun d => opt (trB d)) t) Q'
  unfold bnd at q ⊢
  cases ee : evE md cl e ρ t with
  | ok d t' =>
    rw [ee] at q
    show GoodB g W T H σ (opt (trB d) t') Q'
    have q : Good g W fr T H σ (f d t') Q := q
    cases hb : trB d with
    | none => rw [hn d t' hb] at q; exact q.elim
    | some b => exact fun T1 H1 gn => k d b t' T1 H1 hb gn (a.gone gn) (Good.back gn q)
  | exc c t' => rw [ee] at q; exact q
  | bad => rw [ee] at q; exact q
/-- .. behind a test -/
theorem tB_then {T H : Hp} {σ : L2.St} {t : Tape} {ρ : List (Option D)} {e : E} {f : D → M Bool} {Q Q' : Bool → Hp → Prop} (a : At g T H t ρ σ) (q : GoodB g W T H σ (bnd (evE md cl e ρ) f t) Q)
    (k : ∀ d b t' T1 H1, trB d = some b → Gone g T H t' T1 H1 → At g T1 H1 t' ρ σ → GoodB g W T1 H1 σ (f d t') Q → Q' b H1) (hn : ∀ d t', trB d = none → f d t' = .bad) : tT g W (evT md cl e) σ H Q' := by
  refine ⟨T, ρ, t, a, ?_⟩
  show GoodB g W T H σ (bnd (evE md cl e ρ) (fun d => opt (trB d)) t) Q'
  unfold bnd at q ⊢
  cases ee : evE md cl e ρ t with
  | ok d t' =>
    rw [ee] at q
    show GoodB g W T H σ (opt (trB d) t') Q'
    have q : GoodB g W T H σ (f d t') Q := q
    cases hb : trB d with
    | none => rw [hn d t' hb] at q; exact q.elim
    | some b => exact fun T1 H1 gn => k d b t' T1 H1 hb gn (a.gone gn) (GoodB.back gn q)
  | exc c t' => rw [ee] at q; exact q
  | bad => rw [ee] at q; exact q
/-- the last step: a value by opt -/
theorem opt_some {fr : Bool} {T H : Hp} {σ : L2.St} {t : Tape} {o : Option D} {Q : VK} (q : Good g W fr T H σ (opt o t) Q) : ∃ d, o = some d ∧ ∀ v H', Post g fr T H t d v H' → Q v H' := by
  cases o with
  | none => exact q.elim
  | some d => exact ⟨d, rfl, q⟩
theorem bnd_assoc {α β γ : Type} (x : M α) (f : α → M β) (h : β → M γ) : bnd (bnd x f) h = bnd x fun a => bnd (f a) h := by
  funext t
  unfold bnd
  cases x t <;> rfl
theorem bnd_ret {α β : Type} (a : α) (f : α → M β) : bnd (ret a) f = f a := rfl

theorem se_of {e : E} {x : Expr} (xg : XG X g) (h : PE X x (tE g W (frE md e) (evE md cl e))) (hp : plainTest x = true) : SE X g md cl W e x :=
  ⟨h, tT_val xg h hp, fun op vs pos e => by subst e; cases hp⟩

theorem plain_d {y : Str} (h : plainName y = true) : (y == ("__debug__" : Str)) = false ∧ (y == ("__classdict__" : Str)) = false ∧ y ≠ "__name__" := by
  unfold plainName at h
  simp only [Bool.and_eq_true, Bool.not_eq_true'] at h
  refine ⟨h.1.1, h.1.2, fun e => ?_⟩
  rw [e] at h
  exact absurd h.2 (by decide)
theorem se_var {i : Nat} {y : Str} {pos : Pos} (c : XC X g md lv sc N st) (h1 : N[i]? = some y) (h2 : vis sc y = true) (h3 : plainName y = true) : SE X g md cl W (.var i) (.Name y pos) := by
  refine se_of c.xg ?_ rfl
  refine PE.weak (pe_var (i := i) (by rw [c.N]; exact h1) (vis_of c h2) (plain_d h3).1 (plain_d h3).2.1) fun σ H Q ⟨T, ρ, t, a, q⟩ => ?_
  unfold evE at q
  rcases e : nth ρ i with _ | (_ | d)
  · rw [e] at q; exact q.elim
  · rw [e] at q; exact q.elim
  · rw [e] at q
    obtain ⟨v, hv, r⟩ := a.vr i d e
    exact ⟨v, hv, q v H (Post.sh a.ar r)⟩
theorem se_cst {d : D} {k : Const} {kk : Nat} {pos : Pos} (c : XC X g md lv sc N st) (h1 : cstOk d k = true) : SE X g md cl W (.cst d) (.Constant k kk pos) := by
  refine se_of c.xg ?_ rfl
  have fin : ∀ (v : V), (∀ T, Rep g T d v) → ∀ σ H Q, tE g W (frE md (.cst d)) (evE md cl (.cst d)) σ H Q → tC v σ H Q := fun v r σ H Q ⟨T, ρ, t, a, q⟩ => by
    unfold evE at q
    exact q v H (Post.sh a.ar (r T))
  cases d with
  | non => cases k with
    | none => exact PE.weak pe_non (fin .non fun _ => rfl)
    | _ => cases h1
  | bl b => cases k with
    | bool b' =>
      have e : b = b' := by simpa [cstOk] using h1
      subst e
      exact PE.weak pe_bl (fin (.bl b) fun _ => rfl)
    | _ => cases h1
  | int i => cases k with
    | int j =>
      have e : i = j := by simpa [cstOk] using h1
      subst e
      exact PE.weak pe_int (fin (.int i) fun _ => rfl)
    | _ => cases h1
  | str s => cases k with
    | str x =>
      have e : x = S s := by simpa [cstOk] using h1
      subst e
      exact PE.weak pe_str (fin (.str (S s)) fun _ => rfl)
    | _ => cases h1
  | _ => cases h1
theorem se_glo {i : Nat} {y : Str} {d : D} {pos : Pos} (c : XC X g md lv sc N st) (m : ModOk g md) (h1 : nth md.gc i = some (y, d)) (h2 : gl sc y = true) (h3 : plainName y = true) : SE X g md cl W (.glo i) (.Name y pos) := by
  refine se_of c.xg ?_ rfl
  obtain ⟨v, u, hm, r, hr⟩ := m.gc i y d h1
  refine PE.weak (pe_glob (gl_of c h2) (by rw [c.xg.mg]; exact hm) r (plain_d h3).1) fun σ H Q ⟨T, ρ, t, a, q⟩ => ?_
  unfold evE at q
  rw [h1] at q
  exact q v H (Post.sh a.ar (hr g.tp T))
/-! ### operations -/
theorem o2_tOp {o : O2} {ea eb : E} {fr : Bool} {σ : L2.St} {H : Hp} {Q : VK} (z : tE g W fr (evE md cl (.o2 o ea eb)) σ H Q) : tOp (r2 g fr (f2 o)) (tE g W false (evE md cl ea)) (tE g W false (evE md cl eb)) σ H Q := by
  obtain ⟨T, ρ, t, a, q⟩ := z
  unfold evE at q
  refine tE_then a q fun d t1 v T1 H1 gn1 a1 r1 q1 => ?_
  refine tE_then a1 q1 fun e t2 u T2 H2 gn2 a2 r2 q2 => ?_
  obtain ⟨dd, e1, q3⟩ := opt_some q2
  have r1 : Rep g T1 d v := r1
  exact ⟨T2, t2, d, e, dd, gn2.arr, r1.mono gn2.sub _ _, r2, e1, q3⟩
theorem r2_fr {f : D → D → Option D} {x y : V} {H : Hp} {Q : VK} (hi : ∀ d e r, f d e = some r → isCell r = false) (h : r2 g false f x y H Q) : r2 g true f x y H Q := by
  obtain ⟨T, t, d1, d2, d, a, x1, x2, e, q⟩ := h
  refine ⟨T, t, d1, d2, d, a, x1, x2, e, fun v H' p => q v H' p.of⟩
theorem isBl_eqO {d e r : D} (h : eqO d e = some r) : ∃ b, r = .bl b := by
  unfold eqO at h; obtain ⟨b, _, e⟩ := Option.map_eq_some_iff.mp h; exact ⟨b, e.symm⟩
theorem isBl_neO {d e r : D} (h : neO d e = some r) : ∃ b, r = .bl b := by
  unfold neO at h; obtain ⟨b, _, e⟩ := Option.map_eq_some_iff.mp h; exact ⟨_, e.symm⟩
theorem isBl_inO {d e r : D} (h : inO d e = some r) : ∃ b, r = .bl b := by
  unfold inO at h; obtain ⟨b, _, e⟩ := Option.map_eq_some_iff.mp h; exact ⟨_, e.symm⟩
theorem isBl_ninO {d e r : D} (h : ninO d e = some r) : ∃ b, r = .bl b := by
  unfold ninO at h; obtain ⟨b, _, e⟩ := Option.map_eq_some_iff.mp h; exact ⟨_, e.symm⟩
theorem isBl_lt {d e r : D} (h : ltD d e = some r) : ∃ b, r = .bl b := by
  unfold ltD at h; split at h <;> first | cases h | skip
  all_goals first | exact ⟨_, rfl⟩ | (split at h <;> first | cases h | skip) | skip
  all_goals first | exact ⟨_, rfl⟩ | skip
theorem isBl_le {d e r : D} (h : leD d e = some r) : ∃ b, r = .bl b := by
  unfold leD at h; split at h <;> first | cases h | skip
  all_goals exact ⟨_, rfl⟩
theorem isBl_gt {d e r : D} (h : gtD d e = some r) : ∃ b, r = .bl b := by
  unfold gtD at h; split at h <;> first | cases h | skip
  all_goals exact ⟨_, rfl⟩
theorem isBl_ge {d e r : D} (h : geD d e = some r) : ∃ b, r = .bl b := by
  unfold geD at h; split at h <;> first | cases h | skip
  all_goals exact ⟨_, rfl⟩
theorem opt_ok {o : Option D} {t t' : Tape} {d : D} (h : opt o t = .ok d t') : o = some d := by
  cases o with
  | none => cases h
  | some x => cases h; rfl
theorem bnd_ok {α β : Type} {x : M α} {f : α → M β} {t t' : Tape} {b : β} (h : bnd x f t = .ok b t') : ∃ a t1, x t = .ok a t1 ∧ f a t1 = .ok b t' := by
  unfold bnd at h
  split at h
  · rename_i a t1 e; exact ⟨a, t1, e, h⟩
  · cases h
  · cases h
theorem o2_bl {o : O2} {ea eb : E} (hb : ∀ d e r, f2 o d e = some r → ∃ b, r = .bl b) : ∀ ρ t d t', evE md cl (.o2 o ea eb) ρ t = .ok d t' → ∃ b, d = .bl b := fun ρ t d t' h => by
  unfold evE at h
  obtain ⟨a, t1, _, h⟩ := bnd_ok h
  obtain ⟨b, t2, _, h⟩ := bnd_ok h
  exact hb a b d (opt_ok h)
section
variable {o : O2} {ea eb : E} {y z : Expr} {pos : Pos}
theorem se_bin {op : Operator} (xg : XG X g) (ho : OpR X (binaryOp op) (r2 g true (f2 o))) (hf : frE md (.o2 o ea eb) = true) (sa : SE X g md cl W ea y) (sb : SE X g md cl W eb z) : SE X g md cl W (.o2 o ea eb) (.BinOp y op z pos) := by
  refine se_of xg ?_ rfl
  rw [hf]
  exact PE.weak (pe_op ho (PE.of sa.pe) (PE.of sb.pe)) fun σ H Q z => o2_tOp z
theorem se_cmp {op : CmpOp} (xg : XG X g) (ho : OpR X (compareOp op) (r2 g true (f2 o))) (hf : frE md (.o2 o ea eb) = true) (hb : ∀ d e r, f2 o d e = some r → ∃ b, r = .bl b) (hm : okE z = true) (sa : SE X g md cl W ea y) (sb : SE X g md cl W eb z) :
    SE X g md cl W (.o2 o ea eb) (.Compare y [op] [z] pos) := by
  refine ⟨?_, ?_, fun _ _ _ e => nomatch e⟩
  · rw [hf]
    exact PE.weak (pe_cmpR ho (PE.of sa.pe) (PE.of sb.pe) (mark_ok hm)) fun σ H Q z => o2_tOp z
  · exact PT.weak (pt_cmpR ho (PE.of sa.pe) (PE.of sb.pe) (mark_ok hm)) fun σ H Q z => o2_tOp (tT_bl (o2_bl hb) z)
theorem se_ix (xg : XG X g) (hm : okE z = true) (sa : SE X g md cl W ea y) (sb : SE X g md cl W eb z) : SE X g md cl W (.o2 .ix ea eb) (.Subscript y z pos) := by
  refine se_of xg ?_ rfl
  exact PE.weak (pe_ix (ox_ix xg) (PE.of sa.pe) (PE.of sb.pe) (ix_ok hm)) fun σ H Q z => o2_tOp z
end
theorem se_o2 {o : O2} {ea eb : E} {x y z : Expr} (xg : XG X g) (h : dec2 o x = some (y, z)) (hz : okE z = true) (sa : SE X g md cl W ea y) (sb : SE X g md cl W eb z) : SE X g md cl W (.o2 o ea eb) x := by
  unfold dec2 at h
  split at h <;> first | cases h | skip
  · exact se_bin xg (ob_add xg) rfl sa sb
  · exact se_bin xg (ob_sub xg) rfl sa sb
  · exact se_bin xg (ob_mul xg) rfl sa sb
  · exact se_bin xg (ob_fdiv xg) rfl sa sb
  · exact se_bin xg (ob_mod xg) rfl sa sb
  · exact se_bin xg (ob_shl xg) rfl sa sb
  · exact se_bin xg (ob_shr xg) rfl sa sb
  · exact se_bin xg (ob_and xg) rfl sa sb
  · exact se_bin xg (ob_or xg) rfl sa sb
  · exact se_cmp xg (oc_eq xg) rfl (fun _ _ _ e => isBl_eqO e) hz sa sb
  · exact se_cmp xg (oc_ne xg) rfl (fun _ _ _ e => isBl_neO e) hz sa sb
  · exact se_cmp xg (oc_lt xg) rfl (fun _ _ _ e => isBl_lt e) hz sa sb
  · exact se_cmp xg (oc_le xg) rfl (fun _ _ _ e => isBl_le e) hz sa sb
  · exact se_cmp xg (oc_gt xg) rfl (fun _ _ _ e => isBl_gt e) hz sa sb
  · exact se_cmp xg (oc_ge xg) rfl (fun _ _ _ e => isBl_ge e) hz sa sb
  · exact se_cmp xg (oc_in xg) rfl (fun _ _ _ e => isBl_inO e) hz sa sb
  · exact se_cmp xg (oc_nin xg) rfl (fun _ _ _ e => isBl_ninO e) hz sa sb
  · exact se_ix xg hz sa sb
/-! ### one operand -/
theorem o1_t {o : O1} {ea : E} {σ : L2.St} {H : Hp} {Q : VK} (z : tE g W true (evE md cl (.o1 o ea)) σ H Q) : tE g W false (evE md cl ea) σ H fun x H1 => r1 g true (f1 o) x H1 Q := by
  obtain ⟨T, ρ, t, a, q⟩ := z
  unfold evE at q
  refine tE_then a q fun d t1 v T1 H1 gn1 a1 r1 q1 => ?_
  obtain ⟨dd, e1, q3⟩ := opt_some q1
  exact ⟨T1, t1, d, dd, gn1.arr, r1, e1, q3⟩
theorem isn_bl {d r : D} (h : isnO d = some r) : ∃ b, r = .bl b := by
  unfold isnO at h; split at h <;> first | cases h | skip
  all_goals exact ⟨_, rfl⟩
theorem nisn_bl {d r : D} (h : nisnO d = some r) : ∃ b, r = .bl b := by
  unfold nisnO at h; split at h <;> first | cases h | skip
  all_goals exact ⟨_, rfl⟩
theorem isn_of {d r : D} (h : nisnO d = some r) : isnO d ≠ none := by
  unfold nisnO at h; unfold isnO
  split at h <;> first | cases h | skip
  all_goals simp
theorem o1_bl {o : O1} {ea : E} (hb : ∀ d r, f1 o d = some r → ∃ b, r = .bl b) : ∀ ρ t d t', evE md cl (.o1 o ea) ρ t = .ok d t' → ∃ b, d = .bl b := fun ρ t d t' h => by
  unfold evE at h
  obtain ⟨a, t1, _, h⟩ := bnd_ok h
  exact hb a d (opt_ok h)
theorem isb_t {b k : Bool} {ea : E} {r : R2} {j : Nat} (hr : ∀ c H Q, Q (V.bl (k == (c == b))) H → r (.bl c) (.bl b) H Q) {σ : L2.St} {H : Hp} {Q : VK} (z : tE g W true (evE md cl (.o1 (.isb b k) ea)) σ H Q) : tOp r (tE g W false (evE md cl ea)) (tC (.bl b)) σ H Q := by
  obtain ⟨T, ρ, t, a, q⟩ := o1_t z
  refine ⟨T, ρ, t, a, ?_⟩
  unfold Good at q ⊢
  split at q
  · intro v H' p
    obtain ⟨T1, t1, d1, d, ar, r1, e, q⟩ := q v H' p
    cases d1 with
    | bl c =>
      cases e
      have hv : v = .bl c := r1
      subst hv
      exact hr c _ _ (q _ _ (Post.val ar rfl rfl))
    | _ => cases e
  · exact q
  · exact q
theorem isb_bl {b k : Bool} {d r : D} (h : f1 (.isb b k) d = some r) : ∃ c, r = .bl c := by
  cases d <;> first | (cases h; done) | exact ⟨_, (Option.some.inj h).symm⟩
theorem se_isb {b k : Bool} {op : CmpOp} {ea : E} {y : Expr} {j : Nat} {p pos : Pos} {r : R2} (xg : XG X g) (ho : OpR X (compareOp op) r) (hr : ∀ c H Q, Q (V.bl (k == (c == b))) H → r (.bl c) (.bl b) H Q) (hm : behindInMarks op (.Constant (.bool b) j p) = false) (sa : SE X g md cl W ea y) :
    SE X g md cl W (.o1 (.isb b k) ea) (.Compare y [op] [.Constant (.bool b) j p] pos) := by
  refine ⟨PE.weak (pe_cmpR ho (PE.of sa.pe) pe_bl hm) fun σ H Q z => isb_t (j := j) hr z, ?_, fun _ _ _ e => nomatch e⟩
  exact PT.weak (pt_cmpR ho (PE.of sa.pe) pe_bl hm) fun σ H Q z => isb_t (j := j) hr (tT_bl (o1_bl fun d r e => isb_bl e) z)
theorem se_o1 {o : O1} {ea : E} {x y : Expr} (xg : XG X g) (h : dec1 o x = some y) (sa : SE X g md cl W ea y) : SE X g md cl W (.o1 o ea) x := by
  unfold dec1 at h
  split at h <;> first | cases h | skip
  · refine se_of xg ?_ rfl
    refine PE.weak (pe_un un_neg (PE.of sa.pe)) fun σ H Q z => ?_
    have z := o1_t z
    obtain ⟨T, ρ, t, a, q⟩ := z
    refine ⟨T, ρ, t, a, ?_⟩
    unfold Good at q ⊢
    split at q
    · intro v H' p
      obtain ⟨T1, t1, d1, d, ar, r, e, q⟩ := q v H' p
      unfold f1 at e
      split at e <;> first | cases e | skip
      all_goals first | exact ⟨_, r, q _ _ (Post.val ar rfl rfl)⟩ | skip
      all_goals (rename_i hh; cases hh)
    · exact q
    · exact q
  · have step : ∀ σ H Q, tE g W true (evE md cl (.o1 .isn ea)) σ H Q → tIsN (tE g W false (evE md cl ea)) σ H Q := fun σ H Q z => by
      obtain ⟨T, ρ, t, a, q⟩ := o1_t z
      refine ⟨T, ρ, t, a, ?_⟩
      unfold Good at q ⊢
      split at q
      · intro v H' p
        obtain ⟨T1, t1, d1, d, ar, r, e, q⟩ := q v H' p
        have e : isnO d1 = some d := e
        have h := (rep_non (by rw [e]; simp) r).1
        rw [e] at h; cases h
        exact q _ _ (Post.val ar rfl rfl)
      · exact q
      · exact q
    refine ⟨PE.weak (pe_cmp (pc_isN (PE.of sa.pe)) rfl) step, ?_, fun _ _ _ e => nomatch e⟩
    exact PT.weak (pt_cmp (pc_isN (PE.of sa.pe)) rfl) fun σ H Q z => step σ H _ (tT_bl (o1_bl fun d r e => isn_bl e) z)
  · have step : ∀ σ H Q, tE g W true (evE md cl (.o1 .nisn ea)) σ H Q → tNotN (tE g W false (evE md cl ea)) σ H Q := fun σ H Q z => by
      obtain ⟨T, ρ, t, a, q⟩ := o1_t z
      refine ⟨T, ρ, t, a, ?_⟩
      unfold Good at q ⊢
      split at q
      · intro v H' p
        obtain ⟨T1, t1, d1, d, ar, r, e, q⟩ := q v H' p
        have e : nisnO d1 = some d := e
        have h := (rep_non (isn_of e) r).2
        rw [e] at h; cases h
        exact q _ _ (Post.val ar rfl rfl)
      · exact q
      · exact q
    refine ⟨PE.weak (pe_cmp (pc_notN (PE.of sa.pe)) rfl) step, ?_, fun _ _ _ e => nomatch e⟩
    exact PT.weak (pt_cmp (pc_notN (PE.of sa.pe)) rfl) fun σ H Q z => step σ H _ (tT_bl (o1_bl fun d r e => nisn_bl e) z)
  · refine se_of xg ?_ rfl
    exact PE.weak (pe_revO xg (PE.of sa.pe)) fun σ H Q z => o1_t z
  · split at h
    · rename_i hc; cases h; subst hc
      exact se_isb xg op_isBl (fun c H Q q => ⟨c, _, rfl, rfl, (by
        have e : ∀ c b : Bool, (true == (c == b)) = decide (c = b) := by decide
        rw [← e]; exact q)⟩) rfl sa
    · cases h
  · split at h
    · rename_i hc; cases h; subst hc
      exact se_isb xg op_notBl (fun c H Q q => ⟨c, _, rfl, rfl, (by
        have e : ∀ c b : Bool, (false == (c == b)) = !decide (c = b) := by decide
        rw [← e]; exact q)⟩) rfl sa
    · cases h
end
end EV

set_option Elab.async false
set_option linter.all false
set_option maxRecDepth 100000
set_option maxHeartbeats 4000000
/-! EvH: more kinds of expressions. -/
namespace EV
open PySem PySem.Spec PyProof.Rows L2
section
variable {g : Gs} {md : Md} {cl : Cl} {lv : Nat} {X : Cx} {sc : Scope} {N : List Str} {st : Str → Bool} {W : WX}
/-! ### and, or, not, if -/
theorem and_pe {ea eb : E} {σ : L2.St} {H : Hp} {Q : VK} (hK : X.K = g.K) (z : tE g W false (evE md cl (.and ea eb)) σ H Q) : tAndT X.K (tE g W false (evE md cl ea)) (tE g W false (evE md cl eb)) σ H Q := by
  obtain ⟨T, ρ, t, a, q⟩ := z
  unfold evE at q
  refine tE_then a q fun d t1 v T1 H1 gn1 a1 r1 q1 => ?_
  cases hb : trB d with
  | none => rw [hb] at q1; exact q1.elim
  | some b =>
    rw [hb] at q1
    refine ⟨b, tr_ok hK gn1.arr r1 hb, ?_⟩
    cases b with
    | true => rw [if_pos rfl]; exact ⟨T1, ρ, t1, a1, q1⟩
    | false => rw [if_neg (by simp)]; exact q1 v H1 (Post.sh gn1.arr r1)
theorem or_pe {ea eb : E} {σ : L2.St} {H : Hp} {Q : VK} (hK : X.K = g.K) (z : tE g W false (evE md cl (.or ea eb)) σ H Q) : tOrT X.K (tE g W false (evE md cl ea)) (tE g W false (evE md cl eb)) σ H Q := by
  obtain ⟨T, ρ, t, a, q⟩ := z
  unfold evE at q
  refine tE_then a q fun d t1 v T1 H1 gn1 a1 r1 q1 => ?_
  cases hb : trB d with
  | none => rw [hb] at q1; exact q1.elim
  | some b =>
    rw [hb] at q1
    refine ⟨b, tr_ok hK gn1.arr r1 hb, ?_⟩
    cases b with
    | true => rw [if_pos rfl]; exact q1 v H1 (Post.sh gn1.arr r1)
    | false => rw [if_neg (by simp)]; exact ⟨T1, ρ, t1, a1, q1⟩
theorem and_pt {ea eb : E} {σ : L2.St} {H : Hp} {Q : Bool → Hp → Prop} (z : tT g W (evT md cl (.and ea eb)) σ H Q) : tAnd (tT g W (evT md cl ea)) (tT g W (evT md cl eb)) σ H Q := by
  obtain ⟨T, ρ, t, a, q⟩ := z
  have q : GoodB g W T H σ (bnd (evE md cl (.and ea eb) ρ) (fun d => opt (trB d)) t) Q := q
  unfold evE at q
  rw [bnd_assoc] at q
  refine tB_then a q (fun d b t1 T1 H1 hb gn1 a1 q1 => ?_) fun d t' hb => by rw [hb]; rfl
  rw [hb] at q1
  cases b with
  | true => rw [if_pos rfl]; exact ⟨T1, ρ, t1, a1, q1⟩
  | false =>
    rw [if_neg (by simp)]
    have q1 : GoodB g W T1 H1 σ (opt (trB d) t1) Q := q1
    rw [hb] at q1
    exact q1 T1 H1 a1.refl
theorem or_pt {ea eb : E} {σ : L2.St} {H : Hp} {Q : Bool → Hp → Prop} (z : tT g W (evT md cl (.or ea eb)) σ H Q) : tOr (tT g W (evT md cl ea)) (tT g W (evT md cl eb)) σ H Q := by
  obtain ⟨T, ρ, t, a, q⟩ := z
  have q : GoodB g W T H σ (bnd (evE md cl (.or ea eb) ρ) (fun d => opt (trB d)) t) Q := q
  unfold evE at q
  rw [bnd_assoc] at q
  refine tB_then a q (fun d b t1 T1 H1 hb gn1 a1 q1 => ?_) fun d t' hb => by rw [hb]; rfl
  rw [hb] at q1
  cases b with
  | false => rw [if_neg (by simp)]; exact ⟨T1, ρ, t1, a1, q1⟩
  | true =>
    rw [if_pos rfl]
    have q1 : GoodB g W T1 H1 σ (opt (trB d) t1) Q := q1
    rw [hb] at q1
    exact q1 T1 H1 a1.refl
theorem se_and {ea eb : E} {y z : Expr} {r : List Expr} {pos : Pos} (xg : XG X g) (sa : SE X g md cl W ea y) (sb : r = [] ∧ SE X g md cl W eb z ∨ r ≠ [] ∧ SE X g md cl W eb (.BoolOp .And (z :: r) pos)) : SE X g md cl W (.and ea eb) (.BoolOp .And (y :: z :: r) pos) := by
  have hp : PE X (.BoolOp .And (z :: r) pos) (tE g W false (evE md cl eb)) := by
    rcases sb with ⟨rfl, s⟩ | ⟨_, s⟩
    · exact pe_one (PE.of s.pe)
    · exact PE.of s.pe
  have hw : PW X (.BoolOp .And (z :: r) pos) (tT g W (evT md cl eb)) := by
    rcases sb with ⟨rfl, s⟩ | ⟨_, s⟩
    · exact pw_and1 s.pt
    · exact s.pw _ _ _ rfl
  have w : PW X (.BoolOp .And (y :: z :: r) pos) (tT g W (evT md cl (.and ea eb))) :=
    ⟨fun whole pins s σ H Q I h => (pw_and sa.pt hw).run whole pins s σ H Q I (and_pt h)⟩
  exact ⟨PE.weak (pe_andT (PE.of sa.pe) hp) fun σ H Q z => and_pe xg.K z, w.pt, fun _ _ _ _ => w⟩
theorem se_or {ea eb : E} {y z : Expr} {r : List Expr} {pos : Pos} (xg : XG X g) (sa : SE X g md cl W ea y) (sb : r = [] ∧ SE X g md cl W eb z ∨ r ≠ [] ∧ SE X g md cl W eb (.BoolOp .Or (z :: r) pos)) : SE X g md cl W (.or ea eb) (.BoolOp .Or (y :: z :: r) pos) := by
  have hp : PE X (.BoolOp .Or (z :: r) pos) (tE g W false (evE md cl eb)) := by
    rcases sb with ⟨rfl, s⟩ | ⟨_, s⟩
    · exact pe_one (PE.of s.pe)
    · exact PE.of s.pe
  have hw : PW X (.BoolOp .Or (z :: r) pos) (tT g W (evT md cl eb)) := by
    rcases sb with ⟨rfl, s⟩ | ⟨_, s⟩
    · exact pw_or1 s.pt
    · exact s.pw _ _ _ rfl
  have w : PW X (.BoolOp .Or (y :: z :: r) pos) (tT g W (evT md cl (.or ea eb))) :=
    ⟨fun whole pins s σ H Q I h => (pw_or sa.pt hw).run whole pins s σ H Q I (or_pt h)⟩
  exact ⟨PE.weak (pe_orT (PE.of sa.pe) hp) fun σ H Q z => or_pe xg.K z, w.pt, fun _ _ _ _ => w⟩
theorem se_not {ea : E} {y : Expr} {pos : Pos} (xg : XG X g) (sa : SE X g md cl W ea y) : SE X g md cl W (.not ea) (.UnaryOp .Not y pos) := by
  refine ⟨PE.weak (pe_notT (PE.of sa.pe)) fun σ H Q ⟨T, ρ, t, a, q⟩ => ?_, PT.weak (pt_not sa.pt) fun σ H Q ⟨T, ρ, t, a, q⟩ => ?_, fun _ _ _ e => nomatch e⟩
  · unfold evE at q
    refine tE_then a q fun d t1 v T1 H1 gn1 a1 r1 q1 => ?_
    cases hb : trB d with
    | none => rw [hb] at q1; exact q1.elim
    | some b =>
      rw [hb] at q1
      exact ⟨b, tr_ok xg.K gn1.arr r1 hb, q1 _ _ (Post.val gn1.arr rfl rfl)⟩
  · have q : GoodB g W T H σ (bnd (evE md cl (.not ea) ρ) (fun d => opt (trB d)) t) Q := q
    unfold evE at q
    rw [bnd_assoc] at q
    refine tB_then a q (fun d b t1 T1 H1 hb gn1 a1 q1 => ?_) fun d t' hb => by rw [hb]; rfl
    rw [hb] at q1
    exact q1 T1 H1 a1.refl
theorem Good.sub {fr fa : Bool} {T H : Hp} {σ : L2.St} {r : Res D} {Q : VK} (hf : fr = true → fa = true) (h : Good g W fr T H σ r Q) : Good g W fa T H σ r Q := by
  cases fr with
  | true => rw [hf rfl]; exact h
  | false => exact Good.of h
theorem se_ife {ec ea eb : E} {w y z : Expr} {pos : Pos} (xg : XG X g) (s0 : SE X g md cl W ec w) (sa : SE X g md cl W ea y) (sb : SE X g md cl W eb z) : SE X g md cl W (.ife ec ea eb) (.IfExp w y z pos) := by
  refine ⟨PE.weak (pe_ifExp s0.pt sa.pe sb.pe) fun σ H Q ⟨T, ρ, t, a, q⟩ => ?_, PT.weak (pt_ifE s0.pt sa.pt sb.pt) fun σ H Q ⟨T, ρ, t, a, q⟩ => ?_, fun _ _ _ e => nomatch e⟩
  · unfold evE at q
    refine tT_then a q (fun d b t1 T1 H1 hb gn1 a1 q1 => ?_) fun d t' hb => by rw [hb]; rfl
    rw [hb] at q1
    cases b with
    | true => rw [if_pos rfl]; exact ⟨T1, ρ, t1, a1, Good.sub (fun h => by unfold frE at h; exact (Bool.and_eq_true _ _ ▸ h).1) q1⟩
    | false => rw [if_neg (by simp)]; exact ⟨T1, ρ, t1, a1, Good.sub (fun h => by unfold frE at h; exact (Bool.and_eq_true _ _ ▸ h).2) q1⟩
  · have q : GoodB g W T H σ (bnd (evE md cl (.ife ec ea eb) ρ) (fun d => opt (trB d)) t) Q := q
    unfold evE at q
    rw [bnd_assoc] at q
    refine tB_then a q (fun d b t1 T1 H1 hb gn1 a1 q1 => ?_) fun d t' hb => by rw [hb]; rfl
    rw [hb] at q1
    cases b with
    | true => rw [if_pos rfl]; exact ⟨T1, ρ, t1, a1, q1⟩
    | false => rw [if_neg (by simp)]; exact ⟨T1, ρ, t1, a1, q1⟩
/-! ### a op b op c -/
theorem cmp_or {o : O2} {op : CmpOp} (xg : XG X g) (h : cmpOf o = some op) : OpR X (compareOp op) (r2 g true (f2 o)) ∧ (∀ d e r, f2 o d e = some r → ∃ b, r = .bl b) := by
  unfold cmpOf at h
  split at h <;> first | cases h | skip
  · exact ⟨oc_eq xg, fun _ _ _ e => isBl_eqO e⟩
  · exact ⟨oc_ne xg, fun _ _ _ e => isBl_neO e⟩
  · exact ⟨oc_lt xg, fun _ _ _ e => isBl_lt e⟩
  · exact ⟨oc_le xg, fun _ _ _ e => isBl_le e⟩
  · exact ⟨oc_gt xg, fun _ _ _ e => isBl_gt e⟩
  · exact ⟨oc_ge xg, fun _ _ _ e => isBl_ge e⟩
theorem Post.bl {fr fa : Bool} {T H : Hp} {t : Tape} {b : Bool} {v : V} {H' : Hp} (p : Post g fr T H t (.bl b) v H') : Post g fa T H t (.bl b) v H' := by
  obtain ⟨T', gn, r⟩ := p
  refine ⟨T', gn, ?_⟩
  cases fr <;> cases fa <;> exact r
theorem ch_t {o p : O2} {ea eb ec : E} {fr : Bool} {σ : L2.St} {H : Hp} {Q : VK} (ho : ∀ d e r, f2 o d e = some r → ∃ b, r = .bl b) (hp : ∀ d e r, f2 p d e = some r → ∃ b, r = .bl b) (z : tE g W fr (evE md cl (.ch o p ea eb ec)) σ H Q) :
    tChain (r2 g true (f2 o)) (r2 g true (f2 p)) (tE g W false (evE md cl ea)) (tE g W false (evE md cl eb)) (tE g W false (evE md cl ec)) σ H Q := by
  obtain ⟨T, ρ, t, a, q⟩ := z
  unfold evE at q
  refine tE_then a q fun d t1 v T1 H1 gn1 a1 r1 q1 => ?_
  refine tE_then a1 q1 fun e t2 u T2 H2 gn2 a2 r2' q2 => ?_
  have r1 : Rep g T1 d v := r1
  cases ho' : f2 o d e with
  | none => rw [ho'] at q2; exact q2.elim
  | some r =>
    rw [ho'] at q2
    obtain ⟨b, rfl⟩ := ho d e r ho'
    refine ⟨T2, t2, d, e, .bl b, gn2.arr, r1.mono gn2.sub _ _, r2', ho', fun w H3 ps => ?_⟩
    obtain ⟨T3, gn3, r3⟩ := ps
    refine ⟨b, r3, ?_⟩
    have q3 := Good.back gn3 q2
    cases b with
    | false =>
      rw [if_neg (by simp)]
      have q3 : Good g W fr T3 H3 σ (ret (D.bl false) t2) Q := q3
      exact q3 _ _ (Post.val gn3.arr rfl rfl)
    | true =>
      rw [if_pos rfl]
      have q3 : Good g W fr T3 H3 σ (bnd (evE md cl ec ρ) (fun h => opt (f2 p e h)) t2) Q := q3
      refine tE_then (a2.gone gn3) q3 fun h t4 w' T4 H4 gn4 a4 r4 q4 => ?_
      obtain ⟨dd, e1, q5⟩ := opt_some q4
      obtain ⟨b', rfl⟩ := hp e h dd e1
      have r2' : Rep g T2 e u := r2'
      exact ⟨T4, t4, e, h, .bl b', gn4.arr, r2'.mono (gn3.sub.trans gn4.sub) _ _, r4, e1, fun v H' p => q5 v H' (Post.bl p)⟩
theorem ch_bl {o p : O2} {ea eb ec : E} (hp : ∀ d e r, f2 p d e = some r → ∃ b, r = .bl b) : ∀ ρ t d t', evE md cl (.ch o p ea eb ec) ρ t = .ok d t' → ∃ b, d = .bl b := fun ρ t d t' h => by
  unfold evE at h
  obtain ⟨a, t1, _, h⟩ := bnd_ok h
  obtain ⟨b, t2, _, h⟩ := bnd_ok h
  obtain ⟨c, t3, _, h⟩ := bnd_ok h
  split at h
  · obtain ⟨e, t4, _, h⟩ := bnd_ok h
    exact hp _ _ _ (opt_ok h)
  · cases h; exact ⟨_, rfl⟩
  · cases h
theorem last_ok {o' p' : CmpOp} {z w : Expr} (h : okE w = true) : lastMarks [o', p'] [z, w] = false := by
  cases w <;> first | rfl | cases h | with_unfolding_all rfl
theorem se_ch {o p : O2} {o' p' : CmpOp} {ea eb ec : E} {x y z : Expr} {pos : Pos} (xg : XG X g) (ho : cmpOf o = some o') (hp : cmpOf p = some p') (hz : okE z = true) (sa : SE X g md cl W ea x) (sb : SE X g md cl W eb y) (s3 : SE X g md cl W ec z) :
    SE X g md cl W (.ch o p ea eb ec) (.Compare x [o', p'] [y, z] pos) := by
  obtain ⟨h1, h2⟩ := cmp_or xg ho
  obtain ⟨h3, h4⟩ := cmp_or xg hp
  refine ⟨PE.weak (pe_chain h1 h3 (PE.of sa.pe) (PE.of sb.pe) (PE.of s3.pe) (last_ok hz)) fun σ H Q z => ch_t h2 h4 z, PT.weak (pt_chain h1 h3 (PE.of sa.pe) (PE.of sb.pe) (PE.of s3.pe) (last_ok hz)) fun σ H Q z => ?_, fun _ _ _ e => nomatch e⟩
  exact ch_t (fr := false) h2 h4 (tT_bl (ch_bl h4) z)
/-! ### a op b op c op d -/
def tChain3 (r r' r'' : R2) (ta tb tc td : TE) : TE := fun σ H Q => ta σ H fun x H1 => tb σ H1 fun y H2 => r x y H2 fun z H3 => ∃ k, z = .bl k ∧
  (if k = true then tc σ H3 fun w H4 => r' y w H4 fun z2 H5 => ∃ k2, z2 = .bl k2 ∧ (if k2 = true then td σ H5 fun u H6 => r'' w u H6 Q else Q (.bl false) H5) else Q (.bl false) H3)
theorem pe_chain3 {op op' op'' : CmpOp} {r r' r'' : R2} {a b c d : Expr} {ta tb tc td : TE} {pos : Pos} (ho : OpR X (compareOp op) r) (ho' : OpR X (compareOp op') r') (ho'' : OpR X (compareOp op'') r'') (ha : PE X a ta) (hb : PE X b tb) (hc : PE X c tc) (hd : PE X d td)
    (hm : lastMarks [op, op', op''] [b, c, d] = false) : PE X (.Compare a [op, op', op''] [b, c, d] pos) (tChain3 r r' r'' ta tb tc td) := by
  refine ⟨fun pins s σ H Q I h => ?_⟩
  refine Compare_chain (thn (ha.run pins s σ H _ I h) fun v s1 ⟨x, H1, I1, r1, q1⟩ => chain_link (thn (hb.run pins s1 σ H1 _ I1 q1) fun u s2 ⟨y, H2, I2, r2, q2⟩ =>
    thn (ho pins s2 σ H2 x y v u _ I2 r1 r2 q2) fun d s3 ⟨z, H3, I3, r3, k, e, q3⟩ => ?_)) hm
  subst e
  cases r3
  refine wpAny_truthy_bool ?_
  cases k with
  | false => exact ite_ff ⟨.bl false, H3, I3, rfl, q3⟩
  | true =>
    refine ite_tt (chain_link (thn (hc.run pins s3 σ H3 _ I3 q3) fun w' s4 ⟨w, H4, I4, r4, q4⟩ => thn (ho' pins s4 σ H4 y w u w' _ I4 r2 r4 q4) fun d2 s5 ⟨z2, H5, I5, r5, k2, e2, q5⟩ => ?_))
    subst e2
    cases r5
    refine wpAny_truthy_bool ?_
    cases k2 with
    | false => exact ite_ff ⟨.bl false, H5, I5, rfl, q5⟩
    | true => exact ite_tt (chain_last (thn (hd.run pins s5 σ H5 _ I5 q5) fun u' s6 ⟨z', H6, I6, r6, q6⟩ => ho'' pins s6 σ H6 w z' w' u' Q I6 r4 r6 q6))
theorem pt_chain3 {op op' op'' : CmpOp} {r r' r'' : R2} {a b c d : Expr} {ta tb tc td : TE} {pos : Pos} (ho : OpR X (compareOp op) r) (ho' : OpR X (compareOp op') r') (ho'' : OpR X (compareOp op'') r'') (ha : PE X a ta) (hb : PE X b tb) (hc : PE X c tc) (hd : PE X d td)
    (hm : lastMarks [op, op', op''] [b, c, d] = false) : PT X (.Compare a [op, op', op''] [b, c, d] pos) (tTest (tChain3 r r' r'' ta tb tc td)) := by
  refine ⟨fun pins s σ H Q I h => ?_⟩
  refine isTrue_chain (thn (ha.run pins s σ H _ I h) fun v s1 ⟨x, H1, I1, r1, q1⟩ => test_link (thn (hb.run pins s1 σ H1 _ I1 q1) fun u s2 ⟨y, H2, I2, r2, q2⟩ =>
    thn (ho pins s2 σ H2 x y v u _ I2 r1 r2 q2) fun d s3 ⟨z, H3, I3, r3, k, e, q3⟩ => ?_)) hm
  subst e
  cases r3
  refine wpAny_truthy_bool ?_
  cases k with
  | false =>
    obtain ⟨k', e', q'⟩ := q3
    cases e'
    exact ite_ff ⟨H3, I3, q'⟩
  | true =>
    refine ite_tt (test_link (thn (hc.run pins s3 σ H3 _ I3 q3) fun w' s4 ⟨w, H4, I4, r4, q4⟩ => thn (ho' pins s4 σ H4 y w u w' _ I4 r2 r4 q4) fun d2 s5 ⟨z2, H5, I5, r5, k2, e2, q5⟩ => ?_))
    subst e2
    cases r5
    refine wpAny_truthy_bool ?_
    cases k2 with
    | false =>
      obtain ⟨k', e', q'⟩ := q5
      cases e'
      exact ite_ff ⟨H5, I5, q'⟩
    | true =>
      refine ite_tt (test_last (thn (hd.run pins s5 σ H5 _ I5 q5) fun u' s6 ⟨z', H6, I6, r6, q6⟩ => thn (ho'' pins s6 σ H6 w z' w' u' _ I6 r4 r6 q6) fun d3 s7 ⟨z3, H7, I7, r7, k3, e3, q7⟩ => ?_))
      subst e3
      cases r7
      exact wpAny_truthy_bool ⟨H7, I7, q7⟩
theorem c3_t {o p q0 : O2} {ea eb ec ed : E} {fr : Bool} {σ : L2.St} {H : Hp} {Q : VK} (ho : ∀ d e r, f2 o d e = some r → ∃ b, r = .bl b) (hp : ∀ d e r, f2 p d e = some r → ∃ b, r = .bl b) (hq : ∀ d e r, f2 q0 d e = some r → ∃ b, r = .bl b) (z : tE g W fr (evE md cl (.c3 o p q0 ea eb ec ed)) σ H Q) :
    tChain3 (r2 g true (f2 o)) (r2 g true (f2 p)) (r2 g true (f2 q0)) (tE g W false (evE md cl ea)) (tE g W false (evE md cl eb)) (tE g W false (evE md cl ec)) (tE g W false (evE md cl ed)) σ H Q := by
  obtain ⟨T, ρ, t, a, q⟩ := z
  unfold evE at q
  refine tE_then a q fun d t1 v T1 H1 gn1 a1 r1 q1 => ?_
  refine tE_then a1 q1 fun e t2 u T2 H2 gn2 a2 r2' q2 => ?_
  have r1 : Rep g T1 d v := r1
  cases ho' : f2 o d e with
  | none => rw [ho'] at q2; exact q2.elim
  | some r =>
    rw [ho'] at q2
    obtain ⟨b, rfl⟩ := ho d e r ho'
    refine ⟨T2, t2, d, e, .bl b, gn2.arr, r1.mono gn2.sub _ _, r2', ho', fun w H3 ps => ?_⟩
    obtain ⟨T3, gn3, r3⟩ := ps
    refine ⟨b, r3, ?_⟩
    have q3 := Good.back gn3 q2
    cases b with
    | false =>
      rw [if_neg (by simp)]
      have q3 : Good g W fr T3 H3 σ (ret (D.bl false) t2) Q := q3
      exact q3 _ _ (Post.val gn3.arr rfl rfl)
    | true =>
      rw [if_pos rfl]
      have q3 : Good g W fr T3 H3 σ (bnd (evE md cl ec ρ) (fun z => bnd (opt (f2 p e z)) fun r2 => match r2 with
        | .bl true => bnd (evE md cl ed ρ) fun w => opt (f2 q0 z w)
        | .bl false => ret (.bl false)
        | _ => bad) t2) Q := q3
      refine tE_then (a2.gone gn3) q3 fun h t4 w' T4 H4 gn4 a4 r4 q4 => ?_
      have r2' : Rep g T2 e u := r2'
      have r4 : Rep g T4 h w' := r4
      cases hp' : f2 p e h with
      | none => rw [hp'] at q4; exact q4.elim
      | some r5 =>
        rw [hp'] at q4
        obtain ⟨b2, rfl⟩ := hp e h r5 hp'
        refine ⟨T4, t4, e, h, .bl b2, gn4.arr, r2'.mono (gn3.sub.trans gn4.sub) _ _, r4, hp', fun w2 H5 ps2 => ?_⟩
        obtain ⟨T5, gn5, r5⟩ := ps2
        refine ⟨b2, r5, ?_⟩
        have q5 := Good.back gn5 q4
        cases b2 with
        | false =>
          rw [if_neg (by simp)]
          have q5 : Good g W fr T5 H5 σ (ret (D.bl false) t4) Q := q5
          exact q5 _ _ (Post.val gn5.arr rfl rfl)
        | true =>
          rw [if_pos rfl]
          have q5 : Good g W fr T5 H5 σ (bnd (evE md cl ed ρ) (fun w => opt (f2 q0 h w)) t4) Q := q5
          refine tE_then (a4.gone gn5) q5 fun h2 t6 w6 T6 H6 gn6 a6 r6 q6 => ?_
          obtain ⟨dd, e1, q7⟩ := opt_some q6
          obtain ⟨b', rfl⟩ := hq h h2 dd e1
          exact ⟨T6, t6, h, h2, .bl b', gn6.arr, r4.mono (gn5.sub.trans gn6.sub) _ _, r6, e1, fun v H' p => q7 v H' (Post.bl p)⟩
theorem c3_bl {o p q : O2} {ea eb ec ed : E} (hq : ∀ d e r, f2 q d e = some r → ∃ b, r = .bl b) : ∀ ρ t d t', evE md cl (.c3 o p q ea eb ec ed) ρ t = .ok d t' → ∃ b, d = .bl b := fun ρ t d t' h => by
  unfold evE at h
  obtain ⟨a, t1, _, h⟩ := bnd_ok h
  obtain ⟨b, t2, _, h⟩ := bnd_ok h
  obtain ⟨c, t3, _, h⟩ := bnd_ok h
  split at h
  · obtain ⟨e, t4, _, h⟩ := bnd_ok h
    obtain ⟨c2, t5, _, h⟩ := bnd_ok h
    split at h
    · obtain ⟨e2, t6, _, h⟩ := bnd_ok h
      exact hq _ _ _ (opt_ok h)
    · cases h; exact ⟨_, rfl⟩
    · cases h
  · cases h; exact ⟨_, rfl⟩
  · cases h
theorem last_ok3 {o' p' q' : CmpOp} {z w u : Expr} (h : okE u = true) : lastMarks [o', p', q'] [z, w, u] = false := by
  cases u <;> first | rfl | cases h | with_unfolding_all rfl
theorem se_c3 {o p q : O2} {o' p' q' : CmpOp} {ea eb ec ed : E} {x y z u : Expr} {pos : Pos} (xg : XG X g) (ho : cmpOf o = some o') (hp : cmpOf p = some p') (hq : cmpOf q = some q') (hz : okE u = true) (sa : SE X g md cl W ea x) (sb : SE X g md cl W eb y) (s3 : SE X g md cl W ec z) (s4 : SE X g md cl W ed u) :
    SE X g md cl W (.c3 o p q ea eb ec ed) (.Compare x [o', p', q'] [y, z, u] pos) := by
  obtain ⟨h1, h2⟩ := cmp_or xg ho
  obtain ⟨h3, h4⟩ := cmp_or xg hp
  obtain ⟨h5, h6⟩ := cmp_or xg hq
  refine ⟨PE.weak (pe_chain3 h1 h3 h5 (PE.of sa.pe) (PE.of sb.pe) (PE.of s3.pe) (PE.of s4.pe) (last_ok3 hz)) fun σ H Q z => c3_t h2 h4 h6 z, PT.weak (pt_chain3 h1 h3 h5 (PE.of sa.pe) (PE.of sb.pe) (PE.of s3.pe) (PE.of s4.pe) (last_ok3 hz)) fun σ H Q z => ?_, fun _ _ _ e => nomatch e⟩
  exact c3_t (fr := false) h2 h4 h6 (tT_bl (c3_bl h6) z)
/-! ### lists of expressions -/
inductive SL (X : Cx) (g : Gs) (md : Md) (cl : Cl) (W : WX) : List E → List Expr → Prop where
  | nil : SL X g md cl W [] []
  | cons {e : E} {x : Expr} {es : List E} {xs : List Expr} (h : okE x = true) (s : SE X g md cl W e x) (r : SL X g md cl W es xs) : SL X g md cl W (e :: es) (x :: xs)
theorem sl_pa : ∀ {es : List E} {xs : List Expr}, SL X g md cl W es xs → PA X xs (tA g W (evL md cl es))
  | _, _, .nil => PA.weak pa_nil fun σ H Q ⟨T, ρ, t, a, q⟩ => by
    unfold evL at q
    exact q [] T H a.refl (rfl : ([] : List V) = [])
  | _, _, .cons (e := e) (es := es) h s r => PA.weak (pa_cons (PE.of s.pe) (sl_pa r) (star_ok h)) fun σ H Q ⟨T, ρ, t, a, q⟩ => by
    unfold evL at q
    refine ⟨T, ρ, t, a, ?_⟩
    refine Good.bind (R := fun r => GoodL g W T H σ r Q) (fun c t' z => z) (fun z => z) q _ fun d t1 v H1 q1 ⟨T1, gn1, r1⟩ => ?_
    refine ⟨T1, ρ, t1, a.gone gn1, ?_⟩
    have q1 := GoodL.back gn1 q1
    refine GoodL.bind (R := fun r => GoodL g W T1 H1 σ r Q) (fun c t' z => z) (fun z => z) q1 _ fun ds t2 vs T2 H2 q2 gn2 r2 => ?_
    have q2 : GoodL g W T1 H1 σ (ret (d :: ds) t2) Q := q2
    have r1 : Rep g T1 d v := r1
    exact q2 (v :: vs) T2 H2 gn2 ⟨v, vs, rfl, r1.mono gn2.sub _ _, r2⟩
theorem sl_ok : ∀ {es : List E} {xs : List Expr}, SL X g md cl W es xs → xs.all okE = true
  | _, _, .nil => rfl
  | _, _, .cons h _ r => by simp [h, sl_ok r]
theorem len_ok {ds : List D} {vs : List V} {T : Hp} (r : RepL g T ds vs) (h : ds.length ≤ 1000000) : vs.length ≤ sizeLine := by
  rw [r.length, sz]
  exact Nat.le_trans h (by decide)
theorem lenOk_some {fr : Bool} {T H : Hp} {σ : L2.St} {t : Tape} {ds : List D} {f : List D → M D} {Q : VK} (q : Good g W fr T H σ (bnd (lenOk ds) f t) Q) : ds.length ≤ 1000000 ∧ Good g W fr T H σ (f ds t) Q := by
  unfold lenOk at q
  by_cases h : ds.length ≤ 1000000
  · rw [if_pos h] at q; exact ⟨h, q⟩
  · rw [if_neg h] at q; exact q.elim
theorem se_tup {es : List E} {xs : List Expr} {k : Nat} {pos : Pos} (xg : XG X g) (s : SL X g md cl W es xs) : SE X g md cl W (.tup es) (.Tuple xs k pos) := by
  refine se_of xg ?_ rfl
  refine PE.weak (pe_tup (sl_pa s)) fun σ H Q ⟨T, ρ, t, a, q⟩ => ?_
  unfold evE at q
  refine tA_then a q fun ds t1 vs T1 H1 gn1 a1 r1 q1 => ?_
  obtain ⟨hl, q2⟩ := lenOk_some q1
  exact ⟨len_ok r1 hl, fun p hp => q2 _ _ (Post.newT gn1.arr hp r1)⟩
theorem se_lst {es : List E} {xs : List Expr} {pos : Pos} (xg : XG X g) (s : SL X g md cl W es xs) : SE X g md cl W (.lst es) (.List xs pos) := by
  refine se_of xg ?_ rfl
  refine PE.weak (pe_lst (sl_pa s)) fun σ H Q ⟨T, ρ, t, a, q⟩ => ?_
  unfold evE at q
  refine tA_then a q fun ds t1 vs T1 H1 gn1 a1 r1 q1 => ?_
  obtain ⟨hl, q2⟩ := lenOk_some q1
  exact ⟨len_ok r1 hl, fun p hp => q2 _ _ (Post.newL gn1.arr hp r1)⟩
end
end EV

set_option Elab.async false
set_option linter.all false
set_option maxRecDepth 100000
set_option maxHeartbeats 4000000
/-! EvI: slices, calls, methods. -/
namespace EV
open PySem PySem.Spec PyProof.Rows L2
section
variable {g : Gs} {md : Md} {cl : Cl} {lv : Nat} {X : Cx} {sc : Scope} {N : List Str} {st : Str → Bool} {W : WX}
/-! ### slices -/
def ptOf : List D → Option (Option Int)
  | [] => some none
  | [.int i] => some (some i)
  | _ => none
def SO (X : Cx) (g : Gs) (md : Md) (cl : Cl) (W : WX) (es : List E) (x : Option Expr) : Prop := (es = [] ∧ x = none) ∨ ∃ e y, es = [e] ∧ x = some y ∧ SE X g md cl W e y
def tO (g : Gs) (W : WX) (ev : EvL) : TO := fun σ H Q => ∃ T ρ t, At g T H t ρ σ ∧ match ev ρ t with
  | .ok ds t' => ∃ o, ptOf ds = some o ∧ ∀ T' H', Gone g T H t' T' H' → Q o H'
  | .exc c t' => Exc g W H σ c t'
  | .bad => False
theorem PO.weak {e : Option Expr} {a b : TO} (h : PO X e a) (k : ∀ σ H Q, b σ H Q → a σ H Q) : PO X e b := ⟨fun pins s σ H Q I z => h.run pins s σ H Q I (k σ H Q z)⟩
theorem so_po {es : List E} {x : Option Expr} (s : SO X g md cl W es x) : PO X x (tO g W (evL md cl es)) := by
  rcases s with ⟨rfl, rfl⟩ | ⟨e, y, rfl, rfl, s⟩
  · refine PO.weak po_none fun σ H Q ⟨T, ρ, t, a, q⟩ => ?_
    unfold evL at q
    obtain ⟨o, e, q⟩ := q
    cases e
    exact q T H a.refl
  · refine PO.weak (po_some (PE.of s.pe)) fun σ H Q ⟨T, ρ, t, a, q⟩ => ?_
    refine ⟨T, ρ, t, a, ?_⟩
    unfold evL evL at q
    unfold bnd at q
    unfold Good
    cases ee : evE md cl e ρ t with
    | ok d t' =>
      rw [ee] at q
      obtain ⟨o, e1, q⟩ := q
      intro v H' ⟨T', gn, r⟩
      have r : Rep g T' d v := r
      unfold ptOf at e1
      split at e1 <;> first | cases e1 | skip
      · rename_i hh; cases hh
      · rename_i i hh
        cases hh
        exact ⟨i, r, q T' H' gn⟩
    | exc c t' => rw [ee] at q; exact q
    | bad => rw [ee] at q; exact q
theorem slK_pt {d r : D} {l h : List D} (e : slK d l h = some r) : ∃ o o', ptOf l = some o ∧ ptOf h = some o' ∧ slD d o o' = some r := by
  unfold slK at e
  split at e <;> first | exact ⟨_, _, rfl, rfl, e⟩ | cases e
/-- parts never fail: the reading of the rest, where a part stands -/
theorem se_sl {ea : E} {lo hi : List E} {y : Expr} {l h : Option Expr} {p2 pos : Pos} (xg : XG X g) (sa : SE X g md cl W ea y) (s1 : SO X g md cl W lo l) (s2 : SO X g md cl W hi h) : SE X g md cl W (.sl ea lo hi) (.Subscript y (.Slice l h none p2) pos) := by
  refine se_of xg ?_ rfl
  refine PE.weak (pe_slice (os_sl xg) (PE.of sa.pe) (so_po s1) (so_po s2)) fun σ H Q ⟨T, ρ, t, a, q⟩ => ?_
  unfold evE at q
  refine tE_then a q fun d t1 v T1 H1 gn1 a1 r1 q1 => ?_
  have r1 : Rep g T1 d v := r1
  refine ⟨T1, ρ, t1, a1, ?_⟩
  unfold bnd noexc at q1
  cases e1 : evL md cl lo ρ t1 with
  | exc c t' => rw [e1] at q1; exact q1.elim
  | bad => rw [e1] at q1; exact q1.elim
  | ok ls t2 =>
    rw [e1] at q1
    have q1 : Good g W true T1 H1 σ (bnd (noexc (evL md cl hi ρ)) (fun h => opt (slK d ls h)) t2) Q := q1
    unfold bnd noexc at q1
    cases e2 : evL md cl hi ρ t2 with
    | bad => rw [e2] at q1; exact q1.elim
    | exc c t' => rw [e2] at q1; exact q1.elim
    | ok hs t3 =>
      rw [e2] at q1
      obtain ⟨r, e3, q3⟩ := opt_some q1
      obtain ⟨o, o', h1, h2, h3⟩ := slK_pt e3
      refine ⟨o, h1, fun T2 H2 gn2 => ⟨T2, ρ, t2, a1.gone gn2, ?_⟩⟩
      rw [e2]
      refine ⟨o', h2, fun T3 H3 gn3 => ⟨T3, t3, d, r, gn3.arr, r1.mono (gn2.sub.trans gn3.sub) _ _, h3, fun w H4 p => q3 w H4 ?_⟩⟩
      exact Post.back (d' := d) (gn2.trans gn3) p
/-! ### calls of built-ins -/
def biFn : Bi → Value
  | .len => .builtin "len" | .abs => .builtin "abs" | .int => .type "int" | .str => .type "str" | .tuple => .type "tuple" | .list => .type "list" | .sum => .builtin "sum" | .any => .builtin "any" | .all => .builtin "all" | .max => .builtin "max" | .min => .builtin "min" | .sorted => .builtin "sorted"
theorem cr_bi (xg : XG X g) (b : Bi) : CallR X (biFn b) (rN g true (fB b)) := by
  cases b
  · exact cr_lenN xg
  · exact cr_absN xg
  · exact cr_intN xg
  · exact cr_strN xg
  · exact cr_tupN xg
  · exact cr_lstN xg
  · exact cr_sumN xg
  · exact cr_anyN xg
  · exact cr_allN xg
  · exact cr_maxN xg
  · exact cr_minN xg
  · exact cr_sortedN xg
theorem bi_t {b : Bi} {es : List E} {σ : L2.St} {H : Hp} {Q : VK} (z : tE g W true (evE md cl (.bi b es)) σ H Q) : tCB (rN g true (fB b)) (tA g W (evL md cl es)) σ H Q := by
  obtain ⟨T, ρ, t, a, q⟩ := z
  unfold evE at q
  refine tA_then a q fun ds t1 vs T1 H1 gn1 a1 r1 q1 => ?_
  obtain ⟨d, e, q2⟩ := opt_some q1
  exact ⟨T1, t1, ds, d, gn1.arr, r1, e, q2⟩
theorem se_bi {b : Bi} {es : List E} {y : Str} {z : Expr} {zs : List Expr} {p pos : Pos} (c : XC X g md lv sc N st) (m : ModOk g md) (hy : y = biName b) (hm : y ∈ md.bl) (hg : gl sc y = true) (s : SL X g md cl W es (z :: zs)) :
    SE X g md cl W (.bi b es) (.Call (.Name y p) (z :: zs) [] pos) := by
  refine se_of c.xg ?_ rfl
  have hmg : X.mg y = none := by rw [c.xg.mg]; exact m.bl y hm
  have ok := sl_ok s
  simp only [List.all_cons, Bool.and_eq_true] at ok
  have pl : ∀ pos', (backTo pos' (starEach zs X.env)).any (·.1) = false := fun pos' => plain_args ok.2
  have cr := cr_bi c.xg b
  have hgl := gl_of c hg
  subst hy
  cases b
  · exact PE.weak (pe_callB cr hgl hmg (by decide +kernel) (sl_pa s) (by decide) (by decide) (star_ok ok.1) (pl _)) fun σ H Q z => bi_t z
  · exact PE.weak (pe_callB cr hgl hmg (by decide +kernel) (sl_pa s) (by decide) (by decide) (star_ok ok.1) (pl _)) fun σ H Q z => bi_t z
  · exact PE.weak (pe_callTy cr hgl hmg (by decide +kernel) (sl_pa s) (by decide) (by decide) (star_ok ok.1) (pl _)) fun σ H Q z => bi_t z
  · exact PE.weak (pe_callTy cr hgl hmg (by decide +kernel) (sl_pa s) (by decide) (by decide) (star_ok ok.1) (pl _)) fun σ H Q z => bi_t z
  · exact PE.weak (pe_callTy cr hgl hmg (by decide +kernel) (sl_pa s) (by decide) (by decide) (star_ok ok.1) (pl _)) fun σ H Q z => bi_t z
  · exact PE.weak (pe_callTy cr hgl hmg (by decide +kernel) (sl_pa s) (by decide) (by decide) (star_ok ok.1) (pl _)) fun σ H Q z => bi_t z
  · exact PE.weak (pe_callB cr hgl hmg (by decide +kernel) (sl_pa s) (by decide) (by decide) (star_ok ok.1) (pl _)) fun σ H Q z => bi_t z
  · exact PE.weak (pe_callB cr hgl hmg (by decide +kernel) (sl_pa s) (by decide) (by decide) (star_ok ok.1) (pl _)) fun σ H Q z => bi_t z
  · exact PE.weak (pe_callB cr hgl hmg (by decide +kernel) (sl_pa s) (by decide) (by decide) (star_ok ok.1) (pl _)) fun σ H Q z => bi_t z
  · exact PE.weak (pe_callB cr hgl hmg (by decide +kernel) (sl_pa s) (by decide) (by decide) (star_ok ok.1) (pl _)) fun σ H Q z => bi_t z
  · exact PE.weak (pe_callB cr hgl hmg (by decide +kernel) (sl_pa s) (by decide) (by decide) (star_ok ok.1) (pl _)) fun σ H Q z => bi_t z
  · exact PE.weak (pe_callB cr hgl hmg (by decide +kernel) (sl_pa s) (by decide) (by decide) (star_ok ok.1) (pl _)) fun σ H Q z => bi_t z
/-! ### calls of defs -/
theorem call_good {f : List D → M D} {fr : Bool} {np : Nat} {vs : List V} {ds : List D} {t : Tape} {T H : Hp} {σ : L2.St} {Q : VK} (hl : ∀ ds t, ds.length ≠ np → f ds t = .bad) (a : Ar g T H t) (r : RepL g T ds vs) (q : Good g W fr T H σ (f ds t) Q) : fnSp g fr np f vs H Q (WE W σ) := by
  refine ⟨g.tp, T, t, ds, ?_, a, r, ?_⟩
  · rw [r.length]
    by_cases h : ds.length = np
    · exact h
    · rw [hl ds t h] at q; exact q.elim
  · show GoodF g fr T H (f ds t) Q (WE W σ)
    unfold GoodF
    unfold Good at q
    cases e : f ds t with
    | ok d t' => rw [e] at q; exact q
    | exc c t' => rw [e] at q; exact q
    | bad => rw [e] at q; exact q.elim
theorem se_call {f : Nat} {es : List E} {y : Str} {z : Expr} {zs : List Expr} {p pos : Pos} (c : XC X g md lv sc N st) (tk : Takes X W) (F : ClOk g md cl lv) (hy : md.fn[f]? = some y) (hg : gl sc y = true) (hpn : plainName y = true) (s : SL X g md cl W es (z :: zs)) :
    SE X g md cl W (.call f es) (.Call (.Name y p) (z :: zs) [] pos) := by
  refine se_of c.xg ?_ rfl
  obtain ⟨a, fd, ps, hl, hm, hk, hb, hf⟩ := (F f y hy).ex
  have ok := sl_ok s
  simp only [List.all_cons, Bool.and_eq_true] at ok
  have hf : FnOk X.prog X.w X.K X.mg X.base (L2.CX X.prog X.w) lv a fd ps (fnSp g (md.ff f) ps.length (cl f)) := by
    rw [c.xg.P, c.xg.w, c.xg.K, c.xg.mg, c.xg.base]; exact hf
  refine PE.weak (pe_callS hf c.room (gl_of c hg) (by rw [c.xg.mg]; exact hm) (by rw [c.xg.K]; exact hk) (by rw [c.xg.K]; exact hb) (fun σ => passAt tk σ) (sl_pa s) (plain_d hpn).1 (star_ok ok.1) (plain_args ok.2)) fun σ H Q ⟨T, ρ, t, a, q⟩ => ?_
  unfold evE at q
  refine tA_then a q fun ds t1 vs T1 H1 gn1 a1 r1 q1 => ?_
  exact call_good hl gn1.arr r1 q1
/-! ### methods -/
theorem mOk_base {y : Expr} {n : Str} {env : Env} (h0 : notCall0 y = true) : attributeBase y n env (eval y env) = eval y env := by
  cases y <;> first | rfl | skip
  rename_i f as kws pos
  cases f <;> first | rfl | skip
  cases as <;> first | rfl | skip
  cases kws <;> first | rfl | skip
  cases h0
theorem plain_all {pos : Pos} {env : Env} : ∀ {xs : List Expr}, xs.all okE = true → (backTo pos (starEach xs env)).all (fun x => !x.1) = true
  | [], _ => rfl
  | x :: xs, h => by
    simp only [List.all_cons, Bool.and_eq_true] at h
    rw [star_ok h.1]
    show (!false && (backTo pos (starEach xs env)).all (fun x => !x.1)) = true
    rw [plain_all h.2]
    rfl
theorem few_ok {pos : Pos} {env : Env} {e : Expr} {es : List Expr} (h : (e :: es).all okE = true) (hl : (e :: es).length < 29) : ((backTo pos (starEach (e :: es) env)).all (fun x => !x.1) && (backToKw pos (keywordEach [] env)).all (fun x => x.1.isSome)
      && decide ((e :: es).length + ([] : List Keyword).length + (if ([] : List Keyword).isEmpty then 0 else 1) < 30)) = true := by
  rw [plain_all h]
  simp only [Bool.true_and, Bool.and_eq_true, decide_eq_true_eq]
  refine ⟨rfl, ?_⟩
  simp only [List.length_nil, List.isEmpty_nil, if_true]
  omega
theorem PE.or {x : Expr} {a b : TE} (h1 : PE X x a) (h2 : PE X x b) : PE X x (fun σ H Q => a σ H Q ∨ b σ H Q) := ⟨fun pins s σ H Q I z => by
  rcases z with z | z
  · exact h1.run pins s σ H Q I z
  · exact h2.run pins s σ H Q I z⟩
theorem tyV_str {T H : Hp} {s : List Nat} {v : V} (r : Rep g T (.str s) v) : tyV X.K "str" v H := by
  rw [show v = _ from r]; rfl
theorem tyV_lst {T H : Hp} {ds : List D} {v : V} (sb : Sub T H) (r : Rep g T (.lst ds) v) : tyV X.K "list" v H := by
  obtain ⟨a, vs, rfl, h, _⟩ := r
  exact .inl ⟨rfl, vs, SqL.of (sb _ _ h)⟩
/-- the receiver is of a kind, the rest goes -/
theorem me_t {m : Me} {eo : E} {es : List E} {Ty : String} {f : D → List D → Option D} {σ : L2.St} {H : Hp} {Q : VK} {T : Hp} {ρ : List (Option D)} {t : Tape} (a : At g T H t ρ σ) (q : Good g W true T H σ (evE md cl (.me m eo es) ρ t) Q)
    (hty : ∀ d t1, evE md cl eo ρ t = .ok d t1 → kM m d = true → ∀ T1 H1 v, Sub T1 H1 → Rep g T1 d v → tyV X.K Ty v H1) (hf : ∀ d t1, evE md cl eo ρ t = .ok d t1 → kM m d = true → fM m d = f d) :
    tBM X.K Ty (rM g true f) (tE g W false (evE md cl eo)) (tA g W (evL md cl es)) σ H Q := by
  unfold evE at q
  refine ⟨T, ρ, t, a, ?_⟩
  unfold bnd at q
  unfold Good
  cases ee : evE md cl eo ρ t with
  | exc c t' => rw [ee] at q; exact q
  | bad => rw [ee] at q; exact q
  | ok d t1 =>
    rw [ee] at q
    intro v H1 ⟨T1, gn1, r1⟩
    have r1 : Rep g T1 d v := r1
    have q : Good g W true T H σ ((if kM m d then bnd (evL md cl es ρ) fun ds => opt (fM m d ds) else bad : M D) t1) Q := q
    by_cases hk : kM m d = true
    · rw [if_pos hk] at q
      refine ⟨hty d t1 ee hk T1 H1 v gn1.in_ r1, ?_⟩
      refine tA_then (a.gone gn1) (Good.back gn1 q) fun ds t2 vs T2 H2 gn2 a2 r2 q2 => ?_
      obtain ⟨dd, e, q3⟩ := opt_some q2
      rw [hf d t1 ee hk] at e
      exact ⟨T2, t2, d, ds, dd, gn2.arr, r1.mono gn2.sub _ _, r2, e, q3⟩
    · rw [if_neg hk] at q; exact q.elim
theorem starts_pre (a b : List Nat) : Txt.startswith (S a) (S b) = (decide (b.length ≤ a.length) && TL.pre b a) := by
  unfold Txt.startswith
  rw [S_len, S_len, Nat.zero_add]
  congr 1
  exact (subAt_pre a b 0).trans (by rw [List.drop_zero])
theorem mt_startsM (x : XG X g) : MtR X "str.startswith" (rM g true startsM) := by
  intro pins s σ H x' xs v us Q I rx rs h
  obtain ⟨T, t, d0, ds, d, a, h0, hr, hf, k⟩ := h
  unfold startsM at hf
  split at hf
  · cases hf
    obtain ⟨w, rfl, h1⟩ := rep1 rfl hr
    refine mt_startswith pins s σ H _ _ v us Q I rx rs ⟨_, _, h0, by rw [show w = _ from h1], ?_⟩
    rw [starts_pre]
    exact k _ _ (Post.val a rfl rfl)
  · cases hf
theorem se_me {m : Me} {eo : E} {es : List E} {y z : Expr} {zs : List Expr} {n : Str} {ap cp : Pos} (xg : XG X g) (hn : n = meName m) (hline : (ap.endLine == cp.line) = true) (hl : (z :: zs).length < 29) (h0 : notCall0 y = true) (so : SE X g md cl W eo y) (s : SL X g md cl W es (z :: zs)) :
    SE X g md cl W (.me m eo es) (.Call (.Attribute y n ap) (z :: zs) [] cp) := by
  refine se_of xg ?_ rfl
  subst hn
  have ok := sl_ok s
  have ok2 := ok
  simp only [List.all_cons, Bool.and_eq_true] at ok2
  cases m with
  | join =>
    refine PE.weak (pe_bm PySem.F.plainAttrs_str PySem.F.slot_str_join PySem.F.type_str_join (mt_joinM xg) (PE.of so.pe) (sl_pa s) (mOk_base h0) (few_ok ok hl) hline (star_ok ok2.1) (plain_args ok2.2)) fun σ H Q ⟨T, ρ, t, a, q⟩ => ?_
    refine me_t a q (fun d t1 _ hk T1 H1 v sb r => ?_) fun d t1 _ _ => rfl
    cases d <;> first | exact tyV_str r | (cases hk; done)
  | count =>
    have p1 := pe_bm (X := X) (cpos := cp) PySem.F.plainAttrs_str PySem.F.slot_str_count PySem.F.type_str_count (mt_countS xg) (PE.of so.pe) (sl_pa s) (mOk_base h0) (few_ok ok hl) hline (star_ok ok2.1) (plain_args ok2.2)
    have p2 := pe_bm (X := X) (cpos := cp) PySem.F.plainAttrs_list PySem.F.slot_list_count PySem.F.type_list_count (mt_countI xg) (PE.of so.pe) (sl_pa s) (mOk_base h0) (few_ok ok hl) hline (star_ok ok2.1) (plain_args ok2.2)
    refine PE.weak (PE.or p1 p2) fun σ H Q ⟨T, ρ, t, a, q⟩ => ?_
    by_cases hs : ∃ ds t1, evE md cl eo ρ t = .ok (.lst ds) t1
    · obtain ⟨ds, t1, e⟩ := hs
      refine .inr (me_t a q (fun d t2 e2 hk T1 H1 v sb r => ?_) fun d t2 e2 _ => ?_)
      · rw [e] at e2; cases e2
        exact tyV_lst sb r
      · rw [e] at e2; cases e2
        rfl
    · refine .inl (me_t a q (fun d t2 e2 hk T1 H1 v sb r => ?_) fun d t2 e2 hk => ?_)
      · cases d <;> first | exact tyV_str r | (cases hk; done) | exact absurd ⟨_, _, e2⟩ hs
      · cases d <;> first | rfl | (cases hk; done) | exact absurd ⟨_, _, e2⟩ hs
  | index =>
    refine PE.weak (pe_bm PySem.F.plainAttrs_list PySem.F.slot_list_index PySem.F.type_list_index (mt_indexM xg) (PE.of so.pe) (sl_pa s) (mOk_base h0) (few_ok ok hl) hline (star_ok ok2.1) (plain_args ok2.2)) fun σ H Q ⟨T, ρ, t, a, q⟩ => ?_
    refine me_t a q (fun d t1 _ hk T1 H1 v sb r => ?_) fun d t1 _ _ => rfl
    cases d <;> first | exact tyV_lst sb r | (cases hk; done)
  | starts =>
    refine PE.weak (pe_bm PySem.F.plainAttrs_str PySem.F.slot_str_startswith PySem.F.type_str_startswith (mt_startsM xg) (PE.of so.pe) (sl_pa s) (mOk_base h0) (few_ok ok hl) hline (star_ok ok2.1) (plain_args ok2.2)) fun σ H Q ⟨T, ρ, t, a, q⟩ => ?_
    refine me_t a q (fun d t1 _ hk T1 H1 v sb r => ?_) fun d t1 _ _ => rfl
    cases d <;> first | exact tyV_str r | (cases hk; done)
/-! ### list(range(..)) -/
theorem rgV_rep {T : Hp} : ∀ (n : Nat) (a : Int), RepL g T (rgL a 1 n) ((List.range n).map fun i => V.int (a + (i : Nat)))
  | 0, _ => (rfl : _ = _)
  | n + 1, a => by
    rw [List.range_succ_eq_map]
    refine ⟨_, _, rfl, ?_, ?_⟩
    · show V.int _ = V.int _
      simp
    · have := rgV_rep (T := T) n (a + 1)
      rw [List.map_map]
      have e : ((fun i => V.int (a + (i : Nat))) ∘ Nat.succ) = fun i : Nat => V.int (a + 1 + (i : Nat)) := by
        funext i; simp; omega
      rw [e]; exact this
end
end EV

set_option Elab.async false
set_option linter.all false
set_option maxRecDepth 100000
set_option maxHeartbeats 4000000
/-! EvJ: what is walked; targets; comprehensions; all expressions. -/
namespace EV
open PySem PySem.Spec PyProof.Rows L2
section
variable {g : Gs} {md : Md} {cl : Cl} {lv : Nat} {X : Cx} {sc : Scope} {N : List Str} {st : Str → Bool} {W : WX}
/-! ### what is walked -/
theorem evL_len {ρ : List (Option D)} : ∀ {es : List E} {t t' : Tape} {ds : List D}, evL md cl es ρ t = .ok ds t' → ds.length = es.length
  | [], t, t', ds, h => by unfold evL at h; cases h; rfl
  | e :: es, t, t', ds, h => by
    unfold evL at h
    obtain ⟨d, t1, _, h⟩ := bnd_ok h
    obtain ⟨ds', t2, h2, h⟩ := bnd_ok h
    cases h
    simp [evL_len h2]
def evI (md : Md) (cl : Cl) (k : Sk) (es : List E) : EvL := fun ρ => bnd (evL md cl es ρ) fun ds => opt (itD k ds)
theorem tI_tA {k : Sk} {es : List E} {σ : L2.St} {H : Hp} {R : It → Hp → Prop} (z : tI g W k (evI md cl k es) σ H R) :
    tA g W (evL md cl es) σ H fun vs H1 => ∃ T1 t1 ds xs, Ar g T1 H1 t1 ∧ RepL g T1 ds vs ∧ ds.length = es.length ∧ itD k ds = some xs ∧ ∀ J, ItOk g T1 J xs → (k = .range → ∀ Tx, ItOk g Tx J xs) → R J H1 := by
  obtain ⟨T, ρ, t, a, q⟩ := z
  refine ⟨T, ρ, t, a, ?_⟩
  have q : GoodI g W k T H σ (bnd (evL md cl es ρ) (fun ds => opt (itD k ds)) t) R := q
  unfold bnd at q
  unfold GoodL
  cases ee : evL md cl es ρ t with
  | exc c t' => rw [ee] at q; exact q
  | bad => rw [ee] at q; exact q
  | ok ds t1 =>
    rw [ee] at q
    intro vs T1 H1 gn1 r1
    have q : GoodI g W k T H σ (opt (itD k ds) t1) R := q
    cases hi : itD k ds with
    | none => rw [hi] at q; exact q.elim
    | some xs =>
      rw [hi] at q
      exact ⟨T1, t1, ds, xs, gn1.arr, r1, evL_len ee, hi, fun J hJ hR => q J T1 H1 gn1 hJ hR⟩
theorem tI_tL {k : Sk} {es : List E} {σ : L2.St} {H : Hp} {R : It → Hp → Prop} {T : Hp} {ρ : List (Option D)} {t : Tape} (a : At g T H t ρ σ) (q : GoodI g W k T H σ (evI md cl k es ρ t) R) {Q : List V → Hp → Prop}
    (h : ∀ ds t1 xs T1 H1 vs, evL md cl es ρ t = .ok ds t1 → itD k ds = some xs → Ar g T1 H1 t1 → RepL g T1 ds vs → (∀ J, ItOk g T1 J xs → (k = .range → ∀ Tx, ItOk g Tx J xs) → R J H1) → Q vs H1) : tA g W (evL md cl es) σ H Q := by
  refine ⟨T, ρ, t, a, ?_⟩
  have q : GoodI g W k T H σ (bnd (evL md cl es ρ) (fun ds => opt (itD k ds)) t) R := q
  unfold bnd at q
  unfold GoodL
  cases ee : evL md cl es ρ t with
  | exc c t' => rw [ee] at q; exact q
  | bad => rw [ee] at q; exact q
  | ok ds t1 =>
    rw [ee] at q
    intro vs T1 H1 gn1 r1
    have q : GoodI g W k T H σ (opt (itD k ds) t1) R := q
    cases hi : itD k ds with
    | none => rw [hi] at q; exact q.elim
    | some xs =>
      rw [hi] at q
      exact h ds t1 xs T1 H1 vs ee hi gn1.arr r1 fun J h1 h2 => q J T1 H1 gn1 h1 h2
theorem tI_tE {k : Sk} {e : E} {σ : L2.St} {H : Hp} {R : It → Hp → Prop} {T : Hp} {ρ : List (Option D)} {t : Tape} (a : At g T H t ρ σ) (q : GoodI g W k T H σ (evI md cl k [e] ρ t) R) {Q : VK}
    (h : ∀ d t1 xs T1 H1 v, evE md cl e ρ t = .ok d t1 → itD k [d] = some xs → Ar g T1 H1 t1 → Rep g T1 d v → (∀ J, ItOk g T1 J xs → (k = .range → ∀ Tx, ItOk g Tx J xs) → R J H1) → Q v H1) : tE g W false (evE md cl e) σ H Q := by
  refine ⟨T, ρ, t, a, ?_⟩
  unfold evI evL evL at q
  unfold bnd at q
  unfold Good
  cases ee : evE md cl e ρ t with
  | exc c t' => rw [ee] at q; exact q
  | bad => rw [ee] at q; exact q
  | ok d t1 =>
    rw [ee] at q
    intro v H1 ⟨T1, gn1, r1⟩
    have q : GoodI g W k T H σ (opt (itD k [d]) t1) R := q
    cases hi : itD k [d] with
    | none => rw [hi] at q; exact q.elim
    | some xs =>
      rw [hi] at q
      exact h d t1 xs T1 H1 v ee hi gn1.arr r1 fun J hJ hR => q J T1 H1 gn1 hJ hR
theorem PI.or {tg e : Expr} {a b : TI} (h1 : PI X tg e a) (h2 : PI X tg e b) : PI X tg e (fun σ H Q => a σ H Q ∨ b σ H Q) := ⟨fun pins s σ H R I z => by
  rcases z with z | z
  · exact h1.run pins s σ H R I z
  · exact h2.run pins s σ H R I z⟩
theorem si_val {e : E} {tg x : Expr} (s : SE X g md cl W e x) : PI X tg x (tI g W .val (evI md cl .val [e])) := by
  refine PI.weak (PI.or (pi_list (PE.of s.pe)) (PI.or (pi_tup (PE.of s.pe)) (pi_str (PE.of s.pe)))) fun σ H R ⟨T, ρ, t, a, q⟩ => ?_
  by_cases h1 : ∃ ds t1, evE md cl e ρ t = .ok (.lst ds) t1
  · obtain ⟨ds, t1, e1⟩ := h1
    refine .inl (tI_tE a q fun d t2 xs T1 H1 v e2 hi ar r k => ?_)
    rw [e1] at e2; cases e2; cases hi
    obtain ⟨p, vs, rfl, hT, rr⟩ := r
    exact ⟨p, rfl, ⟨vs, SqL.of (ar.sub _ _ hT)⟩, k _ (it_list hT rr) (fun h => nomatch h)⟩
  · by_cases h2 : ∃ ds t1, evE md cl e ρ t = .ok (.tup ds) t1
    · obtain ⟨ds, t1, e1⟩ := h2
      refine .inr (.inl (tI_tE a q fun d t2 xs T1 H1 v e2 hi ar r k => ?_))
      rw [e1] at e2; cases e2; cases hi
      obtain ⟨p, vs, rfl, hT, rr⟩ := r
      exact ⟨p, rfl, ⟨vs, SqT.of (ar.sub _ _ hT)⟩, k _ (it_tup hT rr) (fun h => nomatch h)⟩
    · refine .inr (.inr (tI_tE a q fun d t2 xs T1 H1 v e2 hi ar r k => ?_))
      cases d with
      | lst ds => exact absurd ⟨ds, t2, e2⟩ h1
      | tup ds => exact absurd ⟨ds, t2, e2⟩ h2
      | str z =>
        cases hi
        exact ⟨S z, r, k _ (it_str z) (fun h => nomatch h)⟩
      | _ => cases hi
theorem small62_ok {i : Int} (h : small62 i = true) : -(2 ^ 62) ≤ i ∧ i < 2 ^ 62 := by
  unfold small62 at h
  simp only [Bool.and_eq_true, decide_eq_true_eq] at h
  exact h
theorem rgC_ok {a b c : Int} (h : 0 < c ∧ c ≤ 1000000 ∧ -1000000 ≤ a ∧ a ≤ 1000000000 ∧ -1000000 ≤ b ∧ b ≤ 1000000000) : RgC a b c ((b - a + c - 1) / c).toNat := by
  obtain ⟨h1, h2, h3, h4, h5, h6⟩ := h
  have hs : Builtin.Range.rangeSize a b c = (((b - a + c - 1) / c).toNat : Nat) := by
    unfold Builtin.Range.rangeSize
    rw [if_pos (by omega)]
    split
    · have e : b - a + c - 1 = (b - a - 1) + 1 * c := by omega
      rw [e, Int.add_mul_ediv_right _ _ (by omega)]
      have : 0 ≤ (b - a - 1) / c := Int.ediv_nonneg (by omega) (by omega)
      omega
    · have : (b - a + c - 1) / c ≤ 0 := by
        have : (b - a + c - 1) / c < 1 := Int.ediv_lt_of_lt_mul h1 (by omega)
        omega
      omega
  have hb : (((b - a + c - 1) / c).toNat : Int) ≤ 2000000000 := by
    have h7 : (b - a + c - 1) / c ≤ 1001000000 := Int.ediv_le_of_le_mul h1 (by
      have : (1001000000 : Int) * 1 ≤ 1001000000 * c := Int.mul_le_mul_of_nonneg_left (by omega) (by omega)
      have h8 : b - a + c - 1 ≤ 1001000000 + (c - 1) := by omega
      have h9 : (1001000000 : Int) * c = 1001000000 + 1001000000 * (c - 1) := by rw [Int.mul_sub]; omega
      omega)
    omega
  refine ⟨by omega, by omega, ?_, hs⟩
  unfold Builtin.Range.small
  rw [hs]
  rw [if_pos (by omega : c > 0)]
  simp only [Builtin.Range.rangeFitsLong, Bool.and_eq_true, Bool.or_eq_true, decide_eq_true_eq, beq_iff_eq]
  omega
theorem itD_r1 {d : D} {xs : List D} (h : itD .range [d] = some xs) : ∃ n, d = .int n ∧ small62 n = true ∧ xs = rgL 0 1 n.toNat := by
  cases d with
  | int n =>
    unfold itD at h
    dsimp only at h
    split at h
    · cases h; exact ⟨n, rfl, by assumption, rfl⟩
    · cases h
  | _ => cases h
theorem itD_r2 {d d2 : D} {xs : List D} (h : itD .range [d, d2] = some xs) : ∃ i j, d = .int i ∧ d2 = .int j ∧ small62 i = true ∧ small62 j = true ∧ xs = rgL i 1 (j - i).toNat := by
  cases d with
  | int i => cases d2 with
    | int j =>
      unfold itD at h
      dsimp only at h
      split at h
      · rename_i hs
        simp only [Bool.and_eq_true] at hs
        cases h; exact ⟨i, j, rfl, rfl, hs.1, hs.2, rfl⟩
      · cases h
    | _ => cases h
  | _ => cases h
theorem itD_r3 {d d2 d3 : D} {xs : List D} (h : itD .range [d, d2, d3] = some xs) : ∃ a b c, d = .int a ∧ d2 = .int b ∧ d3 = .int c ∧ (0 < c ∧ c ≤ 1000000 ∧ -1000000 ≤ a ∧ a ≤ 1000000000 ∧ -1000000 ≤ b ∧ b ≤ 1000000000) ∧ xs = rgL a c ((b - a + c - 1) / c).toNat := by
  cases d with
  | int a => cases d2 with
    | int b => cases d3 with
      | int c =>
        unfold itD at h
        dsimp only at h
        split at h
        · rename_i hs
          cases h; exact ⟨a, b, c, rfl, rfl, rfl, hs, rfl⟩
        · cases h
      | _ => cases h
    | _ => cases h
  | _ => cases h
theorem si_range {es : List E} {tg z : Expr} {zs : List Expr} {p pos : Pos} (c : XC X g md lv sc N st) (m : ModOk g md) (hm : ("range" : Str) ∈ md.bl) (hg : gl sc "range" = true) (hl : (z :: zs).length ≤ 3) (s : SL X g md cl W es (z :: zs)) :
    PI X tg (.Call (.Name "range" p) (z :: zs) [] pos) (tI g W .range (evI md cl .range es)) := by
  have hmg : X.mg "range" = none := by rw [c.xg.mg]; exact m.bl _ hm
  have hgl := gl_of c hg
  have ok := sl_ok s
  have hlen : ∀ {es : List E} {xs : List Expr}, SL X g md cl W es xs → es.length = xs.length := fun {es xs} s => by
    induction s with
    | nil => rfl
    | cons _ _ _ ih => simp [ih]
  match zs, s, ok, hl with
  | [], s, ok, _ =>
    simp only [List.all_cons, Bool.and_eq_true] at ok
    refine PI.weak (pi_range1 hgl hmg (sl_pa s) (star_ok ok.1)) fun σ H R z => ?_
    obtain ⟨T, ρ, t, a, q⟩ := tI_tA z
    refine ⟨T, ρ, t, a, ?_⟩
    unfold GoodL at q ⊢
    split at q
    · intro vs T' H' gn r
      obtain ⟨T1, t1, ds, xs, ar, r1, hd, hi, k⟩ := q vs T' H' gn r
      rw [hlen s] at hd
      match ds, hd, hi, r1 with
      | [d], _, hi, r1 =>
        obtain ⟨n, rfl, hs, rfl⟩ := itD_r1 hi
        obtain ⟨v, vs', e, h1, h2⟩ := r1
        obtain ⟨b1, b2⟩ := small62_ok hs
        exact ⟨n, by rw [e, show v = _ from h1, show vs' = _ from h2], b1, b2, k _ (it_rng 0 _) (fun _ _ => it_rng 0 _)⟩
    · exact q
    · exact q
  | [b], s, ok, _ =>
    simp only [List.all_cons, Bool.and_eq_true] at ok
    refine PI.weak (pi_range2 hgl hmg (sl_pa s) (by rw [star_ok ok.1, star_ok ok.2.1]; rfl) (star_ok ok.2.1)) fun σ H R z => ?_
    obtain ⟨T, ρ, t, a, q⟩ := tI_tA z
    refine ⟨T, ρ, t, a, ?_⟩
    unfold GoodL at q ⊢
    split at q
    · intro vs T' H' gn r
      obtain ⟨T1, t1, ds, xs, ar, r1, hd, hi, k⟩ := q vs T' H' gn r
      rw [hlen s] at hd
      match ds, hd, hi, r1 with
      | [d, d2], _, hi, r1 =>
        obtain ⟨n, n2, rfl, rfl, hs, hs2, rfl⟩ := itD_r2 hi
        obtain ⟨v, vs', e, h1, v2, vs2, e2, h2, h3⟩ := r1
        obtain ⟨b1, b2⟩ := small62_ok hs
        obtain ⟨b3, b4⟩ := small62_ok hs2
        exact ⟨_, _, by rw [e, e2, show v = _ from h1, show v2 = _ from h2, show vs2 = _ from h3], ⟨b1, b2, b3, b4⟩, k _ (it_rng _ _) (fun _ _ => it_rng _ _)⟩
    · exact q
    · exact q
  | [b, b2], s, ok, _ =>
    simp only [List.all_cons, Bool.and_eq_true] at ok
    refine PI.weak (pi_range3 hgl hmg (sl_pa s) (star_ok ok.1) (plain_args (by simp [ok.2.1, ok.2.2.1]))) fun σ H R z => ?_
    obtain ⟨T, ρ, t, a, q⟩ := tI_tA z
    refine ⟨T, ρ, t, a, ?_⟩
    unfold GoodL at q ⊢
    split at q
    · intro vs T' H' gn r
      obtain ⟨T1, t1, ds, xs, ar, r1, hd, hi, k⟩ := q vs T' H' gn r
      rw [hlen s] at hd
      match ds, hd, hi, r1 with
      | [d, d2, d3], _, hi, r1 =>
        obtain ⟨n, n2, n3, rfl, rfl, rfl, hs, rfl⟩ := itD_r3 hi
        obtain ⟨v, vs', e, h1, v2, vs2, e2, h2, v3, vs3, e3, h3, h4⟩ := r1
        exact ⟨_, _, _, _, by rw [e, e2, e3, show v = _ from h1, show v2 = _ from h2, show v3 = _ from h3, show vs3 = _ from h4], rgC_ok hs, k _ (it_rngC _ _ _) (fun _ _ => it_rngC _ _ _)⟩
    · exact q
    · exact q
  | _ :: _ :: _ :: _, _, _, hl => simp at hl
theorem sl_len : ∀ {es : List E} {xs : List Expr}, SL X g md cl W es xs → es.length = xs.length
  | _, _, .nil => rfl
  | _, _, .cons _ _ r => by simp [sl_len r]
theorem rl1 {d : D} {vs : List V} {T : Hp} (r : RepL g T [d] vs) : ∃ v, vs = [v] ∧ Rep g T d v := by
  obtain ⟨v, vs', e, h1, h2⟩ := r
  exact ⟨v, by rw [e, show vs' = _ from h2], h1⟩
theorem rl2 {d d2 : D} {vs : List V} {T : Hp} (r : RepL g T [d, d2] vs) : ∃ v v2, vs = [v, v2] ∧ Rep g T d v ∧ Rep g T d2 v2 := by
  obtain ⟨v, vs', e, h1, v2, vs2, e2, h2, h3⟩ := r
  exact ⟨v, v2, by rw [e, e2, show vs2 = _ from h3], h1, h2⟩
/-- one argument -/
theorem tA_imp {ev : EvL} {σ : L2.St} {H : Hp} {Q Q' : List V → Hp → Prop} (z : tA g W ev σ H Q) (k : ∀ vs H', Q vs H' → Q' vs H') : tA g W ev σ H Q' := by
  obtain ⟨T, ρ, t, a, q⟩ := z
  refine ⟨T, ρ, t, a, ?_⟩
  unfold GoodL at q ⊢
  split at q
  · exact fun vs T' H' gn r => k _ _ (q vs T' H' gn r)
  · exact q
  · exact q
theorem sl_one {es : List E} {z : Expr} (s : SL X g md cl W es [z]) : ∃ e, es = [e] ∧ SE X g md cl W e z := by
  cases s with
  | cons h s r => cases r; exact ⟨_, rfl, s⟩
/-- .. as a list -/
theorem evL_n {ρ : List (Option D)} : evL md cl [] ρ = ret [] := by unfold evL; rfl
theorem evL_c {e : E} {es : List E} {ρ : List (Option D)} : evL md cl (e :: es) ρ = bnd (evE md cl e ρ) fun d => bnd (evL md cl es ρ) fun ds => ret (d :: ds) := by
  conv => lhs; unfold evL
theorem evE_lrg {es : List E} {ρ : List (Option D)} : evE md cl (.lrg es) ρ = bnd (evL md cl es ρ) fun ds => opt (lrgN ds) := by
  conv => lhs; unfold evE
theorem evE_lrg1 {e : E} {ρ : List (Option D)} : evE md cl (.lrg [e]) ρ = bnd (evE md cl e ρ) fun d => opt (lrgN [d]) := by
  rw [evE_lrg, evL_c, evL_n, bnd_assoc]
  rfl
theorem evE_lrg2 {e e2 : E} {ρ : List (Option D)} : evE md cl (.lrg [e, e2]) ρ = bnd (evE md cl e ρ) fun d => bnd (evE md cl e2 ρ) fun d2 => opt (lrgN [d, d2]) := by
  rw [evE_lrg, evL_c, evL_c, evL_n, bnd_assoc]
  congr 1; funext d
  rw [bnd_assoc, bnd_assoc]
  rfl
theorem lrg_1 {ds : List D} {d0 d : D} (h : lrgN [d0] = some d) : ∃ b, d0 = .int b ∧ -(2 ^ 62) ≤ b ∧ b < 2 ^ 62 ∧ b ≤ 1000000 ∧ d = .lst (rgL 0 1 b.toNat) := by
  cases d0 with
  | int b =>
    unfold lrgN at h
    dsimp only at h
    split at h
    · rename_i hs
      simp only [Bool.and_eq_true, decide_eq_true_eq] at hs
      obtain ⟨k1, k2⟩ := small62_ok hs.1
      cases h; exact ⟨b, rfl, k1, k2, hs.2, rfl⟩
    · cases h
  | _ => cases h
theorem lrg_2 {d0 d1 d : D} (h : lrgN [d0, d1] = some d) : ∃ a b, d0 = .int a ∧ d1 = .int b ∧ (-(2 ^ 62) ≤ a ∧ a < 2 ^ 62 ∧ -(2 ^ 62) ≤ b ∧ b < 2 ^ 62) ∧ b - a ≤ 1000000 ∧ d = .lst (rgL a 1 (b - a).toNat) := by
  cases d0 with
  | int a => cases d1 with
    | int b =>
      unfold lrgN at h
      dsimp only at h
      split at h
      · rename_i hs
        simp only [Bool.and_eq_true, decide_eq_true_eq] at hs
        obtain ⟨k1, k2⟩ := small62_ok hs.1.1
        obtain ⟨k3, k4⟩ := small62_ok hs.1.2
        cases h; exact ⟨a, b, rfl, rfl, ⟨k1, k2, k3, k4⟩, hs.2, rfl⟩
      · cases h
    | _ => cases h
  | _ => cases h
theorem rgV_rep2 {T : Hp} (a b : Int) : RepL g T (rgL a 1 (b - a).toNat) (rgV a b) := rgV_rep _ a
theorem se_lrg {es : List E} {z : Expr} {zs : List Expr} {p p2 pos pos2 : Pos} (c : XC X g md lv sc N st) (m : ModOk g md) (hl : ("list" : Str) ∈ md.bl) (hgl : gl sc "list" = true) (hm : ("range" : Str) ∈ md.bl) (hg : gl sc "range" = true) (hlen : (z :: zs).length ≤ 2) (s : SL X g md cl W es (z :: zs)) :
    SE X g md cl W (.lrg es) (.Call (.Name "list" p2) [.Call (.Name "range" p) (z :: zs) [] pos] [] pos2) := by
  refine se_of c.xg ?_ rfl
  have hmg : X.mg "range" = none := by rw [c.xg.mg]; exact m.bl _ hm
  have hml : X.mg "list" = none := by rw [c.xg.mg]; exact m.bl _ hl
  have ok := sl_ok s
  cases s with
  | cons h1 s1 r =>
    cases r with
    | nil =>
      refine PE.weak (pe_listRg c.xg.calm (gl_of c hgl) hml (prg_1 (gl_of c hg) hmg (PE.of s1.pe) (star_ok h1))) fun σ H Q ⟨T, ρ, t, a, q⟩ => ?_
      rw [evE_lrg1] at q
      refine tE_then a q fun d t1 v T1 H1 gn1 a1 r1 q1 => ?_
      obtain ⟨dd, e, q2⟩ := opt_some q1
      obtain ⟨b, rfl, k1, k2, k3, rfl⟩ := lrg_1 (ds := []) e
      refine ⟨b, r1, ⟨by omega, by omega, k1, k2, by omega⟩, fun q hq => q2 _ _ (Post.newL gn1.arr hq ?_)⟩
      have := rgV_rep2 (g := g) (T := T1) 0 b
      rw [Int.sub_zero] at this
      exact this
    | cons h2 s2 r2 =>
      cases r2 with
      | nil =>
        refine PE.weak (pe_listRg c.xg.calm (gl_of c hgl) hml (prg_2 (gl_of c hg) hmg (PE.of s1.pe) (PE.of s2.pe) (star_ok h1) (star_ok h2) (plain_args (by simp [h2])))) fun σ H Q ⟨T, ρ, t, a, q⟩ => ?_
        rw [evE_lrg2] at q
        refine tE_then a q fun d t1 v T1 H1 gn1 a1 r1 q1 => ?_
        refine tE_then a1 q1 fun d2 t2 v2 T2 H2 gn2 a2 r2 q2 => ?_
        obtain ⟨dd, e, q3⟩ := opt_some q2
        obtain ⟨i, j, rfl, rfl, ⟨k1, k2, k3, k4⟩, k5, rfl⟩ := lrg_2 e
        exact ⟨i, j, r1, r2, ⟨k1, k2, k3, k4, by omega⟩, fun q hq => q3 _ _ (Post.newL gn2.arr hq (rgV_rep2 i j))⟩
      | cons _ _ _ => simp at hlen
theorem si_rev {es : List E} {tg z : Expr} {p pos : Pos} (c : XC X g md lv sc N st) (m : ModOk g md) (hm : ("reversed" : Str) ∈ md.bl) (hg : gl sc "reversed" = true) (s : SL X g md cl W es [z]) :
    PI X tg (.Call (.Name "reversed" p) [z] [] pos) (tI g W .rev (evI md cl .rev es)) := by
  have hmg : X.mg "reversed" = none := by rw [c.xg.mg]; exact m.bl _ hm
  have ok := sl_ok s
  simp only [List.all_cons, Bool.and_eq_true] at ok
  obtain ⟨e, rfl, se⟩ := sl_one s
  refine PI.weak (RT.pi_revA (gl_of c hg) hmg (PE.of se.pe) (star_ok ok.1)) fun σ H R ⟨T, ρ, t, a, q⟩ => tI_tE a q fun d t1 xs T1 H1 v e1 hi ar r k => ?_
  cases d with
  | lst ds =>
    cases hi
    obtain ⟨p, vs, rfl, hT, rr⟩ := r
    exact ⟨p, vs, rfl, .inl ⟨SqL.of (ar.sub _ _ hT), k _ (it_rev hT rr) (fun h => nomatch h)⟩⟩
  | tup ds =>
    cases hi
    obtain ⟨p, vs, rfl, hT, rr⟩ := r
    exact ⟨p, vs, rfl, .inr ⟨SqT.of (ar.sub _ _ hT), k _ (it_revT hT rr) (fun h => nomatch h)⟩⟩
  | _ => cases hi
theorem si_enum {es : List E} {z : Expr} {elts : List Expr} {kk : Nat} {tpos p pos : Pos} (c : XC X g md lv sc N st) (m : ModOk g md) (hm : ("enumerate" : Str) ∈ md.bl) (hg : gl sc "enumerate" = true) (s : SL X g md cl W es [z]) :
    PI X (.Tuple elts kk tpos) (.Call (.Name "enumerate" p) [z] [] pos) (tI g W .enum (evI md cl .enum es)) := by
  have hmg : X.mg "enumerate" = none := by rw [c.xg.mg]; exact m.bl _ hm
  have ok := sl_ok s
  simp only [List.all_cons, Bool.and_eq_true] at ok
  obtain ⟨e, rfl, se⟩ := sl_one s
  refine PI.weak (pi_enumA (gl_of c hg) hmg (PE.of se.pe) (star_ok ok.1)) fun σ H R ⟨T, ρ, t, a, q⟩ => tI_tE a q fun d t1 xs T1 H1 v e1 hi ar r k => ?_
  cases d with
  | lst ds =>
    cases hi
    obtain ⟨p, vs, rfl, hT, rr⟩ := r
    exact ⟨p, vs, rfl, .inl ⟨SqL.of (ar.sub _ _ hT), k _ (it_enum hT rr) (fun h => nomatch h)⟩⟩
  | tup ds =>
    cases hi
    obtain ⟨p, vs, rfl, hT, rr⟩ := r
    exact ⟨p, vs, rfl, .inr ⟨SqT.of (ar.sub _ _ hT), k _ (it_enumT hT rr) (fun h => nomatch h)⟩⟩
  | _ => cases hi
theorem si_zip {es : List E} {z w : Expr} {elts : List Expr} {kk : Nat} {tpos p pos : Pos} (c : XC X g md lv sc N st) (m : ModOk g md) (hm : ("zip" : Str) ∈ md.bl) (hg : gl sc "zip" = true) (s : SL X g md cl W es [z, w]) :
    PI X (.Tuple elts kk tpos) (.Call (.Name "zip" p) [z, w] [] pos) (tI g W .zip (evI md cl .zip es)) := by
  have hmg : X.mg "zip" = none := by rw [c.xg.mg]; exact m.bl _ hm
  have ok := sl_ok s
  simp only [List.all_cons, Bool.and_eq_true] at ok
  refine PI.weak (PI.or (RZ.pi_zipA (gl_of c hg) hmg (sl_pa s) (star_ok ok.1) (plain_args (by simp [ok.2.1]))) (pi_zipB (gl_of c hg) hmg (sl_pa s) (star_ok ok.1) (plain_args (by simp [ok.2.1])))) fun σ H R z => ?_
  obtain ⟨T, ρ, t, a, q⟩ := z
  by_cases hmix : (∃ as bs t1, evL md cl es ρ t = .ok [.tup as, .lst bs] t1) ∨ ∃ as bs t1, evL md cl es ρ t = .ok [.lst as, .tup bs] t1
  · refine .inr (tI_tL a q fun ds t1 xs T1 H1 vs e hi ar r1 k => ?_)
    rcases hmix with ⟨as, bs, t2, e2⟩ | ⟨as, bs, t2, e2⟩
    · rw [e2] at e; cases e
      cases hi
      obtain ⟨v, v2, rfl, h1, h2⟩ := rl2 r1
      obtain ⟨p, vs, rfl, hT, rr⟩ := h1
      obtain ⟨p2, vs2, rfl, hT2, rr2⟩ := h2
      exact ⟨true, false, p, p2, vs, vs2, by decide, rfl, SqT.of (ar.sub _ _ hT), SqL.of (ar.sub _ _ hT2), k _ (it_zipB (fun H s => SqT.of (s _ _ hT)) rr (fun H s => SqL.of (s _ _ hT2)) rr2) (fun h => nomatch h)⟩
    · rw [e2] at e; cases e
      cases hi
      obtain ⟨v, v2, rfl, h1, h2⟩ := rl2 r1
      obtain ⟨p, vs, rfl, hT, rr⟩ := h1
      obtain ⟨p2, vs2, rfl, hT2, rr2⟩ := h2
      exact ⟨false, true, p, p2, vs, vs2, by decide, rfl, SqL.of (ar.sub _ _ hT), SqT.of (ar.sub _ _ hT2), k _ (it_zipB (fun H s => SqL.of (s _ _ hT)) rr (fun H s => SqT.of (s _ _ hT2)) rr2) (fun h => nomatch h)⟩
  refine .inl (tI_tL a q fun ds t1 xs T1 H1 vs e hi ar r1 k => ?_)
  have hd : ds.length = es.length := evL_len e
  rw [sl_len s] at hd
  match ds, hd, hi, r1 with
  | [d, d2], _, hi, r1 =>
    obtain ⟨v, v2, rfl, h1, h2⟩ := rl2 r1
    cases d with
    | lst ds => cases d2 with
      | lst ds2 =>
        cases hi
        obtain ⟨p, vs, rfl, hT, rr⟩ := h1
        obtain ⟨p2, vs2, rfl, hT2, rr2⟩ := h2
        exact ⟨p, p2, vs, vs2, rfl, .inl ⟨SqL.of (ar.sub _ _ hT), SqL.of (ar.sub _ _ hT2), k _ (it_zipL hT rr hT2 rr2) (fun h => nomatch h)⟩⟩
      | tup ds2 => exact absurd (.inr ⟨_, _, _, e⟩) hmix
      | _ => cases hi
    | tup ds => cases d2 with
      | tup ds2 =>
        cases hi
        obtain ⟨p, vs, rfl, hT, rr⟩ := h1
        obtain ⟨p2, vs2, rfl, hT2, rr2⟩ := h2
        exact ⟨p, p2, vs, vs2, rfl, .inr ⟨SqT.of (ar.sub _ _ hT), SqT.of (ar.sub _ _ hT2), k _ (it_zipT hT rr hT2 rr2) (fun h => nomatch h)⟩⟩
      | lst ds2 => exact absurd (.inl ⟨_, _, _, e⟩) hmix
      | _ => cases hi
    | _ => cases hi
end
end EV

set_option Elab.async false
set_option linter.all false
set_option maxRecDepth 100000
set_option maxHeartbeats 4000000
/-! EvK: targets, comprehensions, all expressions. -/
namespace EV
open PySem PySem.Spec PyProof.Rows L2
section
variable {g : Gs} {md : Md} {cl : Cl} {lv : Nat} {X : Cx} {sc : Scope} {N : List Str} {st : Str → Bool} {W : WX}
/-! ### targets -/
def tgV : Tg → D → Option (List D)
  | .nm _, d => some [d]
  | .tp is, .tup ds => if ds.length = is.length then some ds else none
  | .tp is, .lst ds => if ds.length = is.length then some ds else none
  | _, _ => none
def setsV : List Nat → List V → L2.St → L2.St
  | i :: is, v :: vs, σ => setsV is vs (σ.set i (some v))
  | _, _, σ => σ
theorem setAll_len : ∀ {is : List Nat} {ds : List D} {ρ ρ2 : List (Option D)}, setAll is ds ρ = some ρ2 → ds.length = is.length
  | [], [], _, _, _ => rfl
  | i :: is, d :: ds, ρ, ρ2, h => by
    unfold setAll at h
    simp [setAll_len h]
  | [], _ :: _, _, _, h => by cases h
  | _ :: _, [], _, _, h => by cases h
theorem tgD_v {tg : Tg} {d : D} {ρ ρ2 : List (Option D)} (h : tgD tg d ρ = some ρ2) : ∃ ds, tgV tg d = some ds ∧ setAll (tgSlots tg) ds ρ = some ρ2 := by
  cases tg with
  | nm i => exact ⟨[d], rfl, h⟩
  | tp is => cases d with
    | tup ds => exact ⟨ds, if_pos (setAll_len (show setAll is ds ρ = some ρ2 from h)), h⟩
    | lst ds => exact ⟨ds, if_pos (setAll_len (show setAll is ds ρ = some ρ2 from h)), h⟩
    | _ => cases h
/-- a target: Q for all that may be stored -/
def tG (g : Gs) (tg : Tg) : TG := fun v σ H Q => ∃ T t d ds, Ar g T H t ∧ Rep g T d v ∧ tgV tg d = some ds ∧ ∀ vs, RepL g T ds vs → Q (setsV (tgSlots tg) vs σ) H
def gNames : List Nat → TGs
  | [] => gNil
  | i :: is => gCons (gName i) (gNames is)
theorem gNames_of : ∀ {is : List Nat} {vs : List V} {σ : L2.St} {H : Hp} {Q : L2.St → Hp → Prop}, vs.length = is.length → Q (setsV is vs σ) H → gNames is vs σ H Q
  | [], [], _, _, _, _, q => ⟨rfl, q⟩
  | i :: is, v :: vs, σ, H, Q, h, q => ⟨v, vs, rfl, gNames_of (by simpa using h) q⟩
  | [], _ :: _, _, _, _, h, _ => by simp at h
  | _ :: _, [], _, _, _, h, _ => by simp at h
theorem PG.weak {x : Expr} {a b : TG} (h : PG X x a) (k : ∀ v σ H Q, b v σ H Q → a v σ H Q) : PG X x b := ⟨fun pins s σ H v u Q I r z => h.run pins s σ H v u Q I r (k v σ H Q z)⟩
theorem PG.or {x : Expr} {a b : TG} (h1 : PG X x a) (h2 : PG X x b) : PG X x (fun v σ H Q => a v σ H Q ∨ b v σ H Q) := ⟨fun pins s σ H v u Q I r z => by
  rcases z with z | z
  · exact h1.run pins s σ H v u Q I r z
  · exact h2.run pins s σ H v u Q I r z⟩
theorem names_ok (c : XC X g md lv sc N st) : ∀ {is : List Nat} {xs : List Expr}, chkTgs sc st N is xs = true → PGs X xs (gNames is) ∧ (∀ env, (assignEach xs env).length = is.length) ∧ (∀ env, (assignEach xs env).findIdx? (·.1) = none)
  | [], [], _ => ⟨pgs_nil, fun _ => rfl, fun _ => rfl⟩
  | i :: is, x :: xs, h => by
    cases x with
    | Name y p =>
      unfold chkTgs at h
      simp only [Bool.and_eq_true, Bool.or_eq_true, decide_eq_true_eq] at h
      obtain ⟨⟨h1, h2⟩, h3⟩ := h
      obtain ⟨k1, k2, k3⟩ := names_ok c h3
      have pg : PG X (.Name y p) (gName i) := by
        have hN : X.N[i]? = some y := by rw [c.N]; exact h1
        rcases h2 with h2 | ⟨h2, h2'⟩
        · exact pg_name c.nd hN (.inl (by rw [c.sc]; exact h2)) (.inr (by rw [c.sc]; exact h2))
        · exact pg_name c.nd hN (.inr (by rw [c.sc]; exact h2)) (.inl (c.st y h2' (by rw [c.sc]; exact h2)))
      refine ⟨pgs_cons pg k1 rfl, fun env => ?_, fun env => ?_⟩
      · show (assignEach xs env).length + 1 = is.length + 1
        rw [k2]
      · show List.findIdx? (·.1) ((false, assign (.Name y p) env) :: assignEach xs env) = none
        rw [List.findIdx?_cons, k3 env]
        rfl
    | _ => cases h
  | [], _ :: _, h => by cases h
  | _ :: _, [], h => by cases h
theorem sg_ok {tg : Tg} {x : Expr} (c : XC X g md lv sc N st) (h : chkTg sc st N tg x = true) : PG X x (tG g tg) := by
  cases tg with
  | nm i =>
    have h : chkTgs sc st N [i] [x] = true := h
    cases x with
    | Name y p =>
      unfold chkTgs at h
      simp only [Bool.and_eq_true, Bool.or_eq_true, decide_eq_true_eq] at h
      obtain ⟨⟨h1, h2⟩, h3⟩ := h
      have pg : PG X (.Name y p) (gName i) := by
        have hN : X.N[i]? = some y := by rw [c.N]; exact h1
        rcases h2 with h2 | ⟨h2, h2'⟩
        · exact pg_name c.nd hN (.inl (by rw [c.sc]; exact h2)) (.inr (by rw [c.sc]; exact h2))
        · exact pg_name c.nd hN (.inr (by rw [c.sc]; exact h2)) (.inl (c.st y h2' (by rw [c.sc]; exact h2)))
      refine PG.weak pg fun v σ H Q ⟨T, t, d, ds, ar, r, e, k⟩ => ?_
      cases e
      exact k [v] ⟨v, [], rfl, r, rfl⟩
    | _ => cases h
  | tp is =>
    cases x with
    | Tuple xs kk p =>
      have h : chkTgs sc st N is xs = true := h
      obtain ⟨k1, k2, k3⟩ := names_ok c h
      refine PG.weak (PG.or (pg_tup c.xg.calm k1 (k2 _) (k3 _)) (pg_lst c.xg.calm k1 (k2 _) (k3 _))) fun v σ H Q ⟨T, t, d, ds, ar, r, e, k⟩ => ?_
      cases d with
      | tup ds' =>
        unfold tgV at e
        dsimp only at e
        split at e
        · rename_i hl
          cases e
          obtain ⟨a, vs, rfl, hT, rr⟩ := r
          exact .inl ⟨a, vs, rfl, SqT.of (ar.sub _ _ hT), by rw [rr.length, hl], gNames_of (by rw [rr.length, hl]) (k vs rr)⟩
        · cases e
      | lst ds' =>
        unfold tgV at e
        dsimp only at e
        split at e
        · rename_i hl
          cases e
          obtain ⟨a, vs, rfl, hT, rr⟩ := r
          exact .inr ⟨a, vs, rfl, SqL.of (ar.sub _ _ hT), by rw [rr.length, hl], gNames_of (by rw [rr.length, hl]) (k vs rr)⟩
        · cases e
      | _ => cases e
    | _ => cases h
/-! ### slots -/
theorem nth_set {α : Type} : ∀ (l : List α) (i j : Nat) (x : α), nth (l.set i x) j = if i = j ∧ j < l.length then some x else nth l j := by
  intro l i j x
  rw [nth_eq, nth_eq, List.getElem?_set]
  split
  · rename_i h
    split
    · rename_i h2; rw [if_pos ⟨h, h ▸ h2⟩]
    · rename_i h2; rw [if_neg (fun k => h2 (h ▸ k.2))]; rw [List.getElem?_eq_none (by omega)]
  · rename_i h; rw [if_neg (fun k => h k.1)]
theorem VR.set {T : Hp} {ρ : List (Option D)} {σ : L2.St} {i : Nat} {d : D} {v : V} (hl : ρ.length = σ.length) (h : VR g T ρ σ) (r : Rep g T d v) : VR g T (ρ.set i (some d)) (σ.set i (some v)) := fun j e q => by
  rw [nth_set] at q
  rw [List.getElem?_set]
  by_cases hij : i = j
  · subst hij
    by_cases hb : i < ρ.length
    · rw [if_pos ⟨rfl, hb⟩] at q
      cases q
      exact ⟨v, by rw [if_pos rfl, if_pos (by omega)], r⟩
    · rw [if_neg (fun k => hb k.2), nth_eq, List.getElem?_eq_none (by omega)] at q
      cases q
  · rw [if_neg (fun k => hij k.1)] at q
    rw [if_neg hij]
    exact h j e q
theorem VR.wipe1 {T : Hp} {ρ : List (Option D)} {σ : L2.St} {i : Nat} (h : VR g T ρ σ) : VR g T (ρ.set i none) (σ.set i none) := fun j e q => by
  rw [nth_set] at q
  rw [List.getElem?_set]
  by_cases hij : i = j ∧ j < ρ.length
  · rw [if_pos hij] at q; cases q
  · rw [if_neg hij] at q
    by_cases h2 : i = j
    · subst h2
      rw [nth_eq, List.getElem?_eq_none (by omega)] at q; cases q
    · rw [if_neg h2]; exact h j e q
theorem VR.wipe {T : Hp} {ρ : List (Option D)} {σ : L2.St} (h : VR g T ρ σ) : ∀ own : List Nat, VR g T (wipeD ρ own) (L2.wipe σ own)
  | [] => h
  | v :: vs => (VR.wipe h vs).wipe1
theorem wipeD_length (ρ : List (Option D)) : ∀ own : List Nat, (wipeD ρ own).length = ρ.length
  | [] => rfl
  | v :: vs => by unfold wipeD; rw [List.length_set, wipeD_length ρ vs]
theorem VR.sets {T : Hp} : ∀ {is : List Nat} {ds : List D} {vs : List V} {ρ ρ2 : List (Option D)} {σ : L2.St}, ρ.length = σ.length → VR g T ρ σ → setAll is ds ρ = some ρ2 → RepL g T ds vs → VR g T ρ2 (setsV is vs σ) ∧ ρ2.length = (setsV is vs σ).length
  | [], [], vs, ρ, ρ2, σ, hl, h, e, r => by cases e; rw [show vs = [] from r]; exact ⟨h, hl⟩
  | i :: is, d :: ds, vs, ρ, ρ2, σ, hl, h, e, r => by
    obtain ⟨v, vs', rfl, h1, h2⟩ := r
    unfold setAll at e
    exact VR.sets (ρ := ρ.set i (some d)) (σ := σ.set i (some v)) (by simp [hl]) (h.set hl h1) e h2
  | [], _ :: _, _, _, _, _, _, _, e, _ => by cases e
  | _ :: _, [], _, _, _, _, _, _, e, _ => by cases e
theorem wipe_get {σ : L2.St} {own : List Nat} {i : Nat} (h : i ∈ own) (hl : i < σ.length) : (L2.wipe σ own)[i]? = some none := by
  induction own with
  | nil => cases h
  | cons v vs ih =>
    unfold L2.wipe
    rw [List.getElem?_set]
    by_cases e : v = i
    · rw [if_pos e, if_pos (by rw [wipe_length, e]; exact hl)]
    · rw [if_neg e]
      rcases List.mem_cons.mp h with k | k
      · exact absurd k.symm e
      · exact ih k
theorem wipe_ext {σ σ2 : L2.St} {own : List Nat} (hl : σ2.length = σ.length) (h : ∀ i, i ∉ own → σ2[i]? = σ[i]?) : L2.wipe σ2 own = L2.wipe σ own := by
  refine List.ext_getElem? fun i => ?_
  by_cases hm : i ∈ own
  · by_cases hb : i < σ.length
    · rw [wipe_get hm hb, wipe_get hm (by omega)]
    · rw [List.getElem?_eq_none (by rw [wipe_length]; omega), List.getElem?_eq_none (by rw [wipe_length]; omega)]
  · rw [wipe_out hm, wipe_out hm, h i hm]
theorem sets_out : ∀ {is : List Nat} {vs : List V} {σ : L2.St} {i : Nat}, i ∉ is → (setsV is vs σ)[i]? = σ[i]?
  | [], vs, σ, i, _ => by cases vs <;> rfl
  | j :: is, [], σ, i, _ => rfl
  | j :: is, v :: vs, σ, i, h => by
    unfold setsV
    rw [sets_out (fun k => h (List.mem_cons_of_mem _ k)), List.getElem?_set_ne (fun e => h (by rw [e]; exact List.mem_cons_self))]
theorem sets_length : ∀ {is : List Nat} {vs : List V} {σ : L2.St}, (setsV is vs σ).length = σ.length
  | [], vs, σ => by cases vs <;> rfl
  | j :: is, [], σ => rfl
  | j :: is, v :: vs, σ => by unfold setsV; rw [sets_length, List.length_set]
theorem wipe_sets {is : List Nat} {vs : List V} {σ : L2.St} {own : List Nat} (h : ∀ i ∈ is, i ∈ own) : L2.wipe (setsV is vs (L2.wipe σ own)) own = L2.wipe σ own := by
  have e : L2.wipe (L2.wipe σ own) own = L2.wipe σ own := wipe_ext (wipe_length _ _) fun i hi => wipe_out hi
  exact (wipe_ext (σ := L2.wipe σ own) sets_length fun i hi => sets_out fun k => hi (h i k)).trans e
/-! ### a cell aside that grows -/
theorem Gone.keep {T H T' H' : Hp} {t : Tape} {L : Addr} {o : HO} (gn : Gone g T H t T' H') (h : H L = some o) (hp : plain o = true) (hT : T L = none) (nt : ∀ c, g.tp ≠ some (L, c)) : H' L = some o ∧ T' L = none := by
  refine ⟨gn.ext L o h hp nt, ?_⟩
  cases e : T' L with
  | none => rfl
  | some u =>
    have := gn.new L u e hT nt o h
    rw [hp] at this; cases this
theorem tabs_put {T : List (Addr × Str)} {H : Hp} {L : Addr} {xs ys : List V} (k : LamX.Tabs T H) (h : H L = some (.lst xs)) : LamX.Tabs T (upd H L (.lst ys)) := fun p hp => by
  obtain ⟨ps, e, t, f⟩ := k p hp
  refine ⟨ps, ?_, t, fun pos cv hc => ?_⟩
  · have n : p.1 ≠ L := fun q => by rw [q, h] at e; cases e
    rw [upd_ne n]; exact e
  · obtain ⟨c, e1, e2⟩ := f pos cv hc
    have n : c ≠ L := fun q => by rw [q, h] at e2; unfold LamX.CodeO at e2; cases e2
    exact ⟨c, e1, by rw [upd_ne n]; exact e2⟩
theorem SOk.put {H : Hp} {t : Tape} {L : Addr} {xs ys : List V} (s : SOk g H t) (h : H L = some (.lst xs)) (nt : ∀ a c, g.tp = some (a, c) → L ≠ a ∧ L ≠ c) : SOk g (upd H L (.lst ys)) t where
  tape := fun a c e => by
    obtain ⟨h1, h2, h3⟩ := s.tape a c e
    obtain ⟨n1, n2⟩ := nt a c e
    rw [upd_ne n1.symm, upd_ne n2.symm]
    exact ⟨h1, h2, h3⟩
  tabs := tabs_put s.tabs h
theorem Gone.put {T H T' H' : Hp} {t : Tape} {L : Addr} {xs ys : List V} (gn : Gone g T H t T' H') (hH : H L = none) (hT : T' L = none) (h : H' L = some (.lst xs)) (nt : ∀ a c, g.tp = some (a, c) → L ≠ a ∧ L ≠ c) : Gone g T H t T' (upd H' L (.lst ys)) where
  sub := gn.sub
  in_ := fun b o e => by rw [upd_ne (ne_of_none e hT)]; exact gn.in_ b o e
  vok := gn.vok
  new := gn.new
  ext := fun b o e p n => by rw [upd_ne (ne_of_none e hH)]; exact gn.ext b o e p n
  sok := gn.sok.put h nt
theorem tabs_putO {T : List (Addr × Str)} {H : Hp} {L : Addr} {o o' : HO} (k : LamX.Tabs T H) (h : H L = some o) (hp : EV.plain o = true) : LamX.Tabs T (upd H L o') := fun p hp' => by
  obtain ⟨ps, e, t, f⟩ := k p hp'
  refine ⟨ps, ?_, t, fun pos cv hc => ?_⟩
  · have n : p.1 ≠ L := fun q => by rw [q, h] at e; cases e; cases hp
    rw [upd_ne n]; exact e
  · obtain ⟨c, e1, e2⟩ := f pos cv hc
    have n : c ≠ L := fun q => by rw [q, h] at e2; unfold LamX.CodeO at e2; cases e2; cases hp
    exact ⟨c, e1, by rw [upd_ne n]; exact e2⟩
theorem SOk.putO {H : Hp} {t : Tape} {L : Addr} {o o' : HO} (s : SOk g H t) (h : H L = some o) (hp : EV.plain o = true) (nt : ∀ a c, g.tp = some (a, c) → L ≠ a ∧ L ≠ c) : SOk g (upd H L o') t where
  tape := fun a c e => by
    obtain ⟨h1, h2, h3⟩ := s.tape a c e
    obtain ⟨n1, n2⟩ := nt a c e
    rw [upd_ne n1.symm, upd_ne n2.symm]
    exact ⟨h1, h2, h3⟩
  tabs := tabs_putO s.tabs h hp
theorem Gone.putO {T H T' H' : Hp} {t : Tape} {L : Addr} {o o' : HO} (gn : Gone g T H t T' H') (hH : H L = none) (hT : T' L = none) (h : H' L = some o) (hp : EV.plain o = true) (nt : ∀ a c, g.tp = some (a, c) → L ≠ a ∧ L ≠ c) : Gone g T H t T' (upd H' L o') where
  sub := gn.sub
  in_ := fun b u e => by rw [upd_ne (ne_of_none e hT)]; exact gn.in_ b u e
  vok := gn.vok
  new := gn.new
  ext := fun b u e p n => by rw [upd_ne (ne_of_none e hH)]; exact gn.ext b u e p n
  sok := gn.sok.putO h hp nt
end
end EV

set_option Elab.async false
set_option linter.all false
set_option maxRecDepth 100000
set_option maxHeartbeats 4000000
/-! EvL: comprehensions, all expressions. -/
namespace EV
open PySem PySem.Spec PyProof.Rows L2
section
variable {g : Gs} {md : Md} {cl : Cl} {lv : Nat} {X : Cx} {sc : Scope} {N : List Str} {st : Str → Bool} {W : WX}
abbrev Wn : WX := fun _ _ _ _ => False
def tCs (g : Gs) (md : Md) (cl : Cl) (cs : List E) : TT := fun σ H Q => ∃ T ρ t, At g T H t ρ σ ∧ GoodB g Wn T H σ (evC md cl cs ρ t) Q
def lcF (md : Md) (cl : Cl) (own : List Nat) (tg : Tg) (cs : List E) (elt : E) (ρ : List (Option D)) (x : D) : M (Option D) := match tgD tg x (wipeD ρ own) with
  | none => bad
  | some ρ2 => bnd (noexc (evC md cl cs ρ2)) fun b => if b then bnd (noexc (evE md cl elt ρ2)) fun d => ret (some d) else ret none
theorem evE_lc {own : List Nat} {tg : Tg} {k : Sk} {es cs : List E} {elt : E} {ρ : List (Option D)} : evE md cl (.lc own tg k es cs elt) ρ = bnd (evL md cl es ρ) fun ds => match itD k ds with
    | none => bad
    | some xs => bnd (lenOk xs) fun xs => bnd (lcRun (lcF md cl own tg cs elt ρ) xs) fun ys => ret (.lst ys) := by
  unfold evE lcF
  rfl
theorem noexc_ok {α : Type} {x : M α} {t t' : Tape} {a : α} (h : noexc x t = .ok a t') : x t = .ok a t' := by
  unfold noexc at h
  split at h
  · rename_i e; rw [e]; exact h
  · cases h
theorem lc_t {own : List Nat} {tg : Tg} {k : Sk} {es cs : List E} {elt : E} {σ : L2.St} {H : Hp} {Q : VK} (hsl : ∀ i ∈ tgSlots tg, i ∈ own) (z : tE g W true (evE md cl (.lc own tg k es cs elt)) σ H Q) :
    tLc (tI g W k (evI md cl k es)) (tG g tg) (tCs g md cl cs) (tE g Wn false (evE md cl elt)) own σ H Q := by
  obtain ⟨T, ρ, t, a, q⟩ := z
  rw [evE_lc] at q
  refine ⟨T, ρ, t, a, ?_⟩
  show GoodI g W k T H σ (bnd (evL md cl es ρ) (fun ds => opt (itD k ds)) t) _
  unfold bnd at q ⊢
  cases ee : evL md cl es ρ t with
  | exc c t' => rw [ee] at q; exact q
  | bad => rw [ee] at q; exact q
  | ok ds t1 =>
    rw [ee] at q
    show GoodI g W k T H σ (opt (itD k ds) t1) _
    cases hi : itD k ds with
    | none => simp only [hi] at q; exact q.elim
    | some xs =>
      simp only [hi] at q
      have q : Good g W true T H σ (bnd (lenOk xs) (fun xs => bnd (lcRun (lcF md cl own tg cs elt ρ) xs) fun ys => ret (.lst ys)) t1) Q := q
      obtain ⟨hlen, q2⟩ := lenOk_some q
      intro J T1 H1 gn1 hJ _
      have q3 := Good.back gn1 q2
      have a1 := a.gone gn1
      intro L hL
      have nt : ∀ x c, g.tp = some (x, c) → L ≠ x ∧ L ≠ c := fun x c e => by
        obtain ⟨k1, k2, _⟩ := a1.sok.tape x c e
        exact ⟨(ne_of_none k1 hL).symm, (ne_of_none k2 hL).symm⟩
      have nt' : ∀ c, g.tp ≠ some (L, c) := fun c e => (nt L c e).1 rfl
      refine ⟨fun i m Hc => m + i = xs.length ∧ ∃ T' t' acc dacc, Gone g T1 H1 t' T' Hc ∧ Hc L = some (.lst acc) ∧ T' L = none ∧ RepL g T' dacc acc ∧ acc.length ≤ i ∧
        Good g W true T1 H1 σ (bnd (lcRun (lcF md cl own tg cs elt ρ) (xs.drop i)) (fun ys => ret (.lst (dacc ++ ys))) t') Q, ⟨xs.length, by omega, T1, t1, [], [], Gone.aside a1.sub a1.vok a1.sok hL, upd_same, a1.sub.none hL, rfl, Nat.le_refl _, q3⟩, fun i m Hc w => ?_⟩
      obtain ⟨hm, T', t', acc, dacc, gn, hHc, hTL, rr, hal, qg⟩ := w
      by_cases hlt : i < xs.length
      · obtain ⟨d, hd⟩ : ∃ d, xs[i]? = some d := ⟨xs[i], List.getElem?_eq_getElem hlt⟩
        obtain ⟨go, yl⟩ := (hJ T' Hc t' i gn.sub gn.arr).1 d hd
        refine .inr ⟨go, _, fun H' n => ⟨m - 1, by omega, n⟩, fun x H2 yy => ?_⟩
        obtain ⟨T2, gn2, r2⟩ := yl x H2 yy
        obtain ⟨hH2, hT2⟩ := gn2.keep hHc rfl hTL nt'
        have hdrop : xs.drop i = d :: xs.drop (i + 1) := by
          have e := List.getElem?_eq_some_iff.mp hd
          obtain ⟨e1, e2⟩ := e
          rw [List.drop_eq_getElem_cons e1, e2]
        rw [hdrop] at qg
        unfold lcRun at qg
        rw [bnd_assoc] at qg
        cases htg : tgD tg d (wipeD ρ own) with
        | none =>
          have e : lcF md cl own tg cs elt ρ d = bad := by unfold lcF; rw [htg]
          rw [e] at qg; exact qg.elim
        | some ρ2 =>
          have e : lcF md cl own tg cs elt ρ d = bnd (noexc (evC md cl cs ρ2)) fun b => if b then bnd (noexc (evE md cl elt ρ2)) fun d => ret (some d) else ret none := by unfold lcF; rw [htg]
          rw [e] at qg
          obtain ⟨ds', hv, hset⟩ := tgD_v htg
          refine ⟨T2, t', d, ds', gn2.arr, r2, hv, fun vs rv => ⟨wipe_sets hsl, ?_⟩⟩
          have vr : VR g T2 (wipeD ρ own) (L2.wipe σ own) := ((a1.gone (gn.trans gn2)).vr).wipe own
          obtain ⟨vr2, vl2⟩ := VR.sets (by rw [wipeD_length, wipe_length]; exact a.len) vr hset rv
          have a2 : At g T2 H2 t' ρ2 (setsV (tgSlots tg) vs (L2.wipe σ own)) := ⟨gn2.in_, gn2.vok, gn2.sok, vr2, vl2⟩
          refine ⟨T2, ρ2, t', a2, ?_⟩
          rw [bnd_assoc] at qg
          cases ec : evC md cl cs ρ2 t' with
          | exc c t'' => unfold bnd noexc at qg; rw [ec] at qg; exact qg.elim
          | bad => unfold bnd noexc at qg; rw [ec] at qg; exact qg.elim
          | ok b t2 =>
            have qg2 : Good g W true T1 H1 σ (bnd (if b then bnd (noexc (evE md cl elt ρ2)) fun d => ret (some d) else ret none) (fun o => bnd (bnd (lcRun (lcF md cl own tg cs elt ρ) (xs.drop (i + 1))) fun ds => ret (match o with
              | some d => d :: ds
              | none => ds)) fun ys => ret (.lst (dacc ++ ys))) t2) Q := by
              have qg' := qg
              unfold bnd noexc at qg'
              rw [ec] at qg'
              exact qg'
            intro T3 H3 gn3
            obtain ⟨hH3, hT3⟩ := gn3.keep hH2 rfl hT2 nt'
            cases b with
            | false =>
              rw [if_neg (by simp)]
              rw [if_neg (by simp), bnd_ret, bnd_assoc] at qg2
              exact ⟨by omega, T3, t2, acc, dacc, (gn.trans gn2).trans gn3, hH3, hT3, RepL.mono (gn2.sub.trans gn3.sub) _ _ rr, by omega, qg2⟩
            | true =>
              rw [if_pos rfl]
              rw [if_pos rfl, bnd_assoc] at qg2
              refine ⟨T3, ρ2, t2, a2.gone gn3, ?_⟩
              cases e2 : evE md cl elt ρ2 t2 with
              | exc c t'' => unfold bnd noexc at qg2; rw [e2] at qg2; exact qg2.elim
              | bad => unfold bnd noexc at qg2; rw [e2] at qg2; exact qg2.elim
              | ok d3 t3 =>
                have qg3 : Good g W true T1 H1 σ (bnd (bnd (lcRun (lcF md cl own tg cs elt ρ) (xs.drop (i + 1))) fun ds => ret (d3 :: ds)) (fun ys => ret (.lst (dacc ++ ys))) t3) Q := by
                  have qg' := qg2
                  unfold bnd noexc at qg'
                  rw [e2] at qg'
                  exact qg'
                intro v H4 ⟨T4, gn4, r4⟩
                have r4 : Rep g T4 d3 v := r4
                obtain ⟨hH4, hT4⟩ := gn4.keep hH3 rfl hT3 nt'
                have gg := ((gn.trans gn2).trans gn3).trans gn4
                refine ⟨acc, hH4, by rw [sz]; have : acc.length < 1000000 := by omega
                                     exact Nat.lt_of_lt_of_le this (by decide), by omega, T4, t3, acc ++ [v], dacc ++ [d3], gg.put hL hT4 hH4 nt, upd_same, hT4, RepL.append (RepL.mono ((gn2.sub.trans gn3.sub).trans gn4.sub) _ _ rr) ⟨v, [], rfl, r4, rfl⟩, by simp; omega, ?_⟩
                rw [bnd_assoc] at qg3
                have e5 : (fun a => bnd (ret (d3 :: a)) fun ys => ret (D.lst (dacc ++ ys))) = fun ys => ret (D.lst (dacc ++ [d3] ++ ys)) := by
                  funext ys
                  rw [bnd_ret]
                  simp
                rw [e5] at qg3
                exact qg3
      · have hi' : xs.length ≤ i := by omega
        refine .inl ⟨(hJ T' Hc t' i gn.sub gn.arr).2 (by omega), ?_⟩
        rw [List.drop_eq_nil_of_le hi'] at qg
        have qg : Good g W true T1 H1 σ (ret (D.lst (dacc ++ [])) t') Q := qg
        rw [List.append_nil] at qg
        exact qg _ _ ⟨T', gn, L, rfl, hTL, NPl.none hL, nt, acc, hHc, rr⟩
/-- a comprehension's parts -/
structure LCP (X : Cx) (g : Gs) (md : Md) (cl : Cl) (W : WX) (N : List Str) (own : List Nat) (tg : Tg) (k : Sk) (es cs : List E) (elt : E) (y tx it : Expr) (ifs : List Expr) (scope : Scope) : Prop where
  hi : PI X tx it (tI g W k (evI md cl k es))
  ok : BlkOk X.N X.env.scope scope (ownOf N own)
  hg : ∀ (s : Shared) (H : Hp) (C : Addr) (cl : List (Str × Addr)) (fp : List Addr), PG (X.blk s H scope (compEnvC scope cl C X.env) fp) tx (tG g tg)
  ht : ∀ (s : Shared) (H : Hp) (C : Addr) (cl' : List (Str × Addr)) (fp : List Addr), PTs (X.blk s H scope (compEnvC scope cl' C X.env) fp) ifs (tCs g md cl cs)
  he : ∀ (s : Shared) (H : Hp) (C : Addr) (cl' : List (Str × Addr)) (fp : List Addr), PE (X.blk s H scope (compEnvC scope cl' C X.env) fp) y (tE g Wn false (evE md cl elt))
  hsl : ∀ i ∈ tgSlots tg, i ∈ own
  hs : ∀ x, foldedSetIterable it X.env x = pure x
theorem pe_lcE {own : List Nat} {tg : Tg} {k : Sk} {es cs : List E} {elt : E} {y tx it : Expr} {ifs : List Expr} {scope : Scope} {pos : Pos} (c : XC X g md lv sc N st) (p : LCP X g md cl W N own tg k es cs elt y tx it ifs scope) :
    PE X (.ListComp y [⟨tx, it, ifs, 0⟩] scope pos) (tE g W true (evE md cl (.lc own tg k es cs elt))) := by
  have hown : (ownOf N own).map (·.2) = own := by unfold ownOf; rw [List.map_map]; exact List.map_id _
  refine PE.weak (pe_lc c.xg.calm c.nd p.hi p.ok p.hg p.ht p.he p.hs) fun σ H Q z => ?_
  rw [hown]
  exact lc_t p.hsl z
/-! ### the tape's parts -/
theorem isTape_some {o : Option (Option EV.D)} (h : isTape o = true) : o = some (some .tape) := by
  unfold isTape at h
  split at h
  · rfl
  · cases h
theorem tape_at {T H : Hp} {t : Tape} {ρ : List (Option EV.D)} {σ : L2.St} {i : Nat} (a : At g T H t ρ σ) (h : isTape (nth ρ i) = true) : ∃ x c, g.tp = some (x, c) ∧ σ[i]? = some (some (.ref x)) := by
  obtain ⟨v, s, x, c, e, rfl⟩ := a.vr i _ (isTape_some h)
  exact ⟨x, c, e, s⟩
theorem tf_val {t : Tape} {c : Addr} {k : Nat} (hk : k < 4) : valV ([(.inr "cells", .ref c), (.inr "at", .int t.at_), (.inr "left", .int t.left), (.inr "seed", .int t.seed), (.inr "salt", .int t.salt)] : List (Key × V)) (.inr (tfNm k)) = some (.int (tfld k t)) := by
  match k, hk with
  | 0, _ => rfl
  | 1, _ => rfl
  | 2, _ => rfl
  | 3, _ => rfl
theorem tf_cells {t : Tape} {c : Addr} : valV ([(.inr "cells", .ref c), (.inr "at", .int t.at_), (.inr "left", .int t.left), (.inr "seed", .int t.seed), (.inr "salt", .int t.salt)] : List (Key × V)) (.inr "cells") = some (.ref c) := rfl
theorem xg_u (xg : XG X g) : X.A.units + 1 < cLine := by have := xg.un; omega
theorem se_tf {i k : Nat} {y : Str} {j : Nat} {p p2 pos : Pos} (c : XC X g md lv sc N st) (h1 : N[i]? = some y) (h2 : vis sc y = true) (h3 : plainName y = true) (hk : k < 4) : SE X g md cl W (.tf i k) (.Subscript (.Name y p) (.Constant (.str (tfNm k)) j p2) pos) := by
  refine se_of c.xg ?_ rfl
  refine PE.weak (pe_dget (xg_u c.xg) (pe_var (i := i) (by rw [c.N]; exact h1) (vis_of c h2) (plain_d h3).1 (plain_d h3).2.1) pe_str (fun _ _ => rfl)) fun σ H Q ⟨T, ρ, t, a, q⟩ => ?_
  unfold evE at q
  by_cases hi : isTape (nth ρ i) = true
  · rw [if_pos hi] at q
    obtain ⟨x, cc, e, s⟩ := tape_at a hi
    obtain ⟨k1, k2, k3⟩ := a.sok.tape x cc e
    refine ⟨_, s, x, _, rfl, ?_, q _ _ (Post.val a.ar rfl rfl)⟩
    rw [← tf_val (c := cc) hk]
    exact DGet.k (k := .inr (tfNm k)) k1
  · rw [if_neg hi] at q; exact q.elim
theorem cells_pe {i : Nat} {y : Str} {j : Nat} {p p2 pos : Pos} (c : XC X g md lv sc N st) (h1 : N[i]? = some y) (h2 : vis sc y = true) (h3 : plainName y = true) : PE X (.Subscript (.Name y p) (.Constant (.str "cells") j p2) pos) (tDGet (tVar i) (tC (.str "cells"))) :=
  pe_dget (xg_u c.xg) (pe_var (i := i) (by rw [c.N]; exact h1) (vis_of c h2) (plain_d h3).1 (plain_d h3).2.1) pe_str (fun _ _ => rfl)
theorem se_tln {i : Nat} {y : Str} {j : Nat} {p p2 p3 p4 pos : Pos} (c : XC X g md lv sc N st) (m : ModOk g md) (h1 : N[i]? = some y) (h2 : vis sc y = true) (h3 : plainName y = true) (hm : ("len" : Str) ∈ md.bl) (hg : gl sc "len" = true) :
    SE X g md cl W (.tln i) (.Call (.Name "len" p3) [.Subscript (.Name y p) (.Constant (.str "cells") j p2) p4] [] pos) := by
  refine se_of c.xg ?_ rfl
  refine PE.weak (pe_callB call_len (gl_of c hg) (by rw [c.xg.mg]; exact m.bl _ hm) PySem.boot_len (pa_cons (cells_pe c h1 h2 h3) pa_nil)) fun σ H Q ⟨T, ρ, t, a, q⟩ => ?_
  unfold evE at q
  by_cases hi : isTape (nth ρ i) = true
  · rw [if_pos hi] at q
    obtain ⟨x, cc, e, s⟩ := tape_at a hi
    obtain ⟨k1, k2, k3⟩ := a.sok.tape x cc e
    refine ⟨_, s, x, _, rfl, DGet.k (k := .inr "cells") k1, ?_⟩
    refine ⟨V.ref cc, (t.cells.map V.int).length, rfl, .inl ⟨_, SqL.of k2, rfl⟩, ?_⟩
    rw [List.length_map]
    exact q _ _ (Post.val a.ar rfl rfl)
  · rw [if_neg hi] at q; exact q.elim
theorem atI_map {l : List Int} {k : Int} {c : Int} (h : atI l k = some c) : atI (l.map V.int) k = some (.int c) := by
  unfold atI at h ⊢
  rw [List.length_map]
  cases q : ixN l.length k with
  | none => rw [q] at h; cases h
  | some j =>
    rw [q] at h
    have h : l[j]? = some c := h
    show (l.map V.int)[j]? = some (.int c)
    rw [List.getElem?_map, h]; rfl
theorem se_tci {i : Nat} {e : E} {y : Str} {j : Nat} {p p2 p4 pos : Pos} {w : Expr} (c : XC X g md lv sc N st) (h1 : N[i]? = some y) (h2 : vis sc y = true) (h3 : plainName y = true) (hw : okE w = true) (se : SE X g md cl W e w) :
    SE X g md cl W (.tci i e) (.Subscript (.Subscript (.Name y p) (.Constant (.str "cells") j p2) p4) w pos) := by
  refine se_of c.xg ?_ rfl
  refine PE.weak (pe_ix ix_seq (cells_pe c h1 h2 h3) (PE.of se.pe) (ix_ok hw)) fun σ H Q ⟨T, ρ, t, a, q⟩ => ?_
  unfold evE at q
  by_cases hi : isTape (nth ρ i) = true
  · rw [if_pos hi] at q
    obtain ⟨x, cc, e, s⟩ := tape_at a hi
    obtain ⟨k1, k2, k3⟩ := a.sok.tape x cc e
    refine ⟨_, s, x, _, rfl, DGet.k (k := .inr "cells") k1, ?_⟩
    refine tE_then a q fun d t1 v T1 H1 gn1 a1 r1 q1 => ?_
    cases d with
    | int k =>
      have r1 : v = .int k := r1
      obtain ⟨_, m2, _⟩ := a1.sok.tape x cc e
      have q1 : Good g W false T1 H1 σ (match atI t1.cells k with
        | some c => .ok (.int c) t1
        | none => .bad) Q := q1
      cases hk : atI t1.cells k with
      | none => rw [hk] at q1; exact q1.elim
      | some z =>
        rw [hk] at q1
        exact .inl ⟨cc, _, k, _, rfl, r1, SqL.of m2, atI_map hk, q1 _ _ (Post.val gn1.arr rfl rfl)⟩
    | _ => exact q1.elim
  · rw [if_neg hi] at q; exact q.elim
end
end EV

set_option Elab.async false
set_option linter.all false
set_option maxRecDepth 100000
set_option maxHeartbeats 4000000
/-! EvLd: dict comprehensions. -/
namespace EV
open PySem PySem.Spec PyProof.Rows L2
section
variable {g : Gs} {md : Md} {cl : Cl} {lv : Nat} {X : Cx} {sc : Scope} {N : List Str} {st : Str → Bool} {W : WX}
theorem has_K (k : Key) : ∀ (kvs : List (Key × V)), hasD (kvs.map fun p => kD p.1) (kD k) = kvs.any fun kv => decide (kv.1 = k)
  | [] => rfl
  | p :: kvs => by
    have ih := has_K k kvs
    unfold hasD at ih ⊢
    simp only [List.map_cons, List.any_cons, keyEq_k, ih]
theorem putVs_K {T : Hp} {k : Key} {e : D} {v : V} (re : Rep g T e v) : ∀ {kvs : List (Key × V)} {vs : List D}, RepL g T vs (kvs.map (·.2)) → RepL g T (putVs (kvs.map fun p => kD p.1) vs (kD k) e) ((kvs.map fun kv => if kv.1 = k then (kv.1, v) else kv).map (·.2))
  | [], vs, r => by
    cases vs with
    | nil => exact (rfl : _ = _)
    | cons _ _ => obtain ⟨_, _, q, _⟩ := r; cases q
  | p :: kvs, vs, r => by
    cases vs with
    | nil => exact absurd (show _ = [] from r) (by simp)
    | cons x vs =>
      obtain ⟨u, us, q, h1, h2⟩ := r
      have q1 : p.2 = u := (List.cons.inj q).1
      have q2 := (List.cons.inj q).2
      subst q2
      have ih := putVs_K (k := k) re h2
      refine ⟨_, _, rfl, ?_, ih⟩
      show Rep g T (if keyEq (kD p.1) (kD k) = true then e else x) (if p.1 = k then (p.1, v) else p).2
      rw [keyEq_k]
      by_cases hk : p.1 = k
      · rw [if_pos (by simpa using hk), if_pos hk]; exact re
      · rw [if_neg (by simpa using hk), if_neg hk, q1]; exact h1
theorem put_K {T : Hp} {k : Key} {e : D} {v : V} (re : Rep g T e v) {kvs : List (Key × V)} {vs : List D} (r : RepL g T vs (kvs.map (·.2))) :
    (putD (kvs.map fun p => kD p.1) vs (kD k) e).1 = (putK kvs k v).map (fun p => kD p.1) ∧ RepL g T (putD (kvs.map fun p => kD p.1) vs (kD k) e).2 ((putK kvs k v).map (·.2)) := by
  unfold putD putK
  rw [has_K]
  by_cases h : (kvs.any fun kv => decide (kv.1 = k)) = true
  · rw [if_pos h, if_pos h]
    refine ⟨?_, putVs_K re r⟩
    rw [List.map_map]
    refine List.map_congr_left fun p _ => ?_
    show kD p.1 = kD (if p.1 = k then (p.1, v) else p).1
    split <;> rfl
  · rw [if_neg h, if_neg h]
    refine ⟨by simp, ?_⟩
    rw [List.map_append]
    exact RepL.append r ⟨v, [], rfl, re, rfl⟩
theorem putK_len {kvs : List (Key × V)} {k : Key} {v : V} : (putK kvs k v).length ≤ kvs.length + 1 := by
  unfold putK
  split <;> simp
def dcF (md : Md) (cl : Cl) (own : List Nat) (tg : Tg) (cs : List E) (ek ev : E) (ρ : List (Option D)) (x : D) : M (Option (D × D)) := match tgD tg x (wipeD ρ own) with
  | none => bad
  | some ρ2 => bnd (noexc (evC md cl cs ρ2)) fun b => if b then bnd (noexc (evE md cl ek ρ2)) fun d => bnd (noexc (evE md cl ev ρ2)) fun e => ret (some (d, e)) else ret none
theorem evE_dc {own : List Nat} {tg : Tg} {k : Sk} {es cs : List E} {ek ev : E} {ρ : List (Option D)} : evE md cl (.dc own tg k es cs ek ev) ρ = bnd (evL md cl es ρ) fun ds => match itD k ds with
    | none => bad
    | some xs => bnd (lenOk xs) fun xs => dcRun (dcF md cl own tg cs ek ev ρ) xs [] [] := by
  conv => lhs; unfold evE
  unfold dcF
  all_goals rfl
theorem dc_cons {f : D → M (Option (D × D))} {x : D} {xs ks vs : List D} : dcRun f (x :: xs) ks vs = bnd (f x) fun o => match o with
    | none => dcRun f xs ks vs
    | some (d, e) => match keyK d with
      | some _ => dcRun f xs (putD ks vs d e).1 (putD ks vs d e).2
      | none => bad := by
  conv => lhs; unfold dcRun
  all_goals rfl
theorem dc_t {own : List Nat} {tg : Tg} {k : Sk} {es cs : List E} {ek ev : E} {σ : L2.St} {H : Hp} {Q : VK} (hsl : ∀ i ∈ tgSlots tg, i ∈ own) (z : tE g W true (evE md cl (.dc own tg k es cs ek ev)) σ H Q) :
    tDc (tI g W k (evI md cl k es)) (tG g tg) (tCs g md cl cs) (tE g Wn false (evE md cl ek)) (tE g Wn false (evE md cl ev)) own σ H Q := by
  obtain ⟨T, ρ, t, a, q⟩ := z
  rw [evE_dc] at q
  refine ⟨T, ρ, t, a, ?_⟩
  show GoodI g W k T H σ (bnd (evL md cl es ρ) (fun ds => opt (itD k ds)) t) _
  unfold bnd at q ⊢
  cases ee : evL md cl es ρ t with
  | exc c t' => rw [ee] at q; exact q
  | bad => rw [ee] at q; exact q
  | ok ds t1 =>
    rw [ee] at q
    show GoodI g W k T H σ (opt (itD k ds) t1) _
    cases hi : itD k ds with
    | none => simp only [hi] at q; exact q.elim
    | some xs =>
      simp only [hi] at q
      have q : Good g W true T H σ (bnd (lenOk xs) (fun xs => dcRun (dcF md cl own tg cs ek ev ρ) xs [] []) t1) Q := q
      obtain ⟨hlen, q2⟩ := lenOk_some q
      intro J T1 H1 gn1 hJ _
      have q3 := Good.back gn1 q2
      have a1 := a.gone gn1
      intro L hL
      have nt : ∀ x c, g.tp = some (x, c) → L ≠ x ∧ L ≠ c := fun x c e => by
        obtain ⟨k1, k2, _⟩ := a1.sok.tape x c e
        exact ⟨(ne_of_none k1 hL).symm, (ne_of_none k2 hL).symm⟩
      have nt' : ∀ c, g.tp ≠ some (L, c) := fun c e => (nt L c e).1 rfl
      refine ⟨fun i m Hc => m + i = xs.length ∧ ∃ (T' : Hp) (t' : Tape) (kvs : List (Key × V)) (dv : List D), Gone g T1 H1 t' T' Hc ∧ Hc L = some (.dK kvs) ∧ T' L = none ∧ RepL g T' dv (kvs.map (·.2)) ∧ kvs.length ≤ i ∧
        Good g W true T1 H1 σ (dcRun (dcF md cl own tg cs ek ev ρ) (xs.drop i) (kvs.map fun p => kD p.1) dv t') Q, ⟨xs.length, by omega, T1, t1, [], [], Gone.aside a1.sub a1.vok a1.sok hL, upd_same, a1.sub.none hL, rfl, Nat.le_refl _, q3⟩, fun i m Hc w => ?_⟩
      obtain ⟨hm, T', t', kvs, dv, gn, hHc, hTL, rr, hal, qg⟩ := w
      by_cases hlt : i < xs.length
      · obtain ⟨d, hd⟩ : ∃ d, xs[i]? = some d := ⟨xs[i], List.getElem?_eq_getElem hlt⟩
        obtain ⟨go, yl⟩ := (hJ T' Hc t' i gn.sub gn.arr).1 d hd
        refine .inr ⟨go, _, fun H' n => ⟨m - 1, by omega, n⟩, fun x H2 yy => ?_⟩
        obtain ⟨T2, gn2, r2⟩ := yl x H2 yy
        obtain ⟨hH2, hT2⟩ := gn2.keep hHc rfl hTL nt'
        have hdrop : xs.drop i = d :: xs.drop (i + 1) := by
          have e := List.getElem?_eq_some_iff.mp hd
          obtain ⟨e1, e2⟩ := e
          rw [List.drop_eq_getElem_cons e1, e2]
        rw [hdrop, dc_cons] at qg
        cases htg : tgD tg d (wipeD ρ own) with
        | none =>
          have e : dcF md cl own tg cs ek ev ρ d = bad := by unfold dcF; rw [htg]
          rw [e] at qg; exact qg.elim
        | some ρ2 =>
          have e : dcF md cl own tg cs ek ev ρ d = bnd (noexc (evC md cl cs ρ2)) fun b => if b then bnd (noexc (evE md cl ek ρ2)) fun d => bnd (noexc (evE md cl ev ρ2)) fun e => ret (some (d, e)) else ret none := by unfold dcF; rw [htg]
          rw [e] at qg
          obtain ⟨ds', hv, hset⟩ := tgD_v htg
          refine ⟨T2, t', d, ds', gn2.arr, r2, hv, fun vs rv => ⟨wipe_sets hsl, ?_⟩⟩
          have vr : VR g T2 (wipeD ρ own) (L2.wipe σ own) := ((a1.gone (gn.trans gn2)).vr).wipe own
          obtain ⟨vr2, vl2⟩ := VR.sets (by rw [wipeD_length, wipe_length]; exact a.len) vr hset rv
          have a2 : At g T2 H2 t' ρ2 (setsV (tgSlots tg) vs (L2.wipe σ own)) := ⟨gn2.in_, gn2.vok, gn2.sok, vr2, vl2⟩
          refine ⟨T2, ρ2, t', a2, ?_⟩
          rw [bnd_assoc] at qg
          cases ec : evC md cl cs ρ2 t' with
          | exc c t'' => unfold bnd noexc at qg; rw [ec] at qg; exact qg.elim
          | bad => unfold bnd noexc at qg; rw [ec] at qg; exact qg.elim
          | ok b t2 =>
            have qg2 : Good g W true T1 H1 σ (bnd (if b then bnd (noexc (evE md cl ek ρ2)) fun d => bnd (noexc (evE md cl ev ρ2)) fun e => ret (some (d, e)) else ret none) (fun o => match o with
              | none => dcRun (dcF md cl own tg cs ek ev ρ) (xs.drop (i + 1)) (kvs.map fun p => kD p.1) dv
              | some (d, e) => match keyK d with
                | some _ => dcRun (dcF md cl own tg cs ek ev ρ) (xs.drop (i + 1)) (putD (kvs.map fun p => kD p.1) dv d e).1 (putD (kvs.map fun p => kD p.1) dv d e).2
                | none => bad) t2) Q := by
              have qg' := qg
              unfold bnd noexc at qg'
              rw [ec] at qg'
              exact qg'
            intro T3 H3 gn3
            obtain ⟨hH3, hT3⟩ := gn3.keep hH2 rfl hT2 nt'
            cases b with
            | false =>
              rw [if_neg (by simp)]
              rw [if_neg (by simp), bnd_ret] at qg2
              exact ⟨by omega, T3, t2, kvs, dv, (gn.trans gn2).trans gn3, hH3, hT3, RepL.mono (gn2.sub.trans gn3.sub) _ _ rr, by omega, qg2⟩
            | true =>
              rw [if_pos rfl]
              rw [if_pos rfl, bnd_assoc] at qg2
              refine ⟨T3, ρ2, t2, a2.gone gn3, ?_⟩
              cases e2 : evE md cl ek ρ2 t2 with
              | exc c t'' => unfold bnd noexc at qg2; rw [e2] at qg2; exact qg2.elim
              | bad => unfold bnd noexc at qg2; rw [e2] at qg2; exact qg2.elim
              | ok d3 t3 =>
                have qg3 : Good g W true T1 H1 σ (bnd (bnd (noexc (evE md cl ev ρ2)) fun e => ret (some (d3, e))) (fun o => match o with
                  | none => dcRun (dcF md cl own tg cs ek ev ρ) (xs.drop (i + 1)) (kvs.map fun p => kD p.1) dv
                  | some (d, e) => match keyK d with
                    | some _ => dcRun (dcF md cl own tg cs ek ev ρ) (xs.drop (i + 1)) (putD (kvs.map fun p => kD p.1) dv d e).1 (putD (kvs.map fun p => kD p.1) dv d e).2
                    | none => bad) t3) Q := by
                  have qg' := qg2
                  unfold bnd noexc at qg'
                  rw [e2] at qg'
                  exact qg'
                intro v H4 ⟨T4, gn4, r4⟩
                have r4 : Rep g T4 d3 v := r4
                obtain ⟨hH4, hT4⟩ := gn4.keep hH3 rfl hT3 nt'
                refine ⟨T4, ρ2, t3, (a2.gone gn3).gone gn4, ?_⟩
                rw [bnd_assoc] at qg3
                cases e3 : evE md cl ev ρ2 t3 with
                | exc c t'' => unfold bnd noexc at qg3; rw [e3] at qg3; exact qg3.elim
                | bad => unfold bnd noexc at qg3; rw [e3] at qg3; exact qg3.elim
                | ok d4 t4 =>
                  have qg4 : Good g W true T1 H1 σ ((match keyK d3 with
                    | some _ => dcRun (dcF md cl own tg cs ek ev ρ) (xs.drop (i + 1)) (putD (kvs.map fun p => kD p.1) dv d3 d4).1 (putD (kvs.map fun p => kD p.1) dv d3 d4).2
                    | none => bad : M D) t4) Q := by
                    have qg' := qg3
                    unfold bnd noexc at qg'
                    rw [e3] at qg'
                    exact qg'
                  intro v2 H5 ⟨T5, gn5, r5⟩
                  have r5 : Rep g T5 d4 v2 := r5
                  obtain ⟨hH5, hT5⟩ := gn5.keep hH4 rfl hT4 nt'
                  have gg := (((gn.trans gn2).trans gn3).trans gn4).trans gn5
                  cases hk : keyK d3 with
                  | none => rw [hk] at qg4; exact qg4.elim
                  | some kk =>
                    rw [hk] at qg4
                    have ek3 := keyK_kD hk
                    have ev3 := keyK_rep hk r4
                    obtain ⟨p1, p2⟩ := put_K (k := kk) r5 (RepL.mono (((gn2.sub.trans gn3.sub).trans gn4.sub).trans gn5.sub) _ _ rr)
                    have hkl := putK_len (kvs := kvs) (k := kk) (v := v2)
                    refine ⟨kvs, kk, ev3, hH5, by rw [sz]; have : kvs.length < 1000000 := by omega
                                                  exact Nat.lt_of_lt_of_le this (by decide), by omega, T5, t4, putK kvs kk v2, (putD (kvs.map fun p => kD p.1) dv (kD kk) d4).2, gg.putO hL hT5 hH5 rfl nt, upd_same, hT5, p2, by omega, ?_⟩
                    have qg5 : Good g W true T1 H1 σ (dcRun (dcF md cl own tg cs ek ev ρ) (xs.drop (i + 1)) (putD (kvs.map fun p => kD p.1) dv d3 d4).1 (putD (kvs.map fun p => kD p.1) dv d3 d4).2 t4) Q := qg4
                    rw [ek3, p1] at qg5
                    exact qg5
      · have hi' : xs.length ≤ i := by omega
        refine .inl ⟨(hJ T' Hc t' i gn.sub gn.arr).2 (by omega), ?_⟩
        rw [List.drop_eq_nil_of_le hi'] at qg
        have qg : Good g W true T1 H1 σ (ret (D.dic false (kvs.map fun p => kD p.1) dv) t') Q := qg
        exact qg _ _ ⟨T', gn, L, rfl, hTL, NPl.none hL, nt, kvs.map (·.2), rr, .inl ⟨rfl, kvs, hHc, rfl, rfl⟩⟩
/-- a dict comprehension's parts -/
structure DCP (X : Cx) (g : Gs) (md : Md) (cl : Cl) (W : WX) (N : List Str) (own : List Nat) (tg : Tg) (k : Sk) (es cs : List E) (ek ev : E) (y u tx it : Expr) (ifs : List Expr) (scope : Scope) : Prop where
  hi : PI X tx it (tI g W k (evI md cl k es))
  ok : BlkOk X.N X.env.scope scope (ownOf N own)
  hg : ∀ (s : Shared) (H : Hp) (C : Addr) (cl : List (Str × Addr)) (fp : List Addr), PG (X.blk s H scope (compEnvC scope cl C X.env) fp) tx (tG g tg)
  ht : ∀ (s : Shared) (H : Hp) (C : Addr) (cl' : List (Str × Addr)) (fp : List Addr), PTs (X.blk s H scope (compEnvC scope cl' C X.env) fp) ifs (tCs g md cl cs)
  hk : ∀ (s : Shared) (H : Hp) (C : Addr) (cl' : List (Str × Addr)) (fp : List Addr), PE (X.blk s H scope (compEnvC scope cl' C X.env) fp) y (tE g Wn false (evE md cl ek))
  he : ∀ (s : Shared) (H : Hp) (C : Addr) (cl' : List (Str × Addr)) (fp : List Addr), PE (X.blk s H scope (compEnvC scope cl' C X.env) fp) u (tE g Wn false (evE md cl ev))
  hsl : ∀ i ∈ tgSlots tg, i ∈ own
  hs : ∀ x, foldedSetIterable it X.env x = pure x
theorem pe_dcE {own : List Nat} {tg : Tg} {k : Sk} {es cs : List E} {ek ev : E} {y u tx it : Expr} {ifs : List Expr} {scope : Scope} {pos : Pos} (c : XC X g md lv sc N st) (p : DCP X g md cl W N own tg k es cs ek ev y u tx it ifs scope) :
    PE X (.DictComp y u [⟨tx, it, ifs, 0⟩] scope pos) (tE g W true (evE md cl (.dc own tg k es cs ek ev))) := by
  have hown : (ownOf N own).map (·.2) = own := by unfold ownOf; rw [List.map_map]; exact List.map_id _
  refine PE.weak (pe_dc c.xg.calm c.nd p.hi p.ok p.hg p.ht p.hk p.he p.hs) fun σ H Q z => ?_
  rw [hown]
  exact dc_t p.hsl z
end
end EV

set_option Elab.async false
set_option linter.all false
set_option maxRecDepth 100000
set_option maxHeartbeats 4000000
/-! EvMa: new dicts, dict(pairs), d.get. -/
namespace EV
open PySem PySem.Spec PyProof.Rows L2
section
variable {g : Gs} {md : Md} {cl : Cl} {lv : Nat} {X : Cx} {sc : Scope} {N : List Str} {st : Str → Bool} {W : WX}
theorem Post.newD {T H : Hp} {t : Tape} {p : Addr} {d : D} {o : HO} (a : Ar g T H t) (hp : H p = none) (hc : isCell d = true) (c : Cell g T (upd H p o) d p) : Post g true T H t d (.ref p) (upd H p o) := by
  refine ⟨T, Gone.aside a.sub a.vok a.sok hp, ?_⟩
  unfold Stands
  rw [hc]
  refine ⟨p, rfl, a.sub.none hp, NPl.none hp, fun x c' e => ?_, c⟩
  obtain ⟨k1, k2, _⟩ := a.sok.tape x c' e
  exact ⟨(ne_of_none k1 hp).symm, (ne_of_none k2 hp).symm⟩
theorem se_dnw {tk : Bool} {pos : Pos} (xg : XG X g) : SE X g md cl W (.dnw tk) (.Dict [] [] pos) := by
  refine se_of xg ?_ rfl
  cases tk with
  | false =>
    refine PE.weak pe_dnewK fun σ H Q ⟨T, ρ, t, a, q⟩ p hp => ?_
    unfold evE at q
    exact q _ _ (Post.newD ⟨a.sub, a.vok, a.sok⟩ hp rfl ⟨[], rfl, .inl ⟨rfl, [], upd_same, rfl, rfl⟩⟩)
  | true =>
    refine PE.weak pe_dnewT fun σ H Q ⟨T, ρ, t, a, q⟩ p hp => ?_
    unfold evE at q
    exact q _ _ (Post.newD ⟨a.sub, a.vok, a.sok⟩ hp rfl ⟨[], rfl, .inr ⟨rfl, [], upd_same, rfl, rfl⟩⟩)
/-! ### dict(pairs) -/
theorem dcp_ok {T : Hp} : ∀ {xs : List D} {us : List V} {kvs0 : List (Key × V)} {dv0 : List D} {d : D}, RepL g T xs us → RepL g T dv0 (kvs0.map (·.2)) → dcpL xs (kvs0.map fun p => kD p.1) dv0 = some d →
    ∃ (ps : List Addr) (kvs : List (Key × V)) (dv : List D), us = ps.map V.ref ∧ Paired (fun p kv => T p = some (.tup [kV kv.1, kv.2])) ps kvs ∧ d = .dic false ((mergeK kvs0 kvs).map fun p => kD p.1) dv ∧ RepL g T dv ((mergeK kvs0 kvs).map (·.2))
  | [], us, kvs0, dv0, d, r, r0, h => by
    have e : us = [] := r
    subst e
    cases h
    exact ⟨[], [], dv0, rfl, .nil, rfl, r0⟩
  | x :: xs, us, kvs0, dv0, d, ⟨u, us', e, rx, rr⟩, r0, h => by
    subst e
    unfold dcpL at h
    split at h
    · rename_i heq; cases heq
    · rename_i d1 e1 xs' heq
      cases heq
      cases hk : keyK d1 with
      | none => simp only [hk] at h; cases h
      | some k =>
        simp only [hk] at h
        obtain ⟨p, vs, rfl, hT, v1, r1, e1', rv1, v2, r2, e2', rv2, e3⟩ := rx
        subst e1'; subst e2'
        have e3 : r2 = [] := e3
        subst e3
        have ek := keyK_kD hk
        have ev := keyK_rep hk rv1
        subst ek; subst ev
        obtain ⟨p1, p2⟩ := put_K (k := k) rv2 r0
        rw [p1] at h
        obtain ⟨ps, kvs, dv, q1, q2, q3, q4⟩ := dcp_ok rr p2 h
        exact ⟨p :: ps, (k, v2) :: kvs, dv, by rw [q1]; rfl, .cons hT q2, q3, q4⟩
    · cases h
theorem se_dcp {a : E} {l : Str} {z : Expr} {p pos : Pos} (c : XC X g md lv sc N st) (m : ModOk g md) (hl : l = "dict") (hm : l ∈ md.bl) (hg : gl sc l = true) (hz : okE z = true) (sa : SE X g md cl W a z) : SE X g md cl W (.dcp a) (.Call (.Name l p) [z] [] pos) := by
  refine se_of c.xg ?_ rfl
  have hmg : X.mg l = none := by rw [c.xg.mg]; exact m.bl l hm
  have hgl := gl_of c hg
  subst hl
  refine PE.weak (pe_callTy (call_dictP c.xg.calm) hgl hmg (by decide +kernel) (pa_cons (PE.of sa.pe) pa_nil (star_ok hz)) (by decide) (by decide) (star_ok hz) rfl) fun σ H Q ⟨T, ρ, t, a, q⟩ => ?_
  unfold evE at q
  refine tE_then a q fun d t1 v T1 H1 gn1 a1 r1 q1 => ?_
  obtain ⟨d2, e, q2⟩ := opt_some q1
  unfold dcpD at e
  split at e
  · rename_i xs
    split at e
    · rename_i hlen
      obtain ⟨b, us, rfl, hT, rr⟩ := r1
      obtain ⟨ps, kvs, dv, e1, e2, e3, e4⟩ := dcp_ok (kvs0 := []) (dv0 := []) rr rfl e
      subst e1
      refine ⟨b, ps, kvs, rfl, SqL.of (gn1.in_ _ _ hT), Paired.mapP e2 fun _ _ h => SqT.of (gn1.in_ _ _ h), fun p hp => q2 _ _ ?_⟩
      subst e3
      exact Post.newD gn1.arr hp rfl ⟨_, e4, .inl ⟨rfl, _, upd_same, rfl, rfl⟩⟩
    · cases e
  · cases e
/-! ### d.get -/
theorem m1_of {o e : Expr} {m : Str} {apos cpos : Pos} (h0 : notCall0 o = true) (hl : (apos.endLine == cpos.line) = true) (he : okE e = true) : M1 X o m apos e cpos := by
  have ok : ([e] : List Expr).all okE = true := by simp [he]
  refine ⟨mOk_base h0, few_ok ok (by simp), hl, ?_⟩
  rw [star_ok he]; rfl
theorem m2_of {o e f : Expr} {m : Str} {apos cpos : Pos} (h0 : notCall0 o = true) (hl : (apos.endLine == cpos.line) = true) (he : okE e = true) (hf : okE f = true) : M2 X o m apos e f cpos := by
  have ok : ([e, f] : List Expr).all okE = true := by simp [he, hf]
  refine ⟨mOk_base h0, few_ok ok (by simp), hl, ?_⟩
  rw [star_ok he, star_ok hf]; rfl
theorem dgetD_dic {d k : D} {o : Option D} (h : dgetD d k = some o) : ∃ tk ks vs, d = .dic tk ks vs := by
  cases d <;> first | (cases h; done) | exact ⟨_, _, _, rfl⟩
theorem isD_rep {T H : Hp} {tk : Bool} {ks vs : List D} {v : V} (s : Sub T H) (r : Rep g T (.dic tk ks vs) v) : ∃ p, v = .ref p ∧ IsD H p := by
  obtain ⟨p, us, rfl, _, h⟩ := r
  rcases h with ⟨_, kvs, hT, _⟩ | ⟨_, kvs, hT, _⟩
  · exact ⟨p, rfl, .inl ⟨kvs, .inl (s _ _ hT)⟩⟩
  · exact ⟨p, rfl, .inr ⟨kvs, .inl (s _ _ hT)⟩⟩
theorem get1_some {d k r : D} (h : get1D d k = some r) : ∃ o, dgetD d k = some o ∧ r = o.getD .non := by
  unfold get1D at h
  split at h <;> cases h
  · exact ⟨_, ‹_›, rfl⟩
  · exact ⟨_, ‹_›, rfl⟩
theorem get2_some {d k z r : D} (h : get2D d k z = some r) : ∃ o, dgetD d k = some o ∧ r = o.getD z := by
  unfold get2D at h
  split at h <;> cases h
  · exact ⟨_, ‹_›, rfl⟩
  · exact ⟨_, ‹_›, rfl⟩
theorem optRep_getD {T : Hp} {o : Option D} {r : Option V} {d : D} {v : V} (h : OptRep g T o r) (hd : Rep g T d v) : Rep g T (o.getD d) (r.getD v) := by
  cases o <;> cases r <;> first | exact hd | exact h | exact h.elim
theorem se_g1 {o k : E} {y z : Expr} {n : Str} {ap cp : Pos} (xg : XG X g) (hn : n = "get") (hl : (ap.endLine == cp.line) = true) (h0 : notCall0 y = true) (hz : okE z = true) (so : SE X g md cl W o y) (sk : SE X g md cl W k z) :
    SE X g md cl W (.g1 o k) (.Call (.Attribute y n ap) [z] [] cp) := by
  refine se_of xg ?_ rfl
  subst hn
  refine PE.weak (pe_dget1 (xg_u xg) (PE.of so.pe) (PE.of sk.pe) (m1_of h0 hl hz)) fun σ H Q ⟨T, ρ, t, a, q⟩ => ?_
  unfold evE at q
  refine tE_then a q fun d t1 v T1 H1 gn1 a1 r1 q1 => ?_
  cases d with
  | dic tk ks vs =>
    obtain ⟨p, rfl, hd⟩ := isD_rep gn1.in_ r1
    refine ⟨p, rfl, hd, ?_⟩
    rw [show dicB (.dic tk ks vs) = true from rfl, if_pos rfl] at q1
    refine tE_then a1 q1 fun x t2 u T2 H2 gn2 a2 r2 q2 => ?_
    obtain ⟨r, e, q3⟩ := opt_some q2
    obtain ⟨oo, e1, e2⟩ := get1_some e
    obtain ⟨p', rr, ep, hg, ho, _⟩ := dget_ok gn2.arr (r1.mono gn2.sub _ _) r2 e1
    cases ep
    subst e2
    exact ⟨rr, hg, q3 _ _ ⟨T2, Gone.refl gn2.arr.sub gn2.arr.vok gn2.arr.sok, (optRep_getD ho (show Rep g T2 .non .non from rfl))⟩⟩
  | _ => exact q1.elim
theorem se_g2 {o k w : E} {y z u : Expr} {n : Str} {ap cp : Pos} (xg : XG X g) (hn : n = "get") (hl : (ap.endLine == cp.line) = true) (h0 : notCall0 y = true) (hz : okE z = true) (hu : okE u = true) (so : SE X g md cl W o y) (sk : SE X g md cl W k z) (sw : SE X g md cl W w u) :
    SE X g md cl W (.g2 o k w) (.Call (.Attribute y n ap) [z, u] [] cp) := by
  refine se_of xg ?_ rfl
  subst hn
  refine PE.weak (pe_dget2 (xg_u xg) (PE.of so.pe) (PE.of sk.pe) (PE.of sw.pe) (m2_of h0 hl hz hu)) fun σ H Q ⟨T, ρ, t, a, q⟩ => ?_
  unfold evE at q
  refine tE_then a q fun d t1 v T1 H1 gn1 a1 r1 q1 => ?_
  cases d with
  | dic tk ks vs =>
    obtain ⟨p, rfl, hd⟩ := isD_rep gn1.in_ r1
    refine ⟨p, rfl, hd, ?_⟩
    rw [show dicB (.dic tk ks vs) = true from rfl, if_pos rfl] at q1
    refine tE_then a1 q1 fun x t2 u T2 H2 gn2 a2 r2 q2 => ?_
    refine tE_then a2 q2 fun y t3 u3 T3 H3 gn3 a3 r3 q3 => ?_
    obtain ⟨r, e, q4⟩ := opt_some q3
    obtain ⟨oo, e1, e2⟩ := get2_some e
    obtain ⟨p', rr, ep, hg, ho, _⟩ := dget_ok gn3.arr (r1.mono (gn2.sub.trans gn3.sub) _ _) (r2.mono gn3.sub _ _) e1
    cases ep
    subst e2
    exact ⟨rr, hg, q4 _ _ ⟨T3, Gone.refl gn3.arr.sub gn3.arr.vok gn3.arr.sok, optRep_getD ho r3⟩⟩
  | _ => exact q1.elim
end
end EV

set_option Elab.async false
set_option linter.all false
set_option maxRecDepth 100000
set_option maxHeartbeats 4000000
/-! EvM: all expressions. -/
namespace EV
open PySem PySem.Spec PyProof.Rows L2
section
variable {g : Gs} {md : Md} {cl : Cl} {lv : Nat} {N : List Str}
theorem XC.blk {X : Cx} {sc : Scope} {st : Str → Bool} (c : XC X g md lv sc N st) (s : Shared) (H : Hp) (scope : Scope) (C : Addr) (cl' : List (Str × Addr)) (fp : List Addr) :
    XC (X.blk s H scope (compEnvC scope cl' C X.env) fp) g md lv (relS scope sc) N (blkSt scope) where
  xg := ⟨c.xg.P, c.xg.w, c.xg.K, c.xg.mg, c.xg.base, c.xg.calm, c.xg.un⟩
  room := c.room
  sc := by show relS scope X.env.scope = _; rw [c.sc]
  N := c.N
  nd := c.nd
  st := fun x h _ => by
    have h : scope.names.lookup x = some .cell := by
      unfold blkSt at h
      simp only [Bool.and_eq_true, decide_eq_true_eq] at h
      exact h.1
    show (scope.names.lookup x == some .cell) = true
    rw [h]; rfl
  lam := fun h => by
    unfold blkSt at h
    simp at h
/-- .. of a lambda's body -/
theorem XC.lamb {X : Cx} {sc : Scope} {st : Str → Bool} {lv2 : Nat} (c : XC X g md lv sc N st) {A : Around} {outer : List Env} {s : Shared} {H : Hp} {E : XK} {scope : Scope} {f c' : Addr} (hr : Room lv2 (A.deeper (LamX.lamEnv X scope s.heap.objs.size f c'))) :
    XC (LamX.lamCx X A outer s H E scope f c') g md lv2 scope N (fun _ => false) where
  xg := ⟨c.xg.P, c.xg.w, c.xg.K, c.xg.mg, c.xg.base, rfl, by have := hr.un; show (A.deeper _).units + 200 < cLine; omega⟩
  room := hr
  sc := rfl
  N := c.N
  nd := c.nd
  st := fun x h => by cases h
  lam := fun h => by cases h
/-- was it refused -/
def TTref (K : PySem.W.Frag) (CS : Addr) : (XK → Hp → VK → Prop) → Hp → VK → Prop := fun tl H Q =>
  tl (fun cls _ H' => ∃ b, PySem.W.exmOne K cls (.ref CS) = some b ∧ (b = true → Q (.bl true) H') ∧ (b = false → False)) H (fun _ H' => Q (.bl false) H')
theorem ref_gives {X : Cx} {Ng : List Str} {x a e q : Str} {sg : Scope} {f0 CS : Addr} {cdg : Value} {j j2 : Nat} {p1 p2 p3 p4 p5 p6 p7 p8 p9 p10 : Pos} (hge : sg.names.lookup e = some .globalImplicit) (hme : X.mg e = some (.ref CS)) (hde : (e == ("__debug__" : Str)) = false) (h0 : ∀ f : Addr, (L2.start Ng [V.ref f])[0]? = some (some (V.ref f))) :
    LamX.GivesTo X Ng x sg f0 cdg [.Try [.Expr (.Call (.Name a p1) [] [] p2) p3] [.ExceptHandler (some (.Name e p4)) none [.Return (some (.Constant (.bool true) j p5)) p6] p7] [] [] p8, .Return (some (.Constant (.bool false) j2 p9)) p10] a q (TTref X.K CS) := by
  intro f c' s H Q tl act hc h
  have hgl : Gl (cxOf C8.CX0 X.prog X.w X.K X.mg X.base Ng x sg f0 cdg X.A X.stack s H C8.E0).nox e := hge
  refine ⟨_, pss_cons (ps_try_only (X := (cxOf C8.CX0 X.prog X.w X.K X.mg X.base Ng x sg f0 cdg X.A X.stack s H C8.E0).nox) (c := .ref CS)
      (tb := fun W D σ H => ∃ Ech : XK, (∀ cls d σ' H', Ech cls d H' → W cls d σ' H') ∧ σ[0]? = some (some (.ref f)) ∧ H c' = some (LamX.CodeO c' q) ∧ tl Ech H (fun _ H' => D.nx σ H'))
      rfl rfl ⟨hgl, hde, .inl hme⟩ takes0 (fun W pn xe tk _ => ?_) (fun a oe cls d pn _ _ => pss_one (ps_ret pe_bl))) (pss_one (ps_ret pe_bl)), ?_⟩
  · refine ⟨fun pins s' σ H' D I h' => ?_⟩
    obtain ⟨Ech, hW, h1, h2, h3⟩ := h'
    have hp := act W pn xe Ech p1 p2 tk hW
    have hq := pss_one (ps_expr (pos := p3) hp rfl)
    exact hq.run pins s' σ H' D I ⟨h1, h2, h3⟩
  · exact ⟨fun cls _ H' => ∃ b, PySem.W.exmOne X.K cls (.ref CS) = some b ∧ (b = true → Q (.bl true) H') ∧ (b = false → False), fun cls d σ' H' ⟨b, e1, e2, e3⟩ => ⟨b, e1, fun hb a _ => e2 hb, fun hb => e3 hb⟩, h0 f, hc, h⟩
abbrev WKe (E : XK) : WX := fun cls d _ H => E cls d H
theorem bindArgs_none {params : Arguments} (hp : (match params with
        | ⟨[], [], none, [], [], none, []⟩ => true
        | _ => false) = true) : params = ⟨[], [], none, [], [], none, []⟩ := by
  split at hp
  · rfl
  · cases hp
theorem se_rf {X : Cx} {sc scope : Scope} {st : Str → Bool} {W : WX} {a : E} {y : Str} {params : Arguments} {b : Expr} {p lpos pos : Pos} (c : XC X g md lv sc N st) (hy : y = md.rn) (hg : gl sc y = true) (hp : plainName y = true) (hst : st ("<lambda>" : Str) = true) (hl : LamX.lamSB sc scope = true)
    (hpar : params = ⟨[], [], none, [], [], none, []⟩)
    (Hb : ∀ lo k {X' : Cx} {W' : WX}, ClOk g md lo k → XC X' g md k scope N (fun _ => false) → Takes X' W' → SE X' g md lo W' a b) :
    SE X g md cl W (.rf a) (.Call (.Name y p) [.Lambda params b scope lpos] [] pos) := by
  refine se_of c.xg ?_ rfl
  cases hlo : md.lo with
  | none =>
    refine ⟨fun pins s σ H Q I ⟨T, ρ, t, at', q⟩ => ?_⟩
    unfold evE at q
    rw [hlo] at q
    exact q.elim
  | some lo =>
    obtain ⟨⟨f, CS, pg, sg, kV, doc, pm, cdv, ct, oc, an, od, osl, Ng, av, ev, j, j2, p1, p2, p3, p4, p5, p6, p7, p8, p9, p10, k1, k2, k3, k4, k5, k6, k7, k8, k9, k10, k11, k12, k13⟩, ⟨cc, P, tb1, tb2, tb3, tb4⟩, hlo'⟩ := c.lam hst
    obtain ⟨k, hr, F⟩ := hlo' lo hlo
    subst hy; subst hpar
    refine PE.weak (LamX.pe_lamcall (T := g.tb) (t := fun E => tE g (WKe E) false (evE md lo a)) (k := k) (gl_of c hg) (by rw [c.xg.mg]; exact k1) (by rw [c.xg.K]; exact k2) (by rw [c.xg.K]; exact k3) (by rw [c.xg.K]; exact k4) (by rw [c.xg.K]; exact k5) k6 k7 k8
      (ref_gives k10 (by rw [c.xg.mg]; exact k12) (plain_d k11).1 fun f => ?_) (by rw [c.xg.base, c.xg.mg]; exact tb1) tb2 tb3 tb4 hr (LamX.lamS_by (by rw [c.sc]; exact hl)) rfl (fun _ _ _ _ _ => rfl)
      (fun A outer s H E f c' hr' => PE.of (Hb lo k F (c.lamb hr') (takes_of rfl rfl rfl rfl)).pe) (plain_d hp).1 (plain_d k9).1 (plain_d k9).2.1) fun σ H Q ⟨T, ρ, t, at', q⟩ => ?_
    · rfl
    · unfold evE at q
      rw [hlo] at q
      refine ⟨at'.sok.tabs, fun H1 eN T1 => ?_⟩
      have nt : ∀ {o : HO}, EV.plain o = true → ∀ ps, o ≠ .tbl ps := fun {o} hp ps e => by rw [e] at hp; cases hp
      have ex : Ext g H H1 := fun b o e p _ => eN b o e (nt p)
      have gn : Gone g T H t T H1 := ⟨Sub.refl _, fun b o e => eN b o (at'.sub b o e) (nt (at'.vok.pl b o e)), at'.vok, fun b o e n => (by rw [e] at n; cases n), ex, ⟨fun x cx e => (by
        obtain ⟨h1, h2, h3⟩ := at'.sok.tape x cx e
        exact ⟨eN _ _ h1 (nt rfl), eN _ _ h2 (nt rfl), h3⟩), T1⟩⟩
      have q : Good g W false T H σ (rfR md.rx (evE md lo a ρ t)) Q := q
      refine ⟨T, ρ, t, at'.gone gn, ?_⟩
      unfold Good
      cases ee : evE md lo a ρ t with
      | bad => rw [ee] at q; exact q.elim
      | ok d t' =>
        rw [ee] at q
        exact fun v H' ⟨T2, gn2, _⟩ => q (.bl false) H' ⟨T2, gn.trans gn2, rfl⟩
      | exc cx t' =>
        rw [ee] at q
        have q : Good g W false T H σ (if memN cx md.rx then .ok (.bl true) t' else .bad) Q := q
        by_cases hm : memN cx md.rx = true
        · rw [if_pos hm] at q
          intro H' e2 s2
          refine ⟨true, by rw [c.xg.K]; exact k13 cx hm, fun _ => q (.bl true) H' ⟨T, ?_, rfl⟩, fun h => by cases h⟩
          exact ⟨Sub.refl _, Ext.sub at'.vok at'.sub (ex.trans e2), at'.vok, fun b o e n => (by rw [e] at n; cases n), ex.trans e2, s2⟩
        · rw [if_neg hm] at q; exact q.elim
theorem lcp_of (m : ModOk g md) (own : List Nat) (tg : Tg) (k : Sk) (es cs : List E) (elt : E) {X : Cx} {sc : Scope} {st : Str → Bool} {W : WX} {y t it : Expr} {ifs : List Expr} {scope : Scope} {pos : Pos} (c : XC X g md lv sc N st)
    (Hes : ∀ {xs : List Expr}, chkL md N es sc st xs = true → SL X g md cl W es xs)
    (Hcs : ∀ {X' : Cx} {sc' : Scope} {st' : Str → Bool} {xs : List Expr}, XC X' g md lv sc' N st' → chkL md N cs sc' st' xs = true → SL X' g md cl Wn cs xs)
    (Helt : ∀ {X' : Cx} {sc' : Scope} {st' : Str → Bool} {x : Expr}, XC X' g md lv sc' N st' → chkE md N elt sc' st' x = true → SE X' g md cl Wn elt x)
    (h : chkE md N (.lc own tg k es cs elt) sc st (.ListComp y [⟨t, it, ifs, 0⟩] scope pos) = true) : LCP X g md cl W N own tg k es cs elt y t it ifs scope := by
      unfold chkE at h
      simp only [Bool.and_eq_true, List.all_eq_true, decide_eq_true_eq] at h
      obtain ⟨⟨⟨⟨⟨⟨⟨h1, h2⟩, h3⟩, h4⟩, h5⟩, h6⟩, h7⟩, h8⟩ := h
      have hi : PI X t it (tI g W k (evI md cl k es)) := by
        split at h6
        · have s := Hes h6
          cases s with
          | cons h s r => cases r; exact si_val s
        · simp only [Bool.and_eq_true, decide_eq_true_eq] at h6
          obtain ⟨⟨⟨⟨k1, k2⟩, k3⟩, k4⟩, k5⟩ := h6
          subst k1
          exact si_range c m k2 k3 k4 (Hes k5)
        · simp only [Bool.and_eq_true, decide_eq_true_eq] at h6
          obtain ⟨⟨⟨⟨k1, k2⟩, k3⟩, k4⟩, k5⟩ := h6
          subst k1
          cases t <;> first | exact si_enum c m k2 k3 (Hes k5) | cases k4
        · simp only [Bool.and_eq_true, decide_eq_true_eq] at h6
          obtain ⟨⟨⟨⟨k1, k2⟩, k3⟩, k4⟩, k5⟩ := h6
          subst k1
          cases t <;> first | exact si_zip c m k2 k3 (Hes k5) | cases k4
        · simp only [Bool.and_eq_true, decide_eq_true_eq] at h6
          obtain ⟨⟨⟨k1, k2⟩, k3⟩, k5⟩ := h6
          subst k1
          exact si_rev c m k2 k3 (Hes k5)
        · cases h6
      refine ⟨hi, blkOk_by (by rw [c.N, c.sc]; exact h3), fun s H C cl' fp => sg_ok (c.blk s H scope C cl' fp) h4, fun s H C cl' fp => ?_, fun s H C cl' fp => PE.of (Helt (c.blk s H scope C cl' fp) h8).pe, h5, fold_ok h2⟩
      split at h7
      · have e : cs = [] := List.isEmpty_iff.mp h7
        subst e
        refine ⟨fun pins s σ H Q I ⟨T, ρ, t, a, q⟩ => pts_nil.run pins s σ H Q I ?_⟩
        unfold evC at q
        exact q T H a.refl
      · simp only [Bool.and_eq_true, decide_eq_true_eq] at h7
        have sl := Hcs (c.blk s H scope C cl' fp) h7.2
        cases sl with
        | cons h sx r =>
          cases r
          refine ⟨fun pins s σ H Q I ⟨T, ρ, t, a, q⟩ => (pts_one sx.pt).run pins s σ H Q I ⟨T, ρ, t, a, ?_⟩⟩
          unfold evC at q
          exact q
      · cases h7
end
section
variable {g : Gs} {md : Md} {N : List Str}
theorem dcp_of (m : ModOk g md) (own : List Nat) (tg : Tg) (k : Sk) (es cs : List E) (ek ev : E) {X : Cx} {sc : Scope} {st : Str → Bool} {W : WX} {y u t it : Expr} {ifs : List Expr} {scope : Scope} {pos : Pos} (c : XC X g md lv sc N st)
    (Hes : ∀ {xs : List Expr}, chkL md N es sc st xs = true → SL X g md cl W es xs)
    (Hcs : ∀ {X' : Cx} {sc' : Scope} {st' : Str → Bool} {xs : List Expr}, XC X' g md lv sc' N st' → chkL md N cs sc' st' xs = true → SL X' g md cl Wn cs xs)
    (Hk : ∀ {X' : Cx} {sc' : Scope} {st' : Str → Bool} {x : Expr}, XC X' g md lv sc' N st' → chkE md N ek sc' st' x = true → SE X' g md cl Wn ek x)
    (Helt : ∀ {X' : Cx} {sc' : Scope} {st' : Str → Bool} {x : Expr}, XC X' g md lv sc' N st' → chkE md N ev sc' st' x = true → SE X' g md cl Wn ev x)
    (h : chkE md N (.dc own tg k es cs ek ev) sc st (.DictComp y u [⟨t, it, ifs, 0⟩] scope pos) = true) : DCP X g md cl W N own tg k es cs ek ev y u t it ifs scope := by
      unfold chkE at h
      simp only [Bool.and_eq_true, List.all_eq_true, decide_eq_true_eq] at h
      obtain ⟨⟨⟨⟨⟨⟨⟨⟨⟨h1, h1'⟩, h2⟩, h3⟩, h4⟩, h5⟩, h6⟩, h7⟩, h8⟩, h9⟩ := h
      have hi : PI X t it (tI g W k (evI md cl k es)) := by
        split at h6
        · have s := Hes h6
          cases s with
          | cons h s r => cases r; exact si_val s
        · simp only [Bool.and_eq_true, decide_eq_true_eq] at h6
          obtain ⟨⟨⟨⟨k1, k2⟩, k3⟩, k4⟩, k5⟩ := h6
          subst k1
          exact si_range c m k2 k3 k4 (Hes k5)
        · simp only [Bool.and_eq_true, decide_eq_true_eq] at h6
          obtain ⟨⟨⟨⟨k1, k2⟩, k3⟩, k4⟩, k5⟩ := h6
          subst k1
          cases t <;> first | exact si_enum c m k2 k3 (Hes k5) | cases k4
        · simp only [Bool.and_eq_true, decide_eq_true_eq] at h6
          obtain ⟨⟨⟨⟨k1, k2⟩, k3⟩, k4⟩, k5⟩ := h6
          subst k1
          cases t <;> first | exact si_zip c m k2 k3 (Hes k5) | cases k4
        · simp only [Bool.and_eq_true, decide_eq_true_eq] at h6
          obtain ⟨⟨⟨k1, k2⟩, k3⟩, k5⟩ := h6
          subst k1
          exact si_rev c m k2 k3 (Hes k5)
        · cases h6
      refine ⟨hi, blkOk_by (by rw [c.N, c.sc]; exact h3), fun s H C cl' fp => sg_ok (c.blk s H scope C cl' fp) h4, fun s H C cl' fp => ?_, fun s H C cl' fp => PE.of (Hk (c.blk s H scope C cl' fp) h8).pe, fun s H C cl' fp => PE.of (Helt (c.blk s H scope C cl' fp) h9).pe, h5, fold_ok h2⟩
      split at h7
      · have e : cs = [] := List.isEmpty_iff.mp h7
        subst e
        refine ⟨fun pins s σ H Q I ⟨T, ρ, t, a, q⟩ => pts_nil.run pins s σ H Q I ?_⟩
        unfold evC at q
        exact q T H a.refl
      · simp only [Bool.and_eq_true, decide_eq_true_eq] at h7
        have sl := Hcs (c.blk s H scope C cl' fp) h7.2
        cases sl with
        | cons h sx r =>
          cases r
          refine ⟨fun pins s σ H Q I ⟨T, ρ, t, a, q⟩ => (pts_one sx.pt).run pins s σ H Q I ⟨T, ρ, t, a, ?_⟩⟩
          unfold evC at q
          exact q
      · cases h7
end
section
variable {g : Gs} {md : Md} {N : List Str}
mutual
theorem se_al (m : ModOk g md) : ∀ (e : E) {cl : Cl} {lv : Nat} (F : ClOk g md cl lv) {X : Cx} {sc : Scope} {st : Str → Bool} {W : WX} {x : Expr}, XC X g md lv sc N st → Takes X W → chkE md N e sc st x = true → SE X g md cl W e x
  | .var i, cl, lv, F, X, sc, st, W, x, c, tk, h => by
    unfold chkE at h
    split at h
    · simp only [Bool.and_eq_true, decide_eq_true_eq] at h
      exact se_var c h.1.1 h.1.2 h.2
    · cases h
  | .cst d, cl, lv, F, X, sc, st, W, x, c, tk, h => by
    unfold chkE at h
    split at h
    · exact se_cst c h
    · cases h
  | .glo i, cl, lv, F, X, sc, st, W, x, c, tk, h => by
    unfold chkE at h
    split at h
    · simp only [Bool.and_eq_true] at h
      obtain ⟨⟨h1, h2⟩, h3⟩ := h
      split at h1
      · rename_i z d e
        have hz : z = _ := of_decide_eq_true h1
        subst hz
        exact se_glo c m e h2 h3
      · cases h1
    · cases h
  | .o1 o a, cl, lv, F, X, sc, st, W, x, c, tk, h => by
    unfold chkE at h
    split at h
    · rename_i y e
      simp only [Bool.and_eq_true] at h
      exact se_o1 c.xg e (se_al m a F c tk h.2)
    · cases h
  | .o2 o a b, cl, lv, F, X, sc, st, W, x, c, tk, h => by
    unfold chkE at h
    split at h
    · rename_i y z e
      simp only [Bool.and_eq_true] at h
      obtain ⟨⟨⟨h1, h2⟩, h3⟩, h4⟩ := h
      exact se_o2 c.xg e h2 (se_al m a F c tk h3) (se_al m b F c tk h4)
    · cases h
  | .ch o p a b d, cl, lv, F, X, sc, st, W, x, c, tk, h => by
    unfold chkE at h
    split at h
    · simp only [Bool.and_eq_true, decide_eq_true_eq] at h
      obtain ⟨⟨⟨⟨⟨⟨⟨h1, h2⟩, h3⟩, h4⟩, h5⟩, h6⟩, h7⟩, h8⟩ := h
      exact se_ch c.xg h1 h2 h5 (se_al m a F c tk h6) (se_al m b F c tk h7) (se_al m d F c tk h8)
    · cases h
  | .and a b, cl, lv, F, X, sc, st, W, x, c, tk, h => by
    unfold chkE at h
    split at h
    · rename_i y z r pos
      simp only [Bool.and_eq_true] at h
      obtain ⟨⟨⟨h1, h2⟩, h3⟩, h4⟩ := h
      refine se_and c.xg (se_al m a F c tk h3) ?_
      cases r with
      | nil => exact .inl ⟨rfl, se_al m b F c tk h4⟩
      | cons r rs => exact .inr ⟨by simp, se_al m b F c tk h4⟩
    · cases h
  | .or a b, cl, lv, F, X, sc, st, W, x, c, tk, h => by
    unfold chkE at h
    split at h
    · rename_i y z r pos
      simp only [Bool.and_eq_true] at h
      obtain ⟨⟨⟨h1, h2⟩, h3⟩, h4⟩ := h
      refine se_or c.xg (se_al m a F c tk h3) ?_
      cases r with
      | nil => exact .inl ⟨rfl, se_al m b F c tk h4⟩
      | cons r rs => exact .inr ⟨by simp, se_al m b F c tk h4⟩
    · cases h
  | .not a, cl, lv, F, X, sc, st, W, x, c, tk, h => by
    unfold chkE at h
    split at h
    · simp only [Bool.and_eq_true] at h
      exact se_not c.xg (se_al m a F c tk h.2)
    · cases h
  | .ife d a b, cl, lv, F, X, sc, st, W, x, c, tk, h => by
    unfold chkE at h
    split at h
    · simp only [Bool.and_eq_true] at h
      obtain ⟨⟨⟨⟨⟨h1, h2⟩, h3⟩, h4⟩, h5⟩, h6⟩ := h
      exact se_ife c.xg (se_al m d F c tk h4) (se_al m a F c tk h5) (se_al m b F c tk h6)
    · cases h
  | .tup es, cl, lv, F, X, sc, st, W, x, c, tk, h => by
    unfold chkE at h
    split at h
    · exact se_tup c.xg (sl_al m es F c tk h)
    · cases h
  | .lst es, cl, lv, F, X, sc, st, W, x, c, tk, h => by
    unfold chkE at h
    split at h
    · exact se_lst c.xg (sl_al m es F c tk h)
    · cases h
  | .sl a lo hi, cl, lv, F, X, sc, st, W, x, c, tk, h => by
    unfold chkE at h
    split at h
    · rename_i y l hh p2 pos
      simp only [Bool.and_eq_true] at h
      obtain ⟨⟨⟨h1, h2⟩, h3⟩, h4⟩ := h
      refine se_sl c.xg (se_al m a F c tk h2) ?_ ?_
      · cases l with
        | none => exact .inl ⟨List.isEmpty_iff.mp h3, rfl⟩
        | some l =>
          simp only [Bool.and_eq_true, decide_eq_true_eq] at h3
          have s := sl_al m lo F c tk h3.2
          cases s with
          | cons h s r => cases r; exact .inr ⟨_, _, rfl, rfl, s⟩
      · cases hh with
        | none => exact .inl ⟨List.isEmpty_iff.mp h4, rfl⟩
        | some l =>
          simp only [Bool.and_eq_true, decide_eq_true_eq] at h4
          have s := sl_al m hi F c tk h4.2
          cases s with
          | cons h s r => cases r; exact .inr ⟨_, _, rfl, rfl, s⟩
    · cases h
  | .call f es, cl, lv, F, X, sc, st, W, x, c, tk, h => by
    unfold chkE at h
    split at h
    · simp only [Bool.and_eq_true, decide_eq_true_eq] at h
      obtain ⟨⟨⟨h1, h2⟩, h3⟩, h4⟩ := h
      exact se_call c tk F h1 h2 h3 (sl_al m es F c tk h4)
    · cases h
  | .bi b es, cl, lv, F, X, sc, st, W, x, c, tk, h => by
    unfold chkE at h
    split at h
    · simp only [Bool.and_eq_true, decide_eq_true_eq] at h
      obtain ⟨⟨⟨h1, h2⟩, h3⟩, h4⟩ := h
      exact se_bi c m h1 h2 h3 (sl_al m es F c tk h4)
    · cases h
  | .me k o es, cl, lv, F, X, sc, st, W, x, c, tk, h => by
    unfold chkE at h
    split at h
    · simp only [Bool.and_eq_true, decide_eq_true_eq] at h
      obtain ⟨⟨⟨⟨⟨⟨h1, h2⟩, h3⟩, h4⟩, h5⟩, h6⟩, h7⟩ := h
      exact se_me c.xg h1 h2 h3 h5 (se_al m o F c tk h6) (sl_al m es F c tk h7)
    · cases h
  | .rf a, cl, lv, F, X, sc, st, W, x, c, tk, h => by
    unfold chkE at h
    split at h
    · simp only [Bool.and_eq_true, decide_eq_true_eq] at h
      obtain ⟨⟨⟨⟨⟨⟨⟨h1, h2⟩, h3⟩, h4⟩, h5⟩, h6⟩, h7⟩, h8⟩ := h
      exact se_rf c h1 h2 h3 h4 h5 (bindArgs_none h6) fun lo k X' W' F' c' tk' => se_al m a F' c' tk' h8
    · cases h
  | .tf i k, cl, lv, F, X, sc, st, W, x, c, tk, h => by
    unfold chkE at h
    split at h
    · simp only [Bool.and_eq_true, decide_eq_true_eq] at h
      obtain ⟨⟨⟨⟨h1, h2⟩, h3⟩, h4⟩, h5⟩ := h
      subst h4
      exact se_tf c h1 h2 h3 h5
    · cases h
  | .tln i, cl, lv, F, X, sc, st, W, x, c, tk, h => by
    unfold chkE at h
    split at h
    · simp only [Bool.and_eq_true, decide_eq_true_eq] at h
      obtain ⟨⟨⟨⟨⟨⟨h1, h2⟩, h3⟩, h4⟩, h5⟩, h6⟩, h7⟩ := h
      subst h4; subst h5
      exact se_tln c m h1 h2 h3 h6 h7
    · cases h
  | .tci i a, cl, lv, F, X, sc, st, W, x, c, tk, h => by
    unfold chkE at h
    split at h
    · simp only [Bool.and_eq_true, decide_eq_true_eq] at h
      obtain ⟨⟨⟨⟨⟨h1, h2⟩, h3⟩, h4⟩, h5⟩, h6⟩ := h
      subst h4
      exact se_tci c h1 h2 h3 h5 (se_al m a F c tk h6)
    · cases h
  | .lc own tg k es cs elt, cl, lv, F, X, sc, st, W, x, c, tk, h => by
    have h0 := h
    unfold chkE at h
    split at h
    · have p := lcp_of m own tg k es cs elt c (fun h => sl_al m es F c tk h) (fun c' h => sl_al m cs F c' takes0 h) (fun c' h => se_al m elt F c' takes0 h) h0
      refine ⟨pe_lcE c p, tT_val c.xg (pe_lcE c p) rfl, fun _ _ _ e => nomatch e⟩
    · cases h
  | .c3 o p q a b d e, cl, lv, F, X, sc, st, W, x, c, tk, h => by
    unfold chkE at h
    split at h
    · simp only [Bool.and_eq_true, decide_eq_true_eq] at h
      obtain ⟨⟨⟨⟨⟨⟨⟨⟨⟨⟨h1, h2⟩, h3⟩, h4⟩, h5⟩, h6⟩, h7⟩, h8⟩, h9⟩, h10⟩, h11⟩ := h
      exact se_c3 c.xg h1 h2 h3 h7 (se_al m a F c tk h8) (se_al m b F c tk h9) (se_al m d F c tk h10) (se_al m e F c tk h11)
    · cases h
  | .lrg es, cl, lv, F, X, sc, st, W, x, c, tk, h => by
    unfold chkE at h
    split at h
    · simp only [Bool.and_eq_true, decide_eq_true_eq] at h
      obtain ⟨⟨⟨⟨⟨⟨⟨h1, h2⟩, h3⟩, h4⟩, h5⟩, h6⟩, h7⟩, h8⟩ := h
      subst h1; subst h4
      exact se_lrg c m h2 h3 h5 h6 h7 (sl_al m es F c tk h8)
    · cases h
  | .dc own tg k es cs ek ev, cl, lv, F, X, sc, st, W, x, c, tk, h => by
    have h0 := h
    unfold chkE at h
    split at h
    · have p := dcp_of m own tg k es cs ek ev c (fun h => sl_al m es F c tk h) (fun c' h => sl_al m cs F c' takes0 h) (fun c' h => se_al m ek F c' takes0 h) (fun c' h => se_al m ev F c' takes0 h) h0
      refine ⟨pe_dcE c p, tT_val c.xg (pe_dcE c p) rfl, fun _ _ _ e => nomatch e⟩
    · cases h
  | .dnw tk, cl, lv, F, X, sc, st, W, x, c, _, h => by
    unfold chkE at h
    split at h
    · exact se_dnw c.xg
    · cases h
  | .dcp a, cl, lv, F, X, sc, st, W, x, c, tk, h => by
    unfold chkE at h
    split at h
    · simp only [Bool.and_eq_true, decide_eq_true_eq] at h
      obtain ⟨⟨⟨⟨h1, h2⟩, h3⟩, h4⟩, h5⟩ := h
      exact se_dcp c m h1 h2 h3 h4 (se_al m a F c tk h5)
    · cases h
  | .g1 o k, cl, lv, F, X, sc, st, W, x, c, tk, h => by
    unfold chkE at h
    split at h
    · simp only [Bool.and_eq_true, decide_eq_true_eq] at h
      obtain ⟨⟨⟨⟨⟨⟨h1, h2⟩, h3⟩, h4⟩, h5⟩, h6⟩, h7⟩ := h
      exact se_g1 c.xg h1 h2 h4 h5 (se_al m o F c tk h6) (se_al m k F c tk h7)
    · cases h
  | .g2 o k w, cl, lv, F, X, sc, st, W, x, c, tk, h => by
    unfold chkE at h
    split at h
    · simp only [Bool.and_eq_true, decide_eq_true_eq] at h
      obtain ⟨⟨⟨⟨⟨⟨⟨⟨h1, h2⟩, h3⟩, h4⟩, h5⟩, h6⟩, h7⟩, h8⟩, h9⟩ := h
      exact se_g2 c.xg h1 h2 h4 h5 h6 (se_al m o F c tk h7) (se_al m k F c tk h8) (se_al m w F c tk h9)
    · cases h
theorem sl_al (m : ModOk g md) : ∀ (es : List E) {cl : Cl} {lv : Nat} (F : ClOk g md cl lv) {X : Cx} {sc : Scope} {st : Str → Bool} {W : WX} {xs : List Expr}, XC X g md lv sc N st → Takes X W → chkL md N es sc st xs = true → SL X g md cl W es xs
  | [], cl, lv, F, X, sc, st, W, xs, c, tk, h => by
    unfold chkL at h
    have e : xs = [] := List.isEmpty_iff.mp h
    subst e
    exact .nil
  | e :: es, cl, lv, F, X, sc, st, W, xs, c, tk, h => by
    unfold chkL at h
    cases xs with
    | nil => cases h
    | cons x xs =>
      simp only [Bool.and_eq_true] at h
      obtain ⟨⟨h1, h2⟩, h3⟩ := h
      exact .cons h1 (se_al m e F c tk h2) (sl_al m es F c tk h3)
end
end
section
variable {g : Gs} {md : Md} {cl : Cl} {lv : Nat} {N : List Str}
theorem se_all (m : ModOk g md) (F : ClOk g md cl lv) (e : E) {X : Cx} {sc : Scope} {st : Str → Bool} {W : WX} {x : Expr} (c : XC X g md lv sc N st) (tk : Takes X W) (h : chkE md N e sc st x = true) : SE X g md cl W e x := se_al m e F c tk h
theorem sl_all (m : ModOk g md) (F : ClOk g md cl lv) (es : List E) {X : Cx} {sc : Scope} {st : Str → Bool} {W : WX} {xs : List Expr} (c : XC X g md lv sc N st) (tk : Takes X W) (h : chkL md N es sc st xs = true) : SL X g md cl W es xs := sl_al m es F c tk h
theorem lcp_all (m : ModOk g md) (F : ClOk g md cl lv) (own : List Nat) (tg : Tg) (k : Sk) (es cs : List E) (elt : E) {X : Cx} {sc : Scope} {st : Str → Bool} {W : WX} {y t it : Expr} {ifs : List Expr} {scope : Scope} {pos : Pos} (c : XC X g md lv sc N st) (tk : Takes X W)
    (h : chkE md N (.lc own tg k es cs elt) sc st (.ListComp y [⟨t, it, ifs, 0⟩] scope pos) = true) : LCP X g md cl W N own tg k es cs elt y t it ifs scope :=
  lcp_of m own tg k es cs elt c (fun h => sl_all m F es c tk h) (fun c' h => sl_all m F cs c' takes0 h) (fun c' h => se_all m F elt c' takes0 h) h
end
end EV

set_option Elab.async false
set_option linter.all false
set_option maxRecDepth 100000
set_option maxHeartbeats 4000000
/-! EvN: a frame's slots: what is shared, what is owned; an expression in a frame. -/
namespace EV
open PySem PySem.Spec PyProof.Rows L2
abbrev Rho := List (Option (D × Bool))
/-- a cell that its slot alone holds -/
structure Ow (g : Gs) (H0 T H : Hp) (d : D) (a : Addr) : Prop where
  out : T a = none
  npl : NPl g H0 a
  nt : ∀ x c, g.tp = some (x, c) → a ≠ x ∧ a ≠ c
  cell : Cell g T H d a
structure FR (g : Gs) (T0 H0 T H : Hp) (t : Tape) (ρ : Rho) (σ : L2.St) : Prop where
  gn : Gone g T0 H0 t T H
  sh : ∀ i d, nth ρ i = some (some (d, false)) → ∃ v, σ[i]? = some (some v) ∧ Rep g T d v
  ow : ∀ i d, nth ρ i = some (some (d, true)) → ∃ a, σ[i]? = some (some (.ref a)) ∧ Ow g H0 T H d a
  ds : ∀ i j d e a, i ≠ j → nth ρ i = some (some (d, true)) → nth ρ j = some (some (e, true)) → σ[i]? = some (some (.ref a)) → σ[j]? ≠ some (some (.ref a))
  len : ρ.length = σ.length
def inM (i : Nat) : List Nat → Bool
  | [] => false
  | j :: m => Nat.beq i j || inM i m
theorem inM_iff {i : Nat} : ∀ {m : List Nat}, inM i m = true ↔ i ∈ m
  | [] => by simp [inM]
  | j :: m => by simp [inM, inM_iff (m := m)]
def vw1 (i : Nat) (m : List Nat) : Option (D × Bool) → Option D
  | some (d, false) => some d
  | some (d, true) => if inM i m then some d else none
  | none => none
def vwA (m : List Nat) : Nat → Rho → List (Option D)
  | _, [] => []
  | i, o :: r => vw1 i m o :: vwA m (i + 1) r
def vw (m : List Nat) (ρ : Rho) : List (Option D) := vwA m 0 ρ
def fz1 (i : Nat) (m : List Nat) : Option (D × Bool) → Option (D × Bool)
  | some (d, true) => if inM i m then some (d, false) else some (d, true)
  | o => o
def fzA (m : List Nat) : Nat → Rho → Rho
  | _, [] => []
  | i, o :: r => fz1 i m o :: fzA m (i + 1) r
def frz (m : List Nat) (ρ : Rho) : Rho := fzA m 0 ρ
theorem vwA_nth (m : List Nat) : ∀ (ρ : Rho) (k i : Nat), nth (vwA m k ρ) i = (nth ρ i).map (vw1 (k + i) m)
  | [], k, i => by simp [vwA, nth]
  | o :: r, k, 0 => by simp [vwA, nth]
  | o :: r, k, i + 1 => by
    simp only [vwA, nth]
    rw [vwA_nth m r (k + 1) i]
    congr 2
    omega
theorem fzA_nth (m : List Nat) : ∀ (ρ : Rho) (k i : Nat), nth (fzA m k ρ) i = (nth ρ i).map (fz1 (k + i) m)
  | [], k, i => by simp [fzA, nth]
  | o :: r, k, 0 => by simp [fzA, nth]
  | o :: r, k, i + 1 => by
    simp only [fzA, nth]
    rw [fzA_nth m r (k + 1) i]
    congr 2
    omega
theorem vwA_len (m : List Nat) : ∀ (ρ : Rho) (k : Nat), (vwA m k ρ).length = ρ.length
  | [], _ => rfl
  | o :: r, k => by simp [vwA, vwA_len m r]
theorem fzA_len (m : List Nat) : ∀ (ρ : Rho) (k : Nat), (fzA m k ρ).length = ρ.length
  | [], _ => rfl
  | o :: r, k => by simp [fzA, fzA_len m r]
theorem vw_some {m : List Nat} {ρ : Rho} {i : Nat} {d : D} (h : nth (vw m ρ) i = some (some d)) : nth ρ i = some (some (d, false)) ∨ (nth ρ i = some (some (d, true)) ∧ i ∈ m) := by
  unfold vw at h
  rw [vwA_nth, Nat.zero_add] at h
  cases e : nth ρ i with
  | none => rw [e] at h; cases h
  | some o =>
    rw [e] at h
    have h : vw1 i m o = some d := Option.some.inj h
    rcases o with _ | ⟨x, b⟩
    · cases h
    · cases b with
      | false => cases h; exact .inl rfl
      | true =>
        unfold vw1 at h
        dsimp only at h
        split at h
        · rename_i hm; cases h; exact .inr ⟨rfl, inM_iff.mp hm⟩
        · cases h
theorem frz_some {m : List Nat} {ρ : Rho} {i : Nat} {d : D} {b : Bool} (h : nth (frz m ρ) i = some (some (d, b))) : (b = false ∧ nth ρ i = some (some (d, false))) ∨ (b = true ∧ nth ρ i = some (some (d, true)) ∧ i ∉ m) ∨ (b = false ∧ nth ρ i = some (some (d, true)) ∧ i ∈ m) := by
  unfold frz at h
  rw [fzA_nth, Nat.zero_add] at h
  cases e : nth ρ i with
  | none => rw [e] at h; cases h
  | some o =>
    rw [e] at h
    have h : fz1 i m o = some (d, b) := Option.some.inj h
    rcases o with _ | ⟨x, c⟩
    · cases h
    · cases c with
      | false => cases h; exact .inl ⟨rfl, rfl⟩
      | true =>
        unfold fz1 at h
        dsimp only at h
        split at h
        · rename_i hm; cases h; exact .inr (.inr ⟨rfl, rfl, inM_iff.mp hm⟩)
        · rename_i hm; cases h; exact .inr (.inl ⟨rfl, rfl, fun k => hm (inM_iff.mpr k)⟩)
section
variable {g : Gs} {T0 H0 T H : Hp} {t : Tape} {ρ : Rho} {σ : L2.St} {m : List Nat}
def Mk (m : List Nat) (ρ : Rho) (σ : L2.St) (b : Addr) : Prop := ∃ i d, i ∈ m ∧ nth ρ i = some (some (d, true)) ∧ σ[i]? = some (some (.ref b))
open Classical in
noncomputable def Tp (m : List Nat) (ρ : Rho) (σ : L2.St) (T H : Hp) : Hp := fun b => if Mk m ρ σ b then H b else T b
open Classical in
noncomputable def Tm (m : List Nat) (ρ : Rho) (σ : L2.St) (T : Hp) : Hp := fun b => if Mk m ρ σ b then none else T b
theorem Tp_in {b : Addr} (h : Mk m ρ σ b) : Tp m ρ σ T H b = H b := if_pos h
theorem Tp_out {b : Addr} (h : ¬ Mk m ρ σ b) : Tp m ρ σ T H b = T b := if_neg h
theorem Tm_in {b : Addr} (h : Mk m ρ σ b) : Tm m ρ σ T b = none := if_pos h
theorem Tm_out {b : Addr} (h : ¬ Mk m ρ σ b) : Tm m ρ σ T b = T b := if_neg h
theorem FR.mk_ow (f : FR g T0 H0 T H t ρ σ) {b : Addr} (h : Mk m ρ σ b) : ∃ d, Ow g H0 T H d b := by
  obtain ⟨i, d, _, e, s⟩ := h
  obtain ⟨a, s2, o⟩ := f.ow i d e
  rw [s] at s2
  cases s2
  exact ⟨d, o⟩
theorem cell_plain {d : D} {a : Addr} (c : Cell g T H d a) : ∃ o, H a = some o ∧ EV.plain o = true ∧ ((∃ xs, o = .lst xs) ∨ (∃ k, o = .dK k) ∨ ∃ k, o = .dT k) := by
  obtain ⟨o, h, k⟩ := c.some
  refine ⟨o, h, ?_, k⟩
  rcases k with ⟨_, rfl⟩ | ⟨_, rfl⟩ | ⟨_, rfl⟩ <;> rfl
theorem FR.sub_p (f : FR g T0 H0 T H t ρ σ) : Sub T (Tp m ρ σ T H) := fun b o e => by
  by_cases h : Mk m ρ σ b
  · obtain ⟨d, w⟩ := f.mk_ow h
    rw [w.out] at e; cases e
  · rw [Tp_out h]; exact e
theorem FR.at (f : FR g T0 H0 T H t ρ σ) (m : List Nat) : At g (Tp m ρ σ T H) H t (vw m ρ) σ where
  sub := fun b o e => by
    by_cases h : Mk m ρ σ b
    · rw [Tp_in h] at e; exact e
    · rw [Tp_out h] at e; exact f.gn.in_ b o e
  vok := ⟨fun b o e => by
    by_cases h : Mk m ρ σ b
    · rw [Tp_in h] at e
      obtain ⟨d, w⟩ := f.mk_ow h
      obtain ⟨u, hu, p, _⟩ := (cell_plain w.cell)
      rw [e] at hu; cases hu; exact p
    · rw [Tp_out h] at e; exact f.gn.vok.pl b o e, fun a c e => by
    obtain ⟨h1, h2⟩ := f.gn.vok.nt a c e
    have n1 : ¬ Mk m ρ σ a := fun k => by
      obtain ⟨d, w⟩ := f.mk_ow k
      exact (w.nt a c e).1 rfl
    have n2 : ¬ Mk m ρ σ c := fun k => by
      obtain ⟨d, w⟩ := f.mk_ow k
      exact (w.nt a c e).2 rfl
    rw [Tp_out n1, Tp_out n2]; exact ⟨h1, h2⟩⟩
  sok := f.gn.sok
  vr := fun i d e => by
    rcases vw_some e with k | ⟨k, hm⟩
    · obtain ⟨v, s, r⟩ := f.sh i d k
      exact ⟨v, s, r.mono f.sub_p _ _⟩
    · obtain ⟨a, s, w⟩ := f.ow i d k
      refine ⟨_, s, Cell.rep (w.cell.mono f.sub_p fun o ho => ?_)⟩
      rw [Tp_in ⟨i, d, hm, k, s⟩]; exact ho
  len := by unfold vw; rw [vwA_len]; exact f.len
/-- an owned cell behind an expression -/
theorem FR.keep {T2 H2 : Hp} {t' : Tape} (f : FR g T0 H0 T H t ρ σ) (gn : Gone g (Tp m ρ σ T H) H t' T2 H2) {d : D} {a : Addr} (w : Ow g H0 T H d a) : (∀ o, H a = some o → H2 a = some o) ∧ (¬ Mk m ρ σ a → T2 a = none) := by
  obtain ⟨o, ho, p, _⟩ := (cell_plain w.cell)
  have nt : ∀ c, g.tp ≠ some (a, c) := fun c e => (w.nt a c e).1 rfl
  refine ⟨fun u hu => ?_, fun hn => ?_⟩
  · rw [ho] at hu; cases hu; exact gn.ext a o ho p nt
  · exact (gn.keep ho p (by rw [Tp_out hn]; exact w.out) nt).2
theorem FR.gone {T2 H2 : Hp} {t' : Tape} (f : FR g T0 H0 T H t ρ σ) (gn : Gone g (Tp m ρ σ T H) H t' T2 H2) : Gone g T0 H0 t' T2 H2 where
  sub := (f.gn.sub.trans f.sub_p).trans gn.sub
  in_ := gn.in_
  vok := gn.vok
  new := fun b o e n => by
    by_cases h : Mk m ρ σ b
    · obtain ⟨d, w⟩ := f.mk_ow h; exact w.npl
    · cases hb : T b with
      | some u => exact f.gn.new b u hb n
      | none => exact f.gn.ext.npl (gn.new b o e (by rw [Tp_out h]; exact hb))
  ext := f.gn.ext.trans gn.ext
  sok := gn.sok
/-- the masked cells are taken into the view -/
theorem FR.freeze {T2 H2 : Hp} {t' : Tape} (f : FR g T0 H0 T H t ρ σ) (gn : Gone g (Tp m ρ σ T H) H t' T2 H2) : FR g T0 H0 T2 H2 t' (frz m ρ) σ where
  gn := f.gone gn
  sh := fun i d e => by
    rcases frz_some e with ⟨_, k⟩ | ⟨k, _⟩ | ⟨_, k, hm⟩
    · obtain ⟨v, s, r⟩ := f.sh i d k
      exact ⟨v, s, r.mono (f.sub_p.trans gn.sub) _ _⟩
    · cases k
    · obtain ⟨a, s, w⟩ := f.ow i d k
      refine ⟨_, s, Cell.rep (w.cell.mono (f.sub_p.trans gn.sub) fun o ho => ?_)⟩
      exact gn.sub _ _ (by rw [Tp_in ⟨i, d, hm, k, s⟩]; exact ho)
  ow := fun i d e => by
    rcases frz_some e with ⟨k, _⟩ | ⟨_, k, hm⟩ | ⟨k, _⟩
    · cases k
    · obtain ⟨a, s, w⟩ := f.ow i d k
      have hn : ¬ Mk m ρ σ a := fun ⟨j, e2, hj, k2, s2⟩ => by
        by_cases hij : i = j
        · subst hij; exact hm hj
        · exact f.ds i j d e2 a hij k k2 s s2
      obtain ⟨h1, h2⟩ := f.keep gn w
      exact ⟨a, s, h2 hn, w.npl, w.nt, w.cell.mono (f.sub_p.trans gn.sub) h1⟩
    · cases k
  ds := fun i j d e a hij h1 h2 => by
    have k1 : nth ρ i = some (some (d, true)) := by rcases frz_some h1 with ⟨k, _⟩ | ⟨_, k, _⟩ | ⟨k, _⟩ <;> first | exact k | cases k
    have k2 : nth ρ j = some (some (e, true)) := by rcases frz_some h2 with ⟨k, _⟩ | ⟨_, k, _⟩ | ⟨k, _⟩ <;> first | exact k | cases k
    exact f.ds i j d e a hij k1 k2
  len := by unfold frz; rw [fzA_len]; exact f.len
/-- the masked cells stay owned -/
theorem FR.unmask {T2 H2 : Hp} {t' : Tape} (f : FR g T0 H0 T H t ρ σ) (gn : Gone g (Tp m ρ σ T H) H t' T2 H2) : FR g T0 H0 (Tm m ρ σ T2) H2 t' ρ σ := by
  have sb : Sub T (Tm m ρ σ T2) := fun b o e => by
    by_cases h : Mk m ρ σ b
    · obtain ⟨d, w⟩ := f.mk_ow h
      rw [w.out] at e; cases e
    · rw [Tm_out h]; exact gn.sub b o (f.sub_p b o e)
  have sm : Sub (Tm m ρ σ T2) T2 := fun b o e => by
    by_cases h : Mk m ρ σ b
    · rw [Tm_in h] at e; cases e
    · rw [Tm_out h] at e; exact e
  have g2 := f.gone gn
  refine ⟨⟨f.gn.sub.trans sb, sm.trans gn.in_, ⟨fun b o e => gn.vok.pl b o (sm b o e), fun a c e => ?_⟩, fun b o e n => g2.new b o (sm b o e) n, g2.ext, gn.sok⟩, fun i d e => ?_, fun i d e => ?_, f.ds, f.len⟩
  · obtain ⟨h1, h2⟩ := gn.vok.nt a c e
    constructor
    · cases k : Tm m ρ σ T2 a with
      | none => rfl
      | some o => rw [sm a o k] at h1; cases h1
    · cases k : Tm m ρ σ T2 c with
      | none => rfl
      | some o => rw [sm c o k] at h2; cases h2
  · obtain ⟨v, s, r⟩ := f.sh i d e
    exact ⟨v, s, r.mono sb _ _⟩
  · obtain ⟨a, s, w⟩ := f.ow i d e
    obtain ⟨h1, h2⟩ := f.keep gn w
    refine ⟨a, s, ?_, w.npl, w.nt, w.cell.mono sb h1⟩
    by_cases h : Mk m ρ σ a
    · exact Tm_in h
    · rw [Tm_out h]; exact h2 h
theorem FR.imm_ok {T2 H2 : Hp} {t' : Tape} (f : FR g T0 H0 T H t ρ σ) (gn : Gone g (Tp m ρ σ T H) H t' T2 H2) : ∀ b o, T2 b = some o → (∃ xs, o = .tup xs) ∨ (∃ i j, o = .rng i j) → Tm m ρ σ T2 b = some o := fun b o e k => by
  by_cases h : Mk m ρ σ b
  · obtain ⟨d, w⟩ := f.mk_ow h
    obtain ⟨u, hu, p, kind⟩ := (cell_plain w.cell)
    have e2 : T2 b = some u := gn.sub b u (by rw [Tp_in h]; exact hu)
    rw [e] at e2; cases e2
    rcases k with ⟨_, rfl⟩ | ⟨_, _, rfl⟩ <;> rcases kind with ⟨_, q⟩ | ⟨_, q⟩ | ⟨_, q⟩ <;> cases q
  · rw [Tm_out h]; exact e
def immK : D → Bool
  | .lst ds => immL ds
  | .dic _ _ ds => immL ds
  | _ => false
/-- may the masked cells stay owned? -/
def immR (fr : Bool) (d : D) : Bool := EV.imm d || (fr && immK d)
def aft (fr : Bool) (m : List Nat) (d : D) (ρ : Rho) : Rho := if immR fr d then ρ else frz m ρ
def Sto (g : Gs) (H0 : Hp) (fr : Bool) (T H : Hp) (d : D) (v : V) (σ : L2.St) (ρ : Rho) : Prop := match fr && isCell d with
  | true => ∃ a, v = .ref a ∧ Ow g H0 T H d a ∧ ∀ j e, nth ρ j = some (some (e, true)) → σ[j]? ≠ some (some (.ref a))
  | false => Rep g T d v
theorem FR.ow_ne (f : FR g T0 H0 T H t ρ σ) {a : Addr} (h : NPl g H a) : ∀ j e, nth ρ j = some (some (e, true)) → σ[j]? ≠ some (some (.ref a)) := fun j e k s => by
  obtain ⟨b, s2, w⟩ := f.ow j e k
  rw [s] at s2; cases s2
  obtain ⟨o, ho, p, _⟩ := (cell_plain w.cell)
  have := h (fun c e => (w.nt a c e).1 rfl) o ho
  rw [p] at this; cases this
theorem frz_ow {j : Nat} {e : D} (h : nth (frz m ρ) j = some (some (e, true))) : nth ρ j = some (some (e, true)) := by
  rcases frz_some h with ⟨k, _⟩ | ⟨_, k, _⟩ | ⟨k, _⟩ <;> first | exact k | cases k
theorem cell_immK {T T2 : Hp} {d : D} {a : Addr} (s : ∀ b o, T b = some o → (∃ xs, o = .tup xs) ∨ (∃ i j, o = .rng i j) → T2 b = some o) (hi : EV.immK d = true) (c : Cell g T H d a) : Cell g T2 H d a := by
  cases d with
  | lst ds => obtain ⟨vs, h, r⟩ := c; exact ⟨vs, h, RepL.imm s ds vs hi r⟩
  | dic tk ks ds => obtain ⟨vs, r, h⟩ := c; exact ⟨vs, RepL.imm s ds vs hi r, h⟩
  | _ => cases hi
theorem FR.sto_un {fr : Bool} {t' : Tape} {d : D} {v : V} {T2 H2 : Hp} (f : FR g T0 H0 T H t ρ σ) (gn : Gone g (Tp m ρ σ T H) H t' T2 H2) (sd : Stands g fr H T2 H2 d v) (hi : immR fr d = true) : Sto g H0 fr (Tm m ρ σ T2) H2 d v σ ρ := by
  have im := f.imm_ok gn
  unfold Stands at sd
  unfold Sto
  unfold immR at hi
  simp only [Bool.or_eq_true, Bool.and_eq_true] at hi
  cases hc : fr && isCell d with
  | true =>
    rw [hc] at sd
    obtain ⟨a, e, n, np, nt, c⟩ := sd
    refine ⟨a, e, ⟨?_, f.gn.ext.npl np, nt, ?_⟩, f.ow_ne np⟩
    · cases k : Tm m ρ σ T2 a with
      | none => rfl
      | some o =>
        by_cases h : Mk m ρ σ a
        · rw [Tm_in h] at k; cases k
        · rw [Tm_out h, n] at k; cases k
    · rcases hi with k | ⟨_, k⟩
      · simp only [Bool.and_eq_true] at hc
        cases d <;> first | (cases hc.2; done) | (cases k; done)
      · exact cell_immK im k c
  | false =>
    rw [hc] at sd
    rcases hi with k | ⟨k1, k⟩
    · exact Rep.imm im d v k sd
    · rw [k1] at hc
      cases d <;> first | (cases k; done) | (cases hc; done)
theorem FR.sto_fr {fr : Bool} {t' : Tape} {d : D} {v : V} {T2 H2 : Hp} (f : FR g T0 H0 T H t ρ σ) (gn : Gone g (Tp m ρ σ T H) H t' T2 H2) (sd : Stands g fr H T2 H2 d v) : Sto g H0 fr T2 H2 d v σ (frz m ρ) := by
  unfold Stands at sd
  unfold Sto
  cases hc : fr && isCell d with
  | true =>
    rw [hc] at sd
    obtain ⟨a, e, n, np, nt, c⟩ := sd
    exact ⟨a, e, ⟨n, f.gn.ext.npl np, nt, c⟩, fun j e k => f.ow_ne np j e (frz_ow k)⟩
  | false => rw [hc] at sd; exact sd
theorem FR.sub_m {t' : Tape} {T2 H2 : Hp} (f : FR g T0 H0 T H t ρ σ) (gn : Gone g (Tp m ρ σ T H) H t' T2 H2) : Sub T (Tm m ρ σ T2) := fun b o e => by
  by_cases h : Mk m ρ σ b
  · obtain ⟨d, w⟩ := f.mk_ow h
    rw [w.out] at e; cases e
  · rw [Tm_out h]; exact gn.sub b o (f.sub_p b o e)
/-- a value behind an expression -/
theorem FR.val {fr : Bool} {t' : Tape} {d : D} {v : V} {H2 : Hp} (f : FR g T0 H0 T H t ρ σ) (p : Post g fr (Tp m ρ σ T H) H t' d v H2) : ∃ T1, FR g T0 H0 T1 H2 t' (aft fr m d ρ) σ ∧ Sto g H0 fr T1 H2 d v σ (aft fr m d ρ) ∧ Sub T T1 := by
  obtain ⟨T2, gn, sd⟩ := p
  unfold aft
  by_cases hi : immR fr d = true
  · rw [if_pos hi]
    exact ⟨_, f.unmask gn, f.sto_un gn sd hi, f.sub_m gn⟩
  · rw [if_neg hi]
    exact ⟨T2, f.freeze gn, f.sto_fr gn sd, f.sub_p.trans gn.sub⟩
theorem FR.set {fr : Bool} {d : D} {v : V} {i : Nat} (f : FR g T0 H0 T H t ρ σ) (s : Sto g H0 fr T H d v σ ρ) : FR g T0 H0 T H t (ρ.set i (some (d, fr && isCell d))) (σ.set i (some v)) := by
  have old : ∀ j x, j ≠ i → nth (ρ.set i (some (d, fr && isCell d))) j = some (some x) → nth ρ j = some (some x) ∧ (σ.set i (some v))[j]? = σ[j]? := fun j x hj e => by
    rw [nth_set, if_neg (fun k => hj k.1.symm)] at e
    exact ⟨e, by rw [List.getElem?_set_ne (Ne.symm hj)]⟩
  have new : ∀ x, nth (ρ.set i (some (d, fr && isCell d))) i = some (some x) → x = (d, fr && isCell d) ∧ (σ.set i (some v))[i]? = some (some v) := fun x e => by
    rw [nth_set] at e
    by_cases hb : i < ρ.length
    · rw [if_pos ⟨rfl, hb⟩] at e
      cases e
      exact ⟨rfl, by rw [List.getElem?_set_self (by rw [← f.len]; exact hb)]⟩
    · rw [if_neg (fun k => hb k.2), nth_eq, List.getElem?_eq_none (by omega)] at e; cases e
  refine ⟨f.gn, fun j e k => ?_, fun j e k => ?_, fun j l e e2 a hjl k1 k2 s1 s2 => ?_, by rw [List.length_set, List.length_set]; exact f.len⟩
  · by_cases hj : j = i
    · subst hj
      obtain ⟨q, s1⟩ := new _ k
      cases hc : fr && isCell d with
      | true => rw [hc] at q; cases q
      | false =>
        rw [hc] at q; cases q
        unfold Sto at s; rw [hc] at s
        exact ⟨v, s1, s⟩
    · obtain ⟨q, s1⟩ := old j _ hj k
      obtain ⟨w, s2, r⟩ := f.sh j e q
      exact ⟨w, by rw [s1]; exact s2, r⟩
  · by_cases hj : j = i
    · subst hj
      obtain ⟨q, s1⟩ := new _ k
      cases hc : fr && isCell d with
      | false => rw [hc] at q; cases q
      | true =>
        rw [hc] at q; cases q
        unfold Sto at s; rw [hc] at s
        obtain ⟨a, rfl, w, _⟩ := s
        exact ⟨a, s1, w⟩
    · obtain ⟨q, s1⟩ := old j _ hj k
      obtain ⟨a, s2, w⟩ := f.ow j e q
      exact ⟨a, by rw [s1]; exact s2, w⟩
  · by_cases hj : j = i
    · have hl : l ≠ i := fun q => hjl (hj.trans q.symm)
      subst hj
      obtain ⟨q, s3⟩ := new _ k1
      obtain ⟨q2, s4⟩ := old l _ hl k2
      cases hc : fr && isCell d with
      | false => rw [hc] at q; cases q
      | true =>
        unfold Sto at s; rw [hc] at s
        obtain ⟨b, rfl, w, nn⟩ := s
        rw [s3] at s1; cases s1
        rw [s4] at s2
        exact nn l e2 q2 s2
    · obtain ⟨q, s3⟩ := old j _ hj k1
      by_cases hl : l = i
      · subst hl
        obtain ⟨q2, s4⟩ := new _ k2
        cases hc : fr && isCell d with
        | false => rw [hc] at q2; cases q2
        | true =>
          unfold Sto at s; rw [hc] at s
          obtain ⟨b, rfl, w, nn⟩ := s
          rw [s4] at s2; cases s2
          rw [s3] at s1
          exact nn j e q s1
      · obtain ⟨q2, s4⟩ := old l _ hl k2
        rw [s3] at s1; rw [s4] at s2
        exact f.ds j l e e2 a hjl q q2 s1 s2
/-- a returned value -/
theorem FR.ret {fr f' : Bool} {t' : Tape} {d : D} {v : V} {H2 : Hp} (f : FR g T0 H0 T H t ρ σ) (hf : fr = true → f' = true ∨ isCell d = false) (p : Post g f' (Tp m ρ σ T H) H t' d v H2) : Post g fr T0 H0 t' d v H2 := by
  obtain ⟨T2, gn, sd⟩ := p
  have q : Post g f' T0 H0 t' d v H2 := ⟨T2, f.gone gn, by
    unfold Stands at sd ⊢
    cases hc : f' && isCell d with
    | true =>
      rw [hc] at sd
      obtain ⟨a, e, n, np, nt, c⟩ := sd
      exact ⟨a, e, n, f.gn.ext.npl np, nt, c⟩
    | false => rw [hc] at sd; exact sd⟩
  cases fr with
  | false => exact q.of
  | true =>
    rcases hf rfl with k | k
    · rw [← k]; exact q
    · obtain ⟨T3, g3, s3⟩ := q.of
      refine ⟨T3, g3, ?_⟩
      unfold Stands at s3 ⊢
      rw [k, Bool.and_false] at s3 ⊢
      exact s3
/-- .. an owned cell -/
theorem FR.retO {fr : Bool} {i : Nat} {d : D} (f : FR g T0 H0 T H t ρ σ) (e : nth ρ i = some (some (d, true))) : ∃ v, σ[i]? = some (some v) ∧ Post g fr T0 H0 t d v H := by
  obtain ⟨a, s, w⟩ := f.ow i d e
  refine ⟨_, s, ?_⟩
  have q : Post g true T0 H0 t d (.ref a) H := ⟨T, f.gn, by
    unfold Stands
    have hc : isCell d = true := by cases d <;> first | rfl | exact w.cell.elim
    rw [hc]
    exact ⟨a, rfl, w.out, w.npl, w.nt, w.cell⟩⟩
  cases fr with
  | true => exact q
  | false => exact q.of
theorem FR.retS {fr : Bool} {i : Nat} {d : D} (f : FR g T0 H0 T H t ρ σ) (e : nth ρ i = some (some (d, false))) (hf : fr = true → isCell d = false) : ∃ v, σ[i]? = some (some v) ∧ Post g fr T0 H0 t d v H := by
  obtain ⟨v, s, r⟩ := f.sh i d e
  refine ⟨v, s, T, f.gn, ?_⟩
  unfold Stands
  cases fr with
  | true => rw [hf rfl]; exact r
  | false => exact r
end
end EV

set_option Elab.async false
set_option linter.all false
set_option maxRecDepth 100000
set_option maxHeartbeats 4000000
/-! EvO: statements: the language, its evaluator, does a text say it. -/
namespace EV
open PySem PySem.Spec PyProof.Rows L2

inductive Z where
  | set (m : List Nat) (i : Nat) (e : E)
  | tgt (m : List Nat) (tg : Tg) (e : E)
  | par (m : List Nat) (is : List Nat) (es : List E)
  | app (m : List Nat) (i : Nat) (e : E)
  | put (m : List Nat) (i : Nat) (ei e : E)
  | aug (m : List Nat) (o : O2) (i : Nat) (e : E)
  | ifS (m : List Nat) (c : E) (a b : List Z)
  | whl (m : List Nat) (n : Nat) (c : E) (b : List Z)
  | for (m : List Nat) (tg : Tg) (k : Sk) (es : List E) (b : List Z)
  | ret (m : List Nat) (e : E)
  | retV (i : Nat)
  | rz (c : Nat)
  | brk
  | cont
  | pass
  | exp (m : List Nat) (e : E)
  | tw (m : List Nat) (i k : Nat) (e : E)
  | pop (i : Nat)
  | pix (m : List Nat) (o : O2) (i : Nat) (ei e : E)
  | dst (m : List Nat) (i : Nat) (ek ev : E)
  | xt (m : List Nat) (i : Nat) (e : E)
  | upd (m : List Nat) (i : Nat) (e : E)
  | ppT (tg : Tg) (i : Nat)
  | forO (tg : Tg) (i : Nat) (m : List Nat) (j : Nat) (ek ev : E)
  | rpS (m : List Nat) (i j : Nat) (y z : List Nat)
  | rpI (m : List Nat) (i j : Nat) (y z : List Nat) (c : E) (a b : List Z)

inductive Fl where
  | nx | bk | ct | rt (d : D)
abbrev Out := Fl × Rho

/-! ### op= on values that do not change -/
def iD : O2 → D → D → Option D
  | .add, .int i, .int j => some (.int (i + j))
  | .add, .str a, .str b => if a.length + b.length ≤ 1000000 then some (.str (a ++ b)) else none
  | .sub, .int i, .int j => some (.int (i - j))
  | .mul, .int i, .int j => if CMulB i j then some (.int (i * j)) else none
  | .bor, .int i, .int j => some (.int (Builtin.bitOr i j))
  | .fdiv, .int i, .int j => if 0 < j ∧ j < 1073741824 then some (.int (i / j)) else none
  | .mod, .int i, .int j => if 0 < j then some (.int (i % j)) else none
  | _, _, _ => none
def ioOf : O2 → Option Operator
  | .add => some .Add | .sub => some .Sub | .mul => some .Mult | .bor => some .BitOr | .fdiv => some .FloorDiv | .mod => some .Mod
  | _ => none

def appB : Fl → Rho → (Rho → M Out) → M Out
  | .nx, ρ, k => k ρ
  | .ct, ρ, k => k ρ
  | .bk, ρ, _ => ret (.nx, ρ)
  | .rt d, ρ, _ => ret (.rt d, ρ)
def seqB : Fl → Rho → (Rho → M Out) → M Out
  | .nx, ρ, k => k ρ
  | fl, ρ, _ => ret (fl, ρ)
def setAllO : List Nat → List D → List Bool → Rho → Option Rho
  | [], [], [], ρ => some ρ
  | i :: is, d :: ds, f :: fs, ρ => setAllO is ds fs (ρ.set i (some (d, f && isCell d)))
  | _, _, _, _ => none
def setAllR : List Nat → List D → Rho → Option Rho
  | [], [], ρ => some ρ
  | i :: is, d :: ds, ρ => setAllR is ds (ρ.set i (some (d, false)))
  | _, _, _ => none
def tgR (tg : Tg) (d : D) (ρ : Rho) : Option Rho := match tgV tg d with
  | some ds => setAllR (tgSlots tg) ds ρ
  | none => none
def immA : List Bool → List D → Bool
  | f :: fs, d :: ds => immR f d && immA fs ds
  | _, _ => true
def aftA (fs : List Bool) (m : List Nat) (ds : List D) (ρ : Rho) : Rho := if immA fs ds then ρ else frz m ρ
def forRun (st : D → Rho → Option Rho) (body : Rho → M Out) : List D → Rho → M Out
  | [], ρ => ret (.nx, ρ)
  | x :: xs, ρ => match st x ρ with
    | none => bad
    | some ρ1 => bnd (body ρ1) fun o => appB o.1 o.2 (forRun st body xs)
def whlRun (c : Rho → M Bool) (body : Rho → M Out) : Nat → Rho → M Out
  | 0, _ => bad
  | n + 1, ρ => bnd (c ρ) fun b => if b then bnd (body ρ) fun o => appB o.1 o.2 (whlRun c body n) else ret (.nx, ρ)
def frz? (k : Sk) (m : List Nat) (ρ : Rho) : Rho := match k with
  | .range => ρ
  | _ => frz m ρ

/-- a key of a dict of this kind -/
def keyB : Bool → D → Bool
  | false, d => (keyK d).isSome
  | true, .tup ds => (keysK ds).isSome
  | true, _ => false
def mrgD (ks vs : List D) : List D → List D → List D × List D
  | l :: ls, u :: us => mrgD (putD ks vs l u).1 (putD ks vs l u).2 ls us
  | _, _ => (ks, vs)
/-- y[k] = v, a dict in its slot -/
def evDst (md : Md) (cl : Cl) (m : List Nat) (i : Nat) (ek ev : E) : Rho → M Out := fun ρ => bnd (evE md cl ev (vw m ρ)) fun d => match nth (aft false m d ρ) i with
    | some (some (.dic _ _ _, true)) => bnd (evE md cl ek (vw m (aft false m d ρ))) fun x => match nth (aft false m x (aft false m d ρ)) i with
      | some (some (.dic tk ks vs, true)) => if keyB tk x && decide (ks.length < 1000000) then ret (.nx, (aft false m x (aft false m d ρ)).set i (some (.dic tk (putD ks vs x d).1 (putD ks vs x d).2, true))) else bad
      | _ => bad
    | _ => bad
/-- a list that stays in its slot is walked -/
def forO (tg : Tg) (i : Nat) (body : Rho → M Out) : Nat → Nat → Rho → M Out
  | 0, _, _ => bad
  | n + 1, k, ρ => match nth ρ i with
    | some (some (.lst ds, true)) => match nth ds k with
      | none => ret (.nx, ρ)
      | some x => match tgR tg x ρ with
        | none => bad
        | some ρ1 => bnd (body ρ1) fun o => match o.1 with
          | .nx => forO tg i body n (k + 1) o.2
          | _ => bad
    | _ => bad
/-- text.replace(y, z) -/
def rplD (y z : List Nat) : D → Option D
  | .str s => if s.length + (s.length + 1) * z.length ≤ 1000000 then some (.str (StrLaws.replL y z s)) else none
  | _ => none
mutual
/-- ff: is a new cell to be handed back -/
def evS (md : Md) (cl : Cl) (ff : Bool) : Z → Rho → M Out
  | .set m i e => fun ρ => bnd (evE md cl e (vw m ρ)) fun d => ret (.nx, (aft (frE md e) m d ρ).set i (some (d, frE md e && isCell d)))
  | .tgt m tg e => fun ρ => bnd (evE md cl e (vw m ρ)) fun d => match tgR tg d (aft false m d ρ) with
    | some ρ1 => ret (.nx, ρ1)
    | none => bad
  | .par m is es => fun ρ => bnd (evL md cl es (vw m ρ)) fun ds => match setAllO is ds (es.map (frE md)) (aftA (es.map (frE md)) m ds ρ) with
    | some ρ1 => ret (.nx, ρ1)
    | none => bad
  | .app m i e => fun ρ => match nth ρ i with
    | some (some (.lst _, true)) => bnd (evE md cl e (vw m ρ)) fun d => match nth (aft false m d ρ) i with
      | some (some (.lst xs, true)) => if xs.length < 1000000 then ret (.nx, (aft false m d ρ).set i (some (.lst (xs ++ [d]), true))) else bad
      | _ => bad
    | _ => bad
  | .put m i ei e => fun ρ => bnd (evE md cl e (vw m ρ)) fun d => match nth (aft false m d ρ) i with
    | some (some (.lst _, true)) => bnd (evE md cl ei (vw m (aft false m d ρ))) fun x => match x, nth (aft false m d ρ) i with
      | .int k, some (some (.lst xs, true)) => match ixN xs.length k with
        | some j => ret (.nx, (aft false m d ρ).set i (some (.lst (xs.set j d), true)))
        | none => bad
      | _, _ => bad
    | _ => bad
  | .aug m o i e => fun ρ => match nth ρ i with
    | some (some (x, false)) => bnd (evE md cl e (vw m ρ)) fun d => match iD o x d with
      | some r => ret (.nx, (aft false m d ρ).set i (some (r, false)))
      | none => bad
    | _ => bad
  | .ifS m c a b => fun ρ => bnd (evT md cl c (vw m ρ)) fun k => if k then evSs md cl ff a ρ else evSs md cl ff b ρ
  | .whl m n c b => fun ρ => whlRun (fun ρ => evT md cl c (vw m ρ)) (fun ρ => evSs md cl ff b ρ) n ρ
  | .for m tg k es b => fun ρ => bnd (evI md cl k es (vw m ρ)) fun xs => forRun (tgR tg) (fun ρ => evSs md cl ff b ρ) xs (frz? k m ρ)
  | .ret m e => fun ρ => bnd (evE md cl e (vw m ρ)) fun d => if !ff || frE md e || !isCell d then ret (.rt d, ρ) else bad
  | .retV i => fun ρ => match nth ρ i with
    | some (some (d, b)) => if !ff || b || !isCell d then ret (.rt d, ρ) else bad
    | _ => bad
  | .rz c => fun _ => fun t => .exc c t
  | .brk => fun ρ => ret (.bk, ρ)
  | .cont => fun ρ => ret (.ct, ρ)
  | .pass => fun ρ => ret (.nx, ρ)
  | .exp m e => fun ρ => bnd (evE md cl e (vw m ρ)) fun d => ret (.nx, aft false m d ρ)
  | .tw m i k e => fun ρ => bnd (evE md cl e (vw m ρ)) fun d => match d with
    | .int x => if isTape (nth (vw [] ρ) i) then fun t => .ok (.nx, ρ) (tset k x t) else bad
    | _ => bad
  | .pop i => fun ρ => match nth ρ i with
    | some (some (.lst (x :: xs), true)) => ret (.nx, ρ.set i (some (.lst (x :: xs).dropLast, true)))
    | _ => bad
  | .pix m o i ei e => fun ρ => match nth ρ i with
    | some (some (.lst xs, true)) => bnd (evE md cl ei (vw m ρ)) fun x => match x with
      | .int k => match ixN xs.length k with
        | some j => match nth xs j with
          | some old => bnd (evE md cl e (vw m ρ)) fun d => match iD o old d with
            | some r => match nth (aft false m d ρ) i with
              | some (some (.lst ys, true)) => if ys.length = xs.length then ret (.nx, (aft false m d ρ).set i (some (.lst (ys.set j r), true))) else bad
              | _ => bad
            | none => bad
          | none => bad
        | none => bad
      | _ => bad
    | _ => bad
  | .dst m i ek ev => evDst md cl m i ek ev
  | .xt m i e => fun ρ => match nth ρ i with
    | some (some (.lst _, true)) => bnd (evE md cl e (vw m ρ)) fun d => match d with
      | .lst ds => match nth (aft (frE md e) m (.lst ds) ρ) i with
        | some (some (.lst xs, true)) => if xs.length + ds.length ≤ 1000000 then ret (.nx, (aft (frE md e) m (.lst ds) ρ).set i (some (.lst (xs ++ ds), true))) else bad
        | _ => bad
      | _ => bad
    | _ => bad
  | .upd m i e => fun ρ => match nth ρ i with
    | some (some (.dic false _ _, true)) => bnd (evE md cl e (vw m ρ)) fun d => match d with
      | .dic false ls us => match nth (aft (frE md e) m (.dic false ls us) ρ) i with
        | some (some (.dic false ks vs, true)) => if ks.length + ls.length ≤ 1000000 then ret (.nx, (aft (frE md e) m (.dic false ls us) ρ).set i (some (.dic false (mrgD ks vs ls us).1 (mrgD ks vs ls us).2, true))) else bad
        | _ => bad
      | _ => bad
    | _ => bad
  | .ppT tg i => fun ρ => match nth ρ i with
    | some (some (.lst xs, true)) => match nth xs (xs.length - 1) with
      | none => bad
      | some x => match tgR tg x (ρ.set i (some (.lst xs.dropLast, true))) with
        | some ρ1 => ret (.nx, ρ1)
        | none => bad
    | _ => bad
  | .forO tg i m j ek ev => fun ρ => if memN i (tgSlots tg) then bad else match nth ρ i with
    | some (some (.lst ds, true)) => forO tg i (evDst md cl m j ek ev) (ds.length + 1) 0 ρ
    | _ => bad
  | .rpS m i j y z => fun ρ => bnd (evE md cl (.var j) (vw m ρ)) fun d => match rplD y z d with
    | some r => ret (.nx, ρ.set i (some (r, false)))
    | none => bad
  | .rpI m i j y z c a b => fun ρ => bnd (evE md cl (.var i) (vw m ρ)) fun d => match d with
    | .str u => bnd (evE md cl (.var j) (vw m ρ)) fun e => match rplD y z e with
      | some r => match neO (.str u) r with
        | some (.bl true) => evSs md cl ff a ρ
        | some (.bl false) => bnd (evT md cl c (vw m ρ)) fun k => if k then evSs md cl ff a ρ else evSs md cl ff b ρ
        | _ => bad
      | none => bad
    | _ => bad
def evSs (md : Md) (cl : Cl) (ff : Bool) : List Z → Rho → M Out
  | [] => fun ρ => ret (.nx, ρ)
  | s :: ss => fun ρ => bnd (evS md cl ff s ρ) fun o => seqB o.1 o.2 (evSs md cl ff ss)
end

/-! ### the look at the text -/
def isLC : Expr → Bool
  | .ListComp .. => true
  | _ => false
def noC : Expr → Bool
  | .ListComp .. => false
  | .SetComp .. => false
  | .DictComp .. => false
  | _ => true
def locB (sc : Scope) (x : Str) : Bool := decide (sc.names.lookup x = some .local)
/-- may slot i be written by the name y? -/
def stB (N : List Str) (sc : Scope) (st : Str → Bool) (i : Nat) (y : Str) : Bool := decide (N[i]? = some y) && (locB sc y || (decide (sc.names.lookup y = some .cell) && st y))
/-- what is walked -/
def chkI (md : Md) (N : List Str) (k : Sk) (es : List E) (sc : Scope) (st : Str → Bool) (t it : Expr) : Bool := match k, it with
  | .val, it => chkL md N es sc st [it]
  | .range, .Call (.Name n _) (z :: zs) [] _ => decide (n = "range") && decide (n ∈ md.bl) && gl sc n && decide ((z :: zs).length ≤ 3) && chkL md N es sc st (z :: zs)
  | .enum, .Call (.Name n _) [z] [] _ => decide (n = "enumerate") && decide (n ∈ md.bl) && gl sc n && isTup t && chkL md N es sc st [z]
  | .zip, .Call (.Name n _) [z, w] [] _ => decide (n = "zip") && decide (n ∈ md.bl) && gl sc n && isTup t && chkL md N es sc st [z, w]
  | .rev, .Call (.Name n _) [z] [] _ => decide (n = "reversed") && decide (n ∈ md.bl) && gl sc n && chkL md N es sc st [z]
  | _, _ => false
mutual
def chkS (md : Md) (N : List Str) : Z → Scope → (Str → Bool) → Stmt → Bool
  | .set _ i e, sc, st, x => match x with
    | .Assign [.Name y _] x _ => stB N sc st i y && (isLC x || noC x) && chkE md N e sc st x
    | _ => false
  | .tgt _ tg e, sc, st, x => match x with
    | .Assign [.Tuple ts k p] x _ => chkTg sc st N tg (.Tuple ts k p) && noC x && !isTup x && chkE md N e sc st x
    | _ => false
  | .par _ is es, sc, st, x => match x with
    | .Assign [.Tuple ts k p] (.Tuple xs _ _) _ => chkTgs sc st N is ts && chkL md N es sc st xs && decide (is.Nodup) && decide (xs.length = ts.length) && (xs.all (foldedForSure 8) || !xs.all (constantsAlone 8)) && decide (es.length ≤ 1000000)
    | _ => false
  | .app _ i e, sc, st, x => match x with
    | .Expr (.Call (.Attribute (.Name y p) n ap) [z] [] cp) _ => decide (n = "append") && (ap.endLine == cp.line) && decide (N[i]? = some y) && vis sc y && plainName y && okE z && chkE md N e sc st z
    | _ => false
  | .put _ i ei e, sc, st, x => match x with
    | .Assign [.Subscript (.Name y p) z _] x _ => decide (N[i]? = some y) && vis sc y && plainName y && okE z && noC x && chkE md N ei sc st z && chkE md N e sc st x
    | _ => false
  | .aug _ o i e, sc, st, x => match x with
    | .AugAssign (.Name y _) op z _ => decide (ioOf o = some op) && stB N sc st i y && chkE md N e sc st z
    | _ => false
  | .ifS _ c a b, sc, st, x => match x with
    | .If y p q _ => chkE md N c sc st y && chkSs md N a sc st p && chkSs md N b sc st q
    | _ => false
  | .whl _ _ c b, sc, st, x => match x with
    | .While y p [] _ => chkE md N c sc st y && chkSs md N b sc st p
    | _ => false
  | .for _ tg k es b, sc, st, x => match x with
    | .For t it p [] _ => okE it && chkTg sc st N tg t && chkSs md N b sc st p && chkI md N k es sc st t it
    | _ => false
  | .ret _ e, sc, st, x => match x with
    | .Return (some y) _ => chkE md N e sc st y
    | _ => false
  | .retV i, sc, _, x => match x with
    | .Return (some (.Name y _)) _ => decide (N[i]? = some y) && vis sc y && plainName y
    | _ => false
  | .rz c, sc, _, x => match x with
    | .Raise (some (.Call (.Name y _) [.Constant (.str _) _ _] [] _)) none _ => decide (md.xc[c]? = some y) && gl sc y && plainName y
    | _ => false
  | .brk, _, _, x => match x with
    | .Break _ => true
    | _ => false
  | .cont, _, _, x => match x with
    | .Continue _ => true
    | _ => false
  | .pass, _, _, x => match x with
    | .Pass _ => true
    | .Expr (.Constant (.str _) _ _) _ => true
    | _ => false
  | .exp _ e, sc, st, x => match x with
    | .Expr y _ => noC y && chkE md N e sc st y
    | _ => false
  | .tw _ i k e, sc, st, x => match x with
    | .Assign [.Subscript (.Name y _) (.Constant (.str z) _ _) _] w _ => decide (N[i]? = some y) && vis sc y && plainName y && decide (z = tfNm k) && decide (k < 4) && noC w && chkE md N e sc st w
    | _ => false
  | .pop i, sc, _, x => match x with
    | .Expr (.Call (.Attribute (.Name y _) n ap) [] [] cp) _ => decide (n = "pop") && (ap.endLine == cp.line) && decide (N[i]? = some y) && vis sc y && plainName y
    | _ => false
  | .pix _ o i ei e, sc, st, x => match x with
    | .AugAssign (.Subscript (.Name y _) z _) op w _ => decide (ioOf o = some op) && decide (N[i]? = some y) && vis sc y && plainName y && okE z && chkE md N ei sc st z && chkE md N e sc st w
    | _ => false
  | .dst _ i ek ev, sc, st, x => match x with
    | .Assign [.Subscript (.Name y p) z _] x _ => decide (N[i]? = some y) && vis sc y && plainName y && okE z && noC x && chkE md N ek sc st z && chkE md N ev sc st x
    | _ => false
  | .xt _ i e, sc, st, x => match x with
    | .Expr (.Call (.Attribute (.Name y p) n ap) [z] [] cp) _ => decide (n = "extend") && (ap.endLine == cp.line) && decide (N[i]? = some y) && vis sc y && plainName y && okE z && chkE md N e sc st z
    | _ => false
  | .upd _ i e, sc, st, x => match x with
    | .Expr (.Call (.Attribute (.Name y p) n ap) [z] [] cp) _ => decide (n = "update") && (ap.endLine == cp.line) && decide (N[i]? = some y) && vis sc y && plainName y && okE z && chkE md N e sc st z
    | _ => false
  | .ppT tg i, sc, st, x => match x with
    | .Assign [.Tuple ts k p] (.Call (.Attribute (.Name y _) n ap) [] [] cp) _ => chkTg sc st N tg (.Tuple ts k p) && decide (n = "pop") && (ap.endLine == cp.line) && decide (N[i]? = some y) && vis sc y && plainName y
    | .Assign [.Name w q] (.Call (.Attribute (.Name y _) n ap) [] [] cp) _ => chkTg sc st N tg (.Name w q) && decide (n = "pop") && (ap.endLine == cp.line) && decide (N[i]? = some y) && vis sc y && plainName y
    | _ => false
  | .forO tg i _ j ek ev, sc, st, x => match x with
    | .For t (.Name y _) [.Assign [.Subscript (.Name u _) z _] w _] [] _ => chkTg sc st N tg t && decide (N[i]? = some y) && vis sc y && plainName y && decide (N[j]? = some u) && vis sc u && plainName u && okE z && noC w && chkE md N ek sc st z && chkE md N ev sc st w
    | _ => false
  | .rpS .., _, _, _ => false
  | .rpI .., _, _, _ => false
def chkSs (md : Md) (N : List Str) : List Z → Scope → (Str → Bool) → List Stmt → Bool
  | [], _, _, xs => xs.isEmpty
  | s :: ss, sc, st, xs => match xs with
    | x :: xs => chkS md N s sc st x && chkSs md N ss sc st xs
    | [] => false
end
end EV

set_option Elab.async false
set_option linter.all false
set_option maxRecDepth 100000
set_option maxHeartbeats 4000000
/-! EvP: the machine does what the evaluator does: statements one by one. -/
namespace EV
open PySem PySem.Spec PyProof.Rows L2
abbrev WK (E : XK) : WX := fun cls d _ H => E cls d H
def ExcS (g : Gs) (E : XK) (H0 : Hp) (c : Nat) (t' : Tape) : Prop := ∀ H', Ext g H0 H' → SOk g H' t' → E (.ref (g.ca c)) none H'
def GoodS (g : Gs) (fr : Bool) (E : XK) (T0 H0 : Hp) (r : Res Out) (D : Ends) : Prop := match r with
  | .ok o t' => match o.1 with
    | .nx => ∀ σ' T' H', FR g T0 H0 T' H' t' o.2 σ' → D.nx σ' H'
    | .bk => ∀ σ' T' H', FR g T0 H0 T' H' t' o.2 σ' → D.bk σ' H'
    | .ct => ∀ σ' T' H', FR g T0 H0 T' H' t' o.2 σ' → D.ct σ' H'
    | .rt d => ∀ v H', Post g fr T0 H0 t' d v H' → D.rt v H'
  | .exc c t' => ExcS g E H0 c t'
  | .bad => False
def tS (g : Gs) (fr : Bool) (E : XK) (T0 H0 : Hp) (ev : Rho → M Out) : TS := fun D σ H => ∃ T ρ t, FR g T0 H0 T H t ρ σ ∧ GoodS g fr E T0 H0 (ev ρ t) D
/-- what stands around a statement -/
structure XZ (X : Cx) (g : Gs) (md : Md) (lv : Nat) (sc : Scope) (N : List Str) (st : Str → Bool) (E : XK) : Prop where
  xc : XC X g md lv sc N st
  tk : Takes X (WK E)
  pa : PassesOwn (model X.prog X.w) X.A X.env X.xe
  fn : sc.kind = .function
section
variable {g : Gs} {md : Md} {cl : Cl} {lv : Nat} {X : Cx} {sc : Scope} {N : List Str} {st : Str → Bool} {E : XK} {fr : Bool} {T0 H0 T H : Hp} {t : Tape} {ρ : Rho} {σ : L2.St} {m : List Nat} {D : Ends}
theorem PS.weak {x : Stmt} {a b : TS} (h : PS X x a) (k : ∀ D σ H, b D σ H → a D σ H) : PS X x b := ⟨fun pins s σ H D I z => h.run pins s σ H D I (k D σ H z)⟩
theorem PSs.weak {x : List Stmt} {a b : TS} (h : PSs X x a) (k : ∀ D σ H, b D σ H → a D σ H) : PSs X x b := ⟨fun pins s σ H D I z => h.run pins s σ H D I (k D σ H z)⟩
theorem excS (f : FR g T0 H0 T H t ρ σ) {c : Nat} {t' : Tape} (h : ExcS g E H0 c t') : Exc g (WK E) H σ c t' := fun H' e s => h H' (f.gn.ext.trans e) s
theorem tS_E {f' : Bool} {e : EV.E} {k : EV.D → M Out} {Q : VK} (f : FR g T0 H0 T H t ρ σ) (q : GoodS g fr E T0 H0 (bnd (evE md cl e (vw m ρ)) k t) D)
    (h : ∀ d t1 v H1, Post g f' (Tp m ρ σ T H) H t1 d v H1 → GoodS g fr E T0 H0 (k d t1) D → Q v H1) : tE g (WK E) f' (evE md cl e) σ H Q := by
  refine ⟨_, _, t, f.at m, ?_⟩
  unfold bnd at q
  unfold Good
  cases ee : evE md cl e (vw m ρ) t with
  | ok d t1 => rw [ee] at q; exact fun v H1 p => h d t1 v H1 p q
  | exc c t' => rw [ee] at q; exact excS f q
  | bad => rw [ee] at q; exact q
theorem tS_T {c : EV.E} {k : Bool → M Out} {Q : Bool → Hp → Prop} (f : FR g T0 H0 T H t ρ σ) (q : GoodS g fr E T0 H0 (bnd (evT md cl c (vw m ρ)) k t) D)
    (h : ∀ b t1 T1 H1, FR g T0 H0 T1 H1 t1 ρ σ → GoodS g fr E T0 H0 (k b t1) D → Q b H1) : tT g (WK E) (evT md cl c) σ H Q := by
  refine ⟨_, _, t, f.at m, ?_⟩
  unfold bnd at q
  unfold GoodB
  cases ee : evT md cl c (vw m ρ) t with
  | ok d t1 => rw [ee] at q; exact fun T1 H1 gn => h d t1 _ H1 (f.unmask gn) q
  | exc c t' => rw [ee] at q; exact excS f q
  | bad => rw [ee] at q; exact q
theorem XZ.loc (z : XZ X g md lv sc N st E) {i : Nat} {y : Str} (h : stB N sc st i y = true) : X.N[i]? = some y ∧ Loc X.env.scope y ∧ (X.fn y = true ∨ X.env.scope.names.lookup y = some .local) := by
  unfold stB locB at h
  simp only [Bool.and_eq_true, Bool.or_eq_true, decide_eq_true_eq] at h
  obtain ⟨h1, h2⟩ := h
  refine ⟨by rw [z.xc.N]; exact h1, ?_⟩
  rcases h2 with h2 | ⟨h2, h3⟩
  · exact ⟨.inl (by rw [z.xc.sc]; exact h2), .inr (by rw [z.xc.sc]; exact h2)⟩
  · have e : X.env.scope.names.lookup y = some .cell := by rw [z.xc.sc]; exact h2
    exact ⟨.inr e, .inl (z.xc.st y h3 e)⟩
theorem noC_sw {x : Expr} {tg : Option Expr} {l : Nat} {env : Env} (h : noC x = true) : swapsWith x tg l env = pure false := by
  cases x <;> first | rfl | cases h
theorem noT_sw {x : Expr} {ts : List Expr} {env : Env} (h : isTup x = false) : swappedStores ts x env = pure none := by
  cases ts with
  | nil => cases x <;> rfl
  | cons t r => cases r with
    | nil => cases t <;> cases x <;> first | rfl | cases h
    | cons _ _ => cases t <;> cases x <;> first | rfl | cases h
/-! ### x = e -/
theorem ss_set {i : Nat} {e : EV.E} {y : Str} {p pos : Pos} {x : Expr} (z : XZ X g md lv sc N st E) (mo : ModOk g md) (F : ClOk g md cl lv) (h1 : stB N sc st i y = true) (h2 : (isLC x || noC x) = true) (h3 : chkE md N e sc st x = true) :
    PS X (.Assign [.Name y p] x pos) (tS g fr E T0 H0 (evS md cl fr (.set m i e))) := by
  obtain ⟨k1, k2, k3⟩ := z.loc h1
  have se := se_all mo F e z.xc z.tk h3
  have fin : ∀ {te : TE}, (∀ σ H Q, tE g (WK E) (frE md e) (evE md cl e) σ H Q → te σ H Q) → ∀ D σ H, tS g fr E T0 H0 (evS md cl fr (.set m i e)) D σ H → tAsg te (gName i) D σ H := fun hte D σ H ⟨T, ρ, t, f, q⟩ => by
    unfold evS at q
    refine hte _ _ _ (tS_E f q fun d t1 v H1 p q1 => ?_)
    obtain ⟨T1, f1, sto, _⟩ := f.val p
    exact q1 _ _ _ (f1.set sto)
  by_cases hx : noC x = true
  · exact PS.weak (ps_set z.xc.nd k1 k2 se.pe (noC_sw hx) k3) (fin fun _ _ _ q => q)
  · cases x with
    | ListComp elt gens scope lpos =>
      have hsw : ∃ b, swapsWith (.ListComp elt gens scope lpos) (some (.Name y p)) pos.line X.env = pure b ∧ (b = true → X.env.scope.names.lookup y = some .local) := by
        refine ⟨_, rfl, fun hb => ?_⟩
        simp only [Bool.and_eq_true, beq_iff_eq] at hb
        exact hb.1.1.2
      cases e with
      | lc own tg k es cs elt' =>
        have h30 := h3
        unfold chkE at h3
        split at h3 <;> first | (cases h3; done) | skip
        rename_i heq
        cases heq
        have lp := lcp_all mo F own tg k es cs elt' z.xc z.tk h30
        obtain ⟨b, hb1, hb2⟩ := hsw
        cases b with
        | false => exact PS.weak (ps_set z.xc.nd k1 k2 se.pe hb1 k3) (fin fun _ _ _ q => q)
        | true =>
          have hown : (ownOf N own).map (·.2) = own := by unfold ownOf; rw [List.map_map]; exact List.map_id _
          refine PS.weak (ps_setLc z.xc.xg.calm z.xc.nd k1 (hb2 rfl) hb1 lp.hi lp.ok lp.hg lp.ht lp.he lp.hs) (fin fun σ H Q q => ?_)
          rw [hown]
          exact lc_t lp.hsl q
      | o1 o a => cases o with
        | isb b k => cases k <;> (unfold chkE at h3; cases h3)
        | _ => unfold chkE at h3; cases h3
      | o2 o a b => cases o <;> (unfold chkE at h3; cases h3)
      | _ => unfold chkE at h3; cases h3
    | _ => first | exact absurd rfl hx | (simp [isLC, noC] at h2; done)
end
end EV

set_option Elab.async false
set_option linter.all false
set_option maxRecDepth 100000
set_option maxHeartbeats 4000000
/-! EvQ: more statements. -/
namespace EV
open PySem PySem.Spec PyProof.Rows L2
section
variable {g : Gs} {md : Md} {cl : Cl} {lv : Nat} {X : Cx} {sc : Scope} {N : List Str} {st : Str → Bool} {E : XK} {fr : Bool} {T0 H0 T H : Hp} {t : Tape} {ρ : Rho} {σ : L2.St} {m : List Nat} {D : Ends}
theorem noC_sole {x tg : Expr} {l : Nat} {env : Env} (h : noC x = true) : swapsWithSole [tg] x l env = pure false := by
  cases x <;> first | rfl | cases h
/-! ### shared stores -/
theorem FR.sets : ∀ {is : List Nat} {ds : List EV.D} {vs : List V} {ρ ρ2 : Rho} {σ : L2.St}, FR g T0 H0 T H t ρ σ → setAllR is ds ρ = some ρ2 → RepL g T ds vs → FR g T0 H0 T H t ρ2 (setsV is vs σ)
  | [], [], vs, ρ, ρ2, σ, f, e, r => by cases e; rw [show vs = [] from r]; exact f
  | i :: is, d :: ds, vs, ρ, ρ2, σ, f, e, r => by
    obtain ⟨v, vs', rfl, h1, h2⟩ := r
    unfold setAllR at e
    exact FR.sets (is := is) (f.set (fr := false) (i := i) (d := d) (v := v) h1) e h2
  | [], _ :: _, _, _, _, _, _, e, _ => by cases e
  | _ :: _, [], _, _, _, _, _, e, _ => by cases e
theorem tgR_v {tg : Tg} {d : EV.D} {ρ ρ2 : Rho} (h : tgR tg d ρ = some ρ2) : ∃ ds, tgV tg d = some ds ∧ setAllR (tgSlots tg) ds ρ = some ρ2 := by
  unfold tgR at h
  split at h
  · rename_i ds e; exact ⟨ds, e, h⟩
  · cases h
theorem FR.ar (f : FR g T0 H0 T H t ρ σ) : Ar g T H t := f.gn.arr
/-- a target takes a value that is seen -/
theorem tG_of {tg : Tg} {d : EV.D} {v : V} {ρ2 : Rho} {Q : L2.St → Hp → Prop} (f : FR g T0 H0 T H t ρ σ) (r : Rep g T d v) (h : tgR tg d ρ = some ρ2) (q : ∀ σ', FR g T0 H0 T H t ρ2 σ' → Q σ' H) : tG g tg v σ H Q := by
  obtain ⟨ds, e1, e2⟩ := tgR_v h
  exact ⟨T, t, d, ds, f.ar, r, e1, fun vs rv => q _ (f.sets e2 rv)⟩
theorem ss_tgt {tg : Tg} {e : EV.E} {ts : List Expr} {kk : Nat} {p pos : Pos} {x : Expr} (z : XZ X g md lv sc N st E) (mo : ModOk g md) (F : ClOk g md cl lv) (h1 : chkTg sc st N tg (.Tuple ts kk p) = true) (h2 : noC x = true) (h2' : isTup x = false) (h3 : chkE md N e sc st x = true) :
    PS X (.Assign [.Tuple ts kk p] x pos) (tS g fr E T0 H0 (evS md cl fr (.tgt m tg e))) := by
  have se := se_all mo F e z.xc z.tk h3
  refine PS.weak (ps_asg (PE.of se.pe) (sg_ok z.xc h1) (noC_sole h2) (noT_sw h2') rfl) fun D σ H ⟨T, ρ, t, f, q⟩ => ?_
  unfold evS at q
  refine tS_E f q fun d t1 v H1 p q1 => ?_
  obtain ⟨T1, f1, sto, _⟩ := f.val p
  cases hr : tgR tg d (aft false m d ρ) with
  | none => rw [hr] at q1; exact q1.elim
  | some ρ1 =>
    rw [hr] at q1
    exact tG_of f1 sto hr fun σ' f2 => q1 _ _ _ f2
/-! ### an owned list is written -/
theorem FR.put {i : Nat} {xs ys : List EV.D} {us : List V} {a : Addr} (f : FR g T0 H0 T H t ρ σ) (e : nth ρ i = some (some (.lst xs, true))) (s : σ[i]? = some (some (.ref a))) (r : RepL g T ys us) : FR g T0 H0 T (upd H a (.lst us)) t (ρ.set i (some (.lst ys, true))) σ := by
  obtain ⟨b, s2, w⟩ := f.ow i _ e
  rw [s] at s2; cases s2
  obtain ⟨vs, hH, _⟩ := w.cell
  have hi : i < ρ.length := by
    rw [nth_eq] at e
    exact (List.getElem?_eq_some_iff.mp e).1
  have old : ∀ j x, j ≠ i → nth (ρ.set i (some (.lst ys, true))) j = some (some x) → nth ρ j = some (some x) := fun j x hj k => by
    rw [nth_set, if_neg (fun q => hj q.1.symm)] at k; exact k
  refine ⟨⟨f.gn.sub, fun b o k => ?_, f.gn.vok, f.gn.new, fun b o k p n => ?_, f.gn.sok.put hH w.nt⟩, fun j d k => ?_, fun j d k => ?_, fun j l d e2 b hjl k1 k2 => ?_, by rw [List.length_set]; exact f.len⟩
  · rw [upd_ne (ne_of_none k w.out)]; exact f.gn.in_ b o k
  · by_cases hb : b = a
    · subst hb
      have := w.npl n o k
      rw [p] at this; cases this
    · rw [upd_ne hb]; exact f.gn.ext b o k p n
  · by_cases hj : j = i
    · subst hj
      rw [nth_set, if_pos ⟨rfl, hi⟩] at k; cases k
    · exact f.sh j d (old j _ hj k)
  · by_cases hj : j = i
    · subst hj
      rw [nth_set, if_pos ⟨rfl, hi⟩] at k; cases k
      exact ⟨a, s, w.out, w.npl, w.nt, us, upd_same, r⟩
    · have k2 := old j _ hj k
      obtain ⟨b, sb, wb⟩ := f.ow j d k2
      have hn : b ≠ a := fun q => by subst q; exact f.ds j i d _ b hj k2 e sb s
      exact ⟨b, sb, wb.out, wb.npl, wb.nt, wb.cell.mono (Sub.refl _) fun o ho => by rw [upd_ne hn]; exact ho⟩
  · have q1 : ∃ d', nth ρ j = some (some (d', true)) := by
      by_cases hj : j = i
      · subst hj; exact ⟨_, e⟩
      · exact ⟨_, old j _ hj k1⟩
    have q2 : ∃ d', nth ρ l = some (some (d', true)) := by
      by_cases hj : l = i
      · subst hj; exact ⟨_, e⟩
      · exact ⟨_, old l _ hj k2⟩
    obtain ⟨d', q1⟩ := q1
    obtain ⟨d2, q2⟩ := q2
    exact f.ds j l d' d2 b hjl q1 q2
theorem FR.lst {i : Nat} {xs : List EV.D} {a : Addr} (f : FR g T0 H0 T H t ρ σ) (e : nth ρ i = some (some (.lst xs, true))) (s : σ[i]? = some (some (.ref a))) : ∃ vs, H a = some (.lst vs) ∧ RepL g T xs vs := by
  obtain ⟨b, s2, w⟩ := f.ow i _ e
  rw [s] at s2; cases s2
  exact w.cell
theorem var_pe (z : XZ X g md lv sc N st E) {i : Nat} {y : Str} {p : Pos} (h1 : N[i]? = some y) (h2 : vis sc y = true) (h3 : plainName y = true) : PE X (.Name y p) (tVar i) :=
  pe_var (i := i) (by rw [z.xc.N]; exact h1) (vis_of z.xc h2) (plain_d h3).1 (plain_d h3).2.1
theorem ss_app {i : Nat} {e : EV.E} {y n : Str} {p ap cp pos : Pos} {x : Expr} (z : XZ X g md lv sc N st E) (mo : ModOk g md) (F : ClOk g md cl lv) (hn : n = "append") (hl : (ap.endLine == cp.line) = true) (h1 : N[i]? = some y) (h2 : vis sc y = true) (h3 : plainName y = true) (hx : okE x = true) (h4 : chkE md N e sc st x = true) :
    PS X (.Expr (.Call (.Attribute (.Name y p) n ap) [x] [] cp) pos) (tS g fr E T0 H0 (evS md cl fr (.app m i e))) := by
  have se := se_all mo F e z.xc z.tk h4
  subst hn
  have hfew := few_ok (pos := cp) (env := X.env) (e := x) (es := []) (by simp [hx]) (by simp)
  refine PS.weak (ps_expr (pe_bm PySem.F.plainAttrs_list PySem.F.slot_list_append PySem.F.type_list_append mt_append (var_pe z h1 h2 h3) (pa_cons (PE.of se.pe) pa_nil (star_ok hx)) rfl hfew hl (star_ok hx) rfl) rfl) fun D σ H ⟨T, ρ, t, f, q⟩ => ?_
  unfold evS at q
  rcases e0 : nth ρ i with _ | (_ | ⟨d0, b0⟩)
  · rw [e0] at q; exact q.elim
  · rw [e0] at q; exact q.elim
  · rw [e0] at q
    cases b0 with
    | false => cases d0 <;> exact q.elim
    | true =>
      cases d0 with
      | lst ds0 =>
        obtain ⟨a, s, w⟩ := f.ow i _ e0
        obtain ⟨vs0, hH, _⟩ := w.cell
        refine ⟨_, s, .inl ⟨rfl, vs0, SqL.of hH⟩, ?_⟩
        refine tS_E f q fun d t1 v H1 p q1 => ?_
        obtain ⟨T1, f1, sto, _⟩ := f.val p
        have sto : Rep g T1 d v := sto
        rcases e1 : nth (aft false m d ρ) i with _ | (_ | ⟨d1, b1⟩)
        · rw [e1] at q1; exact q1.elim
        · rw [e1] at q1; exact q1.elim
        · rw [e1] at q1
          cases b1 with
          | false => cases d1 <;> exact q1.elim
          | true =>
            cases d1 with
            | lst xs =>
              have q1 : GoodS g fr E T0 H0 ((if xs.length < 1000000 then ret (.nx, (aft false m d ρ).set i (some (.lst (xs ++ [d]), true))) else bad : M Out) t1) D := q1
              by_cases hlen : xs.length < 1000000
              · rw [if_pos hlen] at q1
                obtain ⟨vs1, hH1, r1⟩ := f1.lst e1 s
                refine ⟨a, vs1, v, rfl, rfl, hH1, ?_, ?_⟩
                · rw [sz, r1.length]; exact Nat.lt_of_lt_of_le hlen (by decide)
                · exact q1 _ _ _ (f1.put e1 s (RepL.append r1 ⟨v, [], rfl, sto, rfl⟩))
              · rw [if_neg hlen] at q1; exact q1.elim
            | _ => exact q1.elim
      | _ => exact q.elim
theorem sub_assign {y : Str} {p pos : Pos} {zx : Expr} {env : Env} (h : okE zx = true) : ∀ v, assign (.Subscript (.Name y p) zx pos) env v = (do
      let ov ← holding [v] (eval (.Name y p) env)
      let iv ← holding [v, ov] (eval zx env)
      standAt pos
      holding [v, ov, iv] (setItem ov iv v)
      release [v, ov, iv] []) := by
  intro v
  cases zx <;> first | rfl | cases h
theorem ss_put {i : Nat} {ei e : EV.E} {y : Str} {p sp pos : Pos} {zx x : Expr} (z : XZ X g md lv sc N st E) (mo : ModOk g md) (F : ClOk g md cl lv) (h1 : N[i]? = some y) (h2 : vis sc y = true) (h3 : plainName y = true) (hz : okE zx = true) (hc : noC x = true) (h4 : chkE md N ei sc st zx = true) (h5 : chkE md N e sc st x = true) :
    PS X (.Assign [.Subscript (.Name y p) zx sp] x pos) (tS g fr E T0 H0 (evS md cl fr (.put m i ei e))) := by
  have se := se_all mo F e z.xc z.tk h5
  have si := se_all mo F ei z.xc z.tk h4
  have hsw : swappedStores [.Subscript (.Name y p) zx sp] x X.env = pure none := by cases x <;> rfl
  refine PS.weak (ps_asg (PE.of se.pe) (pg_sub (var_pe z h1 h2 h3) (PE.of si.pe) set_list (sub_assign hz)) (noC_sole hc) hsw rfl) fun D σ H ⟨T, ρ, t, f, q⟩ => ?_
  unfold evS at q
  refine tS_E f q fun d t1 v H1 p q1 => ?_
  obtain ⟨T1, f1, sto, _⟩ := f.val p
  have sto : Rep g T1 d v := sto
  rcases e1 : nth (aft false m d ρ) i with _ | (_ | ⟨d1, b1⟩)
  · rw [e1] at q1; exact q1.elim
  · rw [e1] at q1; exact q1.elim
  · rw [e1] at q1
    cases b1 with
    | false => cases d1 <;> exact q1.elim
    | true =>
      cases d1 with
      | lst xs =>
        have q1 : GoodS g fr E T0 H0 (bnd (evE md cl ei (vw m (aft false m d ρ))) (fun x => match x, some (some (EV.D.lst xs, true)) with
          | .int k, some (some (.lst xs, true)) => match ixN xs.length k with
            | some j => ret (.nx, (aft false m d ρ).set i (some (.lst (xs.set j d), true)))
            | none => bad
          | _, _ => bad) t1) D := q1
        obtain ⟨a, s, w⟩ := f1.ow i _ e1
        refine ⟨_, s, ?_⟩
        refine tS_E f1 q1 fun x t2 u H2 p2 q2 => ?_
        obtain ⟨T2, f2, sto2, sb2⟩ := f1.val p2
        cases x with
        | int k =>
          have ea : aft false m (.int k) (aft false m d ρ) = aft false m d ρ := by unfold aft immR EV.imm; rfl
          rw [ea] at f2
          have sto2 : u = .int k := sto2
          subst sto2
          have q2 : GoodS g fr E T0 H0 ((match ixN xs.length k with
            | some j => ret (.nx, (aft false m d ρ).set i (some (.lst (xs.set j d), true)))
            | none => bad : M Out) t2) D := q2
          cases hj : ixN xs.length k with
          | none => rw [hj] at q2; exact q2.elim
          | some j =>
            rw [hj] at q2
            obtain ⟨vs2, hH2, r2⟩ := f2.lst e1 s
            refine ⟨a, vs2, k, j, rfl, rfl, hH2, by rw [r2.length]; exact hj, ?_⟩
            exact q2 _ _ _ (f2.put e1 s (RepL.set (sto.mono sb2 _ _) j r2))
        | _ => exact q2.elim
      | _ => exact q1.elim
/-! ### x op= e -/
def iR (g : Gs) (o : O2) : TIp := fun x y H Q => ∃ T t d1 d2 d, Ar g T H t ∧ Rep g T d1 x ∧ Rep g T d2 y ∧ iD o d1 d2 = some d ∧ ∀ v, (∀ T2, Rep g T2 d v) → Q v H
theorem io_ok (xg : XG X g) {o : O2} {op : Operator} (h : ioOf o = some op) : PIp X op (iR g o) := by
  unfold ioOf at h
  split at h <;> first | (cases h; done) | skip
  · cases h
    intro pins s σ H x y v u Q I rx ry ⟨T, t, d1, d2, d, ar, r1, r2, e, q⟩
    cases d1 <;> cases d2 <;> first | (cases e; done) | skip
    · cases e
      exact iop_add pins s σ H x y v u Q I rx ry ⟨_, _, r1, r2, q _ fun _ => rfl⟩
    · unfold iD at e
      dsimp only at e
      split at e
      · rename_i hl
        cases e
        refine iop_add_str pins s σ H x y v u Q I rx ry ⟨_, _, r1, r2, ?_, ?_⟩
        · show (S _).length + (S _).length ≤ _
          rw [S_len, S_len, sz]; exact Nat.le_trans hl (by decide)
        · show Q (.str (S _ ++ S _)) H
          rw [S_app]; exact q _ fun _ => rfl
      · cases e
  · cases h
    intro pins s σ H x y v u Q I rx ry ⟨T, t, d1, d2, d, ar, r1, r2, e, q⟩
    cases d1 <;> cases d2 <;> first | (cases e; done) | skip
    cases e
    exact iop_sub pins s σ H x y v u Q I rx ry ⟨_, _, r1, r2, q _ fun _ => rfl⟩
  · cases h
    intro pins s σ H x y v u Q I rx ry ⟨T, t, d1, d2, d, ar, r1, r2, e, q⟩
    cases d1 <;> cases d2 <;> first | (cases e; done) | skip
    unfold iD at e
    dsimp only at e
    split at e
    · rename_i hm
      cases e
      exact iop_mul pins s σ H x y v u Q I rx ry ⟨_, _, r1, r2, CMulB.ok hm, q _ fun _ => rfl⟩
    · cases e
  · cases h
    intro pins s σ H x y v u Q I rx ry ⟨T, t, d1, d2, d, ar, r1, r2, e, q⟩
    cases d1 <;> cases d2 <;> first | (cases e; done) | skip
    cases e
    exact iop_or pins s σ H x y v u Q I rx ry ⟨_, _, r1, r2, q _ fun _ => rfl⟩
  · cases h
    intro pins s σ H x y v u Q I rx ry ⟨T, t, d1, d2, d, ar, r1, r2, e, q⟩
    cases d1 <;> cases d2 <;> first | (cases e; done) | skip
    unfold iD at e
    dsimp only at e
    split at e
    · rename_i hm
      cases e
      exact iop_fdiv pins s σ H x y v u Q I rx ry ⟨_, _, r1, r2, hm, q _ fun _ => rfl⟩
    · cases e
  · cases h
    intro pins s σ H x y v u Q I rx ry ⟨T, t, d1, d2, d, ar, r1, r2, e, q⟩
    cases d1 <;> cases d2 <;> first | (cases e; done) | skip
    unfold iD at e
    dsimp only at e
    split at e
    · rename_i hm
      cases e
      exact iop_mod pins s σ H x y v u Q I rx ry ⟨_, _, r1, r2, hm, q _ fun _ => rfl⟩
    · cases e
theorem ss_aug {o : O2} {op : Operator} {i : Nat} {e : EV.E} {y : Str} {p pos : Pos} {x : Expr} (z : XZ X g md lv sc N st E) (mo : ModOk g md) (F : ClOk g md cl lv) (ho : ioOf o = some op) (h1 : stB N sc st i y = true) (h4 : chkE md N e sc st x = true) :
    PS X (.AugAssign (.Name y p) op x pos) (tS g fr E T0 H0 (evS md cl fr (.aug m o i e))) := by
  obtain ⟨k1, k2, k3⟩ := z.loc h1
  have se := se_all mo F e z.xc z.tk h4
  refine PS.weak (ps_aug z.xc.nd k1 k2 (PE.of se.pe) (io_ok z.xc.xg ho) k3) fun D σ H ⟨T, ρ, t, f, q⟩ => ?_
  unfold evS at q
  rcases e0 : nth ρ i with _ | (_ | ⟨x0, b0⟩)
  · rw [e0] at q; exact q.elim
  · rw [e0] at q; exact q.elim
  · rw [e0] at q
    cases b0 with
    | true => exact q.elim
    | false =>
      obtain ⟨v0, s0, r0⟩ := f.sh i _ e0
      refine ⟨v0, s0, ?_⟩
      refine tS_E f q fun d t1 v H1 p q1 => ?_
      obtain ⟨T1, f1, sto, sb⟩ := f.val p
      cases hr : iD o x0 d with
      | none => rw [hr] at q1; exact q1.elim
      | some r =>
        rw [hr] at q1
        refine ⟨T1, t1, x0, d, r, f1.ar, r0.mono sb _ _, sto, hr, fun w rw => ?_⟩
        exact q1 _ _ _ (f1.set (fr := false) (i := i) (d := r) (v := w) (rw T1))
/-! ### l.pop() -/
theorem RepL.dropLast {T : Hp} : ∀ {ds : List EV.D} {vs : List V}, RepL g T ds vs → RepL g T ds.dropLast vs.dropLast
  | [], vs, h => by rw [show vs = [] from h]; exact (rfl : _ = _)
  | [d], vs, h => by
    obtain ⟨v, r, e, h1, h2⟩ := h
    rw [e, show r = [] from h2]; exact (rfl : _ = _)
  | d :: d2 :: ds, vs, h => by
    obtain ⟨v, r, e, h1, h2⟩ := h
    have h2' := h2
    obtain ⟨v2, r2, e2, _⟩ := h2
    subst e
    have ih := RepL.dropLast h2'
    rw [e2] at ih ⊢
    exact ⟨v, _, rfl, h1, ih⟩
theorem ss_pop {i : Nat} {y n : Str} {p ap cp pos : Pos} (z : XZ X g md lv sc N st E) (hn : n = "pop") (hl : (ap.endLine == cp.line) = true) (h1 : N[i]? = some y) (h2 : vis sc y = true) (h3 : plainName y = true) :
    PS X (.Expr (.Call (.Attribute (.Name y p) n ap) [] [] cp) pos) (tS g fr E T0 H0 (evS md cl fr (.pop i))) := by
  subst hn
  refine PS.weak (ps_expr (pe_bm0 PySem.F.plainAttrs_list PySem.F.slot_list_pop PySem.F.type_list_pop mt_pop (var_pe z h1 h2 h3) rfl hl) rfl) fun D σ H ⟨T, ρ, t, f, q⟩ => ?_
  unfold evS at q
  rcases e0 : nth ρ i with _ | (_ | ⟨d0, b0⟩)
  · rw [e0] at q; exact q.elim
  · rw [e0] at q; exact q.elim
  · rw [e0] at q
    cases b0 with
    | false => cases d0 with
      | lst ds => cases ds <;> exact q.elim
      | _ => exact q.elim
    | true =>
      cases d0 with
      | lst ds0 => cases ds0 with
        | nil => exact q.elim
        | cons x xs =>
          obtain ⟨a, s, w⟩ := f.ow i _ e0
          obtain ⟨vs0, hH, r0⟩ := w.cell
          refine ⟨_, s, .inl ⟨rfl, vs0, SqL.of hH⟩, ?_⟩
          have hl := r0.length
          have hlt : vs0.length - 1 < vs0.length := by rw [hl]; simp
          refine ⟨a, vs0, vs0[vs0.length - 1]'hlt, rfl, rfl, hH, List.getElem?_eq_getElem hlt, ?_⟩
          exact q _ _ _ (f.put e0 s (RepL.dropLast r0))
      | _ => exact q.elim
/-! ### x[i] op= e -/
theorem get_list (K : PySem.W.Frag) (hK : X.K = K) : PGet X (fun o i H Q => ∃ (p : Addr) (xs : List V) (k : Int) (z : V), o = .ref p ∧ i = .int k ∧ SqL X.K H p xs ∧ atI xs k = some z ∧ Q z H) := by
  intro pins s σ H o i ov iv Q I rx ry h
  obtain ⟨p, xs, k, z, rfl, rfl, hq, he, q⟩ := h
  cases rx
  obtain ⟨t, rfl⟩ := ry
  obtain ⟨its, r, pl, hz⟩ := I.list hq
  obtain ⟨j, h1, h2, h3, h4, h5⟩ := atI_get he
  obtain ⟨w, ew, rw'⟩ := r.get h2
  have hl := r.length
  have hn := line63
  have fin : EP X pins σ Q w s := ⟨z, H, I, rw', q⟩
  by_cases h0 : 0 ≤ k
  · have hj : k.toNat = j := by
      rw [seqIndex_of h0 h5] at h1
      exact Option.some.inj h1
    exact wpAny_getItem_list pl.isList h0 (by omega) (by rw [hj]; simpa using ew) fin
  · have hj : (k + (its.toArray.size : Int)).toNat = j := by
      rw [seqIndex_neg (by omega) h4] at h1
      rw [List.size_toArray, ← hl]
      exact Option.some.inj h1
    exact wpAny_getItem_list_neg pl.isList (by omega) (by rw [List.size_toArray] <;> omega) (by omega) (by rw [hj]; simpa using ew) fin
theorem aug_sub {y : Str} {p : Pos} {zx : Expr} (h : okE zx = true) : ∀ ov iv new, augStore zx ov iv new = (do holding [new, ov, iv] (setItem ov iv new); release [new, ov, iv] []; pure .next) := by
  intro ov iv new
  cases zx <;> first | rfl | cases h
theorem ixN_lt {n : Nat} {k : Int} {j : Nat} (h : ixN n k = some j) : j < n := (ixN_seq h).2.1
theorem ss_pix {o : O2} {op : Operator} {i : Nat} {ei e : EV.E} {y : Str} {p sp pos : Pos} {zx x : Expr} (z : XZ X g md lv sc N st E) (mo : ModOk g md) (F : ClOk g md cl lv) (ho : ioOf o = some op) (h1 : N[i]? = some y) (h2 : vis sc y = true) (h3 : plainName y = true) (hz : okE zx = true) (h4 : chkE md N ei sc st zx = true) (h5 : chkE md N e sc st x = true) :
    PS X (.AugAssign (.Subscript (.Name y p) zx sp) op x pos) (tS g fr E T0 H0 (evS md cl fr (.pix m o i ei e))) := by
  have se := se_all mo F e z.xc z.tk h5
  have si := se_all mo F ei z.xc z.tk h4
  refine PS.weak (ps_augS (var_pe z h1 h2 h3) (PE.of si.pe) (get_list _ rfl) (PE.of se.pe) (io_ok z.xc.xg ho) set_list (aug_sub (y := y) (p := p) hz)) fun D σ H ⟨T, ρ, t, f, q⟩ => ?_
  unfold evS at q
  rcases e0 : nth ρ i with _ | (_ | ⟨d0, b0⟩)
  · rw [e0] at q; exact q.elim
  · rw [e0] at q; exact q.elim
  · rw [e0] at q
    cases b0 with
    | false => cases d0 <;> exact q.elim
    | true =>
      cases d0 with
      | lst xs =>
        obtain ⟨a, s, w⟩ := f.ow i _ e0
        refine ⟨_, s, ?_⟩
        refine tS_E f q fun x t1 u H1 p1 q1 => ?_
        cases x with
        | int k =>
          obtain ⟨T1, f1, sto1, sb1⟩ := f.val p1
          have ea : aft false m (.int k) ρ = ρ := by unfold aft immR EV.imm; rfl
          rw [ea] at f1
          have sto1 : u = .int k := sto1
          subst sto1
          have q1 : GoodS g fr E T0 H0 ((match ixN xs.length k with
            | some j => match nth xs j with
              | some old => bnd (evE md cl e (vw m ρ)) fun d => match iD o old d with
                | some r => match nth (aft false m d ρ) i with
                  | some (some (.lst ys, true)) => if ys.length = xs.length then ret (.nx, (aft false m d ρ).set i (some (.lst (ys.set j r), true))) else bad
                  | _ => bad
                | none => bad
              | none => bad
            | none => bad : M Out) t1) D := q1
          cases hj : ixN xs.length k with
          | none => rw [hj] at q1; exact q1.elim
          | some j =>
            simp only [hj] at q1
            cases ho' : nth xs j with
            | none => simp only [ho'] at q1; exact q1.elim
            | some old =>
              simp only [ho'] at q1
              obtain ⟨vs1, hH1, r1⟩ := f1.lst e0 s
              have hjx : xs[j]? = some old := by rw [← nth_eq]; exact ho'
              obtain ⟨v0, hv0, rv0⟩ := r1.get hjx
              have hat : atI vs1 k = some v0 := by
                unfold atI
                rw [r1.length, hj]
                exact hv0
              refine ⟨a, vs1, k, v0, rfl, rfl, SqL.of hH1, hat, ?_⟩
              have q1 : GoodS g fr E T0 H0 (bnd (evE md cl e (vw m ρ)) (fun d => match iD o old d with
                | some r => match nth (aft false m d ρ) i with
                  | some (some (.lst ys, true)) => if ys.length = xs.length then ret (.nx, (aft false m d ρ).set i (some (.lst (ys.set j r), true))) else bad
                  | _ => bad
                | none => bad) t1) D := q1
              refine tS_E f1 q1 fun d t2 v H2 p2 q2 => ?_
              obtain ⟨T2, f2, sto2, sb2⟩ := f1.val p2
              have sto2 : Rep g T2 d v := sto2
              cases hr : iD o old d with
              | none => rw [hr] at q2; exact q2.elim
              | some r =>
                rw [hr] at q2
                refine ⟨T2, t2, old, d, r, f2.ar, rv0.mono sb2 _ _, sto2, hr, fun w' rw' => ?_⟩
                rcases e2 : nth (aft false m d ρ) i with _ | (_ | ⟨d2, b2⟩)
                · rw [e2] at q2; exact q2.elim
                · rw [e2] at q2; exact q2.elim
                · rw [e2] at q2
                  cases b2 with
                  | false => cases d2 <;> exact q2.elim
                  | true =>
                    cases d2 with
                    | lst ys =>
                      have q2 : GoodS g fr E T0 H0 ((if ys.length = xs.length then ret (.nx, (aft false m d ρ).set i (some (.lst (ys.set j r), true))) else bad : M Out) t2) D := q2
                      by_cases hlen : ys.length = xs.length
                      · rw [if_pos hlen] at q2
                        obtain ⟨vs2, hH2, r2⟩ := f2.lst e2 s
                        refine ⟨a, vs2, k, j, rfl, rfl, hH2, by rw [r2.length, hlen]; exact hj, ?_⟩
                        exact q2 _ _ _ (f2.put e2 s (RepL.set (rw' T2) j r2))
                      · rw [if_neg hlen] at q2; exact q2.elim
                    | _ => exact q2.elim
        | _ => exact q1.elim
      | _ => exact q.elim
end
end EV

set_option Elab.async false
set_option linter.all false
set_option maxRecDepth 100000
set_option maxHeartbeats 4000000
/-! EvR: a, b = x, y. -/
namespace EV
open PySem PySem.Spec PyProof.Rows L2
section
variable {g : Gs} {md : Md} {cl : Cl} {lv : Nat} {X : Cx} {sc : Scope} {N : List Str} {st : Str → Bool} {E : XK} {fr : Bool} {T0 H0 T H : Hp} {t : Tape} {ρ : Rho} {σ : L2.St} {m : List Nat} {D : Ends} {W : WX}
def StL (g : Gs) (H T' H' : Hp) : List Bool → List EV.D → List V → Prop
  | [], [], vs => vs = []
  | f :: fs, d :: ds, vs => ∃ v r, vs = v :: r ∧ Stands g f H T' H' d v ∧ ((f && isCell d) = true → ∀ w ∈ r, w ≠ v) ∧ StL g H T' H' fs ds r
  | _, _, _ => False
def tAF (g : Gs) (W : WX) (fs : List Bool) (ev : EvL) : TA := fun σ H Q => ∃ T ρ t, At g T H t ρ σ ∧ match ev ρ t with
  | .ok ds t' => ∀ vs T' H', Gone g T H t' T' H' → StL g H T' H' fs ds vs → Q vs H'
  | .exc c t' => Exc g W H σ c t'
  | .bad => False
theorem rep_out {T : Hp} {a : Addr} (h : T a = none) (nt : ∀ x c, g.tp = some (x, c) → a ≠ x ∧ a ≠ c) : ∀ {d : EV.D}, ¬ Rep g T d (.ref a) := fun {d} r => by
  cases d with
  | non => cases r
  | bl _ => cases r
  | int _ => cases r
  | str _ => cases r
  | tup _ => obtain ⟨b, vs, e, k, _⟩ := r; cases e; rw [h] at k; cases k
  | lst _ => obtain ⟨b, vs, e, k, _⟩ := r; cases e; rw [h] at k; cases k
  | dic _ _ _ =>
    obtain ⟨b, vs, e, _, k⟩ := r; cases e
    rcases k with ⟨_, kvs, k, _⟩ | ⟨_, kvs, k, _⟩ <;> (rw [h] at k; cases k)
  | rng _ _ => obtain ⟨b, e, k⟩ := r; cases e; rw [h] at k; cases k
  | tape => obtain ⟨b, c, e, k⟩ := r; cases k; exact (nt _ _ e).1 rfl
theorem Stands.mono {f : Bool} {T1 H1 T2 H2 : Hp} {t : Tape} {d : EV.D} {v : V} (gn : Gone g T1 H1 t T2 H2) (s : Stands g f H T1 H1 d v) : Stands g f H T2 H2 d v := by
  unfold Stands at s ⊢
  cases hc : f && isCell d with
  | true =>
    rw [hc] at s
    obtain ⟨a, e, n, np, nt, c⟩ := s
    obtain ⟨o, ho, p, _⟩ := cell_plain c
    obtain ⟨k1, k2⟩ := gn.keep ho p n (fun c' e' => (nt a c' e').1 rfl)
    refine ⟨a, e, k2, np, nt, c.mono gn.sub fun u hu => ?_⟩
    rw [ho] at hu; cases hu; exact k1
  | false => rw [hc] at s; exact s.mono gn.sub _ _
theorem Stands.back {f : Bool} {H1 T2 H2 : Hp} {d : EV.D} {v : V} (e : Ext g H H1) (s : Stands g f H1 T2 H2 d v) : Stands g f H T2 H2 d v := by
  unfold Stands at s ⊢
  cases hc : f && isCell d with
  | true =>
    rw [hc] at s
    obtain ⟨a, q, n, np, nt, c⟩ := s
    exact ⟨a, q, n, e.npl np, nt, c⟩
  | false => rw [hc] at s; exact s
theorem StL.back {H1 T2 H2 : Hp} (e : Ext g H H1) : ∀ {fs : List Bool} {ds : List EV.D} {vs : List V}, StL g H1 T2 H2 fs ds vs → StL g H T2 H2 fs ds vs
  | [], [], _, h => h
  | f :: fs, d :: ds, _, ⟨v, r, q, s, n, k⟩ => ⟨v, r, q, s.back e, n, StL.back e k⟩
  | [], _ :: _, _, h => h.elim
  | _ :: _, [], _, h => h.elim
theorem StL.ne {H1 T2 H2 : Hp} {a : Addr} {o : HO} (ho : H1 a = some o) (p : EV.plain o = true) (n : T2 a = none) (nt : ∀ x c, g.tp = some (x, c) → a ≠ x ∧ a ≠ c) : ∀ {fs : List Bool} {ds : List EV.D} {vs : List V}, StL g H1 T2 H2 fs ds vs → ∀ w ∈ vs, w ≠ .ref a
  | [], [], _, h, w, hw => by rw [show _ = [] from h] at hw; cases hw
  | f :: fs, d :: ds, _, ⟨v, r, q, s, _, k⟩, w, hw => by
    rw [q] at hw
    rcases List.mem_cons.mp hw with e | e
    · subst e
      intro e2
      subst e2
      unfold Stands at s
      cases hc : f && isCell d with
      | true =>
        rw [hc] at s
        obtain ⟨b, e3, _, np, _, _⟩ := s
        cases e3
        have := np (fun c e' => (nt a c e').1 rfl) o ho
        rw [p] at this; cases this
      | false => rw [hc] at s; exact rep_out n nt s
    · exact StL.ne ho p n nt k w e
  | [], _ :: _, _, h, _, _ => h.elim
  | _ :: _, [], _, h, _, _ => h.elim
theorem sl_paF : ∀ {es : List EV.E} {xs : List Expr}, SL X g md cl W es xs → PA X xs (tAF g W (es.map (frE md)) (evL md cl es))
  | _, _, .nil => PA.weak pa_nil fun σ H Q ⟨T, ρ, t, a, q⟩ => by
    unfold evL at q
    exact q [] T H a.refl rfl
  | _, _, .cons (e := e) (es := es) h s r => PA.weak (pa_cons s.pe (sl_paF r) (star_ok h)) fun σ H Q ⟨T, ρ, t, a, q⟩ => by
    unfold evL at q
    refine ⟨T, ρ, t, a, ?_⟩
    unfold Good
    unfold bnd at q
    cases ee : evE md cl e ρ t with
    | exc c t' => rw [ee] at q; exact q
    | bad => rw [ee] at q; exact q
    | ok d t1 =>
      rw [ee] at q
      intro v H1 ⟨T1, gn1, sd⟩
      refine ⟨T1, ρ, t1, a.gone gn1, ?_⟩
      have q : match bnd (evL md cl es ρ) (fun ds => ret (d :: ds)) t1 with
        | .ok ds t' => ∀ vs T' H', Gone g T H t' T' H' → StL g H T' H' ((e :: es).map (frE md)) ds vs → Q vs H'
        | .exc c t' => Exc g W H σ c t'
        | .bad => False := q
      unfold bnd at q
      cases e2 : evL md cl es ρ t1 with
      | exc c t' => rw [e2] at q; exact Exc.back gn1.ext q
      | bad => rw [e2] at q; exact q
      | ok ds t2 =>
        rw [e2] at q
        intro vs T2 H2 gn2 sl
        refine q (v :: vs) T2 H2 (gn1.trans gn2) ⟨v, vs, rfl, sd.mono gn2, fun hc => ?_, sl.back gn1.ext⟩
        unfold Stands at sd
        rw [hc] at sd
        obtain ⟨b, rfl, n, np, nt, cc⟩ := sd
        obtain ⟨o, ho, p, _⟩ := cell_plain cc
        obtain ⟨_, k2⟩ := gn2.keep ho p n (fun c' e' => (nt b c' e').1 rfl)
        exact sl.ne ho p k2 nt
def SoL (g : Gs) (H0 T H : Hp) (σ : L2.St) (ρ : Rho) : List Bool → List EV.D → List V → Prop
  | [], [], vs => vs = []
  | f :: fs, d :: ds, vs => ∃ v r, vs = v :: r ∧ Sto g H0 f T H d v σ ρ ∧ ((f && isCell d) = true → ∀ w ∈ r, w ≠ v) ∧ SoL g H0 T H σ ρ fs ds r
  | _, _, _ => False
theorem FR.vals {t' : Tape} {T2 H2 : Hp} {fs : List Bool} {ds : List EV.D} {vs : List V} (f : FR g T0 H0 T H t ρ σ) (gn : Gone g (Tp m ρ σ T H) H t' T2 H2) (s : StL g H T2 H2 fs ds vs) :
    ∃ T1, FR g T0 H0 T1 H2 t' (aftA fs m ds ρ) σ ∧ SoL g H0 T1 H2 σ (aftA fs m ds ρ) fs ds vs := by
  unfold aftA
  by_cases hi : immA fs ds = true
  · rw [if_pos hi]
    refine ⟨_, f.unmask gn, ?_⟩
    have go : ∀ (fs : List Bool) (ds : List EV.D) (vs : List V), immA fs ds = true → StL g H T2 H2 fs ds vs → SoL g H0 (Tm m ρ σ T2) H2 σ ρ fs ds vs := by
      intro fs
      induction fs with
      | nil => intro ds vs _ s; cases ds with
        | nil => exact s
        | cons _ _ => exact s.elim
      | cons x fs ih => intro ds vs hi s; cases ds with
        | nil => exact s.elim
        | cons d ds =>
          obtain ⟨v, r, e, k1, k2, k3⟩ := s
          unfold immA at hi
          simp only [Bool.and_eq_true] at hi
          exact ⟨v, r, e, f.sto_un gn k1 hi.1, k2, ih ds r hi.2 k3⟩
    exact go fs ds vs hi s
  · rw [if_neg hi]
    refine ⟨T2, f.freeze gn, ?_⟩
    have go : ∀ (fs : List Bool) (ds : List EV.D) (vs : List V), StL g H T2 H2 fs ds vs → SoL g H0 T2 H2 σ (frz m ρ) fs ds vs := by
      intro fs
      induction fs with
      | nil => intro ds vs s; cases ds with
        | nil => exact s
        | cons _ _ => exact s.elim
      | cons x fs ih => intro ds vs s; cases ds with
        | nil => exact s.elim
        | cons d ds =>
          obtain ⟨v, r, e, k1, k2, k3⟩ := s
          exact ⟨v, r, e, f.sto_fr gn k1, k2, ih ds r k3⟩
    exact go fs ds vs s
theorem SoL.set {i : Nat} {d0 : EV.D} {b0 : Bool} {v0 : V} (hl : ρ.length = σ.length) : ∀ {fs : List Bool} {ds : List EV.D} {vs : List V}, (b0 = true → ∀ w ∈ vs, w ≠ v0) → SoL g H0 T H σ ρ fs ds vs → SoL g H0 T H (σ.set i (some v0)) (ρ.set i (some (d0, b0))) fs ds vs
  | [], [], _, _, h => h
  | f :: fs, d :: ds, _, n, ⟨v, r, e, s, n2, k⟩ => by
    refine ⟨v, r, e, ?_, n2, SoL.set hl (fun hb w hw => n hb w (by rw [e]; exact List.mem_cons_of_mem _ hw)) k⟩
    unfold Sto at s ⊢
    cases hc : f && isCell d with
    | true =>
      rw [hc] at s
      obtain ⟨a, e2, w, nn⟩ := s
      refine ⟨a, e2, w, fun j e' h' => ?_⟩
      rw [nth_set] at h'
      rw [List.getElem?_set]
      by_cases hij : i = j
      · subst hij
        by_cases hb : i < ρ.length
        · rw [if_pos ⟨rfl, hb⟩] at h'
          cases h'
          rw [if_pos rfl, if_pos (by rw [← hl]; exact hb)]
          intro q
          cases q
          exact n rfl v (by rw [e]; exact List.mem_cons_self) e2
        · rw [if_neg (fun k => hb k.2), nth_eq, List.getElem?_eq_none (by omega)] at h'; cases h'
      · rw [if_neg (fun k => hij k.1)] at h'
        rw [if_neg hij]
        exact nn j e' h'
    | false => rw [hc] at s; exact s
  | [], _ :: _, _, _, h => h.elim
  | _ :: _, [], _, _, h => h.elim
theorem FR.setsO : ∀ {is : List Nat} {fs : List Bool} {ds : List EV.D} {vs : List V} {ρ ρ2 : Rho} {σ : L2.St}, FR g T0 H0 T H t ρ σ → SoL g H0 T H σ ρ fs ds vs → setAllO is ds fs ρ = some ρ2 → FR g T0 H0 T H t ρ2 (setsV is vs σ)
  | [], [], [], _, _, _, _, f, s, e => by cases e; rw [show _ = [] from s]; exact f
  | i :: is, x :: fs, d :: ds, _, ρ, ρ2, σ, f, ⟨v, r, q, s, n, k⟩, e => by
    subst q
    unfold setAllO at e
    exact FR.setsO (is := is) (f.set s) (SoL.set f.len (fun hb => n hb) k) e
  | [], [], _ :: _, _, _, _, _, _, s, _ => s.elim
  | [], _ :: _, [], _, _, _, _, _, s, _ => s.elim
  | [], _ :: _, _ :: _, _, _, _, _, _, _, e => by cases e
  | _ :: _, [], [], _, _, _, _, _, _, e => by cases e
  | _ :: _, [], _ :: _, _, _, _, _, _, s, _ => s.elim
  | _ :: _, _ :: _, [], _, _, _, _, _, s, _ => s.elim
theorem FR.aside {p : Addr} {o : HO} (f : FR g T0 H0 T H t ρ σ) (h : H p = none) : FR g T0 H0 T (upd H p o) t ρ σ where
  gn := f.gn.trans (Gone.aside f.gn.in_ f.gn.vok f.gn.sok h)
  sh := f.sh
  ow := fun i d e => by
    obtain ⟨a, s, w⟩ := f.ow i d e
    refine ⟨a, s, w.out, w.npl, w.nt, w.cell.mono (Sub.refl _) fun u hu => ?_⟩
    rw [upd_ne (ne_of_none hu h)]; exact hu
  ds := f.ds
  len := f.len
theorem SoL.len : ∀ {fs : List Bool} {ds : List EV.D} {vs : List V}, SoL g H0 T H σ ρ fs ds vs → vs.length = ds.length
  | [], [], _, h => by rw [show _ = [] from h]; rfl
  | f :: fs, d :: ds, _, ⟨v, r, e, _, _, k⟩ => by rw [e]; simp [SoL.len k]
  | [], _ :: _, _, h => h.elim
  | _ :: _, [], _, h => h.elim
theorem setAllO_len : ∀ {is : List Nat} {ds : List EV.D} {fs : List Bool} {ρ ρ2 : Rho}, setAllO is ds fs ρ = some ρ2 → ds.length = is.length
  | [], [], [], _, _, _ => rfl
  | i :: is, d :: ds, f :: fs, ρ, ρ2, h => by unfold setAllO at h; simp [setAllO_len h]
  | [], [], _ :: _, _, _, h => by cases h
  | [], _ :: _, [], _, _, h => by cases h
  | [], _ :: _, _ :: _, _, _, h => by cases h
  | _ :: _, [], [], _, _, h => by cases h
  | _ :: _, [], _ :: _, _, _, h => by cases h
  | _ :: _, _ :: _, [], _, _, h => by cases h
theorem par_t {is : List Nat} {es : List EV.E} {Q : List V → Hp → Prop} (z : tS g fr E T0 H0 (evS md cl fr (.par m is es)) D σ H) (hl : es.length ≤ 1000000)
    (h : ∀ vs H1, vs.length = is.length → vs.length ≤ sizeLine → (∀ H2, (H2 = H1 ∨ ∃ p o, H1 p = none ∧ H2 = upd H1 p o) → D.nx (setsV is vs σ) H2) → Q vs H1) : tAF g (WK E) (es.map (frE md)) (evL md cl es) σ H Q := by
  obtain ⟨T, ρ, t, f, q⟩ := z
  unfold evS at q
  refine ⟨_, _, t, f.at m, ?_⟩
  unfold bnd at q
  cases ee : evL md cl es (vw m ρ) t with
  | exc c t' => rw [ee] at q; exact excS f q
  | bad => rw [ee] at q; exact q
  | ok ds t1 =>
    rw [ee] at q
    intro vs T2 H2 gn sl
    obtain ⟨T1, f1, so⟩ := f.vals gn sl
    cases hs : setAllO is ds (es.map (frE md)) (aftA (es.map (frE md)) m ds ρ) with
    | none => simp only [hs] at q; exact q.elim
    | some ρ1 =>
      simp only [hs] at q
      have hlen := so.len
      refine h vs H2 (by rw [hlen, setAllO_len hs]) (by rw [hlen, evL_len ee, sz]; exact Nat.le_trans hl (by decide)) fun H3 hh => ?_
      rcases hh with rfl | ⟨p, o, hp, rfl⟩
      · exact q _ _ _ (f1.setsO so hs)
      · exact q _ _ _ ((f1.setsO so hs).aside hp)
theorem sw2 {x y : Str} {px py p p2 : Pos} {k k2 : Nat} {a b : Expr} {env : Env} (hk : env.blockKind = .function) (hn : x ≠ y) (ha : okE a = true) (hb : okE b = true) (hc : ([a, b].all (foldedForSure 8) || ![a, b].all (constantsAlone 8)) = true) :
    swappedStores [.Tuple [.Name x px, .Name y py] k p] (.Tuple [a, b] k2 p2) env = pure none ∨ (swappedStores [.Tuple [.Name x px, .Name y py] k p] (.Tuple [a, b] k2 p2) env = pure (some [x, y]) ∧ env.kindOf x = some .local ∧ env.kindOf y = some .local) := by
  have hs : ([a, b].any fun | .Starred .. => true | _ => false) = false := by cases a <;> cases b <;> first | rfl | (cases ha; done) | (cases hb; done)
  unfold swappedStores
  simp only [List.length_cons, List.length_nil, hk, hs]
  have e1 : (Expr.Name x px).pos.line = px.line := rfl
  by_cases lx : env.kindOf x = some .local
  · by_cases ly : env.kindOf y = some .local
    · by_cases lp : py.line = px.line
      · by_cases hf : [a, b].all (foldedForSure 8) = true
        · left
          simp [hf, e1, lx, ly, lp]
        · rw [Bool.not_eq_true] at hf
          rw [hf, Bool.false_or, Bool.not_eq_true'] at hc
          right
          refine ⟨?_, lx, ly⟩
          simp [hf, hc, e1, lx, ly, lp, List.filterMap_cons, List.eraseDups_cons, hn, Ne.symm hn]
          intro h
          rcases h with h | h
          · exfalso; clear hc hf hs; cases a <;> first | (cases ha; done) | (cases h; done)
          · exfalso; clear hc hf hs; cases b <;> first | (cases hb; done) | (cases h; done)
      · left
        simp [e1, lx, ly, lp, List.filterMap_cons]
    · left
      simp [e1, lx, ly, List.filterMap_cons]
  · left
    by_cases ly : env.kindOf y = some .local
    · by_cases lp : py.line = px.line
      · simp [e1, lx, ly, lp, List.filterMap_cons]
      · simp [e1, lx, ly, lp, List.filterMap_cons]
    · simp [e1, lx, ly, List.filterMap_cons]
end
end EV

set_option Elab.async false
set_option linter.all false
set_option maxRecDepth 100000
set_option maxHeartbeats 4000000
/-! EvS: a, b = x, y: the two ways of storing; control. -/
namespace EV
open PySem PySem.Spec PyProof.Rows L2
section
variable {g : Gs} {md : Md} {cl : Cl} {lv : Nat} {X : Cx} {sc : Scope} {N : List Str} {st : Str → Bool} {E : XK} {fr : Bool} {T0 H0 T H : Hp} {t : Tape} {ρ : Rho} {σ : L2.St} {m : List Nat} {D : Ends} {W : WX}
theorem sw3 {x y z : Str} {px py pz p p2 : Pos} {k k2 : Nat} {a b c : Expr} {env : Env} (hk : env.blockKind = .function) (hn : x ≠ y) (hn2 : x ≠ z) (hn3 : y ≠ z) (ha : okE a = true) (hb : okE b = true) (hc' : okE c = true) (hc : ([a, b, c].all (foldedForSure 8) || ![a, b, c].all (constantsAlone 8)) = true) :
    swappedStores [.Tuple [.Name x px, .Name y py, .Name z pz] k p] (.Tuple [a, b, c] k2 p2) env = pure none ∨ (swappedStores [.Tuple [.Name x px, .Name y py, .Name z pz] k p] (.Tuple [a, b, c] k2 p2) env = pure (some [x, y, z]) ∧ env.kindOf x = some .local ∧ env.kindOf y = some .local ∧ env.kindOf z = some .local) := by
  have hs : ([a, b, c].any fun | .Starred .. => true | _ => false) = false := by
    simp only [List.any_cons, List.any_nil, Bool.or_false, Bool.or_eq_false_iff]
    refine ⟨?_, ?_, ?_⟩
    · clear hc; cases a <;> first | rfl | (cases ha; done)
    · clear hc; cases b <;> first | rfl | (cases hb; done)
    · clear hc; cases c <;> first | rfl | (cases hc'; done)
  unfold swappedStores
  simp only [List.length_cons, List.length_nil, hk, hs]
  have e1 : (Expr.Name x px).pos.line = px.line := rfl
  by_cases lx : env.kindOf x = some .local <;> by_cases ly : env.kindOf y = some .local <;> by_cases lz : env.kindOf z = some .local <;> by_cases lp : py.line = px.line <;> by_cases lq : pz.line = px.line
  rotate_left 1
  all_goals try (left; simp [e1, lx, ly, lz, lp, lq, List.filterMap_cons]; done)
  by_cases hf : [a, b, c].all (foldedForSure 8) = true
  · left
    simp [hf, e1, lx, ly, lz, lp, lq]
  · rw [Bool.not_eq_true] at hf
    rw [hf, Bool.false_or, Bool.not_eq_true'] at hc
    right
    refine ⟨?_, lx, ly, lz⟩
    simp [hf, hc, e1, lx, ly, lz, lp, lq, List.filterMap_cons, List.eraseDups_cons, hn, hn2, hn3, Ne.symm hn, Ne.symm hn2, Ne.symm hn3]
    intro h
    rcases h with h | h | h
    · exfalso; clear hc hf hs; cases a <;> first | (cases ha; done) | (cases h; done)
    · exfalso; clear hc hf hs; cases b <;> first | (cases hb; done) | (cases h; done)
    · exfalso; clear hc hf hs; cases c <;> first | (cases hc'; done) | (cases h; done)
theorem sw_none {ts xs : List Expr} {k k2 : Nat} {p p2 : Pos} {env : Env} (h2 : ts.length ≠ 2) (h3 : ts.length ≠ 3) : swappedStores [.Tuple ts k p] (.Tuple xs k2 p2) env = pure none := by
  unfold swappedStores
  simp [h2, h3]
theorem bk_fn (z : XZ X g md lv sc N st E) : X.env.blockKind = .function := by
  have e : X.env.scope.kind = .function := by rw [z.xc.sc]; exact z.fn
  unfold Env.blockKind
  rw [e]; rfl
theorem tgs_ok : ∀ {is : List Nat} {ts : List Expr}, chkTgs sc st N is ts = true → ∃ ys : List (Str × Pos), ts = ys.map (fun y => .Name y.1 y.2) ∧ ys.length = is.length ∧ ∀ (k i : Nat) (y : Str × Pos), is[k]? = some i → ys[k]? = some y → N[i]? = some y.1
  | [], [], _ => ⟨[], rfl, rfl, fun k i y h _ => by simp at h⟩
  | i :: is, x :: xs, h => by
    cases x with
    | Name y p =>
      unfold chkTgs at h
      simp only [Bool.and_eq_true, decide_eq_true_eq] at h
      obtain ⟨⟨h1, _⟩, h3⟩ := h
      obtain ⟨ys, e, hl, k⟩ := tgs_ok h3
      refine ⟨(y, p) :: ys, by rw [e]; rfl, by simp [hl], fun k' i' y' h1' h2' => ?_⟩
      cases k' with
      | zero => simp at h1' h2'; subst h1'; subst h2'; exact h1
      | succ k' => exact k k' i' y' (by simpa using h1') (by simpa using h2')
    | _ => cases h
  | [], _ :: _, h => by cases h
  | _ :: _, [], h => by cases h
theorem name_ne (nd : N.Nodup) {i j : Nat} {x y : Str} (h : i ≠ j) (hi : N[i]? = some x) (hj : N[j]? = some y) : x ≠ y := fun e => by
  subst e
  obtain ⟨h1, e1⟩ := List.getElem?_eq_some_iff.mp hi
  obtain ⟨h2, e2⟩ := List.getElem?_eq_some_iff.mp hj
  have pw := List.pairwise_iff_getElem.mp nd
  rcases Nat.lt_or_gt_of_ne h with k | k
  · exact pw i j h1 h2 k (e1.trans e2.symm)
  · exact pw j i h2 h1 k (e2.trans e1.symm)
theorem ss_par {is : List Nat} {es : List EV.E} {ts xs : List Expr} {k k2 : Nat} {p p2 pos : Pos} (z : XZ X g md lv sc N st E) (mo : ModOk g md) (F : ClOk g md cl lv) (h1 : chkTgs sc st N is ts = true) (h2 : chkL md N es sc st xs = true) (hnd : is.Nodup) (hl : xs.length = ts.length) (hc : (xs.all (foldedForSure 8) || !xs.all (constantsAlone 8)) = true) (hb : es.length ≤ 1000000) :
    PS X (.Assign [.Tuple ts k p] (.Tuple xs k2 p2) pos) (tS g fr E T0 H0 (evS md cl fr (.par m is es))) := by
  have s := sl_all mo F es z.xc z.tk h2
  have pa := sl_paF s
  obtain ⟨k1, k3, k4⟩ := names_ok z.xc h1
  have nd : N.Nodup := by rw [← z.xc.N]; exact z.xc.nd
  have plain : swappedStores [.Tuple ts k p] (.Tuple xs k2 p2) X.env = pure none → PS X (.Assign [.Tuple ts k p] (.Tuple xs k2 p2) pos) (tS g fr E T0 H0 (evS md cl fr (.par m is es))) := fun hw => by
    refine PS.weak (ps_asg (pe_tup pa) (pg_tup z.xc.xg.calm k1 (k3 _) (k4 _)) (noC_sole rfl) hw rfl) fun D σ H q => ?_
    refine par_t q hb fun vs H1 hlen hz kk => ⟨hz, fun a ha => ?_⟩
    exact ⟨a, vs, rfl, SqT.of upd_same, hlen, gNames_of hlen (kk _ (.inr ⟨a, _, ha, rfl⟩))⟩
  obtain ⟨ys, e, hyl, hN⟩ := tgs_ok h1
  subst e
  have ok := sl_ok s
  match is, ys, xs, hyl, hl, hN, hnd, ok, hc, plain, pa, h1, k1, k3, k4, s, h2 with
  | [i, j], [(x, px), (y, py)], [a, b], _, _, hN, hnd, ok, hc, plain, pa, _, _, _, _, _, _ =>
    have hi := hN 0 i (x, px) rfl rfl
    have hj := hN 1 j (y, py) rfl rfl
    have hij : i ≠ j := by
      have := (List.nodup_cons.mp hnd).1
      simpa using this
    simp only [List.all_cons, List.all_nil, Bool.and_true, Bool.and_eq_true] at ok
    rcases sw2 (px := px) (py := py) (p := p) (p2 := p2) (k := k) (k2 := k2) (bk_fn z) (name_ne nd hij hi hj) ok.1 ok.2 hc with hw | ⟨hw, lx, ly⟩
    · exact plain hw
    · refine PS.weak (ps_par z.xc.xg.calm z.xc.nd (by rw [z.xc.N]; exact hi) (by rw [z.xc.N]; exact hj) hij lx ly pa hw rfl) fun D σ H q => ?_
      refine par_t q hb fun vs H1 hlen hz kk => ?_
      match vs, hlen, kk with
      | [v, w], _, kk => exact ⟨v, w, rfl, kk _ (.inl rfl)⟩
  | [i, j, l], [(x, px), (y, py), (z', pz)], [a, b, c], _, _, hN, hnd, ok, hc, plain, pa, _, _, _, _, _, _ =>
    have hi := hN 0 i (x, px) rfl rfl
    have hj := hN 1 j (y, py) rfl rfl
    have hk := hN 2 l (z', pz) rfl rfl
    have nd1 := List.nodup_cons.mp hnd
    have nd2 := List.nodup_cons.mp nd1.2
    have hij : i ≠ j := fun q => nd1.1 (by simp [q])
    have hil : i ≠ l := fun q => nd1.1 (by simp [q])
    have hjl : j ≠ l := fun q => nd2.1 (by simp [q])
    simp only [List.all_cons, List.all_nil, Bool.and_true, Bool.and_eq_true] at ok
    rcases sw3 (px := px) (py := py) (pz := pz) (p := p) (p2 := p2) (k := k) (k2 := k2) (bk_fn z) (name_ne nd hij hi hj) (name_ne nd hil hi hk) (name_ne nd hjl hj hk) ok.1 ok.2.1 ok.2.2 hc with hw | ⟨hw, lx, ly, lz⟩
    · exact plain hw
    · refine PS.weak (ps_par3 z.xc.xg.calm z.xc.nd (by rw [z.xc.N]; exact hi) (by rw [z.xc.N]; exact hj) (by rw [z.xc.N]; exact hk) hij hil hjl lx ly lz pa hw rfl) fun D σ H q => ?_
      refine par_t q hb fun vs H1 hlen hz kk => ?_
      match vs, hlen, kk with
      | [u, v, w], _, kk => exact ⟨u, v, w, rfl, kk _ (.inl rfl)⟩
  | [], [], _, _, _, _, _, _, _, plain, _, _, _, _, _, _, _ => exact plain (sw_none (by simp) (by simp))
  | [i], [(x, px)], _, _, _, _, _, _, _, plain, _, _, _, _, _, _, _ => exact plain (sw_none (by simp) (by simp))
  | _ :: _ :: _ :: _ :: _, _ :: _ :: _ :: _ :: _, _, _, _, _, _, _, _, plain, _, _, _, _, _, _, _ => exact plain (sw_none (by simp) (by simp))
end
end EV

set_option Elab.async false
set_option linter.all false
set_option maxRecDepth 100000
set_option maxHeartbeats 4000000
/-! EvT: control. -/
namespace EV
open PySem PySem.Spec PyProof.Rows L2
section
variable {g : Gs} {md : Md} {cl : Cl} {lv : Nat} {X : Cx} {sc : Scope} {N : List Str} {st : Str → Bool} {E : XK} {fr : Bool} {T0 H0 T H : Hp} {t : Tape} {ρ : Rho} {σ : L2.St} {m : List Nat} {D : Ends} {W : WX}
abbrev PZ (X : Cx) (g : Gs) (fr : Bool) (E : XK) (T0 H0 : Hp) (ev : Rho → M Out) (xs : List Stmt) : Prop := PSs X xs (tS g fr E T0 H0 ev)
theorem ss_if {c : EV.E} {a b : List Z} {y : Expr} {p q : List Stmt} {pos : Pos} (s0 : SE X g md cl (WK E) c y) (ha : PZ X g fr E T0 H0 (evSs md cl fr a) p) (hb : PZ X g fr E T0 H0 (evSs md cl fr b) q) : PS X (.If y p q pos) (tS g fr E T0 H0 (evS md cl fr (.ifS m c a b))) := by
  refine PS.weak (ps_if s0.pt ha hb) fun D σ H ⟨T, ρ, t, f, z⟩ => ?_
  unfold evS at z
  refine tS_T f z fun k t1 T1 H1 f1 q1 => ?_
  cases k with
  | true => rw [if_pos rfl] at q1 ⊢; exact ⟨T1, ρ, t1, f1, q1⟩
  | false => rw [if_neg (by simp)] at q1 ⊢; exact ⟨T1, ρ, t1, f1, q1⟩
/-- a body's end in a loop -/
theorem loop_end {k : Rho → M Out} {x : M Out} {t : Tape} {D : Ends} {P : L2.St → Hp → Prop} (h : GoodS g fr E T0 H0 (bnd x (fun o => appB o.1 o.2 k) t) D) (hk : ∀ ρ2 t2, GoodS g fr E T0 H0 (k ρ2 t2) D → ∀ σ' T' H', FR g T0 H0 T' H' t2 ρ2 σ' → P σ' H') : GoodS g fr E T0 H0 (x t) { D with nx := P, ct := P, bk := D.nx } := by
  unfold bnd at h
  unfold GoodS
  cases e : x t with
  | exc c t' => rw [e] at h; exact h
  | bad => rw [e] at h; exact h
  | ok o t' =>
    rw [e] at h
    obtain ⟨fl, ρ2⟩ := o
    cases fl with
    | nx => exact hk ρ2 t' h
    | ct => exact hk ρ2 t' h
    | bk => exact h
    | rt d => exact h
theorem ss_while {n : Nat} {c : EV.E} {b : List Z} {y : Expr} {p : List Stmt} {pos : Pos} (z : XZ X g md lv sc N st E) (s0 : SE X g md cl (WK E) c y) (hb : PZ X g fr E T0 H0 (evSs md cl fr b) p) : PS X (.While y p [] pos) (tS g fr E T0 H0 (evS md cl fr (.whl m n c b))) := by
  refine PS.weak (ps_while z.pa s0.pt hb) fun D σ H ⟨T, ρ, t, f, q⟩ => ?_
  unfold evS at q
  refine ⟨fun k σ H => ∃ T ρ t, FR g T0 H0 T H t ρ σ ∧ GoodS g fr E T0 H0 (whlRun (fun ρ => evT md cl c (vw m ρ)) (fun ρ => evSs md cl fr b ρ) k ρ t) D, ⟨n, T, ρ, t, f, q⟩, fun k σ H ⟨T, ρ, t, f, q⟩ => ?_⟩
  cases k with
  | zero => exact q.elim
  | succ k =>
    unfold whlRun at q
    refine tS_T f q fun b' t1 T1 H1 f1 q1 => ?_
    cases b' with
    | false =>
      rw [if_neg (by simp)] at q1 ⊢
      exact q1 _ _ _ f1
    | true =>
      rw [if_pos rfl] at q1 ⊢
      refine ⟨_, fun σ' H' w => ⟨k, by omega, w⟩, T1, ρ, t1, f1, ?_⟩
      exact loop_end q1 fun ρ2 t2 g2 σ' T' H' f' => ⟨T', ρ2, t2, f', g2⟩
theorem tS_I {k : Sk} {es : List EV.E} {kk : List EV.D → M Out} {R : It → Hp → Prop} (f : FR g T0 H0 T H t ρ σ) (q : GoodS g fr E T0 H0 (bnd (evI md cl k es (vw m ρ)) kk t) D)
    (h : ∀ xs t1 J T1 H1, FR g T0 H0 T1 H1 t1 (frz? k m ρ) σ → ItOk g T1 J xs → GoodS g fr E T0 H0 (kk xs t1) D → R J H1) : tI g (WK E) k (evI md cl k es) σ H R := by
  refine ⟨_, _, t, f.at m, ?_⟩
  unfold bnd at q
  unfold GoodI
  cases ee : evI md cl k es (vw m ρ) t with
  | ok xs t1 =>
    rw [ee] at q
    intro J T2 H2 gn hJ hR
    cases k with
    | range => exact h xs t1 J _ H2 (f.unmask gn) (hR rfl _) q
    | val => exact h xs t1 J _ H2 (f.freeze gn) hJ q
    | enum => exact h xs t1 J _ H2 (f.freeze gn) hJ q
    | zip => exact h xs t1 J _ H2 (f.freeze gn) hJ q
    | rev => exact h xs t1 J _ H2 (f.freeze gn) hJ q
  | exc c t' => rw [ee] at q; exact excS f q
  | bad => rw [ee] at q; exact q
theorem Gone.rebase {T1 H1 T' H' : Hp} {t1 t' : Tape} (b : Gone g T0 H0 t1 T1 H1) (a : Gone g T1 H0 t' T' H') : Gone g T0 H0 t' T' H' where
  sub := b.sub.trans a.sub
  in_ := a.in_
  vok := a.vok
  new := fun c o e n => by
    cases k : T1 c with
    | none => exact a.new c o e k
    | some u => exact b.new c u k n
  ext := a.ext
  sok := a.sok
theorem FR.rebase {T1 H1 T' H' : Hp} {t1 t' : Tape} (b : Gone g T0 H0 t1 T1 H1) (f : FR g T1 H0 T' H' t' ρ σ) : FR g T0 H0 T' H' t' ρ σ := ⟨b.rebase f.gn, f.sh, f.ow, f.ds, f.len⟩
theorem GoodS.rebase {T1 H1 : Hp} {t1 : Tape} {r : Res Out} (b : Gone g T0 H0 t1 T1 H1) (h : GoodS g fr E T0 H0 r D) : GoodS g fr E T1 H0 r D := by
  unfold GoodS at h ⊢
  cases r with
  | exc c t' => exact h
  | bad => exact h
  | ok o t' =>
    obtain ⟨fl, ρ2⟩ := o
    cases fl with
    | nx => exact fun σ' T' H' f => h σ' T' H' (f.rebase b)
    | ct => exact fun σ' T' H' f => h σ' T' H' (f.rebase b)
    | bk => exact fun σ' T' H' f => h σ' T' H' (f.rebase b)
    | rt d => exact fun v H' ⟨T', gn, s⟩ => h v H' ⟨T', b.rebase gn, s⟩
theorem FR.here (f : FR g T0 H0 T H t ρ σ) : FR g T H0 T H t ρ σ := ⟨⟨Sub.refl _, f.gn.in_, f.gn.vok, fun b o e n => (by rw [e] at n; cases n), f.gn.ext, f.gn.sok⟩, f.sh, f.ow, f.ds, f.len⟩
/-- the heap grows -/
theorem FR.go {T2 H2 : Hp} {t' : Tape} (f : FR g T0 H0 T H t ρ σ) (gn : Gone g T H t' T2 H2) : FR g T0 H0 T2 H2 t' ρ σ where
  gn := f.gn.trans gn
  sh := fun i d e => let ⟨v, s, r⟩ := f.sh i d e; ⟨v, s, r.mono gn.sub _ _⟩
  ow := fun i d e => by
    obtain ⟨a, s, w⟩ := f.ow i d e
    obtain ⟨o, ho, p, _⟩ := cell_plain w.cell
    obtain ⟨k1, k2⟩ := gn.keep ho p w.out (fun c q => (w.nt a c q).1 rfl)
    exact ⟨a, s, k2, w.npl, w.nt, w.cell.mono gn.sub fun u hu => by rw [ho] at hu; cases hu; exact k1⟩
  ds := f.ds
  len := f.len
theorem ss_for {tg : Tg} {k : Sk} {es : List EV.E} {b : List Z} {tx it : Expr} {p : List Stmt} {pos : Pos} (z : XZ X g md lv sc N st E) (hi : PI X tx it (tI g (WK E) k (evI md cl k es))) (hg : PG X tx (tG g tg)) (hb : ∀ T0, PZ X g fr E T0 H0 (evSs md cl fr b) p) (hs : ∀ x, foldedSetIterable it X.env x = pure x) :
    PS X (.For tx it p [] pos) (tS g fr E T0 H0 (evS md cl fr (.for m tg k es b))) := by
  refine ⟨fun pins s σ H D I z' => ?_⟩
  obtain ⟨T, ρ, t, f, q⟩ := z'
  unfold evS at q
  -- the view at the start is not known before the source is evaluated: the body's reading holds for every view
  refine (ps_for (tb := fun D σ H => ∃ Tb, tS g fr E Tb H0 (evSs md cl fr b) D σ H) z.pa z.xc.xg.calm hi hg ⟨fun pins s σ H D I ⟨Tb, h⟩ => (hb Tb).run pins s σ H D I h⟩ hs).run pins s σ H D I ?_
  refine tS_I f q fun xs t1 J T1 H1 f1 hJ q1 => ?_
  have q2 := GoodS.rebase f1.gn q1
  refine ⟨fun i m' σ H => m' + i = xs.length ∧ ∃ T ρ t, FR g T1 H0 T H t ρ σ ∧ GoodS g fr E T1 H0 (forRun (tgR tg) (fun ρ => evSs md cl fr b ρ) (xs.drop i) ρ t) D, ⟨xs.length, by omega, T1, _, t1, f1.here, q2⟩, fun i m' σ H w => ?_⟩
  obtain ⟨hm, T, ρ, t, f, q⟩ := w
  by_cases hlt : i < xs.length
  · obtain ⟨d, hd⟩ : ∃ d, xs[i]? = some d := ⟨xs[i], List.getElem?_eq_getElem hlt⟩
    obtain ⟨go, yl⟩ := (hJ T H t i f.gn.sub f.ar).1 d hd
    have hdrop : xs.drop i = d :: xs.drop (i + 1) := by
      obtain ⟨e1, e2⟩ := List.getElem?_eq_some_iff.mp hd
      rw [List.drop_eq_getElem_cons e1, e2]
    rw [hdrop] at q
    unfold forRun at q
    refine .inr ⟨go, _, fun σ' H' n => ⟨m' - 1, by omega, n⟩, fun x H2 yy => ?_⟩
    obtain ⟨T2, gn2, r2⟩ := yl x H2 yy
    cases hr : tgR tg d ρ with
    | none => rw [hr] at q; exact q.elim
    | some ρ1 =>
      rw [hr] at q
      refine tG_of (f.go gn2) r2 hr fun σ' f' => ⟨T1, T2, ρ1, t, f', ?_⟩
      exact loop_end q fun ρ2 t2 g2 σ2 T3 H3 f3 => ⟨by omega, T3, ρ2, t2, f3, g2⟩
  · have hi' : xs.length ≤ i := by omega
    refine .inl ⟨(hJ T H t i f.gn.sub f.ar).2 (by omega), ?_⟩
    rw [List.drop_eq_nil_of_le hi'] at q
    exact q _ _ _ f
theorem ss_ret {e : EV.E} {y : Expr} {pos : Pos} (s0 : SE X g md cl (WK E) e y) : PS X (.Return (some y) pos) (tS g fr E T0 H0 (evS md cl fr (.ret m e))) := by
  refine PS.weak (ps_ret s0.pe) fun D σ H ⟨T, ρ, t, f, q⟩ => ?_
  unfold evS at q
  refine tS_E f q fun d t1 v H1 p q1 => ?_
  by_cases h : (!fr || frE md e || !isCell d) = true
  · rw [if_pos h] at q1
    refine q1 v H1 (f.ret (fun hf => ?_) p)
    subst hf
    simp only [Bool.not_true, Bool.false_or, Bool.or_eq_true, Bool.not_eq_true'] at h
    exact h
  · rw [if_neg h] at q1; exact q1.elim
theorem ss_retV {i : Nat} {y : Str} {p pos : Pos} (z : XZ X g md lv sc N st E) (h1 : N[i]? = some y) (h2 : vis sc y = true) (h3 : plainName y = true) : PS X (.Return (some (.Name y p)) pos) (tS g fr E T0 H0 (evS md cl fr (.retV i))) := by
  refine PS.weak (ps_ret (var_pe z h1 h2 h3)) fun D σ H ⟨T, ρ, t, f, q⟩ => ?_
  unfold evS at q
  rcases e0 : nth ρ i with _ | (_ | ⟨d, b⟩)
  · rw [e0] at q; exact q.elim
  · rw [e0] at q; exact q.elim
  · rw [e0] at q
    have q2 : GoodS g fr E T0 H0 ((if !fr || b || !isCell d then ret (.rt d, ρ) else bad : M Out) t) D := q
    clear q
    by_cases h : (!fr || b || !isCell d) = true
    · rw [if_pos h] at q2
      have q3 : ∀ v H', Post g fr T0 H0 t d v H' → D.rt v H' := q2
      cases b with
      | true =>
        obtain ⟨v, s, p⟩ := f.retO (fr := fr) e0
        exact ⟨v, s, q3 v H p⟩
      | false =>
        obtain ⟨v, s, p⟩ := f.retS (fr := fr) e0 (fun hf => by subst hf; simpa using h)
        exact ⟨v, s, q3 v H p⟩
    · rw [if_neg h] at q2; exact q2.elim
/-- an exception of the program -/
structure XcOk (g : Gs) (md : Md) : Prop where
  ex : ∀ (c : Nat) (y : Str), md.xc[c]? = some y → ∃ (B newId initId : String) (bmB : List Value), ExcBaseFacts B newId initId bmB ∧ PySem.W.excIn g.K (g.ca c) bmB newId = true ∧ g.mg y = some (.ref (g.ca c)) ∧ PySem.W.keepIn g.K (.ref (g.ca c)) = true ∧
    PySem.W.subIn g.K (.ref (g.ca c)) (.type "BaseException") = some true ∧ PySem.W.typeIn g.K (.ref (g.ca c)) = some (.type "type")
theorem ss_rz {c : Nat} {y : Str} {ms : Str} {j : Nat} {p p2 cpos pos : Pos} (z : XZ X g md lv sc N st E) (xo : XcOk g md) (h1 : md.xc[c]? = some y) (h2 : gl sc y = true) (h3 : plainName y = true) :
    PS X (.Raise (some (.Call (.Name y p) [.Constant (.str ms) j p2] [] cpos)) none pos) (tS g fr E T0 H0 (evS md cl fr (.rz c))) := by
  obtain ⟨B, newId, initId, bmB, F, k1, k2, k3, k4, k5⟩ := xo.ex c y h1
  refine PS.weak (ps_raise z.xc.xg.calm z.tk (pmk_own F (by rw [z.xc.xg.K]; exact k1) (by rw [z.xc.xg.mg]; exact k2) (by rw [z.xc.xg.K]; exact k3) (raises_own (by rw [z.xc.xg.K]; exact k4) (by rw [z.xc.xg.K]; exact k5)) (gl_of z.xc h2) (plain_d h3).1)) fun D σ H ⟨T, ρ, t, f, q⟩ => ?_
  unfold evS at q
  exact q H f.gn.ext f.gn.sok
theorem ss_exp {e : EV.E} {y : Expr} {pos : Pos} (s0 : SE X g md cl (WK E) e y) (hn : noC y = true) : PS X (.Expr y pos) (tS g fr E T0 H0 (evS md cl fr (.exp m e))) := by
  refine PS.weak (ps_expr (PE.of s0.pe) (noC_sw hn)) fun D σ H ⟨T, ρ, t, f, q⟩ => ?_
  unfold evS at q
  refine tS_E f q fun d t1 v H1 p q1 => ?_
  obtain ⟨T1, f1, _, _⟩ := f.val p
  exact q1 _ _ _ f1
/-- the tape's dict is written -/
theorem tabs_putD {T : List (Addr × Str)} {H : Hp} {L : Addr} {ks ls : List (Key × V)} (k : LamX.Tabs T H) (h : H L = some (.dK ks)) : LamX.Tabs T (upd H L (.dK ls)) := fun p hp => by
  obtain ⟨ps, e, t, f⟩ := k p hp
  refine ⟨ps, ?_, t, fun pos cv hc => ?_⟩
  · have n : p.1 ≠ L := fun q => by rw [q, h] at e; cases e
    rw [upd_ne n]; exact e
  · obtain ⟨c, e1, e2⟩ := f pos cv hc
    have n : c ≠ L := fun q => by rw [q, h] at e2; unfold LamX.CodeO at e2; cases e2
    exact ⟨c, e1, by rw [upd_ne n]; exact e2⟩
theorem tw_put {t : Tape} {c : Addr} {k : Nat} {x : Int} (hk : k < 4) : putK ([(.inr "cells", .ref c), (.inr "at", .int t.at_), (.inr "left", .int t.left), (.inr "seed", .int t.seed), (.inr "salt", .int t.salt)] : List (Key × V)) (.inr (tfNm k)) (.int x) =
    [(.inr "cells", .ref c), (.inr "at", .int (tset k x t).at_), (.inr "left", .int (tset k x t).left), (.inr "seed", .int (tset k x t).seed), (.inr "salt", .int (tset k x t).salt)] := by
  match k, hk with
  | 0, _ => rfl
  | 1, _ => rfl
  | 2, _ => rfl
  | 3, _ => rfl
theorem tset_cells {k : Nat} {x : Int} {t : Tape} : (tset k x t).cells = t.cells := by
  unfold tset; split <;> rfl
theorem FR.tape {a c : Addr} {k : Nat} {x : Int} (f : FR g T0 H0 T H t ρ σ) (e : g.tp = some (a, c)) (hk : k < 4) : H a = some (.dK [(.inr "cells", .ref c), (.inr "at", .int t.at_), (.inr "left", .int t.left), (.inr "seed", .int t.seed), (.inr "salt", .int t.salt)]) ∧
    FR g T0 H0 T (upd H a (.dK (putK [(.inr "cells", .ref c), (.inr "at", .int t.at_), (.inr "left", .int t.left), (.inr "seed", .int t.seed), (.inr "salt", .int t.salt)] (.inr (tfNm k)) (.int x)))) (tset k x t) ρ σ := by
  obtain ⟨h1, h2, h3⟩ := f.gn.sok.tape a c e
  obtain ⟨n1, n2⟩ := f.gn.vok.nt a c e
  refine ⟨h1, ⟨⟨f.gn.sub, fun b o q => ?_, f.gn.vok, f.gn.new, fun b o q p n => ?_, ⟨fun a' c' e' => ?_, tabs_putD f.gn.sok.tabs h1⟩⟩, f.sh, fun i d q => ?_, f.ds, f.len⟩⟩
  · rw [upd_ne (ne_of_none q n1)]; exact f.gn.in_ b o q
  · have hb : b ≠ a := fun z => n c (by rw [z]; exact e)
    rw [upd_ne hb]; exact f.gn.ext b o q p n
  · rw [e] at e'; cases e'
    rw [upd_same, upd_ne h3.symm, tw_put hk, tset_cells]
    exact ⟨rfl, h2, h3⟩
  · obtain ⟨b, s, w⟩ := f.ow i d q
    refine ⟨b, s, w.out, w.npl, w.nt, w.cell.mono (Sub.refl _) fun o ho => ?_⟩
    rw [upd_ne (w.nt a c e).1]; exact ho
theorem ss_tw {i k : Nat} {e : EV.E} {y : Str} {j : Nat} {p p2 sp pos : Pos} {w : Expr} (z : XZ X g md lv sc N st E) (h1 : N[i]? = some y) (h2 : vis sc y = true) (h3 : plainName y = true) (hk : k < 4) (hc : noC w = true) (se : SE X g md cl (WK E) e w) :
    PS X (.Assign [.Subscript (.Name y p) (.Constant (.str (tfNm k)) j p2) sp] w pos) (tS g fr E T0 H0 (evS md cl fr (.tw m i k e))) := by
  have hsw : swappedStores [.Subscript (.Name y p) (.Constant (.str (tfNm k)) j p2) sp] w X.env = pure none := by cases w <;> rfl
  refine PS.weak (ps_asg (PE.of se.pe) (pg_sub (var_pe z h1 h2 h3) pe_str (set_dict (xg_u z.xc.xg)) (fun _ => rfl)) (noC_sole hc) hsw rfl) fun D σ H ⟨T, ρ, t, f, q⟩ => ?_
  unfold evS at q
  refine tS_E f q fun d t1 v H1 p q1 => ?_
  obtain ⟨T1, f1, sto, _⟩ := f.val p
  cases d with
  | int x =>
    have ea : aft false m (.int x) ρ = ρ := by unfold aft immR EV.imm; rfl
    rw [ea] at f1
    have sto : v = .int x := sto
    have q1 : GoodS g fr E T0 H0 ((if isTape (nth (vw [] ρ) i) then fun t => .ok (.nx, ρ) (tset k x t) else bad : M Out) t1) D := q1
    by_cases hi : isTape (nth (vw [] ρ) i) = true
    · rw [if_pos hi] at q1
      obtain ⟨a, c, e, s⟩ := tape_at (f1.at []) hi
      obtain ⟨h5, f2⟩ := f1.tape (x := x) e hk
      exact ⟨_, s, a, _, rfl, by rw [sto]; exact DPut.k (k := .inr (tfNm k)) h5 (by rw [sz]; simp [SZ]), q1 _ _ _ f2⟩
    · rw [if_neg hi] at q1; exact q1.elim
  | _ => exact q1.elim
theorem si_all (z : XZ X g md lv sc N st E) (m : ModOk g md) (F : ClOk g md cl lv) {k : Sk} {es : List EV.E} {t it : Expr} (h6 : chkI md N k es sc st t it = true) : PI X t it (tI g (WK E) k (evI md cl k es)) := by
  unfold chkI at h6
  split at h6
  · have s := sl_all m F es z.xc z.tk h6
    cases s with
    | cons h s r => cases r; exact si_val s
  · simp only [Bool.and_eq_true, decide_eq_true_eq] at h6
    obtain ⟨⟨⟨⟨k1, k2⟩, k3⟩, k4⟩, k5⟩ := h6
    subst k1
    exact si_range z.xc m k2 k3 k4 (sl_all m F es z.xc z.tk k5)
  · simp only [Bool.and_eq_true, decide_eq_true_eq] at h6
    obtain ⟨⟨⟨⟨k1, k2⟩, k3⟩, k4⟩, k5⟩ := h6
    subst k1
    cases t <;> first | exact si_enum z.xc m k2 k3 (sl_all m F es z.xc z.tk k5) | cases k4
  · simp only [Bool.and_eq_true, decide_eq_true_eq] at h6
    obtain ⟨⟨⟨⟨k1, k2⟩, k3⟩, k4⟩, k5⟩ := h6
    subst k1
    cases t <;> first | exact si_zip z.xc m k2 k3 (sl_all m F es z.xc z.tk k5) | cases k4
  · simp only [Bool.and_eq_true, decide_eq_true_eq] at h6
    obtain ⟨⟨⟨k1, k2⟩, k3⟩, k5⟩ := h6
    subst k1
    exact si_rev z.xc m k2 k3 (sl_all m F es z.xc z.tk k5)
  · cases h6
end
end EV

set_option Elab.async false
set_option linter.all false
set_option maxRecDepth 100000
set_option maxHeartbeats 4000000
/-! EvTa: stores into dicts, extend, update, pop's value, a list walked that stays in its slot. -/
namespace EV
open PySem PySem.Spec PyProof.Rows L2
section
variable {g : Gs} {md : Md} {cl : Cl} {lv : Nat} {X : Cx} {sc : Scope} {N : List Str} {st : Str → Bool} {E : XK} {fr : Bool} {T0 H0 T H : Hp} {t : Tape} {ρ : Rho} {σ : L2.St} {m : List Nat} {D : Ends}
/-- an owned cell is written -/
theorem FR.putC {i : Nat} {d d' : EV.D} {a : Addr} {o o' : HO} (f : FR g T0 H0 T H t ρ σ) (e : nth ρ i = some (some (d, true))) (s : σ[i]? = some (some (.ref a))) (hH : H a = some o) (hp : EV.plain o = true) (c : Cell g T (upd H a o') d' a) :
    FR g T0 H0 T (upd H a o') t (ρ.set i (some (d', true))) σ := by
  obtain ⟨b, s2, w⟩ := f.ow i _ e
  rw [s] at s2; cases s2
  have hi : i < ρ.length := by
    rw [nth_eq] at e
    exact (List.getElem?_eq_some_iff.mp e).1
  have old : ∀ j x, j ≠ i → nth (ρ.set i (some (d', true))) j = some (some x) → nth ρ j = some (some x) := fun j x hj k => by
    rw [nth_set, if_neg (fun q => hj q.1.symm)] at k; exact k
  refine ⟨⟨f.gn.sub, fun b o k => ?_, f.gn.vok, f.gn.new, fun b o k p n => ?_, f.gn.sok.putO hH hp w.nt⟩, fun j d k => ?_, fun j d k => ?_, fun j l d e2 b hjl k1 k2 => ?_, by rw [List.length_set]; exact f.len⟩
  · rw [upd_ne (ne_of_none k w.out)]; exact f.gn.in_ b o k
  · by_cases hb : b = a
    · subst hb
      have := w.npl n o k
      rw [p] at this; cases this
    · rw [upd_ne hb]; exact f.gn.ext b o k p n
  · by_cases hj : j = i
    · subst hj
      rw [nth_set, if_pos ⟨rfl, hi⟩] at k; cases k
    · exact f.sh j d (old j _ hj k)
  · by_cases hj : j = i
    · subst hj
      rw [nth_set, if_pos ⟨rfl, hi⟩] at k; cases k
      exact ⟨a, s, w.out, w.npl, w.nt, c⟩
    · have k2 := old j _ hj k
      obtain ⟨b, sb, wb⟩ := f.ow j d k2
      have hn : b ≠ a := fun q => by subst q; exact f.ds j i d _ b hj k2 e sb s
      exact ⟨b, sb, wb.out, wb.npl, wb.nt, wb.cell.mono (Sub.refl _) fun o ho => by rw [upd_ne hn]; exact ho⟩
  · have q1 : ∃ d', nth ρ j = some (some (d', true)) := by
      by_cases hj : j = i
      · subst hj; exact ⟨_, e⟩
      · exact ⟨_, old j _ hj k1⟩
    have q2 : ∃ d', nth ρ l = some (some (d', true)) := by
      by_cases hj : l = i
      · subst hj; exact ⟨_, e⟩
      · exact ⟨_, old l _ hj k2⟩
    obtain ⟨d', q1⟩ := q1
    obtain ⟨d2, q2⟩ := q2
    exact f.ds j l d' d2 b hjl q1 q2
/-! ### keys that are tuples -/
theorem keyEq_T (a b : List Key) : keyEq (.tup (a.map kD)) (.tup (b.map kD)) = decide (a = b) := eqBL_k _ _
theorem has_T (k : List Key) : ∀ (kvs : List (List Key × V)), hasD (kvs.map fun p => EV.D.tup (p.1.map kD)) (.tup (k.map kD)) = kvs.any fun kv => decide (kv.1 = k)
  | [] => rfl
  | p :: kvs => by
    have ih := has_T k kvs
    unfold hasD at ih ⊢
    simp only [List.map_cons, List.any_cons, keyEq_T, ih]
theorem putVs_T {T : Hp} {k : List Key} {e : EV.D} {v : V} (re : Rep g T e v) : ∀ {kvs : List (List Key × V)} {vs : List EV.D}, RepL g T vs (kvs.map (·.2)) → RepL g T (putVs (kvs.map fun p => EV.D.tup (p.1.map kD)) vs (.tup (k.map kD)) e) ((kvs.map fun kv => if kv.1 = k then (kv.1, v) else kv).map (·.2))
  | [], vs, r => by
    cases vs with
    | nil => exact (rfl : _ = _)
    | cons _ _ => obtain ⟨_, _, q, _⟩ := r; cases q
  | p :: kvs, vs, r => by
    cases vs with
    | nil => exact absurd (show _ = [] from r) (by simp)
    | cons x vs =>
      obtain ⟨u, us, q, h1, h2⟩ := r
      have q1 : p.2 = u := (List.cons.inj q).1
      have q2 := (List.cons.inj q).2
      subst q2
      have ih := putVs_T (k := k) re h2
      refine ⟨_, _, rfl, ?_, ih⟩
      show Rep g T (if keyEq (.tup (p.1.map kD)) (.tup (k.map kD)) = true then e else x) (if p.1 = k then (p.1, v) else p).2
      rw [keyEq_T]
      by_cases hk : p.1 = k
      · rw [if_pos (by simpa using hk), if_pos hk]; exact re
      · rw [if_neg (by simpa using hk), if_neg hk, q1]; exact h1
theorem put_T {T : Hp} {k : List Key} {e : EV.D} {v : V} (re : Rep g T e v) {kvs : List (List Key × V)} {vs : List EV.D} (r : RepL g T vs (kvs.map (·.2))) :
    (putD (kvs.map fun p => EV.D.tup (p.1.map kD)) vs (.tup (k.map kD)) e).1 = (putK kvs k v).map (fun p => EV.D.tup (p.1.map kD)) ∧ RepL g T (putD (kvs.map fun p => EV.D.tup (p.1.map kD)) vs (.tup (k.map kD)) e).2 ((putK kvs k v).map (·.2)) := by
  unfold putD putK
  rw [has_T]
  by_cases h : (kvs.any fun kv => decide (kv.1 = k)) = true
  · rw [if_pos h, if_pos h]
    refine ⟨?_, putVs_T re r⟩
    rw [List.map_map]
    refine List.map_congr_left fun p _ => ?_
    show EV.D.tup (p.1.map kD) = EV.D.tup ((if p.1 = k then (p.1, v) else p).1.map kD)
    split <;> rfl
  · rw [if_neg h, if_neg h]
    refine ⟨by simp, ?_⟩
    rw [List.map_append]
    exact RepL.append r ⟨v, [], rfl, re, rfl⟩
/-! ### y[k] = v -/
def GoodS1 (g : Gs) (E : XK) (T0 H0 : Hp) (σ : L2.St) (r : Res Out) (D : Ends) : Prop := match r with
  | .ok o t' => match o.1 with
    | .nx => ∀ T' H', FR g T0 H0 T' H' t' o.2 σ → D.nx σ H'
    | _ => True
  | .exc c t' => ExcS g E H0 c t'
  | .bad => False
/-- the slots stay as they are -/
def tS1 (g : Gs) (E : XK) (T0 H0 : Hp) (ev : Rho → M Out) : TS := fun D σ H => ∃ T ρ t, FR g T0 H0 T H t ρ σ ∧ GoodS1 g E T0 H0 σ (ev ρ t) D
theorem GoodS.one {r : Res Out} (h : GoodS g fr E T0 H0 r D) : GoodS1 g E T0 H0 σ r D := by
  unfold GoodS at h
  unfold GoodS1
  cases r with
  | exc c t' => exact h
  | bad => exact h
  | ok o t' =>
    obtain ⟨fl, ρ2⟩ := o
    cases fl with
    | nx => exact fun T' H' f => h σ T' H' f
    | _ => trivial
theorem tS1_E {f' : Bool} {e : EV.E} {k : EV.D → M Out} {Q : VK} (f : FR g T0 H0 T H t ρ σ) (q : GoodS1 g E T0 H0 σ (bnd (evE md cl e (vw m ρ)) k t) D)
    (h : ∀ d t1 v H1, Post g f' (Tp m ρ σ T H) H t1 d v H1 → GoodS1 g E T0 H0 σ (k d t1) D → Q v H1) : tE g (WK E) f' (evE md cl e) σ H Q := by
  refine ⟨_, _, t, f.at m, ?_⟩
  unfold bnd at q
  unfold Good
  cases ee : evE md cl e (vw m ρ) t with
  | ok d t1 => rw [ee] at q; exact fun v H1 p => h d t1 v H1 p q
  | exc c t' => rw [ee] at q; exact excS f q
  | bad => rw [ee] at q; exact q
theorem ss_dst1 {i : Nat} {ek ev : EV.E} {y : Str} {p sp pos : Pos} {zx x : Expr} (z : XZ X g md lv sc N st E) (mo : ModOk g md) (F : ClOk g md cl lv) (h1 : N[i]? = some y) (h2 : vis sc y = true) (h3 : plainName y = true) (hc : noC x = true) (h4 : chkE md N ek sc st zx = true) (h5 : chkE md N ev sc st x = true) :
    PS X (.Assign [.Subscript (.Name y p) zx sp] x pos) (tS1 g E T0 H0 (evDst md cl m i ek ev)) := by
  have se := se_all mo F ev z.xc z.tk h5
  have si := se_all mo F ek z.xc z.tk h4
  refine PS.weak (ps_dput (xg_u z.xc.xg) (var_pe z h1 h2 h3) (PE.of si.pe) (PE.of se.pe) (noC_sw hc)) fun D σ H ⟨T, ρ, t, f, q⟩ => ?_
  unfold evDst at q
  refine tS1_E f q fun d t1 v H1 p q1 => ?_
  obtain ⟨T1, f1, sto, _⟩ := f.val p
  have sto : Rep g T1 d v := sto
  rcases e1 : nth (aft false m d ρ) i with _ | (_ | ⟨d1, b1⟩)
  · rw [e1] at q1; exact q1.elim
  · rw [e1] at q1; exact q1.elim
  · cases b1 with
    | false => cases d1 <;> (rw [e1] at q1; exact q1.elim)
    | true =>
      cases d1 with
      | dic tk0 ks0 vs0 =>
        simp only [e1] at q1
        obtain ⟨a, s, w⟩ := f1.ow i _ e1
        refine ⟨_, s, ?_⟩
        refine tS1_E f1 q1 fun x t2 u H2 p2 q2 => ?_
        obtain ⟨T2, f2, sto2, sb2⟩ := f1.val p2
        have sto2 : Rep g T2 x u := sto2
        have sto3 := sto.mono sb2 _ _
        rcases e2 : nth (aft false m x (aft false m d ρ)) i with _ | (_ | ⟨d2, b2⟩)
        · rw [e2] at q2; exact q2.elim
        · rw [e2] at q2; exact q2.elim
        · cases b2 with
          | false => cases d2 <;> (rw [e2] at q2; exact q2.elim)
          | true =>
            cases d2 with
            | dic tk ks vs =>
              simp only [e2] at q2
              obtain ⟨a2, s2, w2⟩ := f2.ow i _ e2
              rw [s] at s2; cases s2
              by_cases hb : (keyB tk x && decide (ks.length < 1000000)) = true
              · rw [if_pos hb] at q2
                simp only [Bool.and_eq_true, decide_eq_true_eq] at hb
                obtain ⟨hk, hl⟩ := hb
                obtain ⟨vs2, rr, hh⟩ := w2.cell
                cases tk with
                | false =>
                  rcases hh with ⟨_, kvs, hH, k1, k2⟩ | ⟨q, _⟩
                  · subst k1; subst k2
                    unfold keyB at hk
                    obtain ⟨k, hk⟩ := Option.isSome_iff_exists.mp hk
                    have ek3 := keyK_kD hk
                    have ev3 := keyK_rep hk sto2
                    subst ek3; subst ev3
                    have hlen : kvs.length < sizeLine := by
                      rw [List.length_map] at hl
                      rw [sz]; exact Nat.lt_of_lt_of_le hl (by decide)
                    refine ⟨a, _, rfl, .inl ⟨kvs, k, hH, rfl, hlen, rfl⟩, ?_⟩
                    obtain ⟨p1, p2⟩ := put_K (k := k) sto3 rr
                    exact q2 _ _ (f2.putC e2 s hH rfl ⟨_, p2, .inl ⟨rfl, _, upd_same, p1, rfl⟩⟩)
                  · cases q
                | true =>
                  rcases hh with ⟨q, _⟩ | ⟨_, kvs, hH, k1, k2⟩
                  · cases q
                  · subst k1; subst k2
                    cases x with
                    | tup ds =>
                      unfold keyB at hk
                      obtain ⟨k, hk⟩ := Option.isSome_iff_exists.mp hk
                      obtain ⟨b, us, rfl, hb, rb⟩ := sto2
                      have ek3 := keysK_kD hk
                      have ev3 := keysK_rep hk rb
                      subst ek3; subst ev3
                      have hlen : kvs.length < sizeLine := by
                        rw [List.length_map] at hl
                        rw [sz]; exact Nat.lt_of_lt_of_le hl (by decide)
                      refine ⟨a, _, rfl, .inr ⟨kvs, k, b, hH, rfl, f2.gn.in_ _ _ hb, hlen, rfl⟩, ?_⟩
                      obtain ⟨p1, p2⟩ := put_T (k := k) sto3 rr
                      exact q2 _ _ (f2.putC e2 s hH rfl ⟨_, p2, .inr ⟨rfl, _, upd_same, p1, rfl⟩⟩)
                    | _ => cases hk
              · rw [if_neg hb] at q2; exact q2.elim
            | _ => rw [e2] at q2; exact q2.elim
      | _ => rw [e1] at q1; exact q1.elim
theorem ss_dst {i : Nat} {ek ev : EV.E} {y : Str} {p sp pos : Pos} {zx x : Expr} (z : XZ X g md lv sc N st E) (mo : ModOk g md) (F : ClOk g md cl lv) (h1 : N[i]? = some y) (h2 : vis sc y = true) (h3 : plainName y = true) (hc : noC x = true) (h4 : chkE md N ek sc st zx = true) (h5 : chkE md N ev sc st x = true) :
    PS X (.Assign [.Subscript (.Name y p) zx sp] x pos) (tS g fr E T0 H0 (evS md cl fr (.dst m i ek ev))) := by
  refine PS.weak (ss_dst1 (T0 := T0) (H0 := H0) (m := m) z mo F h1 h2 h3 hc h4 h5) fun D σ H ⟨T, ρ, t, f, q⟩ => ⟨T, ρ, t, f, ?_⟩
  unfold evS at q
  exact q.one
/-! ### l.extend(e) -/
/-- a list behind an expression -/
theorem sto_lst {f' : Bool} {ds : List EV.D} {v : V} (f : FR g T0 H0 T H t ρ σ) (s : Sto g H0 f' T H (.lst ds) v σ ρ) : ∃ b zs, v = .ref b ∧ H b = some (.lst zs) ∧ RepL g T ds zs := by
  unfold Sto at s
  cases f' with
  | true =>
    obtain ⟨b, rfl, w, _⟩ := s
    obtain ⟨zs, h, r⟩ := w.cell
    exact ⟨b, zs, rfl, h, r⟩
  | false =>
    obtain ⟨b, zs, rfl, h, r⟩ := s
    exact ⟨b, zs, rfl, f.gn.in_ _ _ h, r⟩
theorem ss_xt {i : Nat} {e : EV.E} {y n : Str} {p ap cp pos : Pos} {x : Expr} (z : XZ X g md lv sc N st E) (mo : ModOk g md) (F : ClOk g md cl lv) (hn : n = "extend") (hl : (ap.endLine == cp.line) = true) (h1 : N[i]? = some y) (h2 : vis sc y = true) (h3 : plainName y = true) (hx : okE x = true) (h4 : chkE md N e sc st x = true) :
    PS X (.Expr (.Call (.Attribute (.Name y p) n ap) [x] [] cp) pos) (tS g fr E T0 H0 (evS md cl fr (.xt m i e))) := by
  have se := se_all mo F e z.xc z.tk h4
  subst hn
  have hfew := few_ok (pos := cp) (env := X.env) (e := x) (es := []) (by simp [hx]) (by simp)
  refine PS.weak (ps_expr (pe_bm PySem.F.plainAttrs_list PySem.F.slot_list_extend PySem.F.type_list_extend mt_extend (var_pe z h1 h2 h3) (pa_cons se.pe pa_nil (star_ok hx)) rfl hfew hl (star_ok hx) rfl) rfl) fun D σ H ⟨T, ρ, t, f, q⟩ => ?_
  unfold evS at q
  rcases e0 : nth ρ i with _ | (_ | ⟨d0, b0⟩)
  · rw [e0] at q; exact q.elim
  · rw [e0] at q; exact q.elim
  · cases b0 with
    | false => cases d0 <;> (rw [e0] at q; exact q.elim)
    | true =>
      cases d0 with
      | lst ds0 =>
        simp only [e0] at q
        obtain ⟨a, s, w⟩ := f.ow i _ e0
        obtain ⟨vs0, hH, _⟩ := w.cell
        refine ⟨_, s, .inl ⟨rfl, vs0, SqL.of hH⟩, ?_⟩
        refine tS_E f q fun d t1 v H1 p q1 => ?_
        obtain ⟨T1, f1, sto, _⟩ := f.val p
        cases d with
        | lst ds =>
          rcases e1 : nth (aft (frE md e) m (.lst ds) ρ) i with _ | (_ | ⟨d1, b1⟩)
          · simp only [e1] at q1; exact q1.elim
          · simp only [e1] at q1; exact q1.elim
          · cases b1 with
            | false => cases d1 <;> (simp only [e1] at q1; exact q1.elim)
            | true =>
              cases d1 with
              | lst xs =>
                simp only [e1] at q1
                by_cases hlen : xs.length + ds.length ≤ 1000000
                · rw [if_pos hlen] at q1
                  obtain ⟨vs1, hH1, r1⟩ := f1.lst e1 s
                  obtain ⟨b, zs, rfl, hb, rz⟩ := sto_lst f1 sto
                  refine ⟨a, b, vs1, zs, rfl, rfl, hH1, hb, ?_, ?_⟩
                  · rw [sz, r1.length, rz.length]; exact Nat.le_trans hlen (by decide)
                  · exact q1 _ _ _ (f1.put e1 s (RepL.append r1 rz))
                · rw [if_neg hlen] at q1; exact q1.elim
              | _ => simp only [e1] at q1; exact q1.elim
        | _ => exact q1.elim
      | _ => rw [e0] at q; exact q.elim
/-! ### d.update(e) -/
theorem d_upd {pins : List (Addr × Obj)} {s : Shared} {a b : Addr} {kvs more : List (Key × V)} {A : Around} {E' : Value → Shared → Prop} {Q : Value → Shared → Prop} (I : Inv X pins σ H s) (e : H a = some (.dK kvs)) (e2 : H b = some (.dK more)) (hne : a ≠ b) (hz : kvs.length + more.length ≤ sizeLine)
    (h : ∀ s', Inv X pins σ (upd H a (.dK (mergeK kvs more))) s' → Q .none s') : wpAny (model X.prog X.w) A (call (.builtin "dict.update") [.ref a, .ref b]) Q E' s := by
  obtain ⟨z, hd, vs, rel, dd⟩ := dk_of I.hok e
  obtain ⟨z2, hd2, vs2, rel2, dd2⟩ := dk_of I.hok e2
  refine call_meetsIn PySem.F.slot_dict_update dd.typeIs PySem.F.entry_dict_update (PySem.F.args_dict_update_2 _ _) (meets_dict_update (mixKind X.prog X.w) a b hne hd2) ⟨vs, vs2, dd, dd2, by rw [← rel.length, ← rel2.length]; exact hz, fun h' dd' _ hs => h _ ?_⟩
  have he : ∃ q, h'.get? a = some q := let ⟨q, _, _, hq, _⟩ := dd'; ⟨q, hq⟩
  exact d_write (t' := s.toks) I (by rw [e]; exact True.intro) hs he (dk_new (Nat.le_trans (length_mergeK more kvs) hz) hd (KV.merge rel2 rel) dd')
def rUpd : V → List V → Hp → VK → Prop := fun x vs H Q => ∃ (a b : Addr) (kvs more : List (Key × V)), x = .ref a ∧ vs = [.ref b] ∧ a ≠ b ∧ H a = some (.dK kvs) ∧ H b = some (.dK more) ∧ kvs.length + more.length ≤ sizeLine ∧ Q .non (upd H a (.dK (mergeK kvs more)))
theorem mt_upd : MtR X "dict.update" rUpd := by
  intro pins s σ H x vs v us Q I rx rv h
  obtain ⟨a, b, kvs, more, ex, ev, hn, e, e2, hz, q⟩ := h
  subst ex
  subst ev
  obtain rfl : v = Value.ref a := rx
  obtain ⟨u, eu, ru⟩ := rv.one
  subst eu
  obtain rfl : u = Value.ref b := ru
  exact d_upd I e e2 hn hz fun s' I' => ⟨.non, _, I', rfl, q⟩
theorem mrg_K {T : Hp} : ∀ {more : List (Key × V)} {us : List EV.D} {kvs : List (Key × V)} {vs : List EV.D}, RepL g T us (more.map (·.2)) → RepL g T vs (kvs.map (·.2)) →
    (mrgD (kvs.map fun p => kD p.1) vs (more.map fun p => kD p.1) us).1 = (mergeK kvs more).map (fun p => kD p.1) ∧ RepL g T (mrgD (kvs.map fun p => kD p.1) vs (more.map fun p => kD p.1) us).2 ((mergeK kvs more).map (·.2))
  | [], us, kvs, vs, r, r2 => ⟨rfl, r2⟩
  | p :: more, us, kvs, vs, r, r2 => by
    cases us with
    | nil => exact absurd (show _ = [] from r) (by simp)
    | cons u us =>
      obtain ⟨w, ws, q, k1, k2⟩ := r
      have q1 : p.2 = w := (List.cons.inj q).1
      have q2 := (List.cons.inj q).2
      subst q2; subst q1
      obtain ⟨p1, p2⟩ := put_K (k := p.1) k1 r2
      have ih := mrg_K (more := more) (kvs := putK kvs p.1 p.2) k2 p2
      rw [← p1] at ih
      exact ih
/-- a dict behind an expression -/
theorem sto_dic {f' : Bool} {ks vs : List EV.D} {v : V} (f : FR g T0 H0 T H t ρ σ) (s : Sto g H0 f' T H (.dic false ks vs) v σ ρ) : ∃ b kvs, v = .ref b ∧ H b = some (.dK kvs) ∧ ks = kvs.map (fun p => kD p.1) ∧ RepL g T vs (kvs.map (·.2)) ∧ ∀ i d a, nth ρ i = some (some (d, true)) → σ[i]? = some (some (.ref a)) → a ≠ b := by
  unfold Sto at s
  cases f' with
  | true =>
    obtain ⟨b, rfl, w, nn⟩ := s
    obtain ⟨us, r, h⟩ := w.cell
    rcases h with ⟨_, kvs, hH, k1, k2⟩ | ⟨q, _⟩
    · subst k2
      exact ⟨b, kvs, rfl, hH, k1, r, fun i d a hi hs q => nn i d hi (by rw [hs, q])⟩
    · cases q
  | false =>
    obtain ⟨b, us, rfl, r, h⟩ := s
    rcases h with ⟨_, kvs, hT, k1, k2⟩ | ⟨q, _⟩
    · subst k2
      refine ⟨b, kvs, rfl, f.gn.in_ _ _ hT, k1, r, fun i d a hi hs q => ?_⟩
      subst q
      obtain ⟨c, s2, w⟩ := f.ow i d hi
      rw [hs] at s2; cases s2
      rw [w.out] at hT; cases hT
    · cases q
theorem ss_upd {i : Nat} {e : EV.E} {y n : Str} {p ap cp pos : Pos} {x : Expr} (z : XZ X g md lv sc N st E) (mo : ModOk g md) (F : ClOk g md cl lv) (hn : n = "update") (hl : (ap.endLine == cp.line) = true) (h1 : N[i]? = some y) (h2 : vis sc y = true) (h3 : plainName y = true) (hx : okE x = true) (h4 : chkE md N e sc st x = true) :
    PS X (.Expr (.Call (.Attribute (.Name y p) n ap) [x] [] cp) pos) (tS g fr E T0 H0 (evS md cl fr (.upd m i e))) := by
  have se := se_all mo F e z.xc z.tk h4
  subst hn
  have hfew := few_ok (pos := cp) (env := X.env) (e := x) (es := []) (by simp [hx]) (by simp)
  refine PS.weak (ps_expr (pe_bm PySem.F.plainAttrs_dict PySem.F.slot_dict_update PySem.F.type_dict_update mt_upd (var_pe z h1 h2 h3) (pa_cons se.pe pa_nil (star_ok hx)) rfl hfew hl (star_ok hx) rfl) rfl) fun D σ H ⟨T, ρ, t, f, q⟩ => ?_
  unfold evS at q
  rcases e0 : nth ρ i with _ | (_ | ⟨d0, b0⟩)
  · rw [e0] at q; exact q.elim
  · rw [e0] at q; exact q.elim
  · cases b0 with
    | false => cases d0 <;> first | (rw [e0] at q; exact q.elim) | (rename_i tk _ _; cases tk <;> (rw [e0] at q; exact q.elim))
    | true =>
      cases d0 with
      | dic tk0 ks0 vs0 =>
        cases tk0 with
        | true => rw [e0] at q; exact q.elim
        | false =>
        simp only [e0] at q
        obtain ⟨a, s, w⟩ := f.ow i _ e0
        refine ⟨_, s, ?_, ?_⟩
        · obtain ⟨us, r, h⟩ := w.cell
          rcases h with ⟨_, kvs, hH, _⟩ | ⟨q, _⟩
          · exact .inr (.inr (.inl ⟨rfl, .inl ⟨kvs, hH⟩⟩))
          · cases q
        refine tS_E f q fun d t1 v H1 p q1 => ?_
        obtain ⟨T1, f1, sto, _⟩ := f.val p
        cases d with
        | dic tk1 ls us =>
          cases tk1 with
          | true => exact q1.elim
          | false =>
          rcases e1 : nth (aft (frE md e) m (.dic false ls us) ρ) i with _ | (_ | ⟨d1, b1⟩)
          · simp only [e1] at q1; exact q1.elim
          · simp only [e1] at q1; exact q1.elim
          · cases b1 with
            | false => cases d1 <;> first | (simp only [e1] at q1; exact q1.elim) | (rename_i tk _ _; cases tk <;> (simp only [e1] at q1; exact q1.elim))
            | true =>
              cases d1 with
              | dic tk ks vs =>
                cases tk with
                | true => simp only [e1] at q1; exact q1.elim
                | false =>
                simp only [e1] at q1
                by_cases hlen : ks.length + ls.length ≤ 1000000
                · rw [if_pos hlen] at q1
                  obtain ⟨a2, s2, w2⟩ := f1.ow i _ e1
                  rw [s] at s2; cases s2
                  obtain ⟨vs2, rr, hh⟩ := w2.cell
                  rcases hh with ⟨_, kvs, hH1, k1, k2⟩ | ⟨q, _⟩
                  · subst k1; subst k2
                    obtain ⟨b, more, rfl, hb, k3, rz, hne⟩ := sto_dic f1 sto
                    subst k3
                    refine ⟨a, b, kvs, more, rfl, rfl, hne i _ a e1 s, hH1, hb, ?_, ?_⟩
                    · rw [List.length_map, List.length_map] at hlen
                      rw [sz]; exact Nat.le_trans hlen (by decide)
                    · obtain ⟨p1, p2⟩ := mrg_K rz rr
                      exact q1 _ _ _ (f1.putC e1 s hH1 rfl ⟨_, p2, .inl ⟨rfl, _, upd_same, p1, rfl⟩⟩)
                  · cases q
                · rw [if_neg hlen] at q1; exact q1.elim
              | _ => simp only [e1] at q1; exact q1.elim
        | _ => exact q1.elim
      | _ => rw [e0] at q; exact q.elim
/-! ### t = l.pop() -/
theorem RepL.at {T : Hp} {ds : List EV.D} {vs : List V} {k : Nat} {d : EV.D} (r : RepL g T ds vs) (h : nth ds k = some d) : ∃ v, vs[k]? = some v ∧ Rep g T d v := r.get (by rw [nth_eq] at h; exact h)
theorem pp_t {tg : Tg} {i : Nat} {y : Str} {p : Pos} {n : Str} {ap cp : Pos} {tx : Expr} (z : XZ X g md lv sc N st E) (h1 : N[i]? = some y) (h2 : vis sc y = true) (h3 : plainName y = true) (q : tS g fr E T0 H0 (evS md cl fr (.ppT tg i)) D σ H) :
    tAsg (tBM0 X.K "list" rPop (tVar i)) (tG g tg) D σ H := by
  obtain ⟨T, ρ, t, f, q⟩ := q
  unfold evS at q
  rcases e0 : nth ρ i with _ | (_ | ⟨d0, b0⟩)
  · rw [e0] at q; exact q.elim
  · rw [e0] at q; exact q.elim
  · cases b0 with
    | false => cases d0 <;> (rw [e0] at q; exact q.elim)
    | true =>
      cases d0 with
      | lst xs =>
        simp only [e0] at q
        cases hx : nth xs (xs.length - 1) with
        | none => simp only [hx] at q; exact q.elim
        | some x =>
          simp only [hx] at q
          cases hr : tgR tg x (ρ.set i (some (.lst xs.dropLast, true))) with
          | none => simp only [hr] at q; exact q.elim
          | some ρ1 =>
            simp only [hr] at q
            obtain ⟨a, s, w⟩ := f.ow i _ e0
            obtain ⟨vs0, hH, r0⟩ := w.cell
            obtain ⟨v, hv, rv⟩ := r0.at hx
            refine ⟨_, s, .inl ⟨rfl, vs0, SqL.of hH⟩, a, vs0, v, rfl, rfl, hH, by rw [r0.length]; exact hv, ?_⟩
            exact tG_of (f.put e0 s (RepL.dropLast r0)) rv hr fun σ' f' => q _ _ _ f'
      | _ => rw [e0] at q; exact q.elim
theorem ss_ppT {tg : Tg} {i : Nat} {y n : Str} {p ap cp pos : Pos} {tx : Expr} (z : XZ X g md lv sc N st E) (htx : (∃ ts k q, tx = .Tuple ts k q) ∨ ∃ w q, tx = .Name w q) (h0 : chkTg sc st N tg tx = true) (hn : n = "pop") (hl : (ap.endLine == cp.line) = true) (h1 : N[i]? = some y) (h2 : vis sc y = true) (h3 : plainName y = true) :
    PS X (.Assign [tx] (.Call (.Attribute (.Name y p) n ap) [] [] cp) pos) (tS g fr E T0 H0 (evS md cl fr (.ppT tg i))) := by
  subst hn
  have pe := pe_bm0 (apos := ap) (cpos := cp) PySem.F.plainAttrs_list PySem.F.slot_list_pop PySem.F.type_list_pop mt_pop (var_pe z h1 h2 h3 (p := p)) rfl hl
  rcases htx with ⟨ts, k, q, rfl⟩ | ⟨w, q, rfl⟩
  · exact PS.weak (ps_asg pe (sg_ok z.xc h0) (noC_sole rfl) (noT_sw rfl) rfl) fun D σ H q => pp_t (n := "pop") (p := p) (ap := ap) (cp := cp) (tx := .Name y p) z h1 h2 h3 q
  · exact PS.weak (ps_asg pe (sg_ok z.xc h0) (noC_sole rfl) (noT_sw rfl) rfl) fun D σ H q => pp_t (n := "pop") (p := p) (ap := ap) (cp := cp) (tx := .Name y p) z h1 h2 h3 q
/-! ### for t in l: d[k] = v, l stays in its slot -/
theorem memN_iff {c : Nat} : ∀ {l : List Nat}, memN c l = true ↔ c ∈ l
  | [] => by simp [memN]
  | x :: xs => by simp [memN, memN_iff (l := xs)]
theorem forO_body {k : Rho → M Out} {x : M Out} {σ' : L2.St} {P : L2.St → Hp → Prop} (h : GoodS g fr E T0 H0 (bnd x (fun o => match o.1 with | .nx => k o.2 | _ => bad) t) D) (hk : ∀ ρ2 t2, GoodS g fr E T0 H0 (k ρ2 t2) D → ∀ T' H', FR g T0 H0 T' H' t2 ρ2 σ' → P σ' H') : GoodS1 g E T0 H0 σ' (x t) { D with nx := P, ct := P, bk := D.nx } := by
  unfold bnd at h
  unfold GoodS1
  cases e : x t with
  | exc c t' => rw [e] at h; exact h
  | bad => rw [e] at h; exact h
  | ok o t' =>
    rw [e] at h
    obtain ⟨fl, ρ2⟩ := o
    cases fl with
    | nx => exact hk ρ2 t' h
    | _ => trivial
theorem ss_forO {tg : Tg} {i j : Nat} {ek ev : EV.E} {y u : Str} {tx : Expr} {p pu sp ap pos : Pos} {zx w : Expr} (z : XZ X g md lv sc N st E) (mo : ModOk g md) (F : ClOk g md cl lv) (h0 : chkTg sc st N tg tx = true) (h1 : N[i]? = some y) (h2 : vis sc y = true) (h3 : plainName y = true)
    (k1 : N[j]? = some u) (k2 : vis sc u = true) (k3 : plainName u = true) (hc : noC w = true) (h4 : chkE md N ek sc st zx = true) (h5 : chkE md N ev sc st w = true) :
    PS X (.For tx (.Name y p) [.Assign [.Subscript (.Name u pu) zx sp] w ap] [] pos) (tS g fr E T0 H0 (evS md cl fr (.forO tg i m j ek ev))) := by
  have hb := ss_dst1 (T0 := T0) (H0 := H0) (m := m) (sp := sp) (p := pu) (pos := ap) z mo F k1 k2 k3 hc h4 h5
  refine PS.weak (ps_for z.pa z.xc.xg.calm (pi_list (var_pe z h1 h2 h3)) (sg_ok z.xc h0) (pss_cons hb pss_nil) (fun x => rfl)) fun D σ H ⟨T, ρ, t, f, q⟩ => ?_
  unfold evS at q
  by_cases hm : memN i (tgSlots tg) = true
  · rw [if_pos hm] at q; exact q.elim
  · rw [if_neg hm] at q
    have hm : i ∉ tgSlots tg := fun k => hm (memN_iff.mpr k)
    rcases e0 : nth ρ i with _ | (_ | ⟨d0, b0⟩)
    · rw [e0] at q; exact q.elim
    · rw [e0] at q; exact q.elim
    · cases b0 with
      | false => cases d0 <;> (rw [e0] at q; exact q.elim)
      | true =>
        cases d0 with
        | lst ds =>
          simp only [e0] at q
          obtain ⟨a, s, w⟩ := f.ow i _ e0
          obtain ⟨vs0, hH, _⟩ := w.cell
          refine ⟨_, s, a, rfl, ⟨vs0, SqL.of hH⟩, ?_⟩
          refine ⟨fun k n σ H => ∃ T ρ t, FR g T0 H0 T H t ρ σ ∧ σ[i]? = some (some (.ref a)) ∧ GoodS g fr E T0 H0 (forO tg i (evDst md cl m j ek ev) n k ρ t) D, ⟨ds.length + 1, T, ρ, t, f, s, q⟩, fun k n σ H ⟨T, ρ, t, f, s, q⟩ => ?_⟩
          cases n with
          | zero => exact q.elim
          | succ n =>
            unfold forO at q
            rcases e0 : nth ρ i with _ | (_ | ⟨d0, b0⟩)
            · rw [e0] at q; exact q.elim
            · rw [e0] at q; exact q.elim
            · cases b0 with
              | false => cases d0 <;> (rw [e0] at q; exact q.elim)
              | true =>
                cases d0 with
                | lst ds =>
                  simp only [e0] at q
                  obtain ⟨vs, hH, r0⟩ := f.lst e0 s
                  cases hx : nth ds k with
                  | none =>
                    simp only [hx] at q
                    rw [nth_eq, List.getElem?_eq_none_iff] at hx
                    exact .inl ⟨⟨vs, SqL.of hH, by rw [r0.length]; exact hx⟩, q _ _ _ f⟩
                  | some x =>
                    simp only [hx] at q
                    obtain ⟨v, hv, rv⟩ := r0.at hx
                    refine .inr ⟨⟨vs, v, SqL.of hH, hv⟩, fun σ2 H2 => ∃ T ρ t, FR g T0 H0 T H2 t ρ σ2 ∧ σ2[i]? = some (some (.ref a)) ∧ GoodS g fr E T0 H0 (forO tg i (evDst md cl m j ek ev) n (k + 1) ρ t) D, fun σ' H' w => ⟨n, by omega, w⟩, fun x' H2 yy => ?_⟩
                    obtain ⟨rfl, y2⟩ := yy
                    have y3 := y2 vs (SqL.of hH)
                    rw [hv] at y3; cases y3
                    cases hr : tgR tg x ρ with
                    | none => simp only [hr] at q; exact q.elim
                    | some ρ1 =>
                      simp only [hr] at q
                      obtain ⟨es, t1, t2⟩ := tgR_v hr
                      refine ⟨T, t, x, es, f.ar, rv, t1, fun us ru => ?_⟩
                      have f2 := f.sets t2 ru
                      have s2 : (setsV (tgSlots tg) us σ)[i]? = some (some (.ref a)) := by rw [sets_out hm]; exact s
                      refine ⟨T, ρ1, t, f2, ?_⟩
                      exact forO_body q fun ρ2 t2 q2 T' H' f3 => ⟨T', ρ2, t2, f3, s2, q2⟩
                | _ => rw [e0] at q; exact q.elim
        | _ => rw [e0] at q; exact q.elim
end
end EV

set_option Elab.async false
set_option linter.all false
set_option maxRecDepth 100000
set_option maxHeartbeats 400000
/-! EvU: all statements; defs. -/
namespace EV
open PySem PySem.Spec PyProof.Rows L2
section
variable {g : Gs} {md : Md} {cl : Cl} {lv : Nat} {X : Cx} {sc : Scope} {N : List Str} {st : Str → Bool} {E : XK} {fr : Bool} {H0 : Hp}
mutual
theorem ss_all (z : XZ X g md lv sc N st E) (mo : ModOk g md) (xo : XcOk g md) (F : ClOk g md cl lv) : ∀ (s : Z) (T0 : Hp) {x : Stmt}, chkS md N s sc st x = true → PS X x (tS g fr E T0 H0 (evS md cl fr s))
  | .set m i e, T0, x, h => by
    unfold chkS at h
    split at h
    · simp only [Bool.and_eq_true] at h
      exact ss_set z mo F h.1.1 h.1.2 h.2
    · cases h
  | .tgt m tg e, T0, x, h => by
    unfold chkS at h
    split at h
    · simp only [Bool.and_eq_true, Bool.not_eq_true'] at h
      obtain ⟨⟨⟨h1, h2⟩, h3⟩, h4⟩ := h
      exact ss_tgt z mo F h1 h2 h3 h4
    · cases h
  | .par m is es, T0, x, h => by
    unfold chkS at h
    split at h
    · simp only [Bool.and_eq_true, decide_eq_true_eq] at h
      obtain ⟨⟨⟨⟨⟨h1, h2⟩, h3⟩, h4⟩, h5⟩, h6⟩ := h
      exact ss_par z mo F h1 h2 h3 h4 h5 h6
    · cases h
  | .app m i e, T0, x, h => by
    unfold chkS at h
    split at h
    · simp only [Bool.and_eq_true, decide_eq_true_eq] at h
      obtain ⟨⟨⟨⟨⟨⟨h1, h2⟩, h3⟩, h4⟩, h5⟩, h6⟩, h7⟩ := h
      exact ss_app z mo F h1 h2 h3 h4 h5 h6 h7
    · cases h
  | .put m i ei e, T0, x, h => by
    unfold chkS at h
    split at h
    · simp only [Bool.and_eq_true, decide_eq_true_eq] at h
      obtain ⟨⟨⟨⟨⟨⟨h1, h2⟩, h3⟩, h4⟩, h5⟩, h6⟩, h7⟩ := h
      exact ss_put z mo F h1 h2 h3 h4 h5 h6 h7
    · cases h
  | .aug m o i e, T0, x, h => by
    unfold chkS at h
    split at h
    · simp only [Bool.and_eq_true, decide_eq_true_eq] at h
      obtain ⟨⟨h1, h2⟩, h3⟩ := h
      exact ss_aug z mo F h1 h2 h3
    · cases h
  | .ifS m c a b, T0, x, h => by
    unfold chkS at h
    split at h
    · simp only [Bool.and_eq_true] at h
      obtain ⟨⟨h1, h2⟩, h3⟩ := h
      exact ss_if (se_all mo F c z.xc z.tk h1) (sss_all z mo xo F a T0 h2) (sss_all z mo xo F b T0 h3)
    · cases h
  | .whl m n c b, T0, x, h => by
    unfold chkS at h
    split at h
    · simp only [Bool.and_eq_true] at h
      exact ss_while z (se_all mo F c z.xc z.tk h.1) (sss_all z mo xo F b T0 h.2)
    · cases h
  | .for m tg k es b, T0, x, h => by
    unfold chkS at h
    split at h
    · simp only [Bool.and_eq_true] at h
      obtain ⟨⟨⟨h1, h2⟩, h3⟩, h4⟩ := h
      exact ss_for z (si_all z mo F h4) (sg_ok z.xc h2) (fun T0 => sss_all z mo xo F b T0 h3) (fold_ok h1)
    · cases h
  | .ret m e, T0, x, h => by
    unfold chkS at h
    split at h
    · exact ss_ret (se_all mo F e z.xc z.tk h)
    · cases h
  | .retV i, T0, x, h => by
    unfold chkS at h
    split at h
    · simp only [Bool.and_eq_true, decide_eq_true_eq] at h
      exact ss_retV z h.1.1 h.1.2 h.2
    · cases h
  | .rz c, T0, x, h => by
    unfold chkS at h
    split at h
    · simp only [Bool.and_eq_true, decide_eq_true_eq] at h
      exact ss_rz z xo h.1.1 h.1.2 h.2
    · cases h
  | .brk, T0, x, h => by
    unfold chkS at h
    split at h
    · exact PS.weak ps_break fun D σ H ⟨T, ρ, t, f, q⟩ => by
        unfold evS at q; exact q _ _ _ f
    · cases h
  | .cont, T0, x, h => by
    unfold chkS at h
    split at h
    · exact PS.weak ps_continue fun D σ H ⟨T, ρ, t, f, q⟩ => by
        unfold evS at q; exact q _ _ _ f
    · cases h
  | .pass, T0, x, h => by
    unfold chkS at h
    split at h
    · exact PS.weak ps_pass fun D σ H ⟨T, ρ, t, f, q⟩ => by
        unfold evS at q; exact q _ _ _ f
    · exact PS.weak ps_doc fun D σ H ⟨T, ρ, t, f, q⟩ => by
        unfold evS at q; exact q _ _ _ f
    · cases h
  | .exp m e, T0, x, h => by
    unfold chkS at h
    split at h
    · simp only [Bool.and_eq_true] at h
      exact ss_exp (se_all mo F e z.xc z.tk h.2) h.1
    · cases h
  | .tw m i k e, T0, x, h => by
    unfold chkS at h
    split at h
    · simp only [Bool.and_eq_true, decide_eq_true_eq] at h
      obtain ⟨⟨⟨⟨⟨⟨h1, h2⟩, h3⟩, h4⟩, h5⟩, h6⟩, h7⟩ := h
      subst h4
      exact ss_tw z h1 h2 h3 h5 h6 (se_all mo F e z.xc z.tk h7)
    · cases h
  | .pop i, T0, x, h => by
    unfold chkS at h
    split at h
    · simp only [Bool.and_eq_true, decide_eq_true_eq] at h
      obtain ⟨⟨⟨⟨h1, h2⟩, h3⟩, h4⟩, h5⟩ := h
      exact ss_pop z h1 h2 h3 h4 h5
    · cases h
  | .pix m o i ei e, T0, x, h => by
    unfold chkS at h
    split at h
    · simp only [Bool.and_eq_true, decide_eq_true_eq] at h
      obtain ⟨⟨⟨⟨⟨⟨h1, h2⟩, h3⟩, h4⟩, h5⟩, h6⟩, h7⟩ := h
      exact ss_pix z mo F h1 h2 h3 h4 h5 h6 h7
    · cases h
  | .dst m i ek ev, T0, x, h => by
    unfold chkS at h
    split at h
    · simp only [Bool.and_eq_true, decide_eq_true_eq] at h
      obtain ⟨⟨⟨⟨⟨⟨h1, h2⟩, h3⟩, h4⟩, h5⟩, h6⟩, h7⟩ := h
      exact ss_dst z mo F h1 h2 h3 h5 h6 h7
    · cases h
  | .xt m i e, T0, x, h => by
    unfold chkS at h
    split at h
    · simp only [Bool.and_eq_true, decide_eq_true_eq] at h
      obtain ⟨⟨⟨⟨⟨⟨h1, h2⟩, h3⟩, h4⟩, h5⟩, h6⟩, h7⟩ := h
      exact ss_xt z mo F h1 h2 h3 h4 h5 h6 h7
    · cases h
  | .upd m i e, T0, x, h => by
    unfold chkS at h
    split at h
    · simp only [Bool.and_eq_true, decide_eq_true_eq] at h
      obtain ⟨⟨⟨⟨⟨⟨h1, h2⟩, h3⟩, h4⟩, h5⟩, h6⟩, h7⟩ := h
      exact ss_upd z mo F h1 h2 h3 h4 h5 h6 h7
    · cases h
  | .ppT tg i, T0, x, h => by
    unfold chkS at h
    split at h
    · simp only [Bool.and_eq_true, decide_eq_true_eq] at h
      obtain ⟨⟨⟨⟨⟨h1, h2⟩, h3⟩, h4⟩, h5⟩, h6⟩ := h
      exact ss_ppT z (.inl ⟨_, _, _, rfl⟩) h1 h2 h3 h4 h5 h6
    · simp only [Bool.and_eq_true, decide_eq_true_eq] at h
      obtain ⟨⟨⟨⟨⟨h1, h2⟩, h3⟩, h4⟩, h5⟩, h6⟩ := h
      exact ss_ppT z (.inr ⟨_, _, rfl⟩) h1 h2 h3 h4 h5 h6
    · cases h
  | .forO tg i m j ek ev, T0, x, h => by
    unfold chkS at h
    split at h
    · simp only [Bool.and_eq_true, decide_eq_true_eq] at h
      obtain ⟨⟨⟨⟨⟨⟨⟨⟨⟨⟨h1, h2⟩, h3⟩, h4⟩, h5⟩, h6⟩, h7⟩, h8⟩, h9⟩, h10⟩, h11⟩ := h
      exact ss_forO z mo F h1 h2 h3 h4 h5 h6 h7 h9 h10 h11
    · cases h
  | .rpS _ _ _ _ _, T0, x, h => by unfold chkS at h; cases h
  | .rpI _ _ _ _ _ _ _ _, T0, x, h => by unfold chkS at h; cases h
theorem sss_all (z : XZ X g md lv sc N st E) (mo : ModOk g md) (xo : XcOk g md) (F : ClOk g md cl lv) : ∀ (ss : List Z) (T0 : Hp) {xs : List Stmt}, chkSs md N ss sc st xs = true → PSs X xs (tS g fr E T0 H0 (evSs md cl fr ss))
  | [], T0, xs, h => by
    unfold chkSs at h
    have e : xs = [] := List.isEmpty_iff.mp h
    subst e
    exact PSs.weak pss_nil fun D σ H ⟨T, ρ, t, f, q⟩ => by
      unfold evSs at q; exact q _ _ _ f
  | s :: ss, T0, xs, h => by
    unfold chkSs at h
    cases xs with
    | nil => cases h
    | cons x xs =>
      simp only [Bool.and_eq_true] at h
      refine PSs.weak (pss_cons (ss_all z mo xo F s T0 h.1) (sss_all z mo xo F ss T0 h.2)) fun D σ H ⟨T, ρ, t, f, q⟩ => ?_
      unfold evSs at q
      refine ⟨T, ρ, t, f, ?_⟩
      unfold bnd at q
      unfold GoodS
      cases e : evS md cl fr s ρ t with
      | exc c t' => rw [e] at q; exact q
      | bad => rw [e] at q; exact q
      | ok o t' =>
        rw [e] at q
        obtain ⟨fl, ρ2⟩ := o
        cases fl with
        | nx => exact fun σ' T' H' f' => ⟨T', ρ2, t', f', q⟩
        | bk => exact q
        | ct => exact q
        | rt d => exact q
end
end

open CwR
/-! ### a token is out -/
inductive Fresh1 {α : Type} : Sem α → Prop where
  | fresh (k : Tok → Sem α) : Fresh1 (Sem.fresh k)
  | rule {r} {k : Unit → Sem α} (h : Fresh1 (k ())) : Fresh1 (Sem.rule r k)
  | «at» {p} {k : Unit → Sem α} (h : Fresh1 (k ())) : Fresh1 (Sem.at p k)
theorem wp1 {α : Type} (M : Model) (Γ : PySem.Ctx) (t : Sem α) (h1 : Fresh1 t) : ∀ (Q : α → Pos → Shared → Prop) (E : Value → Pos → Shared → Prop) (p : Pos) (s : Shared), Sem.wp M Γ t Q E p s →
    Sem.wp M Γ t (fun a p' s' => s.toks + 1 ≤ s'.toks ∧ Q a p' s') (fun e p' s' => s.toks + 1 ≤ s'.toks ∧ E e p' s') p s := by
  induction h1 with
  | fresh k => intro Q E p s h; exact Sem.wp_toks M Γ (s.toks + 1) (k s.toks) Q E p { s with toks := s.toks + 1 } (Nat.le_refl _) h
  | rule _ ih => intro Q E p s h; exact ih Q E p s h
  | «at» _ ih => intro Q E p s h; exact ih Q E _ s h
theorem wpAny1 {α : Type} {M : Model} {A : Around} {t : Sem α} {Q : α → Shared → Prop} {E : Value → Shared → Prop} {s : Shared} (h1 : Fresh1 t) (h : wpAny M A t Q E s) :
    wpAny M A t (fun a s' => s.toks + 1 ≤ s'.toks ∧ Q a s') (fun e s' => s.toks + 1 ≤ s'.toks ∧ E e s') s :=
  fun Γ p hΓ => wp1 M Γ t h1 _ _ p s (h Γ p hΓ)
theorem Fresh1.bind {α β : Type} {t : Sem α} (h : Fresh1 t) (f : α → Sem β) : Fresh1 (t >>= f) := by
  induction h with
  | fresh k => exact .fresh _
  | rule _ ih => exact .rule ih
  | «at» _ ih => exact .at ih
theorem fresh_const (c : Str) (j : Nat) (p : Pos) (env : Env) : Fresh1 (eval (.Constant (.str c) j p) env) := by
  first
  | exact .fresh _
  | exact .rule (.fresh _)
  | exact .at (.fresh _)
  | exact .at (.rule (.fresh _))
theorem fresh_call {c : Str} {j : Nat} {p : Pos} {n : Str} {ap cp : Pos} {zs : List Expr} {env : Env} (hb : attributeBase (.Constant (.str c) j p) n env (eval (.Constant (.str c) j p) env) = eval (.Constant (.str c) j p) env) : Fresh1 (eval (.Call (.Attribute (.Constant (.str c) j p) n ap) zs [] cp) env) := by
  rw [arm_eval_Call, hb]
  exact (fresh_const c j p env).bind _
theorem fresh_stand {α : Type} {p : Pos} {f : Unit → Sem α} (h : Fresh1 (f ())) : Fresh1 (standAt p >>= f) := by
  first
  | exact .at h
  | exact .rule (.at h)
  | exact .at (.rule h)
theorem fresh_asg {x : Str} {p' pos : Pos} {v : Expr} {env : Env} (h : Fresh1 (eval v env)) (hs : swapsWith v (some (.Name x p')) pos.line env = pure false) : Fresh1 (exec (.Assign [.Name x p'] v pos) env) := by
  rw [exec_Assign_Name env x p' v pos hs]
  first
  | exact fresh_stand (h.bind _)
  | exact h.bind _
theorem fresh_expr {c : Str} {j : Nat} {p pos : Pos} {env : Env} (hi : interactive env = false) : Fresh1 (exec (.Expr (.Constant (.str c) j p) pos) env) := by
  rw [exec_Expr env (.Constant (.str c) j p) pos hi rfl]
  exact fresh_stand ((fresh_const c j p env).bind _)
section
variable {X : Cx} {st : Stmt} {rest : List Stmt} {t u : TS}
theorem pss_tok (h1 : PS X st t) (hf : interactive X.env = false → Fresh1 (exec st X.env)) (h2 : PSsT X rest u) : PSs X (st :: rest) (tSeq t u) := by
  refine ⟨fun pins s σ H D I h => ?_⟩
  refine wpAny_execs_cons (wpAny_mono (wpAny1 (hf I.quiet) (h1.run pins s σ H { D with nx := u D } I h)) (fun f s1 q => ?_) fun _ _ x => x.2)
  obtain ⟨hk, q⟩ := q
  cases f with
  | next =>
    obtain ⟨σ', H', I', q⟩ := q
    exact h2 pins s1 σ' H' D (by omega) I' q
  | ret v => exact q
  | brk => exact q
  | cont => exact q
end
/-- does a text written in this statement give out a token? -/
def tokSt : Stmt → Bool
  | .Assign [.Name _ _] (.Call (.Attribute (.Constant (.str _) _ _) _ _) (_ :: _) [] _) _ => true
  | _ => false
def docSt : Stmt → Bool
  | .Expr (.Constant (.str _) _ _) _ => true
  | _ => false
theorem fresh_tok {x : Stmt} {env : Env} (h : tokSt x = true) : Fresh1 (exec x env) := by
  unfold tokSt at h
  split at h
  · refine fresh_asg (fresh_call (mOk_base rfl)) (noC_sw rfl)
  · cases h
/-- xj.replace(y, z) -/
def chkR (N : List Str) (sc : Scope) (y z : List Nat) (j : Nat) (x : Expr) : Bool := match x with
  | .Call (.Attribute (.Name xj _) n ap) [.Constant (.str cy) _ _, .Constant (.str cz) _ _] [] cp => decide (n = "replace") && (ap.endLine == cp.line) && decide (N[j]? = some xj) && vis sc xj && plainName xj && decide (cy = S y) && decide (cz = S z) && !y.isEmpty && !(S y == S z)
  | _ => false
def chkST (md : Md) (N : List Str) (sc : Scope) (st : Str → Bool) (s : Z) (x : Stmt) : Bool := match s with
  | .rpS _ i j y z => (match x with
    | .Assign [.Name yv _] w _ => stB N sc st i yv && chkR N sc y z j w
    | _ => false)
  | .rpI _ i j y z c a b => (match x with
    | .If (.BoolOp .Or (.Compare (.Name xi _) [.NotEq] [w] _ :: v :: r) pos) p q _ => decide (N[i]? = some xi) && vis sc xi && plainName xi && chkR N sc y z j w && (if r.isEmpty then chkE md N c sc st v else chkE md N c sc st (.BoolOp .Or (v :: r) pos)) && chkSs md N a sc st p && chkSs md N b sc st q
    | _ => false)
  | s => chkS md N s sc st x
def chkT (md : Md) (N : List Str) (sc : Scope) (st : Str → Bool) : Bool → List Z → List Stmt → Bool
  | _, [], xs => xs.isEmpty
  | tk, s :: ss, xs => match xs with
    | x :: xs => (if tk then chkST md N sc st s x else chkS md N s sc st x) && chkT md N sc st (tk || tokSt x || docSt x) ss xs
    | [] => false
section
variable {g : Gs} {md : Md} {cl : Cl} {lv : Nat} {X : Cx} {sc : Scope} {N : List Str} {st : Str → Bool} {E : XK} {fr : Bool} {H0 : Hp}
theorem repl_S {s y z : List Nat} (hy : y.isEmpty = false) : Txt.replace (S s) (S y) (S z) = S (StrLaws.replL y z s) := by
  have h : 1 ≤ (S y).length := by rw [S_len]; cases y with
    | nil => cases hy
    | cons a y => simp
  have e := StrLaws.replace_list (x := S s) (y := S y) (z := S z) h
  exact TL.ext_tl (by
    show (Txt.replace (S s) (S y) (S z)).cps.toList = (S (StrLaws.replL y z s)).cps.toList
    rw [e])
theorem chkR_pet {y z : List Nat} {j : Nat} {w : Expr} (zz : XZ X g md lv sc N st E) (mo : ModOk g md) (F : ClOk g md cl lv) (h : chkR N sc y z j w = true) : y.isEmpty = false ∧ PET X w (tReplC (tE g (WK E) false (evE md cl (.var j))) (S y) (S z)) := by
  unfold chkR at h
  split at h
  · simp only [Bool.and_eq_true, decide_eq_true_eq, Bool.not_eq_true'] at h
    obtain ⟨⟨⟨⟨⟨⟨⟨⟨rfl, h2⟩, h3⟩, h4⟩, h5⟩, rfl⟩, rfl⟩, h8⟩, h9⟩ := h
    refine ⟨h8, ?_⟩
    rename_i xj pp ap k1 q1 k2 q2 cp
    have se := se_all mo F (.var j) zz.xc zz.tk (x := .Name xj pp) (by unfold chkE; simp [h3, h4, h5])
    exact pet_replC (PE.of se.pe) h9 rfl rfl h2
  · cases h
theorem rpl_rep {T : Hp} {y z : List Nat} {d r : D} {v : V} (hy : y.isEmpty = false) (hr : rplD y z d = some r) (rd : Rep g T d v) : ∃ x, v = .str x ∧ x.length + (x.length + 1) * (S z).length ≤ 16777216 ∧ Rep g T r (.str (Txt.replace x (S y) (S z))) := by
  cases d with
  | str s =>
    unfold rplD at hr
    simp only [] at hr
    split at hr
    · rename_i hb
      cases hr
      refine ⟨S s, rd, ?_, ?_⟩
      · rw [S_len, S_len]; omega
      · rw [repl_S hy]; exact rfl
    · cases hr
  | _ => cases hr
theorem pst_set {i : Nat} {x : Str} {e : Expr} {te : TE} {pos pos' : Pos} (hN : X.N.Nodup) (hi : X.N[i]? = some x) (hx : L2.Loc X.env.scope x) (he : PET X e te) (hs : swapsWith e (some (.Name x pos')) pos.line X.env = pure false) (hf : X.fn x = true ∨ X.env.scope.names.lookup x = some .local) :
    PST X (.Assign [.Name x pos'] e pos) (tAsg te (gName i)) := by
  intro pins s σ H D h0 I h
  refine wpAny_Assign_Name (thn (he pins s σ H _ h0 I h) fun v s1 ⟨y, H1, I1, r1, q1⟩ => ?_) hs
  exact store_ok I1 hN hi hx r1 (fun s2 I2 => ⟨_, H1, I2, q1⟩) hf
theorem PST.weak {x : Stmt} {a b : TS} (h : PST X x a) (k : ∀ D σ H, b D σ H → a D σ H) : PST X x b := fun pins s σ H D h0 I z => h pins s σ H D h0 I (k D σ H z)
theorem PSsT.weak {x : List Stmt} {a b : TS} (h : PSsT X x a) (k : ∀ D σ H, b D σ H → a D σ H) : PSsT X x b := fun pins s σ H D h0 I z => h pins s σ H D h0 I (k D σ H z)
theorem chkR_noC {y z : List Nat} {j : Nat} {w : Expr} (h : chkR N sc y z j w = true) : noC w = true ∧ behindInMarks .NotEq w = false := by
  unfold chkR at h
  split at h
  · exact ⟨rfl, rfl⟩
  · cases h
theorem st_rpS {m : List Nat} {i j : Nat} {y z : List Nat} {yv : Str} {p pos : Pos} {w : Expr} (zz : XZ X g md lv sc N st E) (mo : ModOk g md) (F : ClOk g md cl lv) (T0 : Hp) (h1 : stB N sc st i yv = true) (h2 : chkR N sc y z j w = true) : PST X (.Assign [.Name yv p] w pos) (tS g fr E T0 H0 (evS md cl fr (.rpS m i j y z))) := by
  obtain ⟨k1, k2, k3⟩ := zz.loc h1
  obtain ⟨hy, hp⟩ := chkR_pet (cl := cl) zz mo F h2
  refine PST.weak (pst_set zz.xc.nd k1 k2 hp (noC_sw (chkR_noC h2).1) k3) fun D σ H ⟨T, ρ, t, f, q⟩ => ?_
  unfold evS at q
  refine tS_E f q fun d t1 v H1 pp q1 => ?_
  cases hr : rplD y z d with
  | none => rw [hr] at q1; exact q1.elim
  | some r =>
    rw [hr] at q1
    obtain ⟨T1, f1, sto, _⟩ := f.val pp
    have rd : Rep g T1 d v := sto
    obtain ⟨x, e1, e2, e3⟩ := rpl_rep hy hr rd
    have q1 : GoodS g fr E T0 H0 (ret (Fl.nx, ρ.set i (some (r, false))) t1) D := q1
    have hd : EV.imm d = true := by
      cases d <;> first | rfl | cases hr
    have ea : aft false m d ρ = ρ := by unfold aft immR; rw [hd]; rfl
    rw [ea] at f1
    refine ⟨x, e1, e2, ?_⟩
    have f2 : FR g T0 H0 T1 H1 t1 (ρ.set i (some (r, false && isCell r))) (σ.set i (some (V.str (Txt.replace x (S y) (S z))))) := f1.set (fr := false) e3
    exact q1 _ _ _ f2
def PTT (X : Cx) (e : Expr) (t : TT) : Prop := ∀ (whole : Sem Value) (pins : List (Addr × Obj)) (s : Shared) (σ : L2.St) (H : Hp) (Q : Bool → Hp → Prop), 1 ≤ s.toks → Inv X pins σ H s → t σ H Q → wpAny (model X.prog X.w) X.A (isTrue e X.env whole) (TP X pins σ Q) X.xe s
theorem ptt_cmp {op : CmpOp} {r : R2} {a b : Expr} {ta tb : TE} {pos : Pos} (ho : OpR X (compareOp op) r) (ha : PE X a ta) (hb : PET X b tb) (hm : behindInMarks op b = false) : PTT X (.Compare a [op] [b] pos) (tTest (tOp r ta tb)) := by
  intro wh pins s σ H Q h0 I h
  refine wpAny_isTrue_Compare1 (wpAny_mono (PySem.wpAny_toks (ha.run pins s σ H _ I h)) (fun v s1 q => ?_) fun _ _ z => z.2) hm
  obtain ⟨hk, x, H1, I1, r1, q1⟩ := q
  refine thn (hb pins s1 σ H1 _ (Nat.le_trans h0 hk) I1 q1) fun u s2 ⟨y, H2, I2, r2, q2⟩ => thn (ho pins s2 σ H2 x y v u _ I2 r1 r2 q2) fun c s3 ⟨z, H3, I3, r3, k, e, q3⟩ => ?_
  subst e
  cases r3
  exact wpAny_truthy_bool ⟨H3, I3, q3⟩
theorem ptt_or {a b : Expr} {rest : List Expr} {tA tB : TT} {pos : Pos} (ha : PTT X a tA) (hb : PW X (.BoolOp .Or (b :: rest) pos) tB) : PTT X (.BoolOp .Or (a :: b :: rest) pos) (tOr tA tB) := by
  intro wh pins s σ H Q h0 I h
  refine isTrue_or (thn (ha _ pins s σ H _ h0 I h) fun c s1 ⟨H1, I1, q1⟩ => ?_)
  cases c with
  | true => exact ⟨H1, I1, q1⟩
  | false => exact hb.run wh pins s1 σ H1 Q I1 q1
theorem pst_ifT {c : Expr} {a b : List Stmt} {tc : TT} {t u : TS} {pos : Pos} (hc : PTT X c tc) (ha : PSs X a t) (hb : PSs X b u) : PST X (.If c a b pos) (tIfS tc t u) := by
  intro pins s σ H D h0 I h
  refine wpAny_If (thn (hc _ pins s σ H _ h0 I h) fun d s1 ⟨H1, I1, q1⟩ => ?_)
  cases d with
  | true => exact ha.run pins s1 σ H1 D I1 q1
  | false => exact hb.run pins s1 σ H1 D I1 q1
theorem st_rpI {m : List Nat} {i j : Nat} {y z : List Nat} {xi : Str} {c : EV.E} {a b : List Z} {p0 p1 p2 pos : Pos} {w v : Expr} {r : List Expr} {P Q : List Stmt} (zz : XZ X g md lv sc N st E) (mo : ModOk g md) (xo : XcOk g md) (F : ClOk g md cl lv) (T0 : Hp) (h1 : N[i]? = some xi) (h2 : vis sc xi = true) (h3 : plainName xi = true) (h4 : chkR N sc y z j w = true)
    (h5 : (if r.isEmpty then chkE md N c sc st v else chkE md N c sc st (.BoolOp .Or (v :: r) p2)) = true) (h6 : chkSs md N a sc st P = true) (h7 : chkSs md N b sc st Q = true) :
    PST X (.If (.BoolOp .Or (.Compare (.Name xi p0) [.NotEq] [w] p1 :: v :: r) p2) P Q pos) (tS g fr E T0 H0 (evS md cl fr (.rpI m i j y z c a b))) := by
  obtain ⟨hy, hp⟩ := chkR_pet (cl := cl) zz mo F h4
  have sv := se_all mo F (.var i) zz.xc zz.tk (x := .Name xi p0) (by unfold chkE; simp [h1, h2, h3])
  have hw : PW X (.BoolOp .Or (v :: r) p2) (tT g (WK E) (evT md cl c)) := by
    cases r with
    | nil => exact pw_or1 (se_all mo F c zz.xc zz.tk h5).pt
    | cons v2 r2 => exact (se_all mo F c zz.xc zz.tk h5).pw _ _ _ rfl
  have ha : PSs X P (tS g fr E T0 H0 (evSs md cl fr a)) := sss_all zz mo xo F a T0 h6
  have hb : PSs X Q (tS g fr E T0 H0 (evSs md cl fr b)) := sss_all zz mo xo F b T0 h7
  refine PST.weak (pst_ifT (ptt_or (ptt_cmp (oc_ne zz.xc.xg) (PE.of sv.pe) hp (chkR_noC h4).2) hw) ha hb) fun D σ H ⟨T, ρ, t, f, q⟩ => ?_
  unfold evS at q
  refine tS_E f q fun d t1 v1 H1 pp q1 => ?_
  cases d with
  | str u =>
    have q1 : GoodS g fr E T0 H0 (bnd (evE md cl (.var j) (vw m ρ)) (fun e => match rplD y z e with
      | some r => match neO (.str u) r with
        | some (.bl true) => evSs md cl fr a ρ
        | some (.bl false) => bnd (evT md cl c (vw m ρ)) fun k => if k then evSs md cl fr a ρ else evSs md cl fr b ρ
        | _ => bad
      | none => bad) t1) D := q1
    obtain ⟨T1, f1, sto1, _⟩ := f.val pp
    have rd1 : Rep g T1 (.str u) v1 := sto1
    have f1 : FR g T0 H0 T1 H1 t1 ρ σ := f1
    refine tS_E f1 q1 fun d2 t2 v2 H2 pp2 q2 => ?_
    cases hr : rplD y z d2 with
    | none => rw [hr] at q2; exact q2.elim
    | some rr =>
      rw [hr] at q2
      obtain ⟨T2, f2, sto2, _⟩ := f1.val pp2
      have rd2 : Rep g T2 d2 v2 := sto2
      obtain ⟨x, e1, e2, e3⟩ := rpl_rep hy hr rd2
      have hd : EV.imm d2 = true := by
        cases d2 <;> first | rfl | cases hr
      have ea : aft false m d2 ρ = ρ := by unfold aft immR; rw [hd]; rfl
      rw [ea] at f2
      refine ⟨x, e1, e2, ?_⟩
      simp only [] at q2
      cases hne : neO (.str u) rr with
      | none => rw [hne] at q2; exact q2.elim
      | some dn =>
        rw [hne] at q2
        cases dn with
        | bl k =>
          have hrr : ∃ s', rr = .str s' := by
            cases d2 <;> first | (cases hr; done) | skip
            unfold rplD at hr
            simp only [] at hr
            split at hr
            · cases hr; exact ⟨_, rfl⟩
            · cases hr
          obtain ⟨s', rfl⟩ := hrr
          refine ⟨_, t2, .str u, .str s', .bl k, (f2.at m).ar, rd1, e3, hne, fun v3 H3 pp3 => ?_⟩
          obtain ⟨T3, f3, sto3, _⟩ := f2.val pp3
          have rd3 : Rep g T3 (.bl k) v3 := sto3
          have f3 : FR g T0 H0 T3 H3 t2 ρ σ := f3
          refine ⟨k, rd3, ?_⟩
          cases k with
          | true =>
            rw [if_pos rfl]
            show (if true = true then _ else _)
            rw [if_pos rfl]
            exact ⟨T3, ρ, t2, f3, q2⟩
          | false =>
            rw [if_neg (by simp)]
            have q2 : GoodS g fr E T0 H0 (bnd (evT md cl c (vw m ρ)) (fun k => if k then evSs md cl fr a ρ else evSs md cl fr b ρ) t2) D := q2
            refine tS_T f3 q2 fun k t4 T4 H4 f4 q4 => ?_
            cases k with
            | true => rw [if_pos rfl] at q4 ⊢; exact ⟨T4, ρ, t4, f4, q4⟩
            | false => rw [if_neg (by simp)] at q4 ⊢; exact ⟨T4, ρ, t4, f4, q4⟩
        | _ => exact q2.elim
  | _ => exact q1.elim
theorem st_all (zz : XZ X g md lv sc N st E) (mo : ModOk g md) (xo : XcOk g md) (F : ClOk g md cl lv) (s : Z) (T0 : Hp) {x : Stmt} (h : chkST md N sc st s x = true) : PST X x (tS g fr E T0 H0 (evS md cl fr s)) := by
  cases s with
  | rpS m i j y z =>
    unfold chkST at h
    simp only [] at h
    split at h
    · simp only [Bool.and_eq_true] at h
      exact st_rpS zz mo F T0 h.1 h.2
    · cases h
  | rpI m i j y z c a b =>
    unfold chkST at h
    simp only [] at h
    split at h
    · simp only [Bool.and_eq_true, decide_eq_true_eq] at h
      obtain ⟨⟨⟨⟨⟨⟨h1, h2⟩, h3⟩, h4⟩, h5⟩, h6⟩, h7⟩ := h
      exact st_rpI zz mo xo F T0 h1 h2 h3 h4 h5 h6 h7
    · cases h
  | _ => exact PST.of (ss_all zz mo xo F _ T0 h)
theorem seq_tS {s : Z} {ss : List Z} {T0 : Hp} {D : Ends} {σ : L2.St} {H : Hp} (h : tS g fr E T0 H0 (evSs md cl fr (s :: ss)) D σ H) : tSeq (tS g fr E T0 H0 (evS md cl fr s)) (tS g fr E T0 H0 (evSs md cl fr ss)) D σ H := by
  obtain ⟨T, ρ, t, f, q⟩ := h
  unfold evSs at q
  refine ⟨T, ρ, t, f, ?_⟩
  unfold bnd at q
  unfold GoodS
  cases e : evS md cl fr s ρ t with
  | exc c t' => rw [e] at q; exact q
  | bad => rw [e] at q; exact q
  | ok o t' =>
    rw [e] at q
    obtain ⟨fl, ρ2⟩ := o
    cases fl with
    | nx => exact fun σ' T' H' f' => ⟨T', ρ2, t', f', q⟩
    | bk => exact q
    | ct => exact q
    | rt d => exact q
theorem fresh_doc {x : Stmt} {env : Env} (h : docSt x = true) : ∃ c j p p', x = .Expr (.Constant (.str c) j p) p' := by
  unfold docSt at h
  split at h
  · exact ⟨_, _, _, _, rfl⟩
  · cases h
/-- a def's statements, behind a token more is allowed -/
theorem sst_all (zz : XZ X g md lv sc N st E) (mo : ModOk g md) (xo : XcOk g md) (F : ClOk g md cl lv) (T0 : Hp) : ∀ (ss : List Z) (tk : Bool) {xs : List Stmt}, chkT md N sc st tk ss xs = true → (if tk then PSsT X xs (tS g fr E T0 H0 (evSs md cl fr ss)) else PSs X xs (tS g fr E T0 H0 (evSs md cl fr ss)))
  | [], tk, xs, h => by
    have e : xs = [] := by
      cases tk <;> (unfold chkT at h; exact List.isEmpty_iff.mp h)
    subst e
    have hp : PSs X [] (tS g fr E T0 H0 (evSs md cl fr [])) := PSs.weak pss_nil fun D σ H ⟨T, ρ, t, f, q⟩ => by
      unfold evSs at q; exact q _ _ _ f
    cases tk with
    | true => exact PSsT.of hp
    | false => exact hp
  | s :: ss, tk, [], h => by
    cases tk <;> (unfold chkT at h; cases h)
  | s :: ss, true, x :: xs, h => by
    unfold chkT at h
    simp only [if_true, Bool.true_or, Bool.and_eq_true] at h
    have ih := sst_all zz mo xo F T0 ss true h.2
    rw [if_pos rfl] at ih ⊢
    exact PSsT.weak (psst_cons (st_all zz mo xo F s T0 h.1) ih) fun D σ H q => seq_tS q
  | s :: ss, false, x :: xs, h => by
    unfold chkT at h
    simp only [Bool.false_eq_true, if_false, Bool.false_or, Bool.and_eq_true] at h
    have h1 := ss_all (fr := fr) (H0 := H0) zz mo xo F s T0 h.1
    rw [if_neg (by decide)]
    cases ht : tokSt x with
    | true =>
      rw [ht] at h
      have ih := sst_all zz mo xo F T0 ss true h.2
      rw [if_pos rfl] at ih
      exact PSs.weak (pss_tok h1 (fun _ => fresh_tok ht) ih) fun D σ H q => seq_tS q
    | false =>
      cases hdc : docSt x with
      | true =>
        rw [ht, hdc] at h
        have ih := sst_all zz mo xo F T0 ss true h.2
        rw [if_pos rfl] at ih
        obtain ⟨c, j, p, p', rfl⟩ := fresh_doc (env := X.env) hdc
        exact PSs.weak (pss_tok h1 (fun hi => fresh_expr hi) ih) fun D σ H q => seq_tS q
      | false =>
        rw [ht, hdc] at h
        have ih := sst_all zz mo xo F T0 ss false h.2
        rw [if_neg (by decide)] at ih
        exact PSs.weak (pss_cons h1 ih) fun D σ H q => seq_tS q
end

section
variable {g : Gs} {md : Md} {cl : Cl} {lv : Nat} {X : Cx} {sc : Scope} {N : List Str} {st : Str → Bool} {E : XK} {fr : Bool} {H0 : Hp}
theorem sst_def (zz : XZ X g md lv sc N st E) (mo : ModOk g md) (xo : XcOk g md) (F : ClOk g md cl lv) (ss : List Z) (T0 : Hp) {xs : List Stmt} (h : chkT md N sc st false ss xs = true) : PSs X xs (tS g fr E T0 H0 (evSs md cl fr ss)) := by
  have := sst_all (fr := fr) (H0 := H0) zz mo xo F T0 ss false h
  rw [if_neg (by decide)] at this
  exact this
end
/-! ### defs -/
inductive Df where
  | df (np nl : Nat) (ff : Bool) (body : List Z)
  | pm (lv : Nat) (f : List D → M D)
def rho0 (ds : List D) (nl : Nat) : Rho := ds.map (fun d => some (d, false)) ++ List.replicate (nl - ds.length) none
def evF (md : Md) (cl : Cl) (np nl : Nat) (ff : Bool) (body : List Z) (ds : List D) : M D := if ds.length = np then bnd (evSs md cl ff body (rho0 ds nl)) fun o => match o.1 with
    | .rt d => ret d
    | .nx => ret .non
    | _ => bad
  else bad
def mdN (md : Md) (o : Option Cl) : Md := { md with lo := o }
mutual
def callN (md : Md) (dfs : List Df) : Nat → Cl
  | 0 => fun _ _ => bad
  | k + 1 => fun f ds => match nth dfs f with
    | some (.df np nl ff body) => evF (mdN md (lowN md dfs k)) (callN md dfs k) np nl ff body ds
    | some (.pm lv f) => if lv ≤ k + 1 then f ds else bad
    | none => bad
def lowN (md : Md) (dfs : List Df) : Nat → Option Cl
  | 0 => none
  | 1 => none
  | k + 2 => some (callN md dfs k)
end
/-- what a def's body may store, may it make lambdas -/
def defSt (lm : Bool) : Str → Bool := fun n => lm || !(n == ("<lambda>" : Str))
/-- a def of the program, by its text -/
structure DefOk (g : Gs) (md : Md) (x : Str) (np nl : Nat) (body : List Z) : Prop where
  ex : ∃ (a : Addr) (qual : Str) (st : Stmt) (N ps : List Str) (lm tk0 : Bool) (oc : Value) (od : Option Addr) (kV doc pm : Value) (an : Option Addr) (cdv ct : Value) (osl : Array (Option Value)),
    g.mg x = some (.ref a) ∧ g.K.lookup a = some ⟨oc, od, .func (PySem.W.fnOf x qual (defArgs st) (defBody st) (defScope st) .none kV doc pm an cdv ct), osl⟩ ∧ PySem.W.codeIn g.K cdv qual = true ∧ PySem.W.keepIn g.K (.ref a) = true ∧
    Binds g.K (PySem.W.fnOf x qual (defArgs st) (defBody st) (defScope st) .none kV doc pm an cdv ct) ps [] ∧ FnScope N ps (defScope st) ∧ chkT md N (defScope st) (defSt lm) tk0 body (defBody st) = true ∧ (tk0 = true → (∀ y ∈ (defScope st).names, y.2 ≠ .cell) ∧ 1 ≤ ps.length) ∧ np = ps.length ∧ nl = N.length ∧
    (lm = true → RfOk g md ∧ ∃ c P, LamX.TabB g.base g.mg c P ∧ cdv = .ref c ∧ (P, (qual ++ ".<locals>.") ++ "<lambda>") ∈ g.tb ∧ ∀ p ∈ g.tb, p.1 = P → p.2 = (qual ++ ".<locals>.") ++ "<lambda>")
structure ModAll (g : Gs) (md : Md) (dfs : List Df) : Prop where
  mo : ModOk g md
  xo : XcOk g md
  un : True
  df : ∀ f x, md.fn[f]? = some x → ∃ d, nth dfs f = some d ∧ match d with
    | .df np nl ff body => md.ff f = ff ∧ DefOk g md x np nl body
    | .pm lv h => md.ff f = false ∧ FnAt g md lv false x h
section
variable {g : Gs} {md : Md} {dfs : List Df}
theorem nth_app1 {α : Type} {l m : List α} {i : Nat} (h : i < l.length) : nth (l ++ m) i = nth l i := by
  rw [nth_eq, nth_eq, List.getElem?_append_left h]
theorem start_fr {g : Gs} {T H : Hp} {t : Tape} {ds : List D} {vs : List V} {N : List Str} (a : Ar g T H t) (r : RepL g T ds vs) (hN : ds.length ≤ N.length) : FR g T H T H t (rho0 ds N.length) (L2.start N vs) := by
  have hl := r.length
  have get : ∀ i d b, nth (rho0 ds N.length) i = some (some (d, b)) → b = false ∧ ds[i]? = some d := fun i d b e => by
    unfold rho0 at e
    rw [nth_eq] at e
    by_cases hi : i < ds.length
    · rw [List.getElem?_append_left (by simpa using hi), List.getElem?_map] at e
      obtain ⟨x, h1, h2⟩ := Option.map_eq_some_iff.mp e
      cases h2
      exact ⟨rfl, h1⟩
    · rw [List.getElem?_append_right (by simp; omega), List.getElem?_replicate] at e
      split at e <;> cases e
  refine ⟨Gone.refl a.sub a.vok a.sok, fun i d e => ?_, fun i d e => ?_, fun i j d e' b _ k => ?_, ?_⟩
  · obtain ⟨_, h1⟩ := get i d _ e
    obtain ⟨v, h2, h3⟩ := r.get h1
    refine ⟨v, ?_, h3⟩
    unfold L2.start
    have hi : i < vs.length := (List.getElem?_eq_some_iff.mp h2).1
    rw [List.getElem?_append_left (by simpa using hi), List.getElem?_map, h2]
    rfl
  · obtain ⟨h, _⟩ := get i d _ e; cases h
  · obtain ⟨h, _⟩ := get i d _ k; cases h
  · unfold rho0 L2.start
    simp [hl]
theorem fnAt_bad {lv : Nat} {fr : Bool} {x : Str} {f : List D → M D} (h : ∀ ds t, f ds t = .bad) {a : Addr} {fd : FuncData} {ps : List Str} (h1 : g.mg x = some (.ref a)) (h2 : PySem.W.keepIn g.K (.ref a) = true) (h3 : Binds g.K fd ps []) : FnAt g md lv fr x f :=
  ⟨a, fd, ps, fun ds t _ => h ds t, h1, h2, h3, ⟨fun vs H Q E ⟨tp, T, t, ds, hl, _⟩ => hl, fun A outer s H args us vs Q E _ _ _ _ ⟨tp, T, t, ds, _, _, _, q⟩ => by
    unfold GoodF at q
    rw [h ds t] at q
    exact q.elim⟩⟩
theorem FnAt.bad_of {lv lv2 : Nat} {fr : Bool} {x : Str} {f f2 : List D → M D} (F : FnAt g md lv fr x f) (h : ∀ ds t, f2 ds t = .bad) : FnAt g md lv2 fr x f2 := by
  obtain ⟨a, fd, ps, _, h1, h2, h3, _⟩ := F.ex
  exact fnAt_bad h h1 h2 h3
theorem DefOk.bad_of {lv2 : Nat} {fr : Bool} {x : Str} {np nl : Nat} {body : List Z} {f2 : List D → M D} (F : DefOk g md x np nl body) (h : ∀ ds t, f2 ds t = .bad) : FnAt g md lv2 fr x f2 := by
  obtain ⟨a, qual, st, N, ps, lm, tk0, oc, od, kV, doc, pm, an, cdv, ct, osl, h1, h2, h3, h4, h5, _⟩ := F.ex
  exact fnAt_bad h h1 h4 h5
theorem ModOk.tp (m : ModOk g md) (tp : Option (Addr × Addr)) : ModOk { g with tp := tp } md := ⟨m.bl, m.gc⟩
theorem XcOk.tp (m : XcOk g md) (tp : Option (Addr × Addr)) : XcOk { g with tp := tp } md := ⟨m.ex⟩
theorem FnAt.tp {lv : Nat} {fr : Bool} {x : Str} {f : List D → M D} (F : FnAt g md lv fr x f) (tp : Option (Addr × Addr)) : FnAt { g with tp := tp } md lv fr x f := ⟨F.ex⟩
theorem ClOk.tp {lv : Nat} {cl : Cl} (F : ClOk g md cl lv) (tp : Option (Addr × Addr)) : ClOk { g with tp := tp } md cl lv := fun f x h => (F f x h).tp tp
theorem ClOk.up {lv : Nat} {cl : Cl} {o : Option Cl} (F : ClOk g md cl lv) : ClOk g (mdN md o) cl lv := fun f x h => ⟨(F f x h).ex⟩
theorem ModOk.up {o : Option Cl} (m : ModOk g md) : ModOk g (mdN md o) := ⟨m.bl, m.gc⟩
theorem XcOk.up {o : Option Cl} (m : XcOk g md) : XcOk g (mdN md o) := ⟨m.ex⟩
theorem RfOk.up {o : Option Cl} (m : RfOk g md) : RfOk g (mdN md o) := ⟨m.ex⟩
theorem RfOk.tp (m : RfOk g md) (tp : Option (Addr × Addr)) : RfOk { g with tp := tp } md := ⟨m.ex⟩
/-- the text says the same whatever may be called in lambdas -/
theorem chkE_md {N : List Str} {o : Option Cl} : ∀ (e : E), chkE (mdN md o) N e = chkE md N e :=
  E.rec (motive_1 := fun e => chkE (mdN md o) N e = chkE md N e) (motive_2 := fun es => chkL (mdN md o) N es = chkL md N es)
    (fun _ => rfl) (fun _ => rfl) (fun _ => rfl)
    (fun o' a ha => by funext sc st x; unfold chkE; rw [ha])
    (fun o' a b ha hb => by funext sc st x; unfold chkE; rw [ha, hb])
    (fun o' p a b c ha hb hc => by funext sc st x; unfold chkE; rw [ha, hb, hc])
    (fun a b ha hb => by funext sc st x; unfold chkE; rw [ha, hb])
    (fun a b ha hb => by funext sc st x; unfold chkE; rw [ha, hb])
    (fun a ha => by funext sc st x; unfold chkE; rw [ha])
    (fun a b c ha hb hc => by funext sc st x; unfold chkE; rw [ha, hb, hc])
    (fun es h => by funext sc st x; unfold chkE; rw [h])
    (fun es h => by funext sc st x; unfold chkE; rw [h])
    (fun a lo hi ha h1 h2 => by funext sc st x; unfold chkE; rw [ha, h1, h2])
    (fun f es h => by funext sc st x; unfold chkE; rw [h]; rfl)
    (fun b es h => by funext sc st x; unfold chkE; rw [h]; rfl)
    (fun m a es ha h => by funext sc st x; unfold chkE; rw [ha, h])
    (fun a ha => by funext sc st x; unfold chkE; rw [ha]; rfl)
    (fun i k => rfl) (fun i => rfl) (fun i a ha => by funext sc st x; unfold chkE; rw [ha])
    (fun own tg k es cs elt h1 h2 h3 => by funext sc st x; unfold chkE; rw [h1, h2, h3]; rfl)
    (fun o' p q a b c d ha hb hc hd => by funext sc st x; unfold chkE; rw [ha, hb, hc, hd])
    (fun es h => by funext sc st x; unfold chkE; rw [h]; rfl)
    (fun own tg k es cs ek ev h1 h2 h3 h4 => by funext sc st x; unfold chkE; rw [h1, h2, h3, h4]; rfl)
    (fun tk => rfl) (fun a h => by funext sc st x; unfold chkE; rw [h]; rfl)
    (fun o' k h1 h2 => by funext sc st x; unfold chkE; rw [h1, h2])
    (fun o' k z h1 h2 h3 => by funext sc st x; unfold chkE; rw [h1, h2, h3])
    rfl
    (fun e es h1 h2 => by funext sc st x; unfold chkL; rw [h1, h2])
theorem chkL_md {N : List Str} {o : Option Cl} : ∀ (es : List E), chkL (mdN md o) N es = chkL md N es
  | [] => rfl
  | e :: es => by funext sc st x; unfold chkL; rw [chkE_md e, chkL_md es]
theorem chkI_md {N : List Str} {o : Option Cl} {k : Sk} {es : List E} {sc : Scope} {st : Str → Bool} {t it : Expr} : chkI (mdN md o) N k es sc st t it = chkI md N k es sc st t it := by
  unfold chkI; rw [chkL_md]; rfl
theorem chkSs_md {N : List Str} {o : Option Cl} : ∀ (b : List Z), chkSs (mdN md o) N b = chkSs md N b :=
  Z.rec_1 (motive_1 := fun s => chkS (mdN md o) N s = chkS md N s) (motive_2 := fun b => chkSs (mdN md o) N b = chkSs md N b)
    (fun m i e => by funext sc st x; unfold chkS; rw [chkE_md])
    (fun m tg e => by funext sc st x; unfold chkS; rw [chkE_md])
    (fun m is es => by funext sc st x; unfold chkS; rw [chkL_md])
    (fun m i e => by funext sc st x; unfold chkS; rw [chkE_md])
    (fun m i ei e => by funext sc st x; unfold chkS; rw [chkE_md, chkE_md])
    (fun m o' i e => by funext sc st x; unfold chkS; rw [chkE_md])
    (fun m c a b ha hb => by funext sc st x; unfold chkS; rw [chkE_md, ha, hb])
    (fun m n c b hb => by funext sc st x; unfold chkS; rw [chkE_md, hb])
    (fun m tg k es b hb => by funext sc st x; unfold chkS; rw [hb]; simp only [chkI_md])
    (fun m e => by funext sc st x; unfold chkS; rw [chkE_md])
    (fun i => rfl) (fun c => by funext sc st x; unfold chkS; rfl) rfl rfl rfl
    (fun m e => by funext sc st x; unfold chkS; rw [chkE_md])
    (fun m i k e => by funext sc st x; unfold chkS; rw [chkE_md])
    (fun i => rfl) (fun m o' i ei e => by funext sc st x; unfold chkS; rw [chkE_md, chkE_md])
    (fun m i ek ev => by funext sc st x; unfold chkS; rw [chkE_md, chkE_md])
    (fun m i e => by funext sc st x; unfold chkS; rw [chkE_md])
    (fun m i e => by funext sc st x; unfold chkS; rw [chkE_md])
    (fun tg i => by funext sc st x; unfold chkS; rfl)
    (fun tg i m j ek ev => by funext sc st x; unfold chkS; rw [chkE_md, chkE_md])
    (fun m i j y z => by funext sc st x; unfold chkS; rfl) (fun m i j y z c a b ha hb => by funext sc st x; unfold chkS; rfl)
    rfl
    (fun s ss h1 h2 => by funext sc st x; unfold chkSs; rw [h1, h2])
theorem chkS_md {N : List Str} {o : Option Cl} (s : Z) : chkS (mdN md o) N s = chkS md N s := by
  funext sc st x
  have h := congrFun (congrFun (congrFun (chkSs_md (md := md) (N := N) (o := o) [s]) sc) st) [x]
  unfold chkSs at h
  have e : ∀ m : Md, chkSs m N [] sc st [] = true := fun m => by unfold chkSs; rfl
  simp only [e, Bool.and_true] at h
  exact h
theorem chkST_md {N : List Str} {o : Option Cl} {sc : Scope} {st : Str → Bool} (s : Z) (x : Stmt) : chkST (mdN md o) N sc st s x = chkST md N sc st s x := by
  cases s with
  | rpS m i j y z => rfl
  | rpI m i j y z c a b => unfold chkST; simp only [chkE_md, chkSs_md]
  | _ => unfold chkST; simp only [chkS_md]
theorem chkT_md {N : List Str} {o : Option Cl} {sc : Scope} {st : Str → Bool} : ∀ (b : List Z) (tk : Bool) (xs : List Stmt), chkT (mdN md o) N sc st tk b xs = chkT md N sc st tk b xs
  | [], tk, xs => by cases tk <;> (unfold chkT; rfl)
  | s :: ss, tk, [] => by cases tk <;> (unfold chkT; rfl)
  | s :: ss, tk, x :: xs => by
    cases tk <;> (unfold chkT; simp only [chkS_md, chkST_md, chkT_md ss])
/-- the context of a def's body -/
theorem xz_def {lv : Nat} {N ps : List Str} {qual : Str} {st : Stmt} {lm : Bool} {a : Addr} {cdv : Value} {A : Around} {outer : List Env} {s : Shared} {H : Hp} {E : XK} (S : FnScope N ps (defScope st)) (hr : Room lv (A.deeper (envOfC qual (defScope st) s.heap.objs.size a cdv)))
    (hl : lm = true → LamC (cxOf (L2.CX g.P g.w) g.P g.w g.K g.mg g.base N qual (defScope st) a cdv A outer s H E) g md) :
    XZ (cxOf (L2.CX g.P g.w) g.P g.w g.K g.mg g.base N qual (defScope st) a cdv A outer s H E) g md lv (defScope st) N (defSt lm) E where
  xc := ⟨⟨rfl, rfl, rfl, rfl, rfl, rfl, by have := hr.un; show (A.deeper _).units + 200 < cLine; omega⟩, hr, rfl, rfl, S.nd, fun h => hl (by unfold defSt at h; simpa using h), fun _ _ _ => rfl⟩
  tk := takes_of rfl rfl rfl rfl
  pa := passes_of rfl
  fn := S.kind
theorem lamC_of {X : Cx} {qual : Str} {c P : Addr} (rf : RfOk g md) (hc : X.env.code = .ref c) (hq : X.env.qual = qual) (k1 : LamX.TabB g.base g.mg c P) (k3 : (P, qual ++ "<lambda>") ∈ g.tb) (k4 : ∀ p ∈ g.tb, p.1 = P → p.2 = qual ++ "<lambda>") (lo : ∀ lo, md.lo = some lo → ∃ k, Room (k + 2) X.A ∧ ClOk g md lo k) : LamC X g md :=
  ⟨rf, ⟨c, P, k1, hc, by rw [hq]; exact k3, by rw [hq]; exact k4⟩, lo⟩
theorem def_ok {lv : Nat} {cl : Cl} {o : Option Cl} (M : ModAll g md dfs) (F : ClOk g md cl lv) (Fo : ∀ lo, o = some lo → ∃ k, k + 2 ≤ lv ∧ ClOk g md lo k) {x : Str} {np nl : Nat} {ff : Bool} {body : List Z} (d : DefOk g md x np nl body) : FnAt g md (lv + 1) ff x (evF (mdN md o) cl np nl ff body) := by
  obtain ⟨a, qual, st, N, ps, lm, tk0, oc, od, kV, doc, pm, an, cdv, ct, osl, h1, lk, hcd, hkp, h3, h4, h5, htk, rfl, rfl, hlm⟩ := d.ex
  have hbody : ∀ (A : Around) (outer : List Env) (s : Shared) (H : Hp) (vs : List V) (Q : VK) (E : XK), Room lv (A.deeper (envOfC qual (defScope st) s.heap.objs.size a cdv)) → fnSp g ff ps.length (evF (mdN md o) cl ps.length N.length ff body) vs H Q E →
      ∃ t, (if tk0 = true then PSsT (cxOf (L2.CX g.P g.w) g.P g.w g.K g.mg g.base N qual (defScope st) a cdv A outer s H E) (defBody st) t else PSs (cxOf (L2.CX g.P g.w) g.P g.w g.K g.mg g.base N qual (defScope st) a cdv A outer s H E) (defBody st) t) ∧ t { nx := fun _ H' => Q .non H', rt := Q } (L2.start N vs) H := fun A outer s H vs Q E hr ⟨tp, T, t, ds, hl, ar, r, q⟩ => by
    refine ⟨_, sst_all (fr := ff) (H0 := H) (xz_def (g := { g with tp := tp }) (md := mdN md o) (lm := lm) h4 hr fun hb => ?_) (M.mo.tp tp).up (M.xo.tp tp).up (ClOk.up (ClOk.tp F tp)) T body tk0 (by rw [chkT_md]; exact h5), T, rho0 ds N.length, t, start_fr ar r ?_, ?_⟩
    · obtain ⟨rf, c, P, k1, k2, k3, k4⟩ := hlm hb
      refine lamC_of (qual := qual ++ ".<locals>.") (RfOk.up (RfOk.tp rf tp)) (show _ from k2) rfl k1 k3 k4 fun lo hlo => ?_
      have hlo' : o = some lo := hlo
      obtain ⟨k, hk, Fk⟩ := Fo lo hlo'
      have r2 : Room (k + 2) (A.deeper (envOfC qual (defScope st) s.heap.objs.size a cdv)) := hr.mono hk
      have c2 : ClOk { g with tp := tp } (mdN md o) lo k := ClOk.up (ClOk.tp Fk tp)
      exact ⟨k, r2, c2⟩
    · rw [← r.length, hl]
      have := h4.pre
      have e : (N.take ps.length).length = ps.length := by rw [this]
      rw [List.length_take] at e
      omega
    · unfold GoodF evF at q
      rw [if_pos (by rw [← r.length]; exact hl)] at q
      unfold bnd at q
      unfold GoodS
      cases e : evSs (mdN md o) cl ff body (rho0 ds N.length) t with
      | exc c t' => rw [e] at q; exact q
      | bad => rw [e] at q; exact q
      | ok o' t' =>
        rw [e] at q
        obtain ⟨fl, ρ2⟩ := o'
        cases fl with
        | rt d => exact q
        | nx => exact fun σ' T' H' f => q .non H' ⟨T', f.gn, by unfold Stands; rw [show isCell D.non = false from rfl, Bool.and_false]; exact rfl⟩
        | bk => exact q.elim
        | ct => exact q.elim
  refine ⟨a, _, ps, fun ds t h => by unfold evF; rw [if_neg h]; rfl, h1, hkp, h3, ?_⟩
  cases tk0 with
  | true =>
    obtain ⟨hc, hp⟩ := htk rfl
    exact fn_ofT lk hcd h4 hc hp (fun vs H Q E ⟨tp, T, t, ds, hl, _⟩ => hl) fun A outer s H vs Q E hr hs => by
      obtain ⟨t, h1, h2⟩ := hbody A outer s H vs Q E hr hs
      rw [if_pos rfl] at h1
      exact ⟨t, h1, h2⟩
  | false =>
    exact fn_of lk hcd h4 (fun vs H Q E ⟨tp, T, t, ds, hl, _⟩ => hl) fun A outer s H vs Q E hr hs => by
      obtain ⟨t, h1, h2⟩ := hbody A outer s H vs Q E hr hs
      rw [if_neg (by decide)] at h1
      exact ⟨t, h1, h2⟩
theorem cl_ok (M : ModAll g md dfs) : ∀ k, ClOk g md (callN md dfs k) k
  | 0 => fun f x h => by
    obtain ⟨d, _, hd⟩ := M.df f x h
    cases d with
    | df np nl ff body => exact hd.2.bad_of fun ds t => rfl
    | pm lv f' => rw [hd.1]; exact hd.2.bad_of fun ds t => rfl
  | k + 1 => fun f x h => by
    obtain ⟨d, e, hd⟩ := M.df f x h
    cases d with
    | df np nl ff body =>
      obtain ⟨h1, h2⟩ := hd
      have e2 : callN md dfs (k + 1) f = evF (mdN md (lowN md dfs k)) (callN md dfs k) np nl ff body := by
        funext ds; simp only [callN, e]
      rw [e2, h1]
      refine def_ok M (cl_ok M k) (fun lo hlo => ?_) h2
      match k, hlo with
      | k + 2, hlo =>
        unfold lowN at hlo
        cases hlo
        exact ⟨k, Nat.le_refl _, cl_ok M k⟩
    | pm lv f' =>
      obtain ⟨h1, h2⟩ := hd
      rw [h1]
      by_cases hl : lv ≤ k + 1
      · have e2 : callN md dfs (k + 1) f = f' := by
          funext ds; simp only [callN, e]; exact if_pos hl
        rw [e2]
        obtain ⟨a, fd, ps, k1, k2, k3, k4, k5⟩ := h2.ex
        exact ⟨a, fd, ps, k1, k2, k3, k4, k5.mono hl⟩
      · exact h2.bad_of fun ds t => by
          show callN md dfs (k + 1) f ds t = _
          simp only [callN, e]
          show (if lv ≤ k + 1 then f' ds else bad) t = _
          rw [if_neg hl]; rfl
end
end EV

set_option Elab.async false
set_option linter.all false
set_option maxRecDepth 100000
set_option maxHeartbeats 4000000
/-! EvV: the law's tape is made; the law. -/
namespace EV
open PySem PySem.Spec PyProof.Rows L2
/-! ### _law_tape -/
abbrev scopeT : Scope := { kind := .function, names := [(".0", .local), ("cell", .local), ("abs", .globalImplicit), ("int", .globalImplicit)], isGenerator := false, isCoroutine := false, more := [] }
abbrev tapeB (k0 k1 k2 k3 k4 k5 k6 k7 k8 k9 k10 : Nat) (p0 p1 p2 p3 p4 p5 p6 p7 p8 p9 p10 p11 p12 p13 p14 p15 p16 p17 p18 p19 p20 p21 p22 p23 p24 p25 p26 p27 p28 p29 p30 p31 p32 p33 p34 p35 p36 p37 p38 : Pos) : List Stmt := [.Assign [(.Name "cells" p0)] (.ListComp (.Call (.Name "abs" p1) [(.Call (.Name "int" p2) [(.Name "cell" p3)] [] p4)] [] p5) [⟨(.Name "cell" p6), (.Name "script" p7), [], 0⟩] scopeT p8) p9,
  .Assign [(.Name "seed" p10)] (.Constant (.int 7) k0 p11) p12,
  .For (.Name "cell" p13) (.Name "cells" p14) [.Assign [(.Name "seed" p15)] (.BinOp (.Call (.Name "int" p16) [(.BinOp (.BinOp (.Name "seed" p17) .Mult (.Constant (.int 31) k1 p18) p19) .Add (.Name "cell" p20) p21)] [] p22) .Mod (.Constant (.int 2147483647) k2 p23) p24) p25] [] p26,
  .Return (some (.Dict [some (.Constant (.str "cells") k3 p27), some (.Constant (.str "at") k4 p28), some (.Constant (.str "left") k5 p29), some (.Constant (.str "seed") k6 p30), some (.Constant (.str "salt") k7 p31)] [(.Name "cells" p32), (.Constant (.int 0) k8 p33), (.Constant (.int 0) k9 p34), (.Name "seed" p35), (.Constant (.int 0) k10 p36)] p37)) p38]

def absI (i : Int) : Int := if i < 0 then -i else i
def sdI : Int → List Int → Int
  | s, [] => s
  | s, c :: cs => sdI ((s * 31 + c) % 2147483647) cs
def tape0 (ns : List Int) : Tape := ⟨ns.map absI, 0, 0, sdI 7 (ns.map absI), 0⟩
def spTape (K : PySem.W.Frag) : Sp := fun vs H Q _ => ∃ (s : Addr) (ns : List Int), vs = [.ref s] ∧ SqL K H s (ns.map V.int) ∧ ns.length ≤ 1000 ∧ ∀ H' a c, (∀ b o, H b = some o → H' b = some o) → H a = none → H c = none → a ≠ c →
  H' a = some (.dK [(.inr "cells", .ref c), (.inr "at", .int 0), (.inr "left", .int 0), (.inr "seed", .int (sdI 7 (ns.map absI))), (.inr "salt", .int 0)]) → H' c = some (.lst ((ns.map absI).map V.int)) → Q (.ref a) H'
abbrev NT : List Str := ["script", "cells", "seed", "cell"]
theorem sdI_app : ∀ (cs : List Int) (s c : Int), sdI s (cs ++ [c]) = (sdI s cs * 31 + c) % 2147483647
  | [], s, c => rfl
  | x :: cs, s, c => by show sdI _ (cs ++ [c]) = _; rw [sdI_app cs]; rfl
theorem tyes_step {σ : L2.St} {H : Hp} {A B : Hp → Prop} (h : A H) : tYes σ H (fun b H3 => if b = true then A H3 else B H3) := by
  show if true = true then A H else B H
  rw [if_pos rfl]; exact h
section
variable {P : Program} {w : World} {K : PySem.W.Frag} {mg : Str → Option Value} {base : Heap}
set_option maxHeartbeats 8000000 in
theorem tape_ok {k0 k1 k2 k3 k4 k5 k6 k7 k8 k9 k10 : Nat} {p0 p1 p2 p3 p4 p5 p6 p7 p8 p9 p10 p11 p12 p13 p14 p15 p16 p17 p18 p19 p20 p21 p22 p23 p24 p25 p26 p27 p28 p29 p30 p31 p32 p33 p34 p35 p36 p37 p38 : Pos} {st : Stmt} {f : Addr} {fd : FuncData} (F : Fun K "_law_tape" "_law_tape" st f fd) (S : FnScope NT ["script"] (defScope st))
    (hb : defBody st = tapeB k0 k1 k2 k3 k4 k5 k6 k7 k8 k9 k10 p0 p1 p2 p3 p4 p5 p6 p7 p8 p9 p10 p11 p12 p13 p14 p15 p16 p17 p18 p19 p20 p21 p22 p23 p24 p25 p26 p27 p28 p29 p30 p31 p32 p33 p34 p35 p36 p37 p38)
    (l0 : (defScope st).names.lookup ("script" : Str) = some .local) (l1 : (defScope st).names.lookup ("cells" : Str) = some .local) (l2 : (defScope st).names.lookup ("seed" : Str) = some .local) (l3 : (defScope st).names.lookup ("cell" : Str) = some .local)
    (l4 : (defScope st).names.lookup ("int" : Str) = some .globalImplicit) (bk : blkC NT (defScope st) scopeT [(("cell" : Str), 3)] = true) (mA : mg "abs" = none) (mI : mg "int" = none) : FnOk P w K mg base (L2.CX P w) 1 f fd ["script"] (spTape K) := by
  refine F.okX S (fun vs H Q E ⟨s, ns, e, _⟩ => by rw [e]; rfl) fun cdv A outer s0 H vs Q E hr ⟨s, ns, e, hS, hlen, q⟩ => ?_
  subst e
  rw [hb]
  generalize hX : cxOf (L2.CX P w) P w K mg base NT "_law_tape" (defScope st) f cdv A outer s0 H E = X
  have hu : X.A.units + 1 < cLine := by rw [← hX]; have := hr.un; show (A.deeper _).units + 1 < cLine; omega
  have hc : X.calm = true := by rw [← hX]; rfl
  have hN : X.N = NT := by rw [← hX]; rfl
  have hnd : X.N.Nodup := by rw [hN]; exact S.nd
  have hsc : X.env.scope = defScope st := by rw [← hX]; rfl
  have hK : X.K = K := by rw [← hX]; rfl
  have hmg : X.mg = mg := by rw [← hX]; rfl
  have hpa : PassesOwn (model X.prog X.w) X.A X.env X.xe := by rw [← hX]; exact passes_of rfl
  have hbk : X.env.blockKind = .function := by unfold Env.blockKind; rw [hsc, S.kind]; rfl
  have n0 : X.N[0]? = some ("script" : Str) := by rw [hN]; rfl
  have n1 : X.N[1]? = some ("cells" : Str) := by rw [hN]; rfl
  have n2 : X.N[2]? = some ("seed" : Str) := by rw [hN]; rfl
  have n3 : X.N[3]? = some ("cell" : Str) := by rw [hN]; rfl
  have gI : Gl X "int" := by show X.env.scope.names.lookup _ = _; rw [hsc]; exact l4
  have v0 : Vis X.env.scope ("script" : Str) := by rw [hsc]; exact .inl l0
  have v1 : Vis X.env.scope ("cells" : Str) := by rw [hsc]; exact .inl l1
  have v2 : Vis X.env.scope ("seed" : Str) := by rw [hsc]; exact .inl l2
  have v3 : Vis X.env.scope ("cell" : Str) := by rw [hsc]; exact .inl l3
  have o1 : X.env.scope.names.lookup ("cells" : Str) = some .local := by rw [hsc]; exact l1
  have o2 : X.env.scope.names.lookup ("seed" : Str) = some .local := by rw [hsc]; exact l2
  have o3 : X.env.scope.names.lookup ("cell" : Str) = some .local := by rw [hsc]; exact l3
  have blk : BlkOk X.N X.env.scope scopeT [("cell", 3)] := by
    rw [hN]
    exact blkOk_by (by rw [hsc]; exact bk)
  have hsw : ∃ b, swapsWith (.ListComp (.Call (.Name "abs" p1) [.Call (.Name "int" p2) [.Name "cell" p3] [] p4] [] p5) [⟨.Name "cell" p6, .Name "script" p7, [], 0⟩] scopeT p8) (some (.Name "cells" p0)) p9.line X.env = pure b := ⟨_, rfl⟩
  have s1 : PS X (.Assign [.Name "cells" p0] (.ListComp (.Call (.Name "abs" p1) [.Call (.Name "int" p2) [.Name "cell" p3] [] p4] [] p5) [⟨.Name "cell" p6, .Name "script" p7, [], 0⟩] scopeT p8) p9)
      (tAsg (tLc (iList X.K (tVar 0)) (gName 3) tYes (tCB (fun xs H Q => ∃ i, xs = [.int i] ∧ Q (.int (if i < 0 then -i else i)) H) (tCons (tCB (fun xs H Q => (∃ i, xs = [.int i] ∧ Q (.int i) H) ∨ ∃ k, xs = [.bl k] ∧ Q (.int (if k then 1 else 0)) H) (tCons (tVar 3) tNil)) tNil)) [3]) (gName 1)) := by
    have hg : ∀ (s : Shared) (H : Hp) (C : Addr) (cl : List (Str × Addr)) (fp : List Addr), PG (X.blk s H scopeT (compEnvC scopeT cl C X.env) fp) (.Name "cell" p6) (gName 3) := fun s H C cl fp => pg_name hnd n3 (.inl rfl) (.inr rfl)
    have he : ∀ (s : Shared) (H : Hp) (C : Addr) (cl : List (Str × Addr)) (fp : List Addr), PE (X.blk s H scopeT (compEnvC scopeT cl C X.env) fp) (.Call (.Name "abs" p1) [.Call (.Name "int" p2) [.Name "cell" p3] [] p4] [] p5) _ := fun s H C cl fp =>
      pe_callB call_abs rfl (by show X.mg _ = _; rw [hmg]; exact mA) (by decide +kernel) (pa_cons (pe_callTy call_int1 rfl (by show X.mg _ = _; rw [hmg]; exact mI) PySem.Pv.boot_int (pa_cons (pe_var n3 (.inl rfl)) pa_nil)) pa_nil)
    obtain ⟨b, hsw⟩ := hsw
    cases b with
    | true => exact ps_setLc hc hnd n1 o1 hsw (pi_list (pe_var n0 v0)) blk hg (fun _ _ _ _ _ => pts_nil) he
    | false => exact ps_set hnd n1 (.inl o1) (pe_lc hc hnd (pi_list (pe_var n0 v0)) blk hg (fun _ _ _ _ _ => pts_nil) he) hsw (.inr o1)
  refine ⟨_, pss_cons s1 (pss_cons (ps_set hnd n2 (.inl o2) pe_int rfl (.inr o2)) (pss_cons (ps_for hpa hc (pi_list (pe_var n1 v1)) (pg_name hnd n3 (.inl o3) (.inr o3)) (pss_one (ps_set hnd n2 (.inl o2) (pe_op op_mod (pe_callTy call_int1 gI (by rw [hmg]; exact mI) PySem.Pv.boot_int (pa_cons (pe_op op_add (pe_op op_mul (pe_var n2 v2) pe_int) (pe_var n3 v3)) pa_nil)) pe_int) rfl (.inr o2))))
    (pss_one (ps_ret (pe_disp (pps_cons pe_str (pe_var n1 v1) (pps_cons pe_str pe_int (pps_cons pe_str pe_int (pps_cons pe_str (pe_var n2 v2) (pps_cons pe_str pe_int pps_nil))))) rfl rfl (by simp) (by simp)))))), ?_⟩
  refine ⟨V.ref s, rfl, s, rfl, ⟨_, by rw [hK]; exact hS⟩, fun L hL => ?_⟩
  refine lc_list (K := X.K) (a := s) (xs := ns.map V.int) (fun i Hc => (∀ b o, H b = some o → Hc b = some o) ∧ Hc L = some (.lst (((ns.take i).map absI).map V.int))) ⟨fun b o e => by rw [upd_ne (ne_of_none e hL)]; exact e, upd_same⟩ (fun i Hc _ h => Same.seq h.1 (by rw [hK]; exact hS)) (fun i x Hc hx h => ?_) (fun Hc h => ?_)
  · obtain ⟨n, hn, rfl⟩ := List.getElem?_map (f := V.int) ▸ hx |> Option.map_eq_some_iff.mp
    refine ⟨rfl, tyes_step ?_⟩
    refine ⟨V.int n, rfl, .inl ⟨n, rfl, ⟨n, rfl, _, h.2, ?_, fun b o e => ?_, ?_⟩⟩⟩
    · rw [sz, List.length_map, List.length_map]
      have := List.length_take_le i ns
      have h2 := List.length_take_le' i ns
      exact Nat.lt_of_le_of_lt (Nat.le_trans h2 hlen) (by decide)
    · rw [upd_ne (ne_of_none e hL)]; exact h.1 b o e
    · rw [upd_same]
      have e : ns.take (i + 1) = ns.take i ++ [n] := by
        rw [List.take_succ, hn]; rfl
      rw [e]
      simp [absI]
  · obtain ⟨h1, h2⟩ := h
    rw [List.length_map, List.take_length] at h2
    show tSeq _ _ _ _ _
    refine ⟨V.ref L, rfl, L, rfl, ⟨_, by rw [hK]; exact SqL.of h2⟩, ?_⟩
    refine for_list (K := X.K) (a := L) (xs := (ns.map absI).map V.int) (fun i σ Hx => Hx = Hc ∧ σ[1]? = some (some (.ref L)) ∧ σ[2]? = some (some (.int (sdI 7 ((ns.map absI).take i)))) ∧ σ.length = 4) ⟨rfl, rfl, rfl, rfl⟩ (fun i σ Hx _ h => by rw [h.1]; exact SqL.of h2) (fun i x σ Hx hx h => ?_) (fun σ Hx h => ?_)
    · obtain ⟨rfl, e1, e2, e3⟩ := h
      rw [List.getElem?_map] at hx
      obtain ⟨n, hn, rfl⟩ := Option.map_eq_some_iff.mp hx
      have g2 : (σ.set 3 (some (V.int n)))[2]? = some (some (.int (sdI 7 ((ns.map absI).take i)))) := by rw [List.getElem?_set_ne (by decide)]; exact e2
      have g3 : (σ.set 3 (some (V.int n)))[3]? = some (some (.int n)) := by rw [List.getElem?_set_self (by rw [e3]; decide)]
      refine ⟨_, g2, ⟨_, _, rfl, rfl, .inr ⟨by decide, by decide⟩, ⟨_, g3, ⟨_, _, rfl, rfl, .inl ⟨_, rfl, ⟨_, _, rfl, rfl, by show (0 : Int) < 2147483647; decide, rfl, ?_, ?_, ?_⟩⟩⟩⟩⟩⟩
      · rw [List.getElem?_set_ne (by decide), List.getElem?_set_ne (by decide)]; exact e1
      · rw [List.getElem?_set_self (by rw [List.length_set, e3]; decide)]
        have e : (ns.map absI).take (i + 1) = (ns.map absI).take i ++ [n] := by
          rw [List.take_succ, hn]; rfl
        rw [e, sdI_app]
      · rw [List.length_set, List.length_set]; exact e3
    · obtain ⟨rfl, e1, e2, e3⟩ := h
      rw [List.length_map, List.take_length] at e2
      intro p hp
      refine ⟨V.ref L, e1, V.int _, e2, upd_same, [(.inr "cells", .ref L), (.inr "at", .int 0), (.inr "left", .int 0), (.inr "seed", .int (sdI 7 (ns.map absI))), (.inr "salt", .int 0)], rfl, by simp, ?_⟩
      have hpL : p ≠ L := fun e => by rw [e, h2] at hp; cases hp
      refine q _ p L (fun b o e => ?_) ?_ hL hpL upd_same ?_
      · have e' := h1 b o e
        have hb : b ≠ p := fun z => by rw [z, hp] at e'; cases e'
        rw [upd_ne hb, upd_ne hb]; exact e'
      · cases e : H p with
        | none => rfl
        | some o => rw [h1 p o e] at hp; cases hp
      · rw [upd_ne hpL.symm, upd_ne hpL.symm]; exact h2
end
/-! ### the law -/
def rhoL (nl : Nat) : Rho := none :: some (.tape, false) :: List.replicate (nl - 2) none
def runL (md : Md) (dfs : List Df) (lv nl : Nat) (zs : List Z) (ns : List Int) : Res Out := evSs (mdN md (lowN md dfs lv)) (callN md dfs lv) false zs (rhoL nl) (tape0 ns)
def isTrueR : Res Out → Bool
  | .ok (.rt (.bl b), _) _ => b
  | _ => false
def spLaw (g : Gs) (r : List Int → Res Out) : Sp := fun vs H Q _ => ∃ (s : Addr) (ns : List Int), vs = [.ref s] ∧ SqL g.K H s (ns.map V.int) ∧ ns.length ≤ 1000 ∧ LamX.Tabs g.tb H ∧ isTrueR (r ns) = true ∧ ∀ H', Q (.bl true) H'
theorem law_ok {g : Gs} {md : Md} {dfs : List Df} {lv : Nat} {zs : List Z} {rest : List Stmt} {N : List Str} {st : Stmt} {lm : Bool} {a fT : Addr} {fdT : FuncData} {oc : Value} {od : Option Addr} {kV doc pm : Value} {an : Option Addr} {cdv ct : Value} {osl : Array (Option Value)} {p1 p2 p3 p4 p5 : Pos}
    (M : ModAll g md dfs) (lk : g.K.lookup a = some ⟨oc, od, .func (PySem.W.fnOf "law" "law" (defArgs st) (defBody st) (defScope st) .none kV doc pm an cdv ct), osl⟩) (hcd : PySem.W.codeIn g.K cdv "law" = true) (S : FnScope N ["script"] (defScope st)) (hb : defBody st = .Assign [.Name "tape" p1] (.Call (.Name "_law_tape" p2) [.Name "script" p3] [] p4) p5 :: rest)
    (n1 : N[1]? = some ("tape" : Str)) (l1 : (defScope st).names.lookup ("tape" : Str) = some .local ∨ (defScope st).names.lookup ("tape" : Str) = some .cell) (hgT : (defScope st).names.lookup ("_law_tape" : Str) = some .globalImplicit) (mT : g.mg "_law_tape" = some (.ref fT)) (kT : PySem.W.keepIn g.K (.ref fT) = true) (bT : Binds g.K fdT ["script"] [])
    (FT : FnOk g.P g.w g.K g.mg g.base (L2.CX g.P g.w) 1 fT fdT ["script"] (spTape g.K)) (h1 : 1 ≤ lv) (hch : chkT md N (defScope st) (defSt lm) false zs rest = true)
    (hlm : lm = true → RfOk g md ∧ ∃ c P, LamX.TabB g.base g.mg c P ∧ cdv = .ref c ∧ (P, ((("law" : Str) ++ ".<locals>.") ++ "<lambda>")) ∈ g.tb ∧ ∀ p ∈ g.tb, p.1 = P → p.2 = (("law" : Str) ++ ".<locals>.") ++ "<lambda>") :
    FnOk g.P g.w g.K g.mg g.base (L2.CX g.P g.w) (lv + 1) a (PySem.W.fnOf "law" "law" (defArgs st) (defBody st) (defScope st) .none kV doc pm an cdv ct) ["script"] (spLaw g (runL md dfs lv N.length zs)) := by
  refine fn_of lk hcd S (fun vs H Q E ⟨s, ns, e, _⟩ => by rw [e]; rfl) fun A outer s0 H vs Q E hr ⟨s, ns, e, hS, hlen, hT, hrun, hq⟩ => ?_
  subst e
  rw [hb]
  have n0 : N[0]? = some ("script" : Str) := by
    have h := S.pre
    cases hN : N with
    | nil => rw [hN] at n1; cases n1
    | cons x xs =>
      rw [hN] at h
      have h : x :: xs.take 0 = [("script" : Str)] := h
      have hx := (List.cons.inj h).1
      rw [hx]; rfl
  have Fcl := cl_ok M lv
  have Flo : ∀ lo, lowN md dfs lv = some lo → ∃ k, k + 2 ≤ lv ∧ ClOk g md lo k := fun lo hlo => by
    match lv, hlo with
    | k + 2, hlo =>
      unfold lowN at hlo
      cases hlo
      exact ⟨k, Nat.le_refl _, cl_ok M k⟩
  have rst : PSs (cxOf (L2.CX g.P g.w) g.P g.w g.K g.mg g.base N "law" (defScope st) a cdv A outer s0 H E) rest (fun D σ H1 => ∃ x c T0 H0, tS { g with tp := some (x, c) } false E T0 H0 (evSs (mdN md (lowN md dfs lv)) (callN md dfs lv) false zs) D σ H1) := by
    refine ⟨fun pins s σ H1 D I ⟨x, c, T0, H0, h⟩ => ?_⟩
    refine (sst_def (fr := false) (H0 := H0) (xz_def (g := { g with tp := some (x, c) }) (md := mdN md (lowN md dfs lv)) (lm := lm) S hr fun hb => ?_) (M.mo.tp _).up (M.xo.tp _).up (ClOk.up (ClOk.tp Fcl _)) zs T0 (by rw [chkT_md]; exact hch)).run pins s σ H1 D I h
    obtain ⟨rf, c', P, k1, k2, k3, k4⟩ := hlm hb
    refine lamC_of (qual := ("law" : Str) ++ ".<locals>.") (RfOk.up (RfOk.tp rf _)) (show _ from k2) rfl k1 k3 k4 fun lo hlo => ?_
    have hlo' : lowN md dfs lv = some lo := hlo
    obtain ⟨k, hk, Fk⟩ := Flo lo hlo'
    have r2 : Room (k + 2) (A.deeper (envOfC "law" (defScope st) s0.heap.objs.size a cdv)) := hr.mono hk
    have c2 : ClOk { g with tp := some (x, c) } (mdN md (lowN md dfs lv)) lo k := ClOk.up (ClOk.tp Fk _)
    exact ⟨k, r2, c2⟩
  have v0 : Vis (defScope st) ("script" : Str) := by
    rcases S.par "script" (by simp) with k | k
    · exact .inl k
    · exact .inr (.inl k)
  have l1' : L2.Loc (defScope st) ("tape" : Str) := l1
  have hr1 : Room 1 (A.deeper (envOfC "law" (defScope st) s0.heap.objs.size a cdv)) := hr.mono h1
  refine ⟨_, pss_cons (ps_set (i := 1) S.nd n1 l1' (pe_callS (E := fun _ => E) FT hr1 hgT mT kT bT (fun σ => passAt (W := WK E) (takes_of rfl rfl rfl rfl) σ) (pa_cons (pe_var (i := 0) n0 v0) pa_nil)) rfl (.inl rfl)) rst, ?_⟩
  have hN2 : 2 ≤ N.length := by
    have := (List.getElem?_eq_some_iff.mp n1).1
    omega
  refine ⟨V.ref s, rfl, s, ns, rfl, hS, hlen, fun H' x c ext hx hc hxc hdx hdc => ?_⟩
  refine ⟨x, c, fun _ => none, H', fun _ => none, rhoL N.length, tape0 ns, ?_, ?_⟩
  · have sok : SOk { g with tp := some (x, c) } H' (tape0 ns) := ⟨fun x' c' e => (by cases e; exact ⟨hdx, hdc, hxc⟩), hT.ext ext⟩
    have vok : VOk { g with tp := some (x, c) } (fun _ => none) := ⟨fun b o e => (by cases e), fun _ _ _ => ⟨rfl, rfl⟩⟩
    refine ⟨Gone.refl (fun b o e => (by cases e)) vok sok, fun i d e => ?_, fun i d e => ?_, fun i j d e b _ h2 => ?_, ?_⟩
    · match i, e with
      | 1, e =>
        cases e
        refine ⟨V.ref x, ?_, x, c, rfl, rfl⟩
        rw [List.getElem?_set_self (by unfold L2.start; simp; omega)]
      | i + 2, e =>
        have e : nth (List.replicate (N.length - 2) (none : Option (D × Bool))) i = some (some (d, false)) := e
        rw [nth_eq, List.getElem?_replicate] at e
        split at e <;> cases e
    · match i, e with
      | i + 2, e =>
        have e : nth (List.replicate (N.length - 2) (none : Option (D × Bool))) i = some (some (d, true)) := e
        rw [nth_eq, List.getElem?_replicate] at e
        split at e <;> cases e
    · match i, h2 with
      | i + 2, e =>
        have e : nth (List.replicate (N.length - 2) (none : Option (D × Bool))) i = some (some (d, true)) := e
        rw [nth_eq, List.getElem?_replicate] at e
        split at e <;> cases e
    · unfold rhoL L2.start
      simp
      omega
  · unfold runL at hrun
    unfold GoodS
    cases e : evSs (mdN md (lowN md dfs lv)) (callN md dfs lv) false zs (rhoL N.length) (tape0 ns) with
    | exc c t' => rw [e] at hrun; cases hrun
    | bad => rw [e] at hrun; cases hrun
    | ok o t' =>
      rw [e] at hrun
      obtain ⟨fl, ρ2⟩ := o
      cases fl with
      | rt d =>
        cases d with
        | bl b =>
          have hb' : b = true := hrun
          subst hb'
          intro v H2 p
          obtain ⟨T2, _, r⟩ := p
          have r : v = .bl true := r
          subst r
          exact hq H2
        | _ => cases hrun
      | _ => cases hrun
/-- the bits do not matter: nothing is let out -/
theorem cx_none {P : Program} {w : World} {H : Hp} {s : Shared} {e : Value} {s' : Shared} (h : L2.CX P w [] H s (fun _ _ _ => False) e s') : False := by
  obtain ⟨_, _, _, _, _, _, _, _, _, _, _, _, z⟩ := h
  exact z.elim
/-! ### lists of defs -/
def ffOf (dfs : List Df) (f : Nat) : Bool := match nth dfs f with
  | some (.df _ _ ff _) => ff
  | _ => false
def DfOk (g : Gs) (md : Md) (x : Str) : Df → Prop
  | .df np nl _ body => DefOk g md x np nl body
  | .pm _ _ => False
inductive All2 (p : Str → Df → Prop) : List Str → List Df → Prop where
  | nil : All2 p [] []
  | cons {x : Str} {d : Df} {xs : List Str} {ds : List Df} (h : p x d) (r : All2 p xs ds) : All2 p (x :: xs) (d :: ds)
theorem All2.get {p : Str → Df → Prop} : ∀ {xs : List Str} {ds : List Df} {i : Nat} {x : Str}, All2 p xs ds → xs[i]? = some x → ∃ d, nth ds i = some d ∧ p x d
  | _, _, 0, _, .cons h _, e => by
    simp at e
    subst e
    exact ⟨_, rfl, h⟩
  | _, _, i + 1, _, .cons _ r, e => All2.get (i := i) r (by simpa using e)
  | _, _, i, _, .nil, e => by simp at e
theorem modAll_of {g : Gs} {md : Md} {dfs : List Df} (mo : ModOk g md) (xo : XcOk g md) (hf : md.ff = ffOf dfs) (h : All2 (DfOk g md) md.fn dfs) : ModAll g md dfs := ⟨mo, xo, True.intro, fun f x e => by
  obtain ⟨d, e1, e2⟩ := h.get e
  refine ⟨d, e1, ?_⟩
  cases d with
  | df np nl ff body => exact ⟨by rw [hf]; unfold ffOf; rw [e1], e2⟩
  | pm lv f => exact e2.elim⟩
end EV

set_option Elab.async false
set_option linter.all false
set_option maxRecDepth 100000
set_option maxHeartbeats 1000000
/-! EvW: going through the evaluator: loops, bodies, places. -/
namespace EV
section
variable {md : Md} {cl : Cl} {ff : Bool}
theorem ss_nx {s : Z} {ss : List Z} {ρ ρ1 : Rho} {t t1 : Tape} (h : evS md cl ff s ρ t = .ok (.nx, ρ1) t1) : evSs md cl ff (s :: ss) ρ t = evSs md cl ff ss ρ1 t1 := by
  conv => lhs; unfold evSs
  simp only [bnd, h, seqB, ret]
theorem ss_rt {s : Z} {ss : List Z} {ρ ρ1 : Rho} {t t1 : Tape} {d : D} (h : evS md cl ff s ρ t = .ok (.rt d, ρ1) t1) : evSs md cl ff (s :: ss) ρ t = .ok (.rt d, ρ1) t1 := by
  conv => lhs; unfold evSs
  simp only [bnd, h, seqB, ret]
theorem ss_exc {s : Z} {ss : List Z} {ρ : Rho} {t t1 : Tape} {c : Nat} (h : evS md cl ff s ρ t = .exc c t1) : evSs md cl ff (s :: ss) ρ t = .exc c t1 := by
  conv => lhs; unfold evSs
  simp only [bnd, h]
theorem ss_bk {s : Z} {ss : List Z} {ρ ρ1 : Rho} {t t1 : Tape} (h : evS md cl ff s ρ t = .ok (.bk, ρ1) t1) : evSs md cl ff (s :: ss) ρ t = .ok (.bk, ρ1) t1 := by
  conv => lhs; unfold evSs
  simp only [bnd, h, seqB, ret]
end
section
variable {c : Rho → M Bool} {body : Rho → M Out} {n : Nat} {ρ ρ2 : Rho} {t t1 t2 : Tape}
theorem whl_go (hc : c ρ t = .ok true t1) (hb : body ρ t1 = .ok (.nx, ρ2) t2) : whlRun c body (n + 1) ρ t = whlRun c body n ρ2 t2 := by
  conv => lhs; unfold whlRun
  simp only [bnd, hc, hb, if_true, appB, ret]
theorem whl_end (hc : c ρ t = .ok false t1) : whlRun c body (n + 1) ρ t = .ok (.nx, ρ) t1 := by
  conv => lhs; unfold whlRun
  simp only [bnd, hc, ret]; rfl
theorem whl_rt {d : D} (hc : c ρ t = .ok true t1) (hb : body ρ t1 = .ok (.rt d, ρ2) t2) : whlRun c body (n + 1) ρ t = .ok (.rt d, ρ2) t2 := by
  conv => lhs; unfold whlRun
  simp only [bnd, hc, hb, if_true, appB, ret]
end
section
variable {st : D → Rho → Option Rho} {body : Rho → M Out} {x : D} {xs : List D} {ρ ρ1 ρ2 : Rho} {t t2 : Tape}
theorem for_nil : forRun st body [] ρ t = .ok (.nx, ρ) t := rfl
theorem for_go (hs : st x ρ = some ρ1) (hb : body ρ1 t = .ok (.nx, ρ2) t2) : forRun st body (x :: xs) ρ t = forRun st body xs ρ2 t2 := by
  conv => lhs; unfold forRun
  simp only [hs, bnd, hb, appB, ret]
theorem for_rt {d : D} (hs : st x ρ = some ρ1) (hb : body ρ1 t = .ok (.rt d, ρ2) t2) : forRun st body (x :: xs) ρ t = .ok (.rt d, ρ2) t2 := by
  conv => lhs; unfold forRun
  simp only [hs, bnd, hb, appB, ret]
end
/-! ### places -/
theorem atI_nat {α : Type} {l : List α} {k : Nat} (h : k < l.length) : L2.atI l (k : Int) = some (l[k]'h) := by
  unfold L2.atI L2.ixN
  rw [if_pos (by omega), if_pos (by omega)]
  show l[(k : Int).toNat]? = _
  rw [Int.toNat_natCast, List.getElem?_eq_getElem h]
theorem ix_str {s : List Nat} {k : Nat} (h : k < s.length) (hz : s.length ≤ 1000000) : ixD (.str s) (.int k) = some (.str [s.getD k 0]) := by
  unfold ixD
  have : s.length ≤ SZ := Nat.le_trans hz (by decide)
  simp only [atI_nat h, if_pos this]
  simp [List.getD, List.getElem?_eq_getElem h]
theorem ix_lst {α : Type} {f : α → D} {l : List α} {k : Nat} {z : α} (h : k < l.length) : ixD (.lst (l.map f)) (.int k) = some (f (l.getD k z)) := by
  unfold ixD
  have h' : k < (l.map f).length := by simpa using h
  simp only [atI_nat h']
  simp [List.getD, List.getElem?_eq_getElem h]
def s1 (c : Nat) : D := .str [c]
theorem s1_inj {a b : Nat} : ([a] == [b]) = (a == b) := by
  simp [BEq.beq, List.beq]
def Chars (a : List Nat) : Prop := ∀ c ∈ a, c < 1114112
theorem strOk_S {a : List Nat} (h : Chars a) : PySem.PyData.strOk (S a) = true := by
  unfold PySem.PyData.strOk
  simp
  exact fun x hx => h x hx
theorem eqO_str {a b : List Nat} (ha : Chars a) (hb : Chars b) : eqO (.str a) (.str b) = some (.bl (a == b)) := by
  have h : eqD (.str a) (.str b) = some (PySem.PyData.eqv (.str (S a)) (.str (S b))) := by
    unfold eqD; simp [pd, PySem.SeqAt.shaped, PySem.PyData.canLay0, PySem.PyData.depth, strOk_S ha, strOk_S hb]
  unfold eqO
  rw [h]
  show some (D.bl (S a == S b)) = _
  rw [S_beq]
theorem neO_str {a b : List Nat} (ha : Chars a) (hb : Chars b) : neO (.str a) (.str b) = some (.bl (!(a == b))) := by
  have h : eqD (.str a) (.str b) = some (PySem.PyData.eqv (.str (S a)) (.str (S b))) := by
    unfold eqD; simp [pd, PySem.SeqAt.shaped, PySem.PyData.canLay0, PySem.PyData.depth, strOk_S ha, strOk_S hb]
  unfold neO
  rw [h]
  show some (D.bl (!(S a == S b))) = _
  rw [S_beq]
theorem eqO_int (a b : Int) : eqO (.int a) (.int b) = some (.bl (decide (a = b))) := rfl
theorem neO_int (a b : Int) : neO (.int a) (.int b) = some (.bl (!decide (a = b))) := rfl
theorem eqO_bl (a b : Bool) : eqO (.bl a) (.bl b) = some (.bl (a == b)) := rfl
theorem neO_bl (a b : Bool) : neO (.bl a) (.bl b) = some (.bl (!(a == b))) := rfl
theorem infB_one (c : Nat) : ∀ l : List Nat, infB [c] l = l.contains c
  | [] => rfl
  | x :: l => by
    show (TL.pre [c] (x :: l) || infB [c] l) = _
    rw [infB_one c l, List.contains_cons]
    show (([x] == [c]) || _) = _
    rw [s1_inj, Bool.beq_comm]
theorem inO_str (c : Nat) (l : List Nat) : inO (.str [c]) (.str l) = some (.bl (l.contains c)) := by
  show some (D.bl (infB [c] l)) = _
  rw [infB_one]
theorem ninO_str (c : Nat) (l : List Nat) : ninO (.str [c]) (.str l) = some (.bl (!l.contains c)) := by
  show some (D.bl (!infB [c] l)) = _
  rw [infB_one]
theorem len_str {s : List Nat} (h : s.length ≤ 1000000) : lenN [.str s] = some (.int (s.length : Nat)) := by
  unfold lenN
  exact if_pos (Nat.le_trans h (by decide))
theorem lcRun_map {f : D → M (Option D)} {g : D → D} {t : Tape} : ∀ {xs : List D}, (∀ x ∈ xs, f x t = .ok (some (g x)) t) → lcRun f xs t = .ok (xs.map g) t
  | [], _ => rfl
  | x :: xs, h => by
    unfold lcRun
    simp only [bnd, h x List.mem_cons_self, lcRun_map (fun y hy => h y (List.mem_cons_of_mem _ hy)), ret, List.map_cons]
theorem flg_map {α : Type} (f : α → Bool) : ∀ xs : List α, flg (xs.map fun x => D.bl (f x)) = some (xs.map f)
  | [] => rfl
  | x :: xs => by
    show (flg (xs.map fun x => D.bl (f x))).map (f x :: ·) = _
    rw [flg_map f xs]; rfl
theorem bls_true : ∀ n : Nat, flg (List.replicate n (.bl true)) = some (List.replicate n true)
  | 0 => rfl
  | n + 1 => by
    rw [List.replicate_succ, List.replicate_succ]
    show (flg (List.replicate n (D.bl true))).map (true :: ·) = _
    rw [bls_true n]; rfl
end EV

set_option Elab.async false
set_option linter.all false
set_option maxRecDepth 100000
set_option maxHeartbeats 1000000
/-! EvX: the evaluator's steps as equations that go on by themselves (for simp). -/
namespace EV
def thn {α β : Type} (r : Res α) (k : α → Tape → Res β) : Res β := match r with
  | .ok a t => k a t
  | .exc c t => .exc c t
  | .bad => .bad
def optR {α : Type} (o : Option α) (t : Tape) : Res α := match o with
  | some a => .ok a t
  | none => .bad
theorem thn_ok {α β : Type} (a : α) (t : Tape) (k : α → Tape → Res β) : thn (.ok a t) k = k a t := Eq.trans rfl rfl
theorem thn_exc {α β : Type} (c : Nat) (t : Tape) (k : α → Tape → Res β) : thn (.exc c t) k = .exc c t := Eq.trans rfl rfl
theorem optR_some {α : Type} (a : α) (t : Tape) : optR (some a) t = .ok a t := Eq.trans rfl rfl
theorem thn_bnd {α β : Type} (x : M α) (f : α → M β) (t : Tape) : bnd x f t = thn (x t) fun a t' => f a t' := rfl
theorem opt_app {α : Type} (o : Option α) (t : Tape) : opt o t = optR o t := by cases o <;> rfl
section
variable {md : Md} {cl : Cl} {ff : Bool} {ρ : List (Option D)} {t : Tape}
theorem xvar {i : Nat} {d : D} (h : nth ρ i = some (some d)) : evE md cl (.var i) ρ t = .ok d t := by unfold evE; rw [h]; rfl
theorem evE_var {i : Nat} : evE md cl (.var i) ρ t = match nth ρ i with
    | some (some d) => .ok d t
    | _ => .bad := by
  unfold evE
  rcases nth ρ i with _ | (_ | d) <;> rfl
theorem evE_cst {d : D} : evE md cl (.cst d) ρ t = .ok d t := by unfold evE; rfl
theorem evE_o1 {o : O1} {a : E} : evE md cl (.o1 o a) ρ t = thn (evE md cl a ρ t) fun d t1 => optR (f1 o d) t1 := by
  conv => lhs; unfold evE
  simp only [thn_bnd, opt_app]
theorem evE_o2 {o : O2} {a b : E} : evE md cl (.o2 o a b) ρ t = thn (evE md cl a ρ t) fun d t1 => thn (evE md cl b ρ t1) fun e t2 => optR (f2 o d e) t2 := by
  conv => lhs; unfold evE
  simp only [thn_bnd, opt_app]
theorem evE_glo {i : Nat} : evE md cl (.glo i) ρ t = match nth md.gc i with
    | some (_, d) => .ok d t
    | none => .bad := by
  unfold evE
  rcases nth md.gc i with _ | ⟨_, d⟩ <;> rfl
def chK (o : Option D) (k : Tape → Res D) (t : Tape) : Res D := match o with
  | some (.bl true) => k t
  | some (.bl false) => .ok (.bl false) t
  | _ => .bad
theorem chK_t {k : Tape → Res D} : chK (some (.bl true)) k t = k t := Eq.trans rfl rfl
theorem chK_f {k : Tape → Res D} : chK (some (.bl false)) k t = .ok (.bl false) t := Eq.trans rfl rfl
theorem evE_ch {o p : O2} {a b c : E} : evE md cl (.ch o p a b c) ρ t = thn (evE md cl a ρ t) fun d t1 => thn (evE md cl b ρ t1) fun e t2 => chK (f2 o d e) (fun t3 => thn (evE md cl c ρ t3) fun h t4 => optR (f2 p e h) t4) t2 := by
  conv => lhs; unfold evE
  simp only [thn_bnd, opt_app]
  congr 1; funext d t1; congr 1; funext e t2
  unfold chK
  cases f2 o d e with
  | none => rfl
  | some r =>
    rw [optR_some, thn_ok]
    cases r with
    | bl b => cases b <;> simp only [thn_bnd, opt_app] <;> rfl
    | _ => rfl
def trK (o : Option Bool) (k1 k2 : Tape → Res D) (t : Tape) : Res D := match o with
  | some true => k1 t
  | some false => k2 t
  | none => .bad
theorem trK_t {k1 k2 : Tape → Res D} : trK (some true) k1 k2 t = k1 t := Eq.trans rfl rfl
theorem trK_f {k1 k2 : Tape → Res D} : trK (some false) k1 k2 t = k2 t := Eq.trans rfl rfl
theorem trK_b {b : Bool} {k1 k2 : Tape → Res D} : trK (some b) k1 k2 t = if b then k1 t else k2 t := by cases b <;> rfl
theorem evE_and {a b : E} : evE md cl (.and a b) ρ t = thn (evE md cl a ρ t) fun d t1 => trK (trB d) (fun t2 => evE md cl b ρ t2) (fun t2 => .ok d t2) t1 := by
  conv => lhs; unfold evE
  simp only [thn_bnd]
  congr 1; funext d t1
  unfold trK
  cases trB d with
  | none => rfl
  | some k => cases k <;> rfl
theorem evE_or {a b : E} : evE md cl (.or a b) ρ t = thn (evE md cl a ρ t) fun d t1 => trK (trB d) (fun t2 => .ok d t2) (fun t2 => evE md cl b ρ t2) t1 := by
  conv => lhs; unfold evE
  simp only [thn_bnd]
  congr 1; funext d t1
  unfold trK
  cases trB d with
  | none => rfl
  | some k => cases k <;> rfl
theorem evE_not {a : E} : evE md cl (.not a) ρ t = thn (evE md cl a ρ t) fun d t1 => trK (trB d) (fun t2 => .ok (.bl false) t2) (fun t2 => .ok (.bl true) t2) t1 := by
  conv => lhs; unfold evE
  simp only [thn_bnd]
  congr 1; funext d t1
  unfold trK
  cases trB d with
  | none => rfl
  | some k => cases k <;> rfl
theorem evE_ife {c a b : E} : evE md cl (.ife c a b) ρ t = thn (evE md cl c ρ t) fun d t1 => trK (trB d) (fun t2 => evE md cl a ρ t2) (fun t2 => evE md cl b ρ t2) t1 := by
  conv => lhs; unfold evE
  simp only [thn_bnd]
  congr 1; funext d t1
  unfold trK
  cases trB d with
  | none => rfl
  | some k => cases k <;> rfl
theorem evL_nil : evL md cl [] ρ t = .ok [] t := by unfold evL; rfl
theorem evL_cons {e : E} {es : List E} : evL md cl (e :: es) ρ t = thn (evE md cl e ρ t) fun d t1 => thn (evL md cl es ρ t1) fun ds t2 => .ok (d :: ds) t2 := by
  conv => lhs; unfold evL
  simp only [thn_bnd, ret]
def lenR (ds : List D) (d : D) (t : Tape) : Res D := if ds.length ≤ 1000000 then .ok d t else .bad
theorem lenR_ok {ds : List D} {d : D} (h : ds.length ≤ 1000000) : lenR ds d t = .ok d t := if_pos h
theorem evE_tup {es : List E} : evE md cl (.tup es) ρ t = thn (evL md cl es ρ t) fun ds t1 => lenR ds (.tup ds) t1 := by
  conv => lhs; unfold evE
  simp only [thn_bnd, lenOk, lenR]
  congr 1; funext ds t1
  by_cases h : ds.length ≤ 1000000
  · rw [if_pos h, if_pos h]; rfl
  · rw [if_neg h, if_neg h]; rfl
theorem evE_lst {es : List E} : evE md cl (.lst es) ρ t = thn (evL md cl es ρ t) fun ds t1 => lenR ds (.lst ds) t1 := by
  conv => lhs; unfold evE
  simp only [thn_bnd, lenOk, lenR]
  congr 1; funext ds t1
  by_cases h : ds.length ≤ 1000000
  · rw [if_pos h, if_pos h]; rfl
  · rw [if_neg h, if_neg h]; rfl
def nox {α : Type} (r : Res α) : Res α := match r with
  | .ok a t => .ok a t
  | _ => .bad
theorem nox_ok {α : Type} (a : α) : nox (.ok a t) = .ok a t := Eq.trans rfl rfl
theorem evE_sl {a : E} {lo hi : List E} : evE md cl (.sl a lo hi) ρ t = thn (evE md cl a ρ t) fun d t1 => thn (nox (evL md cl lo ρ t1)) fun l t2 => thn (nox (evL md cl hi ρ t2)) fun h t3 => optR (slK d l h) t3 := by
  conv => lhs; unfold evE
  simp only [thn_bnd, opt_app]
  rfl
theorem evE_call {f : Nat} {es : List E} : evE md cl (.call f es) ρ t = thn (evL md cl es ρ t) fun ds t1 => cl f ds t1 := by
  conv => lhs; unfold evE
  simp only [thn_bnd]
theorem evE_bi {b : Bi} {es : List E} : evE md cl (.bi b es) ρ t = thn (evL md cl es ρ t) fun ds t1 => optR (fB b ds) t1 := by
  conv => lhs; unfold evE
  simp only [thn_bnd, opt_app]
def ifM {α : Type} (b : Bool) (r : Res α) : Res α := if b then r else .bad
theorem ifM_t {α : Type} (r : Res α) : ifM true r = r := Eq.trans rfl rfl
theorem evE_me {m : Me} {o : E} {es : List E} : evE md cl (.me m o es) ρ t = thn (evE md cl o ρ t) fun d t1 => ifM (kM m d) (thn (evL md cl es ρ t1) fun ds t2 => optR (fM m d ds) t2) := by
  conv => lhs; unfold evE
  simp only [thn_bnd]
  congr 1; funext d t1
  unfold ifM
  cases kM m d
  · rfl
  · simp only [if_true, thn_bnd, opt_app]
theorem evE_tf {i k : Nat} (h : isTape (nth ρ i) = true) : evE md cl (.tf i k) ρ t = .ok (.int (tfld k t)) t := by
  unfold evE; rw [if_pos h]
theorem evE_tln {i : Nat} (h : isTape (nth ρ i) = true) : evE md cl (.tln i) ρ t = .ok (.int t.cells.length) t := by
  unfold evE; rw [if_pos h]
theorem evT_eq {e : E} : evT md cl e ρ t = thn (evE md cl e ρ t) fun d t1 => optR (trB d) t1 := by
  unfold evT
  simp only [thn_bnd, opt_app]
theorem evC_nil : evC md cl [] ρ t = .ok true t := by unfold evC; rfl
theorem evC_one {e : E} {es : List E} : evC md cl (e :: es) ρ t = thn (evE md cl e ρ t) fun d t1 => optR (trB d) t1 := by
  conv => lhs; unfold evC
  simp only [thn_bnd, opt_app]
theorem evE_rf {a : E} {lo : Cl} (h : md.lo = some lo) : evE md cl (.rf a) ρ t = rfR md.rx (evE md lo a ρ t) := by
  conv => lhs; unfold evE
  rw [h]
theorem evI_eq {k : Sk} {es : List E} : evI md cl k es ρ t = thn (evL md cl es ρ t) fun ds t1 => optR (itD k ds) t1 := by
  unfold evI
  simp only [thn_bnd, opt_app]
/-- a comprehension -/
theorem evE_lc' {own : List Nat} {tg : Tg} {k : Sk} {es cs : List E} {elt : E} {ds xs ys : List D} {t1 t2 : Tape} (h1 : evL md cl es ρ t = .ok ds t1) (h2 : itD k ds = some xs) (hl : xs.length ≤ 1000000) (h3 : lcRun (lcF md cl own tg cs elt ρ) xs t1 = .ok ys t2) :
    evE md cl (.lc own tg k es cs elt) ρ t = .ok (.lst ys) t2 := by
  rw [evE_lc]
  simp only [bnd, h1, h2]
  unfold lenOk
  rw [if_pos hl]
  simp only [ret, h3]
theorem lcF_eq {own : List Nat} {tg : Tg} {cs : List E} {elt : E} {x : D} : lcF md cl own tg cs elt ρ x t = match tgD tg x (wipeD ρ own) with
    | none => .bad
    | some ρ2 => thn (nox (evC md cl cs ρ2 t)) fun b t1 => if b then thn (nox (evE md cl elt ρ2 t1)) fun d t2 => .ok (some d) t2 else .ok none t1 := by
  unfold lcF
  cases tgD tg x (wipeD ρ own) with
  | none => rfl
  | some ρ2 =>
    simp only [thn_bnd]
    congr 1; funext b t1
    cases b <;> rfl
end
section
variable {md : Md} {cl : Cl} {ff : Bool} {ρ : Rho} {t : Tape}
theorem evSs_nil : evSs md cl ff [] ρ t = .ok (.nx, ρ) t := by unfold evSs; rfl
theorem evSs_cons {s : Z} {ss : List Z} : evSs md cl ff (s :: ss) ρ t = thn (evS md cl ff s ρ t) fun o t1 => seqB o.1 o.2 (evSs md cl ff ss) t1 := by
  conv => lhs; unfold evSs
  simp only [thn_bnd]
theorem seqB_nx {k : Rho → M Out} : seqB .nx ρ k t = k ρ t := Eq.trans rfl rfl
theorem seqB_rt {k : Rho → M Out} {d : D} : seqB (.rt d) ρ k t = .ok (.rt d, ρ) t := Eq.trans rfl rfl
theorem seqB_bk {k : Rho → M Out} : seqB .bk ρ k t = .ok (.bk, ρ) t := Eq.trans rfl rfl
theorem seqB_ct {k : Rho → M Out} : seqB .ct ρ k t = .ok (.ct, ρ) t := Eq.trans rfl rfl
theorem evS_set {m : List Nat} {i : Nat} {e : E} : evS md cl ff (.set m i e) ρ t = thn (evE md cl e (vw m ρ) t) fun d t1 => .ok (.nx, (aft (frE md e) m d ρ).set i (some (d, frE md e && isCell d))) t1 := by
  conv => lhs; unfold evS
  simp only [thn_bnd, ret]
def nxO (o : Option Rho) (t : Tape) : Res Out := match o with
  | some ρ => .ok (.nx, ρ) t
  | none => .bad
theorem nxO_some {ρ : Rho} : nxO (some ρ) t = .ok (.nx, ρ) t := Eq.trans rfl rfl
theorem evS_tgt {m : List Nat} {tg : Tg} {e : E} : evS md cl ff (.tgt m tg e) ρ t = thn (evE md cl e (vw m ρ) t) fun d t1 => nxO (tgR tg d (aft false m d ρ)) t1 := by
  conv => lhs; unfold evS
  simp only [thn_bnd]
  congr 1; funext d t1
  cases tgR tg d (aft false m d ρ) <;> rfl
theorem evS_par {m is : List Nat} {es : List E} : evS md cl ff (.par m is es) ρ t = thn (evL md cl es (vw m ρ) t) fun ds t1 => nxO (setAllO is ds (es.map (frE md)) (aftA (es.map (frE md)) m ds ρ)) t1 := by
  conv => lhs; unfold evS
  simp only [thn_bnd]
  congr 1; funext d t1
  cases setAllO is d (es.map (frE md)) (aftA (es.map (frE md)) m d ρ) <;> rfl
theorem evS_if {m : List Nat} {c : E} {a b : List Z} : evS md cl ff (.ifS m c a b) ρ t = thn (evT md cl c (vw m ρ) t) fun k t1 => if k then evSs md cl ff a ρ t1 else evSs md cl ff b ρ t1 := by
  conv => lhs; unfold evS
  simp only [thn_bnd]
  congr 1; funext k t1
  cases k <;> rfl
theorem evS_whl {m : List Nat} {n : Nat} {c : E} {b : List Z} : evS md cl ff (.whl m n c b) ρ t = whlRun (fun ρ => evT md cl c (vw m ρ)) (fun ρ => evSs md cl ff b ρ) n ρ t := by unfold evS; rfl
theorem evS_for {m : List Nat} {tg : Tg} {k : Sk} {es : List E} {b : List Z} : evS md cl ff (.for m tg k es b) ρ t = thn (evI md cl k es (vw m ρ) t) fun xs t1 => forRun (tgR tg) (fun ρ => evSs md cl ff b ρ) xs (frz? k m ρ) t1 := by
  conv => lhs; unfold evS
  simp only [thn_bnd]
theorem evS_ret {m : List Nat} {e : E} : evS md cl ff (.ret m e) ρ t = thn (evE md cl e (vw m ρ) t) fun d t1 => ifM (!ff || frE md e || !isCell d) (.ok (.rt d, ρ) t1) := by
  conv => lhs; unfold evS
  simp only [thn_bnd]
  congr 1; funext d t1
  unfold ifM
  cases (!ff || frE md e || !isCell d) <;> rfl
theorem evS_retV {i : Nat} {d : D} {b : Bool} (h : nth ρ i = some (some (d, b))) : evS md cl ff (.retV i) ρ t = ifM (!ff || b || !isCell d) (.ok (.rt d, ρ) t) := by
  unfold evS
  rw [h]
  show (if (!ff || b || !isCell d) = true then ret (Fl.rt d, ρ) else bad) t = _
  unfold ifM
  cases (!ff || b || !isCell d) <;> rfl
theorem evS_rz {c : Nat} : evS md cl ff (.rz c) ρ t = .exc c t := by unfold evS; rfl
theorem evS_pass : evS md cl ff .pass ρ t = .ok (.nx, ρ) t := by unfold evS; rfl
theorem evS_exp {m : List Nat} {e : E} : evS md cl ff (.exp m e) ρ t = thn (evE md cl e (vw m ρ) t) fun d t1 => .ok (.nx, aft false m d ρ) t1 := by
  conv => lhs; unfold evS
  simp only [thn_bnd, ret]
def appR (xs : List D) (d : D) (i : Nat) (ρ : Rho) (t : Tape) : Res Out := if xs.length < 1000000 then .ok (.nx, ρ.set i (some (.lst (xs ++ [d]), true))) t else .bad
theorem appR_ok {xs : List D} {d : D} {i : Nat} (h : xs.length < 1000000) : appR xs d i ρ t = .ok (.nx, ρ.set i (some (.lst (xs ++ [d]), true))) t := if_pos h
/-- append, of what holds no list -/
theorem evS_app {m : List Nat} {i : Nat} {e : E} {xs : List D} {d : D} {t1 : Tape} (h : nth ρ i = some (some (.lst xs, true))) (he : evE md cl e (vw m ρ) t = .ok d t1) (hi : EV.imm d = true) (hl : xs.length < 1000000) :
    evS md cl ff (.app m i e) ρ t = .ok (.nx, ρ.set i (some (.lst (xs ++ [d]), true))) t1 := by
  have ea : aft false m d ρ = ρ := by unfold aft immR; rw [hi]; rfl
  unfold evS
  rw [h]
  simp only [bnd, he, ea, h, if_pos hl, ret]
theorem evS_aug {m : List Nat} {o : O2} {i : Nat} {e : E} {x d r : D} {t1 : Tape} (h : nth ρ i = some (some (x, false))) (he : evE md cl e (vw m ρ) t = .ok d t1) (hi : EV.imm d = true) (hr : iD o x d = some r) :
    evS md cl ff (.aug m o i e) ρ t = .ok (.nx, ρ.set i (some (r, false))) t1 := by
  have ea : aft false m d ρ = ρ := by unfold aft immR; rw [hi]; rfl
  unfold evS
  rw [h]
  simp only [bnd, he, hr, ea, ret]
theorem evS_put {m : List Nat} {i j : Nat} {ei e : E} {xs : List D} {d : D} {k : Int} {t1 t2 : Tape} (h : nth ρ i = some (some (.lst xs, true))) (he : evE md cl e (vw m ρ) t = .ok d t1) (hi : EV.imm d = true) (h2 : evE md cl ei (vw m ρ) t1 = .ok (.int k) t2) (hj : L2.ixN xs.length k = some j) :
    evS md cl ff (.put m i ei e) ρ t = .ok (.nx, ρ.set i (some (.lst (xs.set j d), true))) t2 := by
  have ea : aft false m d ρ = ρ := by unfold aft immR; rw [hi]; rfl
  unfold evS
  simp only [bnd, he, ea, h, h2, hj, ret]
def isLst : Option (Option (D × Bool)) → Option (List D)
  | some (some (.lst xs, true)) => some xs
  | _ => none
def isSh : Option (Option (D × Bool)) → Option D
  | some (some (d, false)) => some d
  | _ => none
def o2R {α : Type} (o : Option α) (k : α → Res Out) : Res Out := match o with
  | some a => k a
  | none => .bad
theorem o2R_some {α : Type} {a : α} {k : α → Res Out} : o2R (some a) k = k a := Eq.trans rfl rfl
theorem xS_app {m : List Nat} {i : Nat} {e : E} : evS md cl ff (.app m i e) ρ t = o2R (isLst (nth ρ i)) fun _ => thn (evE md cl e (vw m ρ) t) fun d t1 => o2R (isLst (nth (aft false m d ρ) i)) fun xs => appR xs d i (aft false m d ρ) t1 := by
  conv => lhs; unfold evS
  rcases nth ρ i with _ | (_ | ⟨d0, b0⟩)
  · rfl
  · rfl
  · cases b0 with
    | false => cases d0 <;> rfl
    | true => cases d0 with
      | lst ds =>
        show bnd _ _ _ = thn _ _
        rw [thn_bnd]
        congr 1; funext d t1
        rcases nth (aft false m d ρ) i with _ | (_ | ⟨d1, b1⟩)
        · rfl
        · rfl
        · cases b1 with
          | false => cases d1 <;> rfl
          | true => cases d1 with
            | lst xs =>
              show (if xs.length < 1000000 then ret (Fl.nx, (aft false m d ρ).set i (some (D.lst (xs ++ [d]), true))) else bad) t1 = appR xs d i (aft false m d ρ) t1
              unfold appR
              by_cases h : xs.length < 1000000
              · rw [if_pos h, if_pos h]; rfl
              · rw [if_neg h, if_neg h]; rfl
            | _ => rfl
      | _ => rfl
theorem xS_aug {m : List Nat} {o : O2} {i : Nat} {e : E} : evS md cl ff (.aug m o i e) ρ t = o2R (isSh (nth ρ i)) fun x => thn (evE md cl e (vw m ρ) t) fun d t1 => o2R (iD o x d) fun r => .ok (.nx, (aft false m d ρ).set i (some (r, false))) t1 := by
  conv => lhs; unfold evS
  rcases nth ρ i with _ | (_ | ⟨d0, b0⟩)
  · rfl
  · rfl
  · cases b0 with
    | true => rfl
    | false =>
      show bnd _ _ _ = thn _ _
      rw [thn_bnd]
      congr 1; funext d t1
      cases iD o d0 d <;> rfl
def isAny : Option (Option (D × Bool)) → Option (D × Bool)
  | some (some d) => some d
  | _ => none
theorem xS_retV {i : Nat} : evS md cl ff (.retV i) ρ t = o2R (isAny (nth ρ i)) fun x => ifM (!ff || x.2 || !isCell x.1) (.ok (.rt x.1, ρ) t) := by
  conv => lhs; unfold evS
  rcases nth ρ i with _ | (_ | ⟨d0, b0⟩)
  · rfl
  · rfl
  · show (if (!ff || b0 || !isCell d0) = true then ret (Fl.rt d0, ρ) else bad) t = ifM (!ff || b0 || !isCell d0) _
    unfold ifM
    cases (!ff || b0 || !isCell d0) <;> rfl
end
theorem vw_cons {m : List Nat} {o : Option (D × Bool)} {r : Rho} : vw m (o :: r) = vwA m 0 (o :: r) := rfl
def retR : Fl → Tape → Res D
  | .rt d, t => .ok d t
  | .nx, t => .ok .non t
  | _, _ => .bad
theorem retR_rt {d : D} {t : Tape} : retR (.rt d) t = .ok d t := Eq.trans rfl rfl
theorem retR_nx {t : Tape} : retR .nx t = .ok .non t := Eq.trans rfl rfl
theorem evF_eq {md : Md} {cl : Cl} {np nl : Nat} {ff : Bool} {body : List Z} {ds : List D} {t : Tape} (h : ds.length = np) : evF md cl np nl ff body ds t = thn (evSs md cl ff body (rho0 ds nl) t) fun o t1 => retR o.1 t1 := by
  unfold evF
  rw [if_pos h, thn_bnd]
  congr 1; funext o t1
  cases o.1 <;> rfl
theorem add_str {a b : List Nat} (h : a.length + b.length ≤ 1000000) : addD (.str a) (.str b) = some (.str (a ++ b)) := if_pos (Nat.le_trans h (by decide))
section
variable {md : Md} {cl : Cl} {ff : Bool} {t : Tape}
def tciR (d : D) (t : Tape) : Res D := match d with
  | .int k => optR ((L2.atI t.cells k).map D.int) t
  | _ => .bad
theorem xE_tci {ρ : List (Option D)} {i : Nat} {a : E} : evE md cl (.tci i a) ρ t = ifM (isTape (nth ρ i)) (thn (evE md cl a ρ t) tciR) := by
  conv => lhs; unfold evE
  unfold ifM
  cases isTape (nth ρ i) with
  | false => rfl
  | true =>
    show bnd (evE md cl a ρ) _ t = thn _ _
    rw [thn_bnd]
    congr 1; funext d t1
    cases d with
    | int k =>
      show (match L2.atI t1.cells k with
        | some c => Res.ok (D.int c) t1
        | none => .bad) = optR ((L2.atI t1.cells k).map D.int) t1
      cases L2.atI t1.cells k <;> rfl
    | _ => rfl
theorem xE_tf {ρ : List (Option D)} {i k : Nat} : evE md cl (.tf i k) ρ t = ifM (isTape (nth ρ i)) (.ok (.int (tfld k t)) t) := by
  conv => lhs; unfold evE
  unfold ifM
  cases isTape (nth ρ i) <;> rfl
theorem xE_tln {ρ : List (Option D)} {i : Nat} : evE md cl (.tln i) ρ t = ifM (isTape (nth ρ i)) (.ok (.int t.cells.length) t) := by
  conv => lhs; unfold evE
  unfold ifM
  cases isTape (nth ρ i) <;> rfl
def intO : D → Option Int
  | .int x => some x
  | _ => none
theorem intO_int {x : Int} : intO (.int x) = some x := Eq.trans rfl rfl
theorem xS_tw {ρ : Rho} {m : List Nat} {i k : Nat} {e : E} : evS md cl ff (.tw m i k e) ρ t = thn (evE md cl e (vw m ρ) t) fun d t1 => o2R (intO d) fun x => ifM (isTape (nth (vw [] ρ) i)) (.ok (.nx, ρ) (tset k x t1)) := by
  conv => lhs; unfold evS
  rw [thn_bnd]
  congr 1; funext d t1
  cases d with
  | int x =>
    show (if isTape (nth (vw [] ρ) i) then fun t => Res.ok (Fl.nx, ρ) (tset k x t) else bad : M Out) t1 = ifM _ _
    unfold ifM
    cases isTape (nth (vw [] ρ) i) <;> rfl
  | _ => rfl
end
end EV

set_option Elab.async false
set_option linter.all false
set_option maxRecDepth 100000
set_option maxHeartbeats 1000000
/-! EvY: equality; tuples of ints; matrices. -/
namespace EV
open PySem
mutual
def okD : Nat → D → Bool
  | _, .non => true
  | _, .bl _ => true
  | _, .int _ => true
  | _, .str s => s.all fun c => decide (c < 1114112)
  | 0, .tup _ => false
  | 0, .lst _ => false
  | n + 1, .tup ds => okDL n ds
  | n + 1, .lst ds => okDL n ds
  | _, _ => false
def okDL : Nat → List D → Bool
  | _, [] => true
  | n, d :: ds => okD n d && okDL n ds
end
mutual
theorem pd_ok : ∀ (n : Nat) (d : D), okD n d = true → ∃ a, pd d = some a ∧ a.canLay0 = true ∧ a.depth ≤ n
  | n, .non, _ => ⟨_, rfl, by simp [PyData.canLay0], by simp [PyData.depth]⟩
  | n, .bl _, _ => ⟨_, rfl, by simp [PyData.canLay0], by simp [PyData.depth]⟩
  | n, .int _, _ => ⟨_, rfl, by simp [PyData.canLay0], by simp [PyData.depth]⟩
  | n, .str s, h => ⟨_, rfl, by
      unfold okD at h
      rw [List.all_eq_true] at h
      simp only [PyData.canLay0]
      exact strOk_S fun c hc => by simpa using h c hc, by simp [PyData.depth]⟩
  | 0, .tup _, h => by unfold okD at h; cases h
  | 0, .lst _, h => by unfold okD at h; cases h
  | n + 1, .tup ds, h => by
    unfold okD at h
    obtain ⟨as, h1, h2, h3⟩ := pd_okL n ds h
    exact ⟨.tuple as, by unfold pd; rw [h1]; rfl, by simp only [PyData.canLay0]; exact h2, by simp only [PyData.depth]; omega⟩
  | n + 1, .lst ds, h => by
    unfold okD at h
    obtain ⟨as, h1, h2, h3⟩ := pd_okL n ds h
    exact ⟨.list as, by unfold pd; rw [h1]; rfl, by simp only [PyData.canLay0]; exact h2, by simp only [PyData.depth]; omega⟩
  | n, .dic _ _ _, h => by unfold okD at h; cases n <;> cases h
  | n, .rng _ _, h => by unfold okD at h; cases n <;> cases h
  | n, .tape, h => by unfold okD at h; cases n <;> cases h
theorem pd_okL : ∀ (n : Nat) (ds : List D), okDL n ds = true → ∃ as, pdL ds = some as ∧ PyData.canLayAll0 as = true ∧ PyData.depthAll as ≤ n
  | n, [], _ => ⟨[], rfl, by simp [PyData.canLayAll0], by simp [PyData.depthAll]⟩
  | n, d :: ds, h => by
    unfold okDL at h
    simp only [Bool.and_eq_true] at h
    obtain ⟨a, h1, h2, h3⟩ := pd_ok n d h.1
    obtain ⟨as, h4, h5, h6⟩ := pd_okL n ds h.2
    refine ⟨a :: as, by unfold pdL; rw [h1, h4], by simp [PyData.canLayAll0, h2, h5], by simp only [PyData.depthAll]; omega⟩
end
mutual
theorem eqv_B : ∀ (d e : D) {a b : PyData}, pd d = some a → pd e = some b → PyData.eqv a b = eqB d e
  | .non, e, a, b, h1, h2 => by
    cases h1
    cases e <;> first | (cases h2; simp [PyData.eqv, eqB]; done) | (unfold pd at h2; first | (cases h2; done) | (obtain ⟨c, _, rfl⟩ := Option.map_eq_some_iff.mp h2; simp [PyData.eqv, eqB]))
  | .bl x, e, a, b, h1, h2 => by
    cases h1
    cases e <;> first | (cases h2; simp [PyData.eqv, eqB]; done) | (cases h2; simp only [PyData.eqv, eqB]; rw [Bool.eq_iff_iff]; simp; done) | (unfold pd at h2; first | (cases h2; done) | (obtain ⟨c, _, rfl⟩ := Option.map_eq_some_iff.mp h2; simp [PyData.eqv, eqB]))
  | .int x, e, a, b, h1, h2 => by
    cases h1
    cases e <;> first | (cases h2; simp [PyData.eqv, eqB]; done) | (cases h2; simp only [PyData.eqv, eqB]; rw [Bool.eq_iff_iff]; simp; done) | (unfold pd at h2; first | (cases h2; done) | (obtain ⟨c, _, rfl⟩ := Option.map_eq_some_iff.mp h2; simp [PyData.eqv, eqB]))
  | .str x, e, a, b, h1, h2 => by
    cases h1
    cases e <;> first | (cases h2; simp only [PyData.eqv, eqB]; exact S_beq _ _) | (cases h2; simp [PyData.eqv, eqB]; done) | (unfold pd at h2; first | (cases h2; done) | (obtain ⟨c, _, rfl⟩ := Option.map_eq_some_iff.mp h2; simp [PyData.eqv, eqB]))
  | .tup xs, e, a, b, h1, h2 => by
    unfold pd at h1
    obtain ⟨as, k1, rfl⟩ := Option.map_eq_some_iff.mp h1
    cases e with
    | tup ys =>
      unfold pd at h2
      obtain ⟨bs, k2, rfl⟩ := Option.map_eq_some_iff.mp h2
      simp only [PyData.eqv, eqB]
      exact eqv_BL xs ys k1 k2
    | lst ys =>
      unfold pd at h2
      obtain ⟨bs, k2, rfl⟩ := Option.map_eq_some_iff.mp h2
      simp [PyData.eqv, eqB]
    | _ => first | (cases h2; simp [PyData.eqv, eqB]; done) | (cases h2; done)
  | .lst xs, e, a, b, h1, h2 => by
    unfold pd at h1
    obtain ⟨as, k1, rfl⟩ := Option.map_eq_some_iff.mp h1
    cases e with
    | lst ys =>
      unfold pd at h2
      obtain ⟨bs, k2, rfl⟩ := Option.map_eq_some_iff.mp h2
      simp only [PyData.eqv, eqB]
      exact eqv_BL xs ys k1 k2
    | tup ys =>
      unfold pd at h2
      obtain ⟨bs, k2, rfl⟩ := Option.map_eq_some_iff.mp h2
      simp [PyData.eqv, eqB]
    | _ => first | (cases h2; simp [PyData.eqv, eqB]; done) | (cases h2; done)
  | .dic _ _ _, _, _, _, h1, _ => by cases h1
  | .rng _ _, _, _, _, h1, _ => by cases h1
  | .tape, _, _, _, h1, _ => by cases h1
theorem eqv_BL : ∀ (ds es : List D) {as bs : List PyData}, pdL ds = some as → pdL es = some bs → PyData.eqvAll as bs = eqBL ds es
  | [], [], as, bs, h1, h2 => by cases h1; cases h2; simp [PyData.eqvAll, eqBL]
  | [], e :: es, as, bs, h1, h2 => by
    cases h1
    unfold pdL at h2
    cases q1 : pd e <;> cases q2 : pdL es <;> rw [q1, q2] at h2 <;> first | (cases h2; done) | (cases h2; simp [PyData.eqvAll, eqBL])
  | d :: ds, [], as, bs, h1, h2 => by
    cases h2
    unfold pdL at h1
    cases q1 : pd d <;> cases q2 : pdL ds <;> rw [q1, q2] at h1 <;> first | (cases h1; done) | (cases h1; simp [PyData.eqvAll, eqBL])
  | d :: ds, e :: es, as, bs, h1, h2 => by
    unfold pdL at h1 h2
    cases q1 : pd d <;> cases q2 : pdL ds <;> rw [q1, q2] at h1 <;> try (cases h1; done)
    cases q3 : pd e <;> cases q4 : pdL es <;> rw [q3, q4] at h2 <;> try (cases h2; done)
    cases h1; cases h2
    simp only [PyData.eqvAll, eqBL]
    rw [eqv_B d e q1 q3, eqv_BL ds es q2 q4]
end
theorem eqD_ok {d e : D} (h1 : okD 60 d = true) (h2 : okD 60 e = true) : eqD d e = some (eqB d e) := by
  obtain ⟨a, p1, p2, p3⟩ := pd_ok 60 d h1
  obtain ⟨b, q1, q2, q3⟩ := pd_ok 60 e h2
  unfold eqD
  rw [p1, q1]
  show (if (SeqAt.shaped a && SeqAt.shaped b) = true then some (PyData.eqv a b) else none) = _
  have s1 : SeqAt.shaped a = true := by unfold SeqAt.shaped; rw [p2]; simp; omega
  have s2 : SeqAt.shaped b = true := by unfold SeqAt.shaped; rw [q2]; simp; omega
  rw [s1, s2, eqv_B d e p1 q1]
  rfl
theorem eqO_ok {d e : D} (h1 : okD 60 d = true) (h2 : okD 60 e = true) : eqO d e = some (.bl (eqB d e)) := by
  unfold eqO; rw [eqD_ok h1 h2]; rfl
theorem neO_ok {d e : D} (h1 : okD 60 d = true) (h2 : okD 60 e = true) : neO d e = some (.bl (!eqB d e)) := by
  unfold neO; rw [eqD_ok h1 h2]; rfl
/-! ### ints in tuples -/
def RI (l : List Int) : D := .tup (l.map .int)
def MI (m : List (List Int)) : D := .tup (m.map RI)
theorem okL_int (n : Nat) : ∀ l : List Int, okDL n (l.map .int) = true
  | [] => rfl
  | x :: l => by
    rw [List.map_cons]; unfold okDL
    rw [okL_int n l]
    cases n <;> simp [okD]
theorem ok_RI (n : Nat) (l : List Int) : okD (n + 1) (RI l) = true := by
  unfold RI okD; exact okL_int n l
theorem okL_RI (n : Nat) : ∀ m : List (List Int), okDL (n + 1) (m.map RI) = true
  | [] => rfl
  | r :: m => by
    rw [List.map_cons]; unfold okDL
    rw [okL_RI n m, ok_RI]; rfl
theorem ok_MI (n : Nat) (m : List (List Int)) : okD (n + 2) (MI m) = true := by
  unfold MI okD; exact okL_RI n m
theorem eqBL_int : ∀ l m : List Int, eqBL (l.map .int) (m.map .int) = decide (l = m)
  | [], [] => rfl
  | [], _ :: _ => rfl
  | _ :: _, [] => rfl
  | x :: l, y :: m => by
    rw [List.map_cons, List.map_cons]; unfold eqBL
    rw [eqBL_int l m]
    simp only [eqB]
    by_cases h1 : x = y <;> by_cases h2 : l = m <;> simp [h1, h2]
theorem eqB_RI (l m : List Int) : eqB (RI l) (RI m) = decide (l = m) := by
  unfold RI eqB; exact eqBL_int l m
theorem eqBL_RI : ∀ a b : List (List Int), eqBL (a.map RI) (b.map RI) = decide (a = b)
  | [], [] => rfl
  | [], _ :: _ => rfl
  | _ :: _, [] => rfl
  | x :: l, y :: m => by
    rw [List.map_cons, List.map_cons]; unfold eqBL
    rw [eqBL_RI l m, eqB_RI]
    by_cases h1 : x = y <;> by_cases h2 : l = m <;> simp [h1, h2]
theorem eqB_MI (a b : List (List Int)) : eqB (MI a) (MI b) = decide (a = b) := by
  unfold MI eqB; exact eqBL_RI a b
theorem eq_RI (l m : List Int) : eqO (RI l) (RI m) = some (.bl (decide (l = m))) := by
  rw [eqO_ok (ok_RI 59 l) (ok_RI 59 m), eqB_RI]
theorem ne_RI (l m : List Int) : neO (RI l) (RI m) = some (.bl (!decide (l = m))) := by
  rw [neO_ok (ok_RI 59 l) (ok_RI 59 m), eqB_RI]
theorem ne_MI (l m : List (List Int)) : neO (MI l) (MI m) = some (.bl (!decide (l = m))) := by
  rw [neO_ok (ok_MI 58 l) (ok_MI 58 m), eqB_MI]
theorem ix_RI {l : List Int} {k : Nat} (h : k < l.length) : ixD (RI l) (.int (k : Nat)) = some (.int (l.getD k 0)) := by
  have h' : k < (l.map D.int).length := by simpa using h
  show L2.atI (l.map D.int) (k : Nat) = _
  rw [atI_nat h']
  simp [List.getD, List.getElem?_eq_getElem h]
theorem ix_LI {l : List Int} {k : Nat} (h : k < l.length) : ixD (.lst (l.map .int)) (.int (k : Nat)) = some (.int (l.getD k 0)) := ix_RI h
theorem ix_MI {m : List (List Int)} {k : Nat} (h : k < m.length) : ixD (MI m) (.int (k : Nat)) = some (RI (m.getD k [])) := by
  have h' : k < (m.map RI).length := by simpa using h
  show L2.atI (m.map RI) (k : Nat) = _
  rw [atI_nat h']
  simp [List.getD, List.getElem?_eq_getElem h]
theorem len_RI (l : List Int) : lenN [RI l] = some (.int (l.length : Nat)) := by
  show some (D.int ((l.map D.int).length : Nat)) = _
  rw [List.length_map]
theorem len_LI (l : List Int) : lenN [.lst (l.map .int)] = some (.int (l.length : Nat)) := len_RI l
theorem len_MI (l : List (List Int)) : lenN [MI l] = some (.int (l.length : Nat)) := by
  show some (D.int ((l.map RI).length : Nat)) = _
  rw [List.length_map]
theorem ints_map : ∀ l : List Int, intsOf (l.map .int) = some l
  | [] => rfl
  | x :: l => by
    show (intsOf (l.map .int)).map (x :: ·) = _
    rw [ints_map l]; rfl
theorem sum_LI (l : List Int) : sumN [.lst (l.map .int)] = some (.int l.sum) := by
  show (intsOf (l.map .int)).map _ = _
  rw [ints_map]; rfl
theorem tup_LI (l : List Int) : tupN [.lst (l.map .int)] = some (RI l) := rfl
theorem tup_LM (l : List (List Int)) : tupN [.lst (l.map RI)] = some (MI l) := rfl
def Bd (x : Int) : Prop := -(2 ^ 64) < x ∧ x < 2 ^ 64
theorem mul_l {a b : Int} (h : Bd a) : mulD (.int a) (.int b) = some (.int (a * b)) := by
  show (if CMulB a b then some (D.int (a * b)) else none) = _
  have : CMulB a b = true := by
    unfold CMulB
    simp only [Bool.or_eq_true, Bool.and_eq_true, decide_eq_true_eq]
    left; exact h
  rw [if_pos this]
theorem mul_r {a b : Int} (h : Bd b) : mulD (.int a) (.int b) = some (.int (a * b)) := by
  show (if CMulB a b then some (D.int (a * b)) else none) = _
  have : CMulB a b = true := by
    unfold CMulB
    simp only [Bool.or_eq_true, Bool.and_eq_true, decide_eq_true_eq]
    right; exact h
  rw [if_pos this]
theorem add_ii (a b : Int) : addD (.int a) (.int b) = some (.int (a + b)) := rfl
theorem sub_ii (a b : Int) : subD (.int a) (.int b) = some (.int (a - b)) := rfl
theorem eq_ii (a b : Int) : eqO (.int a) (.int b) = some (.bl (decide (a = b))) := rfl
theorem ne_ii (a b : Int) : neO (.int a) (.int b) = some (.bl (!decide (a = b))) := rfl
theorem lt_ii (a b : Int) : ltD (.int a) (.int b) = some (.bl (decide (a < b))) := rfl
theorem rgL_map : ∀ (n lo : Nat), rgL (lo : Nat) 1 n = (List.range' lo n).map fun k => D.int (k : Nat)
  | 0, _ => rfl
  | n + 1, lo => by
    have ih := rgL_map n (lo + 1)
    show D.int (lo : Nat) :: rgL ((lo : Nat) + 1) 1 n = _
    rw [List.range'_succ, List.map_cons, ← ih]
    rfl
theorem rng1 {n : Nat} (h : n < 2 ^ 62) : itD .range [.int (n : Nat)] = some ((List.range n).map fun k => D.int (k : Nat)) := by
  unfold itD
  simp only []
  rw [if_pos (by unfold small62; simp; omega), List.range_eq_range']
  exact congrArg some (rgL_map n 0)
theorem rng2 {a b : Nat} (h : a < 2 ^ 62) (h2 : b < 2 ^ 62) : itD .range [.int (a : Nat), .int (b : Nat)] = some ((List.range' a (b - a)).map fun k => D.int (k : Nat)) := by
  unfold itD
  simp only []
  rw [if_pos (by unfold small62; simp; omega), ← rgL_map, show ((b : Int) - (a : Int)).toNat = b - a by omega]
section
variable {md : Md} {cl : Cl}
/-- a comprehension that keeps all -/
theorem lc_all {α : Type} {own : List Nat} {tg : Tg} {k : Sk} {es : List E} {elt : E} {ρ : List (Option D)} {t : Tape} {ds : List D} {f : α → D} {g : α → D} {xs : List α} (h1 : evL md cl es ρ t = .ok ds t) (h2 : itD k ds = some (xs.map f)) (hl : xs.length ≤ 1000000)
    (h3 : ∀ x ∈ xs, lcF md cl own tg [] elt ρ (f x) t = .ok (some (g x)) t) : evE md cl (.lc own tg k es [] elt) ρ t = .ok (.lst (xs.map g)) t := by
  refine evE_lc' h1 h2 (by rw [List.length_map]; exact hl) ?_
  clear h2 hl
  induction xs with
  | nil => rfl
  | cons x xs ih =>
    have h4 := h3 x List.mem_cons_self
    have h5 := ih fun y hy => h3 y (List.mem_cons_of_mem _ hy)
    rw [List.map_cons, List.map_cons]
    unfold lcRun
    simp only [bnd, h4, h5, ret]
end
end EV

set_option Elab.async false
set_option linter.all false
set_option maxRecDepth 100000
set_option maxHeartbeats 4000000
/-! the defs of law_k29_whole_slopes_and_puttings -/
namespace LW
open PySem PySem.Spec PyProof.Rows L2 EV
def tops (i : Nat) : Stmt := PySem.Challenge.pw_shiftsandcells_k29_whole_slopes_and_putt.main.body.getD i (.Pass ⟨0, 0, 0, 0⟩)
abbrev n_check_square : List Str := ["matrix", "row"]
def z_check_square : List Z := [.ifS [0, 1] (.or (.o2 .gt (.bi .len [(.var 0)]) (.glo 0)) (.not (.bi .all [(.lc [1] (.nm 1) .val [(.var 0)] [] (.o2 .eq (.bi .len [(.var 1)]) (.bi .len [(.var 0)])))]))) [.rz 0] []]
abbrev n_unit : List Str := ["size", "j", "i"]
def z_unit : List Z := [.ret [0, 1, 2] (.bi .tuple [(.lc [2] (.nm 2) .range [(.var 0)] [] (.bi .tuple [(.lc [1] (.nm 1) .range [(.var 0)] [] (.ife (.o2 .eq (.var 2) (.var 1)) (.cst (.int 1)) (.cst (.int 0))))]))])]
abbrev n_matrix_product : List Str := ["one", "other", "row", "many", "k", "j"]
def z_matrix_product : List Z := [.ifS [0, 1, 2] (.not (.bi .all [(.lc [2] (.nm 2) .val [(.var 0)] [] (.o2 .eq (.bi .len [(.var 2)]) (.bi .len [(.var 1)])))])) [.rz 0] [],
  .set [1] 3 (.ife (.var 1) (.bi .len [(.o2 .ix (.var 1) (.cst (.int 0)))]) (.cst (.int 0))),
  .ret [0, 1, 2, 3, 4, 5] (.bi .tuple [(.lc [2] (.nm 2) .val [(.var 0)] [] (.bi .tuple [(.lc [5] (.nm 5) .range [(.var 3)] [] (.bi .sum [(.lc [4] (.nm 4) .range [(.bi .len [(.var 1)])] [] (.o2 .mul (.o2 .ix (.var 2) (.var 4)) (.o2 .ix (.o2 .ix (.var 1) (.var 4)) (.var 5))))]))]))])]
abbrev n_matrix_power : List Str := ["matrix", "many", "found", "_"]
def z_matrix_power : List Z := [.exp [0] (.call 0 [(.var 0)]),
  .ifS [1] (.not (.ch .le .le (.cst (.int 0)) (.var 1) (.cst (.int 40)))) [.rz 0] [],
  .set [0] 2 (.call 1 [(.bi .len [(.var 0)])]),
  .for [1] (.nm 3) .range [(.var 1)] [.set [0, 2] 2 (.call 2 [(.var 2), (.var 0)])],
  .retV 2]
abbrev n_share : List Str := ["n", "d", "a", "b"]
def z_share : List Z := [.ifS [1] (.o2 .eq (.var 1) (.cst (.int 0))) [.rz 1] [],
  .ifS [1] (.o2 .lt (.var 1) (.cst (.int 0))) [.par [0, 1] [0, 1] [(.o1 .neg (.var 0)), (.o1 .neg (.var 1))]] [],
  .par [0, 1] [2, 3] [(.bi .abs [(.var 0)]), (.var 1)],
  .whl [3] 1000000 (.o2 .gt (.var 3) (.cst (.int 0))) [.par [2, 3] [2, 3] [(.var 3), (.o2 .mod (.var 2) (.var 3))]],
  .ret [0, 1, 2] (.tup [(.o2 .fdiv (.var 0) (.var 2)), (.o2 .fdiv (.var 1) (.var 2))])]
abbrev n_over : List Str := ["a", "b"]
def z_over : List Z := [.ret [0, 1] (.call 4 [(.o2 .mul (.o2 .ix (.var 0) (.cst (.int 0))) (.o2 .ix (.var 1) (.cst (.int 1)))), (.o2 .mul (.o2 .ix (.var 0) (.cst (.int 1))) (.o2 .ix (.var 1) (.cst (.int 0))))])]
abbrev n_check_substitution : List Str := ["rows", "row", "sign"]
def z_check_substitution : List Z := [.ifS [0, 1] (.or (.not (.ch .le .le (.cst (.int 1)) (.bi .len [(.var 0)]) (.cst (.int 4)))) (.not (.bi .all [(.lc [1] (.nm 1) .val [(.var 0)] [] (.ch .le .le (.cst (.int 1)) (.bi .len [(.var 1)]) (.cst (.int 8))))]))) [.rz 2] [],
  .ifS [0, 1, 2] (.not (.bi .all [(.lc [1] (.nm 1) .val [(.var 0)] [] (.bi .all [(.lc [2] (.nm 2) .val [(.var 1)] [] (.o2 .in_ (.var 2) (.sl (.glo 1) [] [(.bi .len [(.var 0)])])))]))])) [.rz 2] []]
abbrev n_put : List Str := ["rows", "word", "sign"]
def z_put : List Z := [.exp [0] (.call 6 [(.var 0)]),
  .ifS [0, 1, 2] (.not (.bi .all [(.lc [2] (.nm 2) .val [(.var 1)] [] (.o2 .in_ (.var 2) (.sl (.glo 1) [] [(.bi .len [(.var 0)])])))])) [.rz 2] [],
  .ret [0, 1, 2] (.me .join (.cst (.str [])) [(.lc [2] (.nm 2) .val [(.var 1)] [] (.o2 .ix (.var 0) (.bi .int [(.var 2)])))])]
abbrev n_put_often : List Str := ["rows", "word", "many", "now", "_"]
def z_put_often : List Z := [.ifS [2] (.not (.ch .le .le (.cst (.int 0)) (.var 2) (.cst (.int 40)))) [.rz 2] [],
  .set [1] 3 (.var 1),
  .for [2] (.nm 4) .range [(.var 2)] [.set [0, 3] 3 (.call 7 [(.var 0), (.var 3)]), .ifS [3] (.o2 .gt (.bi .len [(.var 3)]) (.glo 2)) [.rz 2] []],
  .retV 3]
abbrev n_count_matrix : List Str := ["rows", "signs", "row", "sign"]
def z_count_matrix : List Z := [.exp [0] (.call 6 [(.var 0)]),
  .set [0] 1 (.sl (.glo 1) [] [(.bi .len [(.var 0)])]),
  .ret [0, 1, 2, 3] (.bi .tuple [(.lc [3] (.nm 3) .val [(.var 1)] [] (.bi .tuple [(.lc [2] (.nm 2) .val [(.var 0)] [] (.me .count (.var 2) [(.var 3)]))]))])]
abbrev n_counts_behind : List Str := ["rows", "word", "many", "sign", "now", "k", "matrix", "a", "b", "line"]
def z_counts_behind : List Z := [.exp [0] (.call 6 [(.var 0)]),
  .ifS [0, 1, 2, 3] (.or (.not (.ch .le .le (.cst (.int 0)) (.var 2) (.cst (.int 40)))) (.not (.bi .all [(.lc [3] (.nm 3) .val [(.var 1)] [] (.o2 .in_ (.var 3) (.sl (.glo 1) [] [(.bi .len [(.var 0)])])))]))) [.rz 2] [],
  .set [0, 1, 5] 4 (.lc [5] (.nm 5) .range [(.bi .len [(.var 0)])] [] (.me .count (.var 1) [(.o2 .ix (.glo 1) (.var 5))])),
  .set [0, 2] 6 (.call 3 [(.call 9 [(.var 0)]), (.var 2)]),
  .ret [4, 6, 7, 8, 9] (.bi .tuple [(.lc [9] (.nm 9) .val [(.var 6)] [] (.bi .sum [(.lc [7, 8] (.tp [7, 8]) .zip [(.var 9), (.var 4)] [] (.o2 .mul (.var 7) (.var 8)))]))])]
abbrev n_is_mixing : List Str := ["rows", "matrix", "size", "now", "_", "a", "line", "rows_now", "hits", "k", "j", "hit"]
def z_is_mixing : List Z := [.set [0] 1 (.call 9 [(.var 0)]),
  .set [1] 2 (.bi .len [(.var 1)]),
  .set [1] 3 (.var 1),
  .for [2] (.nm 4) .range [(.o2 .add (.o2 .mul (.var 2) (.var 2)) (.cst (.int 1)))] [.ifS [3, 5, 6] (.bi .all [(.lc [6] (.nm 6) .val [(.var 3)] [] (.bi .all [(.lc [5] (.nm 5) .val [(.var 6)] [] (.o2 .gt (.var 5) (.cst (.int 0))))]))]) [.ret [] (.cst (.bl true))] [], .set [] 7 (.lst []), .for [3] (.nm 6) .val [(.var 3)] [.set [1, 2, 6, 9, 10] 8 (.lc [10] (.nm 10) .range [(.var 2)] [] (.bi .any [(.lc [9] (.nm 9) .range [(.var 2)] [] (.and (.o2 .ix (.var 6) (.var 9)) (.o2 .ix (.o2 .ix (.var 1) (.var 9)) (.var 10))))])), .app [8, 11] 7 (.bi .tuple [(.lc [11] (.nm 11) .val [(.var 8)] [] (.ife (.var 11) (.cst (.int 1)) (.cst (.int 0))))])], .set [7] 3 (.bi .tuple [(.var 7)])],
  .ret [] (.cst (.bl false))]
abbrev n_begins : List Str := ["rows", "k", "row"]
def z_begins : List Z := [.exp [0] (.call 6 [(.var 0)]),
  .ret [0, 1, 2] (.bi .tuple [(.lc [1, 2] (.tp [1, 2]) .enum [(.var 0)] [(.and (.o2 .eq (.o2 .ix (.var 2) (.cst (.int 0))) (.o2 .ix (.glo 1) (.var 1))) (.o2 .gt (.bi .len [(.var 2)]) (.cst (.int 1))))] (.var 1))])]
abbrev n_endless : List Str := ["rows", "sign", "length", "now", "told"]
def z_endless : List Z := [.ifS [0, 1] (.o2 .nin (.var 1) (.call 12 [(.var 0)])) [.rz 2] [],
  .ifS [2] (.not (.ch .le .le (.cst (.int 0)) (.var 2) (.cst (.int 5000)))) [.rz 2] [],
  .set [1] 3 (.o2 .ix (.glo 1) (.var 1)),
  .whl [2, 3] 1000000 (.o2 .lt (.bi .len [(.var 3)]) (.var 2)) [.set [0, 2, 3] 4 (.sl (.call 7 [(.var 0), (.var 3)]) [] [(.o2 .add (.var 2) (.cst (.int 1)))]), .ifS [3, 4] (.o2 .eq (.bi .len [(.var 4)]) (.bi .len [(.var 3)])) [.rz 2] [], .set [4] 3 (.var 4)],
  .ret [2, 3] (.sl (.var 3) [] [(.var 2)])]
abbrev n_factors : List Str := ["rows", "length", "pairs", "many", "k", "found", "pair", "told"]
def z_factors : List Z := [.ifS [0, 1] (.or (.not (.call 11 [(.var 0)])) (.not (.ch .le .le (.cst (.int 1)) (.var 1) (.cst (.int 12))))) [.rz 2] [],
  .set [0] 2 (.call 15 [(.var 0)]),
  .set [] 3 (.cst (.int 0)),
  .whl [0, 1, 3, 4] 1000000 (.o2 .lt (.bi .min [(.lc [4] (.nm 4) .range [(.bi .len [(.var 0)])] [] (.bi .sum [(.call 10 [(.var 0), (.o2 .ix (.glo 1) (.var 4)), (.var 3)])]))]) (.var 1)) [.aug [] .add 3 (.cst (.int 1))],
  .set [] 5 (.dnw false),
  .for [2] (.nm 6) .val [(.var 2)] [.set [0, 3, 6] 7 (.call 8 [(.var 0), (.var 6), (.var 3)]), .for [1, 7] (.nm 4) .range [(.o2 .add (.o2 .sub (.bi .len [(.var 7)]) (.var 1)) (.cst (.int 1)))] [.dst [1, 4, 7] 5 (.sl (.var 7) [(.var 4)] [(.o2 .add (.var 4) (.var 1))]) (.cst (.bl true))]],
  .ret [5] (.bi .tuple [(.bi .sorted [(.var 5)])])]
abbrev n_pairs_of : List Str := ["rows", "row", "found", "now", "waiting", "k", "pair", "at", "told"]
def z_pairs_of : List Z := [.ifS [0, 1] (.or (.not (.call 11 [(.var 0)])) (.o2 .eq (.bi .max [(.lc [1] (.nm 1) .val [(.var 0)] [] (.bi .len [(.var 1)]))]) (.cst (.int 1)))) [.rz 2] [],
  .set [] 2 (.dnw false),
  .set [] 3 (.cst (.str [48])),
  .whl [3] 1000000 (.o2 .lt (.bi .len [(.var 3)]) (.cst (.int 2))) [.set [0, 3] 3 (.call 7 [(.var 0), (.var 3)])],
  .set [3, 5] 4 (.lc [5] (.nm 5) .range [(.o2 .sub (.bi .len [(.var 3)]) (.cst (.int 1)))] [] (.sl (.var 3) [(.var 5)] [(.o2 .add (.var 5) (.cst (.int 2)))])),
  .forO (.nm 6) 4 [6] 2 (.var 6) (.cst (.bl true)),
  .set [] 7 (.cst (.int 0)),
  .whl [4, 7] 1000000 (.o2 .lt (.var 7) (.bi .len [(.var 4)])) [.set [0, 4, 7] 8 (.call 7 [(.var 0), (.o2 .ix (.var 4) (.var 7))]), .for [8] (.nm 5) .range [(.o2 .sub (.bi .len [(.var 8)]) (.cst (.int 1)))] [.set [5, 8] 6 (.sl (.var 8) [(.var 5)] [(.o2 .add (.var 5) (.cst (.int 2)))]), .ifS [2, 6] (.o2 .nin (.var 6) (.var 2)) [.dst [6] 2 (.var 6) (.cst (.bl true)), .app [6] 4 (.var 6)] []], .aug [] .add 7 (.cst (.int 1))],
  .ret [2] (.bi .tuple [(.bi .sorted [(.var 2)])])]
abbrev n_cuts : List Str := ["rows", "word", "found", "waiting", "k", "row", "skip", "signs", "left", "part"]
def z_cuts : List Z := [.exp [0] (.call 6 [(.var 0)]),
  .ifS [1] (.not (.ch .le .le (.cst (.int 1)) (.bi .len [(.var 1)]) (.cst (.int 20)))) [.rz 2] [],
  .set [] 2 (.lst []),
  .set [] 3 (.lst []),
  .for [0] (.tp [4, 5]) .enum [(.var 0)] [.for [5] (.nm 6) .range [(.bi .len [(.var 5)])] [.app [1, 4, 5, 6] 3 (.tup [(.var 6), (.o2 .ix (.glo 1) (.var 4)), (.var 1), (.sl (.var 5) [(.var 6)] [])])]],
  .whl [3] 1000000 (.var 3) [.ifS [2, 3] (.o2 .gt (.o2 .add (.bi .len [(.var 2)]) (.bi .len [(.var 3)])) (.cst (.int 3000))) [.rz 2] [], .ppT (.tp [6, 7, 8, 9]) 3, .ifS [8, 9] (.o2 .lt (.bi .len [(.var 8)]) (.bi .len [(.var 9)])) [.ifS [8, 9] (.me .starts (.var 9) [(.var 8)]) [.app [6, 7, 8] 2 (.tup [(.var 6), (.var 7), (.ife (.o2 .gt (.bi .len [(.var 7)]) (.cst (.int 1))) (.bi .len [(.var 8)]) (.o2 .add (.bi .len [(.var 8)]) (.var 6)))])] []] [.ifS [8, 9] (.me .starts (.var 8) [(.var 9)]) [.set [8, 9] 8 (.sl (.var 8) [(.bi .len [(.var 9)])] []), .ifS [8] (.not (.var 8)) [.app [6, 7] 2 (.tup [(.var 6), (.var 7), (.cst (.int 0))])] [.xt [0, 4, 5, 6, 7, 8] 3 (.lc [4, 5] (.tp [4, 5]) .enum [(.var 0)] [] (.tup [(.var 6), (.o2 .add (.var 7) (.o2 .ix (.glo 1) (.var 4))), (.var 8), (.var 5)]))]] []]],
  .ret [2] (.bi .tuple [(.bi .sorted [(.var 2)])])]
abbrev n_sources_of : List Str := ["rows", "word", "skip", "signs", "rest"]
def z_sources_of : List Z := [.ret [0, 1, 2, 3, 4] (.bi .tuple [(.lc [2, 3, 4] (.tp [2, 3, 4]) .val [(.call 16 [(.var 0), (.var 1)])] [(.and (.o2 .eq (.var 2) (.cst (.int 0))) (.o2 .eq (.var 4) (.cst (.int 0))))] (.var 3))])]
abbrev n_mean_growth : List Str := ["rows", "many"]
def z_mean_growth : List Z := [.ifS [1] (.not (.ch .le .le (.cst (.int 1)) (.var 1) (.cst (.int 30)))) [.rz 2] [],
  .ret [0, 1] (.call 5 [(.tup [(.bi .sum [(.call 10 [(.var 0), (.cst (.str [48])), (.var 1)])]), (.cst (.int 1))]), (.tup [(.bi .sum [(.call 10 [(.var 0), (.cst (.str [48])), (.o2 .sub (.var 1) (.cst (.int 1)))])]), (.cst (.int 1))])])]
abbrev n_check_word : List Str := ["word", "sign"]
def z_check_word : List Z := [.ifS [0, 1] (.or (.o2 .gt (.bi .len [(.var 0)]) (.glo 3)) (.not (.bi .all [(.lc [1] (.nm 1) .val [(.var 0)] [] (.o2 .in_ (.var 1) (.cst (.str [48, 49]))))]))) [.rz 3] []]
abbrev n_is_balanced : List Str := ["word"]
def z_is_balanced : List Z := [.ret [0] (.o1 .isn (.call 21 [(.var 0)]))]
abbrev n_heavy_pair : List Str := ["word", "size", "told", "k"]
def z_heavy_pair : List Z := [.exp [0] (.call 19 [(.var 0)]),
  .for [0] (.nm 1) .range [(.cst (.int 1)), (.bi .len [(.var 0)])] [.set [0, 1, 3] 2 (.lc [3] (.nm 3) .range [(.o2 .add (.o2 .sub (.bi .len [(.var 0)]) (.var 1)) (.cst (.int 1)))] [] (.me .count (.sl (.var 0) [(.var 3)] [(.o2 .add (.var 3) (.var 1))]) [(.cst (.str [49]))])), .ifS [2] (.o2 .gt (.o2 .sub (.bi .max [(.var 2)]) (.bi .min [(.var 2)])) (.cst (.int 1))) [.ret [1, 2] (.tup [(.var 1), (.me .index (.var 2) [(.bi .min [(.var 2)])]), (.me .index (.var 2) [(.bi .max [(.var 2)])])])] []],
  .ret [] (.cst .non)]
abbrev n_balanced_count : List Str := ["length", "k"]
def z_balanced_count : List Z := [.ifS [0] (.not (.ch .le .le (.cst (.int 0)) (.var 0) (.cst (.int 200)))) [.rz 3] [],
  .ret [0, 1] (.o2 .add (.cst (.int 1)) (.bi .sum [(.lc [1] (.nm 1) .range [(.cst (.int 1)), (.o2 .add (.var 0) (.cst (.int 1)))] [] (.o2 .mul (.o2 .add (.o2 .sub (.var 0) (.var 1)) (.cst (.int 1))) (.call 23 [(.var 1)])))]))]
abbrev n_coprimes : List Str := ["number", "k"]
def z_coprimes : List Z := [.ret [0, 1] (.bi .sum [(.lc [1] (.nm 1) .range [(.cst (.int 1)), (.o2 .add (.var 0) (.cst (.int 1)))] [(.o2 .eq (.call 24 [(.var 1), (.var 0)]) (.cst (.int 1)))] (.cst (.int 1)))])]
abbrev n_common : List Str := ["a", "b"]
def z_common : List Z := [.whl [1] 1000000 (.var 1) [.par [0, 1] [0, 1] [(.var 1), (.o2 .mod (.var 0) (.var 1))]],
  .retV 0]
abbrev n_check_slope : List Str := ["slope", "n", "d"]
def z_check_slope : List Z := [.tgt [0] (.tp [1, 2]) (.var 0),
  .ifS [1, 2] (.or (.not (.c3 .le .le .le (.cst (.int 0)) (.var 1) (.var 2) (.cst (.int 1000)))) (.or (.o2 .lt (.var 2) (.cst (.int 1))) (.o2 .ne (.call 24 [(.var 1), (.var 2)]) (.cst (.int 1))))) [.rz 3] []]
abbrev n_line_word : List Str := ["slope", "start", "length", "n", "d", "k"]
def z_line_word : List Z := [.exp [0] (.call 25 [(.var 0)]),
  .ifS [1, 2] (.or (.not (.ch .le .le (.cst (.int 0)) (.var 1) (.cst (.int 10000)))) (.not (.ch .le .le (.cst (.int 0)) (.var 2) (.cst (.int 2000))))) [.rz 3] [],
  .tgt [0] (.tp [3, 4]) (.var 0),
  .ret [1, 2, 3, 4, 5] (.me .join (.cst (.str [])) [(.lc [5] (.nm 5) .range [(.var 1), (.o2 .add (.var 1) (.var 2))] [] (.bi .str [(.o2 .sub (.o2 .fdiv (.o2 .mul (.o2 .add (.var 5) (.cst (.int 1))) (.var 3)) (.var 4)) (.o2 .fdiv (.o2 .mul (.var 5) (.var 3)) (.var 4)))]))])]
abbrev n_round_of_slope : List Str := ["slope"]
def z_round_of_slope : List Z := [.ret [0] (.call 26 [(.var 0), (.cst (.int 0)), (.o2 .ix (.var 0) (.cst (.int 1)))])]
abbrev n_slope_of : List Str := ["word", "n", "told"]
def z_slope_of : List Z := [.ifS [0] (.not (.ch .le .le (.cst (.int 1)) (.bi .len [(.var 0)]) (.glo 3))) [.rz 3] [],
  .exp [0] (.call 19 [(.var 0)]),
  .set [0] 1 (.me .count (.var 0) [(.cst (.str [49]))]),
  .ifS [0, 1] (.o2 .ne (.call 24 [(.var 1), (.bi .len [(.var 0)])]) (.cst (.int 1))) [.ret [] (.cst .non)] [],
  .set [0, 1] 2 (.call 27 [(.tup [(.var 1), (.bi .len [(.var 0)])])]),
  .ret [0, 1, 2] (.ife (.o2 .in_ (.var 0) (.o2 .add (.var 2) (.var 2))) (.tup [(.var 1), (.bi .len [(.var 0)])]) (.cst .non))]
abbrev n_parts_of : List Str := ["slope", "n", "d", "found"]
def z_parts_of : List Z := [.exp [0] (.call 25 [(.var 0)]),
  .tgt [0] (.tp [1, 2]) (.var 0),
  .ifS [1] (.o2 .eq (.var 1) (.cst (.int 0))) [.rz 3] [],
  .set [] 3 (.lst []),
  .whl [1] 1000000 (.var 1) [.app [1, 2] 3 (.o2 .fdiv (.var 2) (.var 1)), .par [1, 2] [1, 2] [(.o2 .mod (.var 2) (.var 1)), (.var 1)]],
  .ret [3] (.bi .tuple [(.var 3)])]
abbrev n_from_parts : List Str := ["row", "a", "n", "d"]
def z_from_parts : List Z := [.ifS [0, 1] (.or (.not (.ch .le .le (.cst (.int 1)) (.bi .len [(.var 0)]) (.cst (.int 12)))) (.not (.bi .all [(.lc [1] (.nm 1) .val [(.var 0)] [] (.ch .le .le (.cst (.int 1)) (.var 1) (.cst (.int 50))))]))) [.rz 3] [],
  .par [] [2, 3] [(.cst (.int 0)), (.cst (.int 1))],
  .for [0] (.nm 1) .rev [(.var 0)] [.par [1, 2, 3] [2, 3] [(.var 3), (.o2 .add (.o2 .mul (.var 1) (.var 3)) (.var 2))]],
  .ifS [3] (.o2 .gt (.var 3) (.cst (.int 1000))) [.rz 3] [],
  .ret [2, 3] (.tup [(.var 2), (.var 3)])]
abbrev n_standard : List Str := ["row", "a", "before", "now", "k"]
def z_standard : List Z := [.ifS [0, 1] (.or (.not (.ch .le .le (.cst (.int 1)) (.bi .len [(.var 0)]) (.cst (.int 8)))) (.not (.bi .all [(.lc [1] (.nm 1) .val [(.var 0)] [] (.ch .le .le (.cst (.int 1)) (.var 1) (.cst (.int 9))))]))) [.rz 3] [],
  .par [] [2, 3] [(.cst (.str [49])), (.cst (.str [48]))],
  .for [0] (.tp [4, 1]) .enum [(.var 0)] [.par [1, 2, 3, 4] [2, 3] [(.var 3), (.o2 .add (.o2 .mul (.var 3) (.ife (.o2 .eq (.var 4) (.cst (.int 0))) (.o2 .sub (.var 1) (.cst (.int 1))) (.var 1))) (.var 2))], .ifS [3] (.o2 .gt (.bi .len [(.var 3)]) (.cst (.int 3000))) [.rz 3] []],
  .retV 3]
abbrev n_raised : List Str := ["word", "sign"]
def z_raised : List Z := [.exp [0] (.call 19 [(.var 0)]),
  .ret [0, 1] (.me .join (.cst (.str [])) [(.lc [1] (.nm 1) .val [(.var 0)] [] (.ife (.o2 .eq (.var 1) (.cst (.str [49]))) (.cst (.str [48, 49])) (.cst (.str [48]))))])]
abbrev n_lowered : List Str := ["word", "told", "sign"]
def z_lowered : List Z := [.exp [0] (.call 19 [(.var 0)]),
  .rpS [0] 1 0 [48, 49] [50],
  .ifS [1] (.o2 .in_ (.cst (.str [49])) (.var 1)) [.rz 3] [],
  .ret [1, 2] (.me .join (.cst (.str [])) [(.lc [2] (.nm 2) .val [(.var 1)] [] (.ife (.o2 .eq (.var 2) (.cst (.str [50]))) (.cst (.str [49])) (.cst (.str [48]))))])]
abbrev n_parts_count : List Str := ["word", "size", "k"]
def z_parts_count : List Z := [.ifS [0, 1] (.not (.ch .le .le (.cst (.int 0)) (.var 1) (.bi .len [(.var 0)]))) [.rz 3] [],
  .ret [0, 1, 2] (.bi .len [(.dc [2] (.nm 2) .range [(.o2 .add (.o2 .sub (.bi .len [(.var 0)]) (.var 1)) (.cst (.int 1)))] [] (.sl (.var 0) [(.var 2)] [(.o2 .add (.var 2) (.var 1))]) (.cst (.bl true)))])]
abbrev n__law_take : List Str := ["tape", "many", "drawn", "mixed"]
def z__law_take : List Z := [.ifS [0] (.and (.o2 .eq (.tf 0 1) (.cst (.int 0))) (.o2 .lt (.tf 0 0) (.tln 0))) [.tw [0] 0 1 (.tci 0 (.tf 0 0)), .tw [0] 0 0 (.o2 .add (.tf 0 0) (.cst (.int 1)))] [],
  .ifS [0] (.o2 .gt (.tf 0 1) (.cst (.int 0))) [.set [0, 1] 2 (.o2 .mod (.bi .int [(.tf 0 1)]) (.var 1)), .tw [0, 1] 0 1 (.o2 .fdiv (.tf 0 1) (.var 1)), .retV 2] [],
  .tw [0] 0 3 (.o2 .add (.tf 0 3) (.cst (.int 1))),
  .set [0] 3 (.o2 .mod (.bi .int [(.o2 .add (.o2 .mul (.tf 0 2) (.cst (.int 48271))) (.o2 .mul (.tf 0 3) (.cst (.int 69621))))]) (.cst (.int 2147483647))),
  .set [0, 3] 3 (.o2 .mod (.bi .int [(.o2 .add (.o2 .add (.o2 .mul (.var 3) (.var 3)) (.o2 .mul (.tf 0 3) (.cst (.int 40692)))) (.cst (.int 12345)))]) (.cst (.int 2147483399))),
  .ret [1, 3] (.o2 .mod (.bi .int [(.var 3)]) (.var 1))]
abbrev n__law_words : List Str := ["signs", "length", "rows", "k", "longer", "row", "sign"]
def z__law_words : List Z := [.set [] 2 (.lst [(.cst (.str []))]),
  .for [1] (.nm 3) .range [(.var 1)] [.set [] 4 (.lst []), .for [2] (.nm 5) .val [(.var 2)] [.set [0, 4, 5, 6] 4 (.o2 .add (.var 4) (.lc [6] (.nm 6) .range [(.var 0)] [] (.o2 .add (.var 5) (.o2 .ix (.cst (.str [48, 49, 50, 51])) (.var 6)))))], .set [4] 2 (.var 4)],
  .retV 2]
abbrev n__law_common : List Str := ["a", "b"]
def z__law_common : List Z := [.whl [1] 1000000 (.o2 .gt (.var 1) (.cst (.int 0))) [.par [0, 1] [0, 1] [(.var 1), (.o2 .mod (.bi .int [(.var 0)]) (.var 1))]],
  .retV 0]
abbrev n__law_cuts_right : List Str := ["tape", "golden", "line", "at", "part", "skip", "signs", "rest", "whole", "last", "end", "length", "rows", "row", "slopes", "d", "n", "text", "k"]
def z__law_cuts_right : List Z := [.set [0] 3 (.call 35 [(.var 0), (.cst (.int 40))]),
  .set [2, 3] 4 (.sl (.var 2) [(.var 3)] [(.o2 .add (.var 3) (.cst (.int 6)))]),
  .ifS [1, 2, 4] (.or (.and (.o2 .in_ (.var 4) (.var 2)) (.o2 .lt (.bi .len [(.call 16 [(.var 1), (.var 4)])]) (.cst (.int 1)))) (.o2 .nin (.var 4) (.call 14 [(.var 1), (.cst (.int 6))]))) [.ret [] (.cst (.bl false))] [],
  .for [1, 4] (.tp [5, 6, 7]) .val [(.call 16 [(.var 1), (.var 4)])] [.set [1, 6] 8 (.call 7 [(.var 1), (.var 6)]), .set [1, 6] 9 (.o2 .ix (.var 1) (.bi .int [(.o2 .ix (.var 6) (.o1 .neg (.cst (.int 1))))])), .set [7, 8, 9] 10 (.ife (.o2 .eq (.var 7) (.cst (.int 0))) (.bi .len [(.var 8)]) (.o2 .add (.o2 .sub (.bi .len [(.var 8)]) (.bi .len [(.var 9)])) (.var 7))), .ifS [4, 5, 8, 10] (.o2 .ne (.sl (.var 8) [(.var 5)] [(.var 10)]) (.var 4)) [.ret [] (.cst (.bl false))] []],
  .set [0] 11 (.call 35 [(.var 0), (.cst (.int 7))]),
  .set [11, 13] 12 (.lc [13] (.nm 13) .val [(.call 36 [(.cst (.int 2)), (.var 11)])] [(.call 20 [(.var 13)])] (.var 13)),
  .ifS [1, 11, 12, 13] (.or (.o2 .ne (.call 22 [(.var 11)]) (.bi .len [(.var 12)])) (.and (.o2 .gt (.var 11) (.cst (.int 0))) (.bi .any [(.lc [13] (.nm 13) .val [(.call 14 [(.var 1), (.var 11)])] [] (.o2 .nin (.var 13) (.var 12)))]))) [.ret [] (.cst (.bl false))] [],
  .set [] 14 (.dnw false),
  .for [11] (.nm 15) .range [(.cst (.int 1)), (.o2 .add (.var 11) (.cst (.int 2)))] [.for [15] (.nm 16) .range [(.o2 .add (.var 15) (.cst (.int 1)))] [.ifS [15, 16] (.o2 .eq (.call 37 [(.var 16), (.var 15)]) (.cst (.int 1))) [.set [11, 15, 16] 17 (.o2 .mul (.call 27 [(.tup [(.var 16), (.var 15)])]) (.o2 .add (.var 11) (.cst (.int 1)))), .upd [11, 15, 17, 18] 14 (.dcp (.lc [18] (.nm 18) .range [(.var 15)] [] (.tup [(.sl (.var 17) [(.var 18)] [(.o2 .add (.var 18) (.var 11))]), (.cst (.bl true))])))] []]],
  .ret [12, 14] (.o2 .eq (.bi .sorted [(.var 14)]) (.var 12))]
abbrev n_law : List Str := ["script", "tape", "quotients", "k", "word", "slope", "up", "some", "n", "d", "share_v", "turn", "told", "row", "golden", "now", "before", "line", "size", "rows", "ones", "pairs", "one", "two"]
def z_law : List Z := [.set [1, 3] 2 (.bi .tuple [(.lc [3] (.nm 3) .range [(.o2 .add (.cst (.int 1)) (.call 35 [(.var 1), (.cst (.int 3))]))] [] (.o2 .add (.cst (.int 1)) (.call 35 [(.var 1), (.cst (.int 3))])))]),
  .par [2] [4, 5] [(.call 31 [(.var 2)]), (.call 30 [(.var 2)])],
  .ifS [4, 5] (.or (.o2 .ne (.me .count (.var 4) [(.cst (.str [49]))]) (.o2 .ix (.var 5) (.cst (.int 0)))) (.o2 .ne (.bi .len [(.var 4)]) (.o2 .ix (.var 5) (.cst (.int 1))))) [.ret [] (.cst (.bl false))] [],
  .set [] 6 (.tup [(.cst (.str [48])), (.cst (.str [48, 49]))]),
  .set [1, 3] 7 (.me .join (.cst (.str [])) [(.lc [3] (.nm 3) .range [(.cst (.int 8))] [] (.bi .str [(.call 35 [(.var 1), (.cst (.int 2))])]))]),
  .ifS [6, 7] (.or (.o2 .ne (.call 7 [(.var 6), (.var 7)]) (.call 32 [(.var 7)])) (.or (.o2 .ne (.call 33 [(.call 7 [(.var 6), (.var 7)])]) (.var 7)) (.and (.o2 .eq (.call 17 [(.var 6), (.sl (.call 7 [(.var 6), (.var 7)]) [] [(.cst (.int 6))])]) (.tup [])) (.o2 .eq (.sl (.sl (.call 7 [(.var 6), (.var 7)]) [] [(.cst (.int 6))]) [(.o1 .neg (.cst (.int 1)))] []) (.cst (.str [49])))))) [.ret [] (.cst (.bl false))] [],
  .par [1] [8, 9] [(.o2 .add (.cst (.int 1)) (.call 35 [(.var 1), (.cst (.int 5))])), (.o2 .add (.cst (.int 1)) (.call 35 [(.var 1), (.cst (.int 9))]))],
  .set [8, 9] 10 (.call 37 [(.var 8), (.var 9)]),
  .par [8, 9, 10] [8, 9] [(.o2 .fdiv (.var 8) (.var 10)), (.o2 .fdiv (.var 9) (.var 10))],
  .ifS [8, 9] (.o2 .lt (.var 8) (.var 9)) [.set [8, 9] 11 (.call 27 [(.tup [(.var 8), (.var 9)])]), .set [11] 12 (.call 32 [(.var 11)]), .ifS [8, 9, 11, 12] (.or (.o2 .ne (.call 28 [(.var 12)]) (.tup [(.var 8), (.o2 .add (.var 9) (.var 8))])) (.or (.not (.call 20 [(.var 12)])) (.not (.call 20 [(.o2 .mul (.var 11) (.cst (.int 2)))])))) [.ret [] (.cst (.bl false))] [], .set [8, 9] 13 (.call 29 [(.tup [(.var 8), (.var 9)])]), .ifS [8, 9, 11, 13] (.or (.o2 .ne (.call 29 [(.tup [(.var 8), (.o2 .add (.var 9) (.var 8))])]) (.o2 .add (.tup [(.o2 .add (.o2 .ix (.var 13) (.cst (.int 0))) (.cst (.int 1)))]) (.sl (.var 13) [(.cst (.int 1))] []))) (.o2 .ne (.call 26 [(.tup [(.var 8), (.var 9)]), (.cst (.int 0)), (.o2 .mul (.cst (.int 2)) (.var 9))]) (.o2 .mul (.var 11) (.cst (.int 2))))) [.ret [] (.cst (.bl false))] []] [],
  .set [] 14 (.tup [(.cst (.str [48, 49])), (.cst (.str [48]))]),
  .ifS [14] (.or (.o1 (.isb true false) (.call 11 [(.var 14)])) (.o2 .ne (.call 9 [(.var 14)]) (.tup [(.tup [(.cst (.int 1)), (.cst (.int 1))]), (.tup [(.cst (.int 1)), (.cst (.int 0))])]))) [.ret [] (.cst (.bl false))] [],
  .par [] [15, 16] [(.cst (.str [48])), (.cst (.str [49]))],
  .for [] (.nm 3) .range [(.cst (.int 1)), (.cst (.int 9))] [.set [3, 14] 12 (.call 8 [(.var 14), (.cst (.str [48])), (.var 3)]), .ifS [3, 12, 14, 15, 16] (.or (.o2 .ne (.var 12) (.o2 .add (.var 15) (.ife (.o2 .gt (.var 3) (.cst (.int 1))) (.var 16) (.cst (.str [49]))))) (.o2 .ne (.call 10 [(.var 14), (.cst (.str [48])), (.var 3)]) (.tup [(.me .count (.var 12) [(.cst (.str [48]))]), (.me .count (.var 12) [(.cst (.str [49]))])]))) [.ret [] (.cst (.bl false))] [], .par [12, 15] [15, 16] [(.var 12), (.var 15)]],
  .set [14] 17 (.call 13 [(.var 14), (.cst (.int 0)), (.cst (.int 60))]),
  .ifS [15, 17] (.or (.o2 .ne (.sl (.var 15) [] [(.cst (.int 55))]) (.sl (.var 17) [] [(.cst (.int 55))])) (.not (.call 20 [(.sl (.var 17) [] [(.cst (.int 40))])]))) [.ret [] (.cst (.bl false))] [],
  .for [] (.nm 18) .range [(.cst (.int 1)), (.cst (.int 8))] [.set [14, 18] 19 (.call 14 [(.var 14), (.var 18)]), .ifS [13, 14, 18, 19] (.or (.o2 .ne (.bi .len [(.var 19)]) (.o2 .add (.var 18) (.cst (.int 1)))) (.or (.bi .any [(.lc [13] (.nm 13) .val [(.var 19)] [] (.not (.call 20 [(.var 13)])))]) (.o2 .ne (.call 34 [(.call 13 [(.var 14), (.cst (.int 0)), (.cst (.int 120))]), (.var 18)]) (.o2 .add (.var 18) (.cst (.int 1)))))) [.ret [] (.cst (.bl false))] [], .ifS [13, 19] (.bi .any [(.lc [13] (.nm 13) .val [(.var 19)] [] (.o2 .nin (.o1 .rev (.var 13)) (.var 19)))]) [.ret [] (.cst (.bl false))] []],
  .for [] (.nm 3) .range [(.cst (.int 1)), (.cst (.int 7))] [.set [3] 20 (.o2 .mul (.tup [(.cst (.int 1))]) (.var 3)), .set [20] 12 (.call 31 [(.o2 .add (.tup [(.cst (.int 2))]) (.var 20))]), .ifS [12, 14] (.or (.o2 .ne (.sl (.var 12) [] [(.o1 .neg (.cst (.int 2)))]) (.sl (.call 13 [(.var 14), (.cst (.int 0)), (.bi .len [(.var 12)])]) [] [(.o1 .neg (.cst (.int 2)))])) (.not (.call 20 [(.var 12)]))) [.ret [] (.cst (.bl false))] []],
  .set [14] 21 (.call 15 [(.var 14)]),
  .ifS [21] (.o2 .ne (.var 21) (.tup [(.cst (.str [48, 48])), (.cst (.str [48, 49])), (.cst (.str [49, 48]))])) [.ret [] (.cst (.bl false))] [],
  .par [14] [22, 23] [(.call 18 [(.var 14), (.cst (.int 9))]), (.call 18 [(.var 14), (.cst (.int 10))])],
  .ifS [22, 23] (.o2 .ne (.bi .abs [(.o2 .sub (.o2 .mul (.o2 .ix (.var 22) (.cst (.int 0))) (.o2 .ix (.var 23) (.cst (.int 1)))) (.o2 .mul (.o2 .ix (.var 23) (.cst (.int 0))) (.o2 .ix (.var 22) (.cst (.int 1)))))]) (.cst (.int 1))) [.ret [] (.cst (.bl false))] [],
  .ret [1, 14, 17] (.call 38 [(.var 1), (.var 14), (.var 17)])]
def dfs : List Df := [.df 1 2 true z_check_square,
  .df 1 3 true z_unit,
  .df 2 6 true z_matrix_product,
  .df 2 4 true z_matrix_power,
  .df 2 4 true z_share,
  .df 2 2 true z_over,
  .df 1 3 true z_check_substitution,
  .df 2 3 true z_put,
  .df 3 5 false z_put_often,
  .df 1 4 true z_count_matrix,
  .df 3 10 true z_counts_behind,
  .df 1 12 true z_is_mixing,
  .df 1 3 true z_begins,
  .df 3 5 true z_endless,
  .df 2 8 true z_factors,
  .df 1 9 true z_pairs_of,
  .df 2 10 true z_cuts,
  .df 2 5 true z_sources_of,
  .df 2 2 true z_mean_growth,
  .df 1 2 true z_check_word,
  .df 1 1 true z_is_balanced,
  .df 1 4 true z_heavy_pair,
  .df 1 2 true z_balanced_count,
  .df 1 2 true z_coprimes,
  .df 2 2 false z_common,
  .df 1 3 true z_check_slope,
  .df 3 6 true z_line_word,
  .df 1 1 true z_round_of_slope,
  .df 1 3 false z_slope_of,
  .df 1 4 true z_parts_of,
  .df 1 4 true z_from_parts,
  .df 1 5 true z_standard,
  .df 1 2 true z_raised,
  .df 1 3 true z_lowered,
  .df 2 3 true z_parts_count,
  .df 2 4 true z__law_take,
  .df 2 7 false z__law_words,
  .df 2 2 false z__law_common,
  .df 3 19 true z__law_cuts_right]
def md : Md := { bl := ["abs", "all", "any", "dict", "enumerate", "int", "len", "max", "min", "range", "reversed", "sorted", "str", "sum", "tuple", "zip"], fn := [("check_square" : Str), ("unit" : Str), ("matrix_product" : Str), ("matrix_power" : Str), ("share" : Str), ("over" : Str), ("check_substitution" : Str), ("put" : Str), ("put_often" : Str), ("count_matrix" : Str), ("counts_behind" : Str), ("is_mixing" : Str), ("begins" : Str), ("endless" : Str), ("factors" : Str), ("pairs_of" : Str), ("cuts" : Str), ("sources_of" : Str), ("mean_growth" : Str), ("check_word" : Str), ("is_balanced" : Str), ("heavy_pair" : Str), ("balanced_count" : Str), ("coprimes" : Str), ("common" : Str), ("check_slope" : Str), ("line_word" : Str), ("round_of_slope" : Str), ("slope_of" : Str), ("parts_of" : Str), ("from_parts" : Str), ("standard" : Str), ("raised" : Str), ("lowered" : Str), ("parts_count" : Str), ("_law_take" : Str), ("_law_words" : Str), ("_law_common" : Str), ("_law_cuts_right" : Str)], ff := ffOf dfs, gc := [("MOST_SIZE", (.int 16)), ("DIGITS", (.str [48, 49, 50, 51])), ("MOST_WORD", (.int 20000)), ("MOST_LENGTH", (.int 40))], xc := ["InvalidMatrix", "InvalidShare", "InvalidSubstitution", "InvalidSlope"], rn := "_law_refused", rx := [], lo := none }
abbrev s_check_square : Stmt := tops 9
theorem sc_check_square : FnScope n_check_square ["matrix"] (defScope s_check_square) := ⟨rfl, rfl, rfl, by decide +kernel, rfl, by decide +kernel, by decide +kernel⟩
theorem ch_check_square : chkT md n_check_square (defScope s_check_square) (defSt false) false z_check_square (defBody s_check_square) = true := by decide +kernel
abbrev s_unit : Stmt := tops 10
theorem sc_unit : FnScope n_unit ["size"] (defScope s_unit) := ⟨rfl, rfl, rfl, by decide +kernel, rfl, by decide +kernel, by decide +kernel⟩
theorem ch_unit : chkT md n_unit (defScope s_unit) (defSt false) false z_unit (defBody s_unit) = true := by decide +kernel
abbrev s_matrix_product : Stmt := tops 11
theorem sc_matrix_product : FnScope n_matrix_product ["one", "other"] (defScope s_matrix_product) := ⟨rfl, rfl, rfl, by decide +kernel, rfl, by decide +kernel, by decide +kernel⟩
theorem ch_matrix_product : chkT md n_matrix_product (defScope s_matrix_product) (defSt false) false z_matrix_product (defBody s_matrix_product) = true := by decide +kernel
abbrev s_matrix_power : Stmt := tops 12
theorem sc_matrix_power : FnScope n_matrix_power ["matrix", "many"] (defScope s_matrix_power) := ⟨rfl, rfl, rfl, by decide +kernel, rfl, by decide +kernel, by decide +kernel⟩
theorem ch_matrix_power : chkT md n_matrix_power (defScope s_matrix_power) (defSt false) false z_matrix_power (defBody s_matrix_power) = true := by decide +kernel
abbrev s_share : Stmt := tops 14
theorem sc_share : FnScope n_share ["n", "d"] (defScope s_share) := ⟨rfl, rfl, rfl, by decide +kernel, rfl, by decide +kernel, by decide +kernel⟩
theorem ch_share : chkT md n_share (defScope s_share) (defSt false) false z_share (defBody s_share) = true := by decide +kernel
abbrev s_over : Stmt := tops 15
theorem sc_over : FnScope n_over ["a", "b"] (defScope s_over) := ⟨rfl, rfl, rfl, by decide +kernel, rfl, by decide +kernel, by decide +kernel⟩
theorem ch_over : chkT md n_over (defScope s_over) (defSt false) false z_over (defBody s_over) = true := by decide +kernel
abbrev s_check_substitution : Stmt := tops 18
theorem sc_check_substitution : FnScope n_check_substitution ["rows"] (defScope s_check_substitution) := ⟨rfl, rfl, rfl, by decide +kernel, rfl, by decide +kernel, by decide +kernel⟩
theorem ch_check_substitution : chkT md n_check_substitution (defScope s_check_substitution) (defSt false) false z_check_substitution (defBody s_check_substitution) = true := by decide +kernel
abbrev s_put : Stmt := tops 19
theorem sc_put : FnScope n_put ["rows", "word"] (defScope s_put) := ⟨rfl, rfl, rfl, by decide +kernel, rfl, by decide +kernel, by decide +kernel⟩
theorem ch_put : chkT md n_put (defScope s_put) (defSt false) false z_put (defBody s_put) = true := by decide +kernel
abbrev s_put_often : Stmt := tops 20
theorem sc_put_often : FnScope n_put_often ["rows", "word", "many"] (defScope s_put_often) := ⟨rfl, rfl, rfl, by decide +kernel, rfl, by decide +kernel, by decide +kernel⟩
theorem ch_put_often : chkT md n_put_often (defScope s_put_often) (defSt false) false z_put_often (defBody s_put_often) = true := by decide +kernel
abbrev s_count_matrix : Stmt := tops 21
theorem sc_count_matrix : FnScope n_count_matrix ["rows"] (defScope s_count_matrix) := ⟨rfl, rfl, rfl, by decide +kernel, rfl, by decide +kernel, by decide +kernel⟩
theorem ch_count_matrix : chkT md n_count_matrix (defScope s_count_matrix) (defSt false) false z_count_matrix (defBody s_count_matrix) = true := by decide +kernel
abbrev s_counts_behind : Stmt := tops 22
theorem sc_counts_behind : FnScope n_counts_behind ["rows", "word", "many"] (defScope s_counts_behind) := ⟨rfl, rfl, rfl, by decide +kernel, rfl, by decide +kernel, by decide +kernel⟩
theorem ch_counts_behind : chkT md n_counts_behind (defScope s_counts_behind) (defSt false) false z_counts_behind (defBody s_counts_behind) = true := by decide +kernel
abbrev s_is_mixing : Stmt := tops 23
theorem sc_is_mixing : FnScope n_is_mixing ["rows"] (defScope s_is_mixing) := ⟨rfl, rfl, rfl, by decide +kernel, rfl, by decide +kernel, by decide +kernel⟩
theorem ch_is_mixing : chkT md n_is_mixing (defScope s_is_mixing) (defSt false) false z_is_mixing (defBody s_is_mixing) = true := by decide +kernel
abbrev s_begins : Stmt := tops 24
theorem sc_begins : FnScope n_begins ["rows"] (defScope s_begins) := ⟨rfl, rfl, rfl, by decide +kernel, rfl, by decide +kernel, by decide +kernel⟩
theorem ch_begins : chkT md n_begins (defScope s_begins) (defSt false) false z_begins (defBody s_begins) = true := by decide +kernel
abbrev s_endless : Stmt := tops 25
theorem sc_endless : FnScope n_endless ["rows", "sign", "length"] (defScope s_endless) := ⟨rfl, rfl, rfl, by decide +kernel, rfl, by decide +kernel, by decide +kernel⟩
theorem ch_endless : chkT md n_endless (defScope s_endless) (defSt false) false z_endless (defBody s_endless) = true := by decide +kernel
abbrev s_factors : Stmt := tops 26
theorem sc_factors : FnScope n_factors ["rows", "length"] (defScope s_factors) := ⟨rfl, rfl, rfl, by decide +kernel, rfl, by decide +kernel, by decide +kernel⟩
theorem ch_factors : chkT md n_factors (defScope s_factors) (defSt false) false z_factors (defBody s_factors) = true := by decide +kernel
abbrev s_pairs_of : Stmt := tops 27
theorem sc_pairs_of : FnScope n_pairs_of ["rows"] (defScope s_pairs_of) := ⟨rfl, rfl, rfl, by decide +kernel, rfl, by decide +kernel, by decide +kernel⟩
theorem ch_pairs_of : chkT md n_pairs_of (defScope s_pairs_of) (defSt false) false z_pairs_of (defBody s_pairs_of) = true := by decide +kernel
abbrev s_cuts : Stmt := tops 28
theorem sc_cuts : FnScope n_cuts ["rows", "word"] (defScope s_cuts) := ⟨rfl, rfl, rfl, by decide +kernel, rfl, by decide +kernel, by decide +kernel⟩
theorem ch_cuts : chkT md n_cuts (defScope s_cuts) (defSt false) false z_cuts (defBody s_cuts) = true := by decide +kernel
abbrev s_sources_of : Stmt := tops 29
theorem sc_sources_of : FnScope n_sources_of ["rows", "word"] (defScope s_sources_of) := ⟨rfl, rfl, rfl, by decide +kernel, rfl, by decide +kernel, by decide +kernel⟩
theorem ch_sources_of : chkT md n_sources_of (defScope s_sources_of) (defSt false) false z_sources_of (defBody s_sources_of) = true := by decide +kernel
abbrev s_mean_growth : Stmt := tops 30
theorem sc_mean_growth : FnScope n_mean_growth ["rows", "many"] (defScope s_mean_growth) := ⟨rfl, rfl, rfl, by decide +kernel, rfl, by decide +kernel, by decide +kernel⟩
theorem ch_mean_growth : chkT md n_mean_growth (defScope s_mean_growth) (defSt false) false z_mean_growth (defBody s_mean_growth) = true := by decide +kernel
abbrev s_check_word : Stmt := tops 33
theorem sc_check_word : FnScope n_check_word ["word"] (defScope s_check_word) := ⟨rfl, rfl, rfl, by decide +kernel, rfl, by decide +kernel, by decide +kernel⟩
theorem ch_check_word : chkT md n_check_word (defScope s_check_word) (defSt false) false z_check_word (defBody s_check_word) = true := by decide +kernel
abbrev s_is_balanced : Stmt := tops 34
theorem sc_is_balanced : FnScope n_is_balanced ["word"] (defScope s_is_balanced) := ⟨rfl, rfl, rfl, by decide +kernel, rfl, by decide +kernel, by decide +kernel⟩
theorem ch_is_balanced : chkT md n_is_balanced (defScope s_is_balanced) (defSt false) false z_is_balanced (defBody s_is_balanced) = true := by decide +kernel
abbrev s_heavy_pair : Stmt := tops 35
theorem sc_heavy_pair : FnScope n_heavy_pair ["word"] (defScope s_heavy_pair) := ⟨rfl, rfl, rfl, by decide +kernel, rfl, by decide +kernel, by decide +kernel⟩
theorem ch_heavy_pair : chkT md n_heavy_pair (defScope s_heavy_pair) (defSt false) false z_heavy_pair (defBody s_heavy_pair) = true := by decide +kernel
abbrev s_balanced_count : Stmt := tops 36
theorem sc_balanced_count : FnScope n_balanced_count ["length"] (defScope s_balanced_count) := ⟨rfl, rfl, rfl, by decide +kernel, rfl, by decide +kernel, by decide +kernel⟩
theorem ch_balanced_count : chkT md n_balanced_count (defScope s_balanced_count) (defSt false) false z_balanced_count (defBody s_balanced_count) = true := by decide +kernel
abbrev s_coprimes : Stmt := tops 37
theorem sc_coprimes : FnScope n_coprimes ["number"] (defScope s_coprimes) := ⟨rfl, rfl, rfl, by decide +kernel, rfl, by decide +kernel, by decide +kernel⟩
theorem ch_coprimes : chkT md n_coprimes (defScope s_coprimes) (defSt false) false z_coprimes (defBody s_coprimes) = true := by decide +kernel
abbrev s_common : Stmt := tops 38
theorem sc_common : FnScope n_common ["a", "b"] (defScope s_common) := ⟨rfl, rfl, rfl, by decide +kernel, rfl, by decide +kernel, by decide +kernel⟩
theorem ch_common : chkT md n_common (defScope s_common) (defSt false) false z_common (defBody s_common) = true := by decide +kernel
abbrev s_check_slope : Stmt := tops 39
theorem sc_check_slope : FnScope n_check_slope ["slope"] (defScope s_check_slope) := ⟨rfl, rfl, rfl, by decide +kernel, rfl, by decide +kernel, by decide +kernel⟩
theorem ch_check_slope : chkT md n_check_slope (defScope s_check_slope) (defSt false) false z_check_slope (defBody s_check_slope) = true := by decide +kernel
abbrev s_line_word : Stmt := tops 40
theorem sc_line_word : FnScope n_line_word ["slope", "start", "length"] (defScope s_line_word) := ⟨rfl, rfl, rfl, by decide +kernel, rfl, by decide +kernel, by decide +kernel⟩
theorem ch_line_word : chkT md n_line_word (defScope s_line_word) (defSt false) false z_line_word (defBody s_line_word) = true := by decide +kernel
abbrev s_round_of_slope : Stmt := tops 41
theorem sc_round_of_slope : FnScope n_round_of_slope ["slope"] (defScope s_round_of_slope) := ⟨rfl, rfl, rfl, by decide +kernel, rfl, by decide +kernel, by decide +kernel⟩
theorem ch_round_of_slope : chkT md n_round_of_slope (defScope s_round_of_slope) (defSt false) false z_round_of_slope (defBody s_round_of_slope) = true := by decide +kernel
abbrev s_slope_of : Stmt := tops 42
theorem sc_slope_of : FnScope n_slope_of ["word"] (defScope s_slope_of) := ⟨rfl, rfl, rfl, by decide +kernel, rfl, by decide +kernel, by decide +kernel⟩
theorem ch_slope_of : chkT md n_slope_of (defScope s_slope_of) (defSt false) false z_slope_of (defBody s_slope_of) = true := by decide +kernel
abbrev s_parts_of : Stmt := tops 43
theorem sc_parts_of : FnScope n_parts_of ["slope"] (defScope s_parts_of) := ⟨rfl, rfl, rfl, by decide +kernel, rfl, by decide +kernel, by decide +kernel⟩
theorem ch_parts_of : chkT md n_parts_of (defScope s_parts_of) (defSt false) false z_parts_of (defBody s_parts_of) = true := by decide +kernel
abbrev s_from_parts : Stmt := tops 44
theorem sc_from_parts : FnScope n_from_parts ["row"] (defScope s_from_parts) := ⟨rfl, rfl, rfl, by decide +kernel, rfl, by decide +kernel, by decide +kernel⟩
theorem ch_from_parts : chkT md n_from_parts (defScope s_from_parts) (defSt false) false z_from_parts (defBody s_from_parts) = true := by decide +kernel
abbrev s_standard : Stmt := tops 45
theorem sc_standard : FnScope n_standard ["row"] (defScope s_standard) := ⟨rfl, rfl, rfl, by decide +kernel, rfl, by decide +kernel, by decide +kernel⟩
theorem ch_standard : chkT md n_standard (defScope s_standard) (defSt false) false z_standard (defBody s_standard) = true := by decide +kernel
abbrev s_raised : Stmt := tops 46
theorem sc_raised : FnScope n_raised ["word"] (defScope s_raised) := ⟨rfl, rfl, rfl, by decide +kernel, rfl, by decide +kernel, by decide +kernel⟩
theorem ch_raised : chkT md n_raised (defScope s_raised) (defSt false) false z_raised (defBody s_raised) = true := by decide +kernel
abbrev s_lowered : Stmt := tops 47
theorem sc_lowered : FnScope n_lowered ["word"] (defScope s_lowered) := ⟨rfl, rfl, rfl, by decide +kernel, rfl, by decide +kernel, by decide +kernel⟩
theorem ch_lowered : chkT md n_lowered (defScope s_lowered) (defSt false) true z_lowered (defBody s_lowered) = true := by decide +kernel
abbrev s_parts_count : Stmt := tops 48
theorem sc_parts_count : FnScope n_parts_count ["word", "size"] (defScope s_parts_count) := ⟨rfl, rfl, rfl, by decide +kernel, rfl, by decide +kernel, by decide +kernel⟩
theorem ch_parts_count : chkT md n_parts_count (defScope s_parts_count) (defSt false) false z_parts_count (defBody s_parts_count) = true := by decide +kernel
abbrev s__law_take : Stmt := tops 51
theorem sc__law_take : FnScope n__law_take ["tape", "many"] (defScope s__law_take) := ⟨rfl, rfl, rfl, by decide +kernel, rfl, by decide +kernel, by decide +kernel⟩
theorem ch__law_take : chkT md n__law_take (defScope s__law_take) (defSt false) false z__law_take (defBody s__law_take) = true := by decide +kernel
abbrev s__law_words : Stmt := tops 52
theorem sc__law_words : FnScope n__law_words ["signs", "length"] (defScope s__law_words) := ⟨rfl, rfl, rfl, by decide +kernel, rfl, by decide +kernel, by decide +kernel⟩
theorem ch__law_words : chkT md n__law_words (defScope s__law_words) (defSt false) false z__law_words (defBody s__law_words) = true := by decide +kernel
abbrev s__law_common : Stmt := tops 53
theorem sc__law_common : FnScope n__law_common ["a", "b"] (defScope s__law_common) := ⟨rfl, rfl, rfl, by decide +kernel, rfl, by decide +kernel, by decide +kernel⟩
theorem ch__law_common : chkT md n__law_common (defScope s__law_common) (defSt false) false z__law_common (defBody s__law_common) = true := by decide +kernel
abbrev s__law_cuts_right : Stmt := tops 54
theorem sc__law_cuts_right : FnScope n__law_cuts_right ["tape", "golden", "line"] (defScope s__law_cuts_right) := ⟨rfl, rfl, rfl, by decide +kernel, rfl, by decide +kernel, by decide +kernel⟩
theorem ch__law_cuts_right : chkT md n__law_cuts_right (defScope s__law_cuts_right) (defSt false) false z__law_cuts_right (defBody s__law_cuts_right) = true := by decide +kernel
abbrev s_law : Stmt := tops 55
theorem sc_law : FnScope n_law ["script"] (defScope s_law) := ⟨rfl, rfl, rfl, by decide +kernel, rfl, by decide +kernel, by decide +kernel⟩
theorem ch_law : chkT md n_law (defScope s_law) (defSt false) false z_law (defBody s_law).tail = true := by decide +kernel
abbrev s_tape : Stmt := tops 50
theorem sc_tape : FnScope NT ["script"] (defScope s_tape) := ⟨rfl, rfl, rfl, by decide +kernel, rfl, by decide +kernel, by decide +kernel⟩
theorem tb_tape : defBody s_tape = tapeB 0 0 0 0 0 0 0 0 0 0 0 ⟨255, 4, 255, 9⟩ ⟨255, 13, 255, 16⟩ ⟨255, 17, 255, 20⟩ ⟨255, 21, 255, 25⟩ ⟨255, 17, 255, 26⟩ ⟨255, 13, 255, 27⟩ ⟨255, 32, 255, 36⟩ ⟨255, 40, 255, 46⟩ ⟨255, 12, 255, 47⟩ ⟨255, 4, 255, 47⟩ ⟨256, 4, 256, 8⟩ ⟨256, 11, 256, 12⟩ ⟨256, 4, 256, 12⟩ ⟨257, 8, 257, 12⟩ ⟨257, 16, 257, 21⟩ ⟨258, 8, 258, 12⟩ ⟨258, 15, 258, 18⟩ ⟨258, 19, 258, 23⟩ ⟨258, 26, 258, 28⟩ ⟨258, 19, 258, 28⟩ ⟨258, 31, 258, 35⟩ ⟨258, 19, 258, 35⟩ ⟨258, 15, 258, 36⟩ ⟨258, 39, 258, 49⟩ ⟨258, 15, 258, 49⟩ ⟨258, 8, 258, 49⟩ ⟨257, 4, 258, 49⟩ ⟨259, 12, 259, 19⟩ ⟨259, 28, 259, 32⟩ ⟨259, 37, 259, 43⟩ ⟨259, 48, 259, 54⟩ ⟨259, 62, 259, 68⟩ ⟨259, 21, 259, 26⟩ ⟨259, 34, 259, 35⟩ ⟨259, 45, 259, 46⟩ ⟨259, 56, 259, 60⟩ ⟨259, 70, 259, 71⟩ ⟨259, 11, 259, 72⟩ ⟨259, 4, 259, 72⟩ := rfl
theorem hd_law : defBody s_law = .Assign [.Name "tape" ⟨307, 4, 307, 8⟩] (.Call (.Name "_law_tape" ⟨307, 11, 307, 20⟩) [.Name "script" ⟨307, 21, 307, 27⟩] [] ⟨307, 11, 307, 28⟩) ⟨307, 4, 307, 28⟩ :: (defBody s_law).tail := rfl
set_option maxHeartbeats 8000000 in
theorem all_mk {l : PySem.W.OpenLaw} {w : World} {K : PySem.W.Frag} {h : Heap} {mg : Str → Option Value} {fa f0 f1 f2 f3 f4 f5 f6 f7 f8 f9 f10 f11 f12 f13 f14 f15 f16 f17 f18 f19 f20 f21 f22 f23 f24 f25 f26 f27 f28 f29 f30 f31 f32 f33 f34 f35 f36 f37 f38 f39 f40 C0 C1 C2 C3 : Addr} (X : K.In h) (G : h.Ns mainGlobals mg) (hfa : mg "law" = some (.ref fa))
    {od0 an0 od1 an1 od2 an2 od3 an3 od4 an4 od5 an5 od6 an6 od7 an7 od8 an8 od9 an9 od10 an10 od11 an11 od12 an12 od13 an13 od14 an14 od15 an15 od16 an16 od17 an17 od18 an18 od19 an19 od20 an20 od21 an21 od22 an22 od23 an23 od24 an24 od25 an25 od26 an26 od27 an27 od28 an28 od29 an29 od30 an30 od31 an31 od32 an32 od33 an33 od34 an34 od35 an35 od36 an36 od37 an37 od38 an38 od39 an39 od40 an40 : Option Addr} {sl0 sl1 sl2 sl3 sl4 sl5 sl6 sl7 sl8 sl9 sl10 sl11 sl12 sl13 sl14 sl15 sl16 sl17 sl18 sl19 sl20 sl21 sl22 sl23 sl24 sl25 sl26 sl27 sl28 sl29 sl30 sl31 sl32 sl33 sl34 sl35 sl36 sl37 sl38 sl39 sl40 : Array (Option Value)} {oc0 kV0 dc0 pm0 cd0 ct0 oc1 kV1 dc1 pm1 cd1 ct1 oc2 kV2 dc2 pm2 cd2 ct2 oc3 kV3 dc3 pm3 cd3 ct3 oc4 kV4 dc4 pm4 cd4 ct4 oc5 kV5 dc5 pm5 cd5 ct5 oc6 kV6 dc6 pm6 cd6 ct6 oc7 kV7 dc7 pm7 cd7 ct7 oc8 kV8 dc8 pm8 cd8 ct8 oc9 kV9 dc9 pm9 cd9 ct9 oc10 kV10 dc10 pm10 cd10 ct10 oc11 kV11 dc11 pm11 cd11 ct11 oc12 kV12 dc12 pm12 cd12 ct12 oc13 kV13 dc13 pm13 cd13 ct13 oc14 kV14 dc14 pm14 cd14 ct14 oc15 kV15 dc15 pm15 cd15 ct15 oc16 kV16 dc16 pm16 cd16 ct16 oc17 kV17 dc17 pm17 cd17 ct17 oc18 kV18 dc18 pm18 cd18 ct18 oc19 kV19 dc19 pm19 cd19 ct19 oc20 kV20 dc20 pm20 cd20 ct20 oc21 kV21 dc21 pm21 cd21 ct21 oc22 kV22 dc22 pm22 cd22 ct22 oc23 kV23 dc23 pm23 cd23 ct23 oc24 kV24 dc24 pm24 cd24 ct24 oc25 kV25 dc25 pm25 cd25 ct25 oc26 kV26 dc26 pm26 cd26 ct26 oc27 kV27 dc27 pm27 cd27 ct27 oc28 kV28 dc28 pm28 cd28 ct28 oc29 kV29 dc29 pm29 cd29 ct29 oc30 kV30 dc30 pm30 cd30 ct30 oc31 kV31 dc31 pm31 cd31 ct31 oc32 kV32 dc32 pm32 cd32 ct32 oc33 kV33 dc33 pm33 cd33 ct33 oc34 kV34 dc34 pm34 cd34 ct34 oc35 kV35 dc35 pm35 cd35 ct35 oc36 kV36 dc36 pm36 cd36 ct36 oc37 kV37 dc37 pm37 cd37 ct37 oc38 kV38 dc38 pm38 cd38 ct38 oc39 kV39 dc39 pm39 cd39 ct39 oc40 kV40 dc40 pm40 cd40 ct40 : Value} {gt0 gt1 gt2 gt3 : Tok}
    (a0 : PySem.W.nsIn K mainGlobals "check_square" = some (some (.ref f0))) (l0 : K.lookup f0 = some ⟨oc0, od0, .func (PySem.W.fnOf "check_square" "check_square" (defArgs s_check_square) (defBody s_check_square) (defScope s_check_square) .none kV0 dc0 pm0 an0 cd0 ct0), sl0⟩) (c0 : PySem.W.codeIn K cd0 "check_square" = true) (k0 : PySem.W.keepIn K (.ref f0) = true)
    (a1 : PySem.W.nsIn K mainGlobals "unit" = some (some (.ref f1))) (l1 : K.lookup f1 = some ⟨oc1, od1, .func (PySem.W.fnOf "unit" "unit" (defArgs s_unit) (defBody s_unit) (defScope s_unit) .none kV1 dc1 pm1 an1 cd1 ct1), sl1⟩) (c1 : PySem.W.codeIn K cd1 "unit" = true) (k1 : PySem.W.keepIn K (.ref f1) = true)
    (a2 : PySem.W.nsIn K mainGlobals "matrix_product" = some (some (.ref f2))) (l2 : K.lookup f2 = some ⟨oc2, od2, .func (PySem.W.fnOf "matrix_product" "matrix_product" (defArgs s_matrix_product) (defBody s_matrix_product) (defScope s_matrix_product) .none kV2 dc2 pm2 an2 cd2 ct2), sl2⟩) (c2 : PySem.W.codeIn K cd2 "matrix_product" = true) (k2 : PySem.W.keepIn K (.ref f2) = true)
    (a3 : PySem.W.nsIn K mainGlobals "matrix_power" = some (some (.ref f3))) (l3 : K.lookup f3 = some ⟨oc3, od3, .func (PySem.W.fnOf "matrix_power" "matrix_power" (defArgs s_matrix_power) (defBody s_matrix_power) (defScope s_matrix_power) .none kV3 dc3 pm3 an3 cd3 ct3), sl3⟩) (c3 : PySem.W.codeIn K cd3 "matrix_power" = true) (k3 : PySem.W.keepIn K (.ref f3) = true)
    (a4 : PySem.W.nsIn K mainGlobals "share" = some (some (.ref f4))) (l4 : K.lookup f4 = some ⟨oc4, od4, .func (PySem.W.fnOf "share" "share" (defArgs s_share) (defBody s_share) (defScope s_share) .none kV4 dc4 pm4 an4 cd4 ct4), sl4⟩) (c4 : PySem.W.codeIn K cd4 "share" = true) (k4 : PySem.W.keepIn K (.ref f4) = true)
    (a5 : PySem.W.nsIn K mainGlobals "over" = some (some (.ref f5))) (l5 : K.lookup f5 = some ⟨oc5, od5, .func (PySem.W.fnOf "over" "over" (defArgs s_over) (defBody s_over) (defScope s_over) .none kV5 dc5 pm5 an5 cd5 ct5), sl5⟩) (c5 : PySem.W.codeIn K cd5 "over" = true) (k5 : PySem.W.keepIn K (.ref f5) = true)
    (a6 : PySem.W.nsIn K mainGlobals "check_substitution" = some (some (.ref f6))) (l6 : K.lookup f6 = some ⟨oc6, od6, .func (PySem.W.fnOf "check_substitution" "check_substitution" (defArgs s_check_substitution) (defBody s_check_substitution) (defScope s_check_substitution) .none kV6 dc6 pm6 an6 cd6 ct6), sl6⟩) (c6 : PySem.W.codeIn K cd6 "check_substitution" = true) (k6 : PySem.W.keepIn K (.ref f6) = true)
    (a7 : PySem.W.nsIn K mainGlobals "put" = some (some (.ref f7))) (l7 : K.lookup f7 = some ⟨oc7, od7, .func (PySem.W.fnOf "put" "put" (defArgs s_put) (defBody s_put) (defScope s_put) .none kV7 dc7 pm7 an7 cd7 ct7), sl7⟩) (c7 : PySem.W.codeIn K cd7 "put" = true) (k7 : PySem.W.keepIn K (.ref f7) = true)
    (a8 : PySem.W.nsIn K mainGlobals "put_often" = some (some (.ref f8))) (l8 : K.lookup f8 = some ⟨oc8, od8, .func (PySem.W.fnOf "put_often" "put_often" (defArgs s_put_often) (defBody s_put_often) (defScope s_put_often) .none kV8 dc8 pm8 an8 cd8 ct8), sl8⟩) (c8 : PySem.W.codeIn K cd8 "put_often" = true) (k8 : PySem.W.keepIn K (.ref f8) = true)
    (a9 : PySem.W.nsIn K mainGlobals "count_matrix" = some (some (.ref f9))) (l9 : K.lookup f9 = some ⟨oc9, od9, .func (PySem.W.fnOf "count_matrix" "count_matrix" (defArgs s_count_matrix) (defBody s_count_matrix) (defScope s_count_matrix) .none kV9 dc9 pm9 an9 cd9 ct9), sl9⟩) (c9 : PySem.W.codeIn K cd9 "count_matrix" = true) (k9 : PySem.W.keepIn K (.ref f9) = true)
    (a10 : PySem.W.nsIn K mainGlobals "counts_behind" = some (some (.ref f10))) (l10 : K.lookup f10 = some ⟨oc10, od10, .func (PySem.W.fnOf "counts_behind" "counts_behind" (defArgs s_counts_behind) (defBody s_counts_behind) (defScope s_counts_behind) .none kV10 dc10 pm10 an10 cd10 ct10), sl10⟩) (c10 : PySem.W.codeIn K cd10 "counts_behind" = true) (k10 : PySem.W.keepIn K (.ref f10) = true)
    (a11 : PySem.W.nsIn K mainGlobals "is_mixing" = some (some (.ref f11))) (l11 : K.lookup f11 = some ⟨oc11, od11, .func (PySem.W.fnOf "is_mixing" "is_mixing" (defArgs s_is_mixing) (defBody s_is_mixing) (defScope s_is_mixing) .none kV11 dc11 pm11 an11 cd11 ct11), sl11⟩) (c11 : PySem.W.codeIn K cd11 "is_mixing" = true) (k11 : PySem.W.keepIn K (.ref f11) = true)
    (a12 : PySem.W.nsIn K mainGlobals "begins" = some (some (.ref f12))) (l12 : K.lookup f12 = some ⟨oc12, od12, .func (PySem.W.fnOf "begins" "begins" (defArgs s_begins) (defBody s_begins) (defScope s_begins) .none kV12 dc12 pm12 an12 cd12 ct12), sl12⟩) (c12 : PySem.W.codeIn K cd12 "begins" = true) (k12 : PySem.W.keepIn K (.ref f12) = true)
    (a13 : PySem.W.nsIn K mainGlobals "endless" = some (some (.ref f13))) (l13 : K.lookup f13 = some ⟨oc13, od13, .func (PySem.W.fnOf "endless" "endless" (defArgs s_endless) (defBody s_endless) (defScope s_endless) .none kV13 dc13 pm13 an13 cd13 ct13), sl13⟩) (c13 : PySem.W.codeIn K cd13 "endless" = true) (k13 : PySem.W.keepIn K (.ref f13) = true)
    (a14 : PySem.W.nsIn K mainGlobals "factors" = some (some (.ref f14))) (l14 : K.lookup f14 = some ⟨oc14, od14, .func (PySem.W.fnOf "factors" "factors" (defArgs s_factors) (defBody s_factors) (defScope s_factors) .none kV14 dc14 pm14 an14 cd14 ct14), sl14⟩) (c14 : PySem.W.codeIn K cd14 "factors" = true) (k14 : PySem.W.keepIn K (.ref f14) = true)
    (a15 : PySem.W.nsIn K mainGlobals "pairs_of" = some (some (.ref f15))) (l15 : K.lookup f15 = some ⟨oc15, od15, .func (PySem.W.fnOf "pairs_of" "pairs_of" (defArgs s_pairs_of) (defBody s_pairs_of) (defScope s_pairs_of) .none kV15 dc15 pm15 an15 cd15 ct15), sl15⟩) (c15 : PySem.W.codeIn K cd15 "pairs_of" = true) (k15 : PySem.W.keepIn K (.ref f15) = true)
    (a16 : PySem.W.nsIn K mainGlobals "cuts" = some (some (.ref f16))) (l16 : K.lookup f16 = some ⟨oc16, od16, .func (PySem.W.fnOf "cuts" "cuts" (defArgs s_cuts) (defBody s_cuts) (defScope s_cuts) .none kV16 dc16 pm16 an16 cd16 ct16), sl16⟩) (c16 : PySem.W.codeIn K cd16 "cuts" = true) (k16 : PySem.W.keepIn K (.ref f16) = true)
    (a17 : PySem.W.nsIn K mainGlobals "sources_of" = some (some (.ref f17))) (l17 : K.lookup f17 = some ⟨oc17, od17, .func (PySem.W.fnOf "sources_of" "sources_of" (defArgs s_sources_of) (defBody s_sources_of) (defScope s_sources_of) .none kV17 dc17 pm17 an17 cd17 ct17), sl17⟩) (c17 : PySem.W.codeIn K cd17 "sources_of" = true) (k17 : PySem.W.keepIn K (.ref f17) = true)
    (a18 : PySem.W.nsIn K mainGlobals "mean_growth" = some (some (.ref f18))) (l18 : K.lookup f18 = some ⟨oc18, od18, .func (PySem.W.fnOf "mean_growth" "mean_growth" (defArgs s_mean_growth) (defBody s_mean_growth) (defScope s_mean_growth) .none kV18 dc18 pm18 an18 cd18 ct18), sl18⟩) (c18 : PySem.W.codeIn K cd18 "mean_growth" = true) (k18 : PySem.W.keepIn K (.ref f18) = true)
    (a19 : PySem.W.nsIn K mainGlobals "check_word" = some (some (.ref f19))) (l19 : K.lookup f19 = some ⟨oc19, od19, .func (PySem.W.fnOf "check_word" "check_word" (defArgs s_check_word) (defBody s_check_word) (defScope s_check_word) .none kV19 dc19 pm19 an19 cd19 ct19), sl19⟩) (c19 : PySem.W.codeIn K cd19 "check_word" = true) (k19 : PySem.W.keepIn K (.ref f19) = true)
    (a20 : PySem.W.nsIn K mainGlobals "is_balanced" = some (some (.ref f20))) (l20 : K.lookup f20 = some ⟨oc20, od20, .func (PySem.W.fnOf "is_balanced" "is_balanced" (defArgs s_is_balanced) (defBody s_is_balanced) (defScope s_is_balanced) .none kV20 dc20 pm20 an20 cd20 ct20), sl20⟩) (c20 : PySem.W.codeIn K cd20 "is_balanced" = true) (k20 : PySem.W.keepIn K (.ref f20) = true)
    (a21 : PySem.W.nsIn K mainGlobals "heavy_pair" = some (some (.ref f21))) (l21 : K.lookup f21 = some ⟨oc21, od21, .func (PySem.W.fnOf "heavy_pair" "heavy_pair" (defArgs s_heavy_pair) (defBody s_heavy_pair) (defScope s_heavy_pair) .none kV21 dc21 pm21 an21 cd21 ct21), sl21⟩) (c21 : PySem.W.codeIn K cd21 "heavy_pair" = true) (k21 : PySem.W.keepIn K (.ref f21) = true)
    (a22 : PySem.W.nsIn K mainGlobals "balanced_count" = some (some (.ref f22))) (l22 : K.lookup f22 = some ⟨oc22, od22, .func (PySem.W.fnOf "balanced_count" "balanced_count" (defArgs s_balanced_count) (defBody s_balanced_count) (defScope s_balanced_count) .none kV22 dc22 pm22 an22 cd22 ct22), sl22⟩) (c22 : PySem.W.codeIn K cd22 "balanced_count" = true) (k22 : PySem.W.keepIn K (.ref f22) = true)
    (a23 : PySem.W.nsIn K mainGlobals "coprimes" = some (some (.ref f23))) (l23 : K.lookup f23 = some ⟨oc23, od23, .func (PySem.W.fnOf "coprimes" "coprimes" (defArgs s_coprimes) (defBody s_coprimes) (defScope s_coprimes) .none kV23 dc23 pm23 an23 cd23 ct23), sl23⟩) (c23 : PySem.W.codeIn K cd23 "coprimes" = true) (k23 : PySem.W.keepIn K (.ref f23) = true)
    (a24 : PySem.W.nsIn K mainGlobals "common" = some (some (.ref f24))) (l24 : K.lookup f24 = some ⟨oc24, od24, .func (PySem.W.fnOf "common" "common" (defArgs s_common) (defBody s_common) (defScope s_common) .none kV24 dc24 pm24 an24 cd24 ct24), sl24⟩) (c24 : PySem.W.codeIn K cd24 "common" = true) (k24 : PySem.W.keepIn K (.ref f24) = true)
    (a25 : PySem.W.nsIn K mainGlobals "check_slope" = some (some (.ref f25))) (l25 : K.lookup f25 = some ⟨oc25, od25, .func (PySem.W.fnOf "check_slope" "check_slope" (defArgs s_check_slope) (defBody s_check_slope) (defScope s_check_slope) .none kV25 dc25 pm25 an25 cd25 ct25), sl25⟩) (c25 : PySem.W.codeIn K cd25 "check_slope" = true) (k25 : PySem.W.keepIn K (.ref f25) = true)
    (a26 : PySem.W.nsIn K mainGlobals "line_word" = some (some (.ref f26))) (l26 : K.lookup f26 = some ⟨oc26, od26, .func (PySem.W.fnOf "line_word" "line_word" (defArgs s_line_word) (defBody s_line_word) (defScope s_line_word) .none kV26 dc26 pm26 an26 cd26 ct26), sl26⟩) (c26 : PySem.W.codeIn K cd26 "line_word" = true) (k26 : PySem.W.keepIn K (.ref f26) = true)
    (a27 : PySem.W.nsIn K mainGlobals "round_of_slope" = some (some (.ref f27))) (l27 : K.lookup f27 = some ⟨oc27, od27, .func (PySem.W.fnOf "round_of_slope" "round_of_slope" (defArgs s_round_of_slope) (defBody s_round_of_slope) (defScope s_round_of_slope) .none kV27 dc27 pm27 an27 cd27 ct27), sl27⟩) (c27 : PySem.W.codeIn K cd27 "round_of_slope" = true) (k27 : PySem.W.keepIn K (.ref f27) = true)
    (a28 : PySem.W.nsIn K mainGlobals "slope_of" = some (some (.ref f28))) (l28 : K.lookup f28 = some ⟨oc28, od28, .func (PySem.W.fnOf "slope_of" "slope_of" (defArgs s_slope_of) (defBody s_slope_of) (defScope s_slope_of) .none kV28 dc28 pm28 an28 cd28 ct28), sl28⟩) (c28 : PySem.W.codeIn K cd28 "slope_of" = true) (k28 : PySem.W.keepIn K (.ref f28) = true)
    (a29 : PySem.W.nsIn K mainGlobals "parts_of" = some (some (.ref f29))) (l29 : K.lookup f29 = some ⟨oc29, od29, .func (PySem.W.fnOf "parts_of" "parts_of" (defArgs s_parts_of) (defBody s_parts_of) (defScope s_parts_of) .none kV29 dc29 pm29 an29 cd29 ct29), sl29⟩) (c29 : PySem.W.codeIn K cd29 "parts_of" = true) (k29 : PySem.W.keepIn K (.ref f29) = true)
    (a30 : PySem.W.nsIn K mainGlobals "from_parts" = some (some (.ref f30))) (l30 : K.lookup f30 = some ⟨oc30, od30, .func (PySem.W.fnOf "from_parts" "from_parts" (defArgs s_from_parts) (defBody s_from_parts) (defScope s_from_parts) .none kV30 dc30 pm30 an30 cd30 ct30), sl30⟩) (c30 : PySem.W.codeIn K cd30 "from_parts" = true) (k30 : PySem.W.keepIn K (.ref f30) = true)
    (a31 : PySem.W.nsIn K mainGlobals "standard" = some (some (.ref f31))) (l31 : K.lookup f31 = some ⟨oc31, od31, .func (PySem.W.fnOf "standard" "standard" (defArgs s_standard) (defBody s_standard) (defScope s_standard) .none kV31 dc31 pm31 an31 cd31 ct31), sl31⟩) (c31 : PySem.W.codeIn K cd31 "standard" = true) (k31 : PySem.W.keepIn K (.ref f31) = true)
    (a32 : PySem.W.nsIn K mainGlobals "raised" = some (some (.ref f32))) (l32 : K.lookup f32 = some ⟨oc32, od32, .func (PySem.W.fnOf "raised" "raised" (defArgs s_raised) (defBody s_raised) (defScope s_raised) .none kV32 dc32 pm32 an32 cd32 ct32), sl32⟩) (c32 : PySem.W.codeIn K cd32 "raised" = true) (k32 : PySem.W.keepIn K (.ref f32) = true)
    (a33 : PySem.W.nsIn K mainGlobals "lowered" = some (some (.ref f33))) (l33 : K.lookup f33 = some ⟨oc33, od33, .func (PySem.W.fnOf "lowered" "lowered" (defArgs s_lowered) (defBody s_lowered) (defScope s_lowered) .none kV33 dc33 pm33 an33 cd33 ct33), sl33⟩) (c33 : PySem.W.codeIn K cd33 "lowered" = true) (k33 : PySem.W.keepIn K (.ref f33) = true)
    (a34 : PySem.W.nsIn K mainGlobals "parts_count" = some (some (.ref f34))) (l34 : K.lookup f34 = some ⟨oc34, od34, .func (PySem.W.fnOf "parts_count" "parts_count" (defArgs s_parts_count) (defBody s_parts_count) (defScope s_parts_count) .none kV34 dc34 pm34 an34 cd34 ct34), sl34⟩) (c34 : PySem.W.codeIn K cd34 "parts_count" = true) (k34 : PySem.W.keepIn K (.ref f34) = true)
    (a35 : PySem.W.nsIn K mainGlobals "_law_take" = some (some (.ref f35))) (l35 : K.lookup f35 = some ⟨oc35, od35, .func (PySem.W.fnOf "_law_take" "_law_take" (defArgs s__law_take) (defBody s__law_take) (defScope s__law_take) .none kV35 dc35 pm35 an35 cd35 ct35), sl35⟩) (c35 : PySem.W.codeIn K cd35 "_law_take" = true) (k35 : PySem.W.keepIn K (.ref f35) = true)
    (a36 : PySem.W.nsIn K mainGlobals "_law_words" = some (some (.ref f36))) (l36 : K.lookup f36 = some ⟨oc36, od36, .func (PySem.W.fnOf "_law_words" "_law_words" (defArgs s__law_words) (defBody s__law_words) (defScope s__law_words) .none kV36 dc36 pm36 an36 cd36 ct36), sl36⟩) (c36 : PySem.W.codeIn K cd36 "_law_words" = true) (k36 : PySem.W.keepIn K (.ref f36) = true)
    (a37 : PySem.W.nsIn K mainGlobals "_law_common" = some (some (.ref f37))) (l37 : K.lookup f37 = some ⟨oc37, od37, .func (PySem.W.fnOf "_law_common" "_law_common" (defArgs s__law_common) (defBody s__law_common) (defScope s__law_common) .none kV37 dc37 pm37 an37 cd37 ct37), sl37⟩) (c37 : PySem.W.codeIn K cd37 "_law_common" = true) (k37 : PySem.W.keepIn K (.ref f37) = true)
    (a38 : PySem.W.nsIn K mainGlobals "_law_cuts_right" = some (some (.ref f38))) (l38 : K.lookup f38 = some ⟨oc38, od38, .func (PySem.W.fnOf "_law_cuts_right" "_law_cuts_right" (defArgs s__law_cuts_right) (defBody s__law_cuts_right) (defScope s__law_cuts_right) .none kV38 dc38 pm38 an38 cd38 ct38), sl38⟩) (c38 : PySem.W.codeIn K cd38 "_law_cuts_right" = true) (k38 : PySem.W.keepIn K (.ref f38) = true)
    (a39 : PySem.W.nsIn K mainGlobals "law" = some (some (.ref f39))) (l39 : K.lookup f39 = some ⟨oc39, od39, .func (PySem.W.fnOf "law" "law" (defArgs s_law) (defBody s_law) (defScope s_law) .none kV39 dc39 pm39 an39 cd39 ct39), sl39⟩) (c39 : PySem.W.codeIn K cd39 "law" = true) (k39 : PySem.W.keepIn K (.ref f39) = true)
    (a40 : PySem.W.nsIn K mainGlobals "_law_tape" = some (some (.ref f40))) (l40 : K.lookup f40 = some ⟨oc40, od40, .func (PySem.W.fnOf "_law_tape" "_law_tape" (defArgs s_tape) (defBody s_tape) (defScope s_tape) .none kV40 dc40 pm40 an40 cd40 ct40), sl40⟩) (c40 : PySem.W.codeIn K cd40 "_law_tape" = true) (k40 : PySem.W.keepIn K (.ref f40) = true)
    (xa0 : PySem.W.nsIn K mainGlobals "InvalidMatrix" = some (some (.ref C0))) (xe0 : PySem.W.excIn K C0 [.type "ValueError", .type "Exception", .type "BaseException", .type "object"] "ValueError.__new__" = true) (xk0 : PySem.W.keepIn K (.ref C0) = true) (xs0 : PySem.W.subIn K (.ref C0) (.type "BaseException") = some true) (xt0 : PySem.W.typeIn K (.ref C0) = some (.type "type"))
    (xa1 : PySem.W.nsIn K mainGlobals "InvalidShare" = some (some (.ref C1))) (xe1 : PySem.W.excIn K C1 [.type "ValueError", .type "Exception", .type "BaseException", .type "object"] "ValueError.__new__" = true) (xk1 : PySem.W.keepIn K (.ref C1) = true) (xs1 : PySem.W.subIn K (.ref C1) (.type "BaseException") = some true) (xt1 : PySem.W.typeIn K (.ref C1) = some (.type "type"))
    (xa2 : PySem.W.nsIn K mainGlobals "InvalidSubstitution" = some (some (.ref C2))) (xe2 : PySem.W.excIn K C2 [.type "ValueError", .type "Exception", .type "BaseException", .type "object"] "ValueError.__new__" = true) (xk2 : PySem.W.keepIn K (.ref C2) = true) (xs2 : PySem.W.subIn K (.ref C2) (.type "BaseException") = some true) (xt2 : PySem.W.typeIn K (.ref C2) = some (.type "type"))
    (xa3 : PySem.W.nsIn K mainGlobals "InvalidSlope" = some (some (.ref C3))) (xe3 : PySem.W.excIn K C3 [.type "ValueError", .type "Exception", .type "BaseException", .type "object"] "ValueError.__new__" = true) (xk3 : PySem.W.keepIn K (.ref C3) = true) (xs3 : PySem.W.subIn K (.ref C3) (.type "BaseException") = some true) (xt3 : PySem.W.typeIn K (.ref C3) = some (.type "type"))
    (z0 : PySem.W.nsIn K mainGlobals "abs" = some none)
    (z1 : PySem.W.nsIn K mainGlobals "all" = some none)
    (z2 : PySem.W.nsIn K mainGlobals "any" = some none)
    (z3 : PySem.W.nsIn K mainGlobals "dict" = some none)
    (z4 : PySem.W.nsIn K mainGlobals "enumerate" = some none)
    (z5 : PySem.W.nsIn K mainGlobals "int" = some none)
    (z6 : PySem.W.nsIn K mainGlobals "len" = some none)
    (z7 : PySem.W.nsIn K mainGlobals "max" = some none)
    (z8 : PySem.W.nsIn K mainGlobals "min" = some none)
    (z9 : PySem.W.nsIn K mainGlobals "range" = some none)
    (z10 : PySem.W.nsIn K mainGlobals "reversed" = some none)
    (z11 : PySem.W.nsIn K mainGlobals "sorted" = some none)
    (z12 : PySem.W.nsIn K mainGlobals "str" = some none)
    (z13 : PySem.W.nsIn K mainGlobals "sum" = some none)
    (z14 : PySem.W.nsIn K mainGlobals "tuple" = some none)
    (z15 : PySem.W.nsIn K mainGlobals "zip" = some none)
    (dg0 : PySem.W.nsIn K mainGlobals "MOST_SIZE" = some (some (.int 16 gt0)))
    (dg1 : PySem.W.nsIn K mainGlobals "DIGITS" = some (some (.str ⟨([48, 49, 50, 51] : List Nat).toArray⟩ gt1)))
    (dg2 : PySem.W.nsIn K mainGlobals "MOST_WORD" = some (some (.int 20000 gt2)))
    (dg3 : PySem.W.nsIn K mainGlobals "MOST_LENGTH" = some (some (.int 40 gt3)))
    (hlaw : ∀ ns : List Int, ns.length ≤ 63 → isTrueR (runL md dfs 40 n_law.length z_law ns) = true) : LamX.LawAtS l w K (L2.CX l.prog w) 41 63 "script" mg fa h := by
  have e := hfa.symm.trans (PySem.W.mg_of X G a39)
  cases e
  have F0 := fun_mk (st := s_check_square) l0 c0 k0
  have b0 := F0.binds (ps := ["matrix"]) fun _ _ _ _ _ _ us hl => match us, hl with | [_], _ => rfl
  have F1 := fun_mk (st := s_unit) l1 c1 k1
  have b1 := F1.binds (ps := ["size"]) fun _ _ _ _ _ _ us hl => match us, hl with | [_], _ => rfl
  have F2 := fun_mk (st := s_matrix_product) l2 c2 k2
  have b2 := F2.binds (ps := ["one", "other"]) fun _ _ _ _ _ _ us hl => match us, hl with | [_, _], _ => rfl
  have F3 := fun_mk (st := s_matrix_power) l3 c3 k3
  have b3 := F3.binds (ps := ["matrix", "many"]) fun _ _ _ _ _ _ us hl => match us, hl with | [_, _], _ => rfl
  have F4 := fun_mk (st := s_share) l4 c4 k4
  have b4 := F4.binds (ps := ["n", "d"]) fun _ _ _ _ _ _ us hl => match us, hl with | [_, _], _ => rfl
  have F5 := fun_mk (st := s_over) l5 c5 k5
  have b5 := F5.binds (ps := ["a", "b"]) fun _ _ _ _ _ _ us hl => match us, hl with | [_, _], _ => rfl
  have F6 := fun_mk (st := s_check_substitution) l6 c6 k6
  have b6 := F6.binds (ps := ["rows"]) fun _ _ _ _ _ _ us hl => match us, hl with | [_], _ => rfl
  have F7 := fun_mk (st := s_put) l7 c7 k7
  have b7 := F7.binds (ps := ["rows", "word"]) fun _ _ _ _ _ _ us hl => match us, hl with | [_, _], _ => rfl
  have F8 := fun_mk (st := s_put_often) l8 c8 k8
  have b8 := F8.binds (ps := ["rows", "word", "many"]) fun _ _ _ _ _ _ us hl => match us, hl with | [_, _, _], _ => rfl
  have F9 := fun_mk (st := s_count_matrix) l9 c9 k9
  have b9 := F9.binds (ps := ["rows"]) fun _ _ _ _ _ _ us hl => match us, hl with | [_], _ => rfl
  have F10 := fun_mk (st := s_counts_behind) l10 c10 k10
  have b10 := F10.binds (ps := ["rows", "word", "many"]) fun _ _ _ _ _ _ us hl => match us, hl with | [_, _, _], _ => rfl
  have F11 := fun_mk (st := s_is_mixing) l11 c11 k11
  have b11 := F11.binds (ps := ["rows"]) fun _ _ _ _ _ _ us hl => match us, hl with | [_], _ => rfl
  have F12 := fun_mk (st := s_begins) l12 c12 k12
  have b12 := F12.binds (ps := ["rows"]) fun _ _ _ _ _ _ us hl => match us, hl with | [_], _ => rfl
  have F13 := fun_mk (st := s_endless) l13 c13 k13
  have b13 := F13.binds (ps := ["rows", "sign", "length"]) fun _ _ _ _ _ _ us hl => match us, hl with | [_, _, _], _ => rfl
  have F14 := fun_mk (st := s_factors) l14 c14 k14
  have b14 := F14.binds (ps := ["rows", "length"]) fun _ _ _ _ _ _ us hl => match us, hl with | [_, _], _ => rfl
  have F15 := fun_mk (st := s_pairs_of) l15 c15 k15
  have b15 := F15.binds (ps := ["rows"]) fun _ _ _ _ _ _ us hl => match us, hl with | [_], _ => rfl
  have F16 := fun_mk (st := s_cuts) l16 c16 k16
  have b16 := F16.binds (ps := ["rows", "word"]) fun _ _ _ _ _ _ us hl => match us, hl with | [_, _], _ => rfl
  have F17 := fun_mk (st := s_sources_of) l17 c17 k17
  have b17 := F17.binds (ps := ["rows", "word"]) fun _ _ _ _ _ _ us hl => match us, hl with | [_, _], _ => rfl
  have F18 := fun_mk (st := s_mean_growth) l18 c18 k18
  have b18 := F18.binds (ps := ["rows", "many"]) fun _ _ _ _ _ _ us hl => match us, hl with | [_, _], _ => rfl
  have F19 := fun_mk (st := s_check_word) l19 c19 k19
  have b19 := F19.binds (ps := ["word"]) fun _ _ _ _ _ _ us hl => match us, hl with | [_], _ => rfl
  have F20 := fun_mk (st := s_is_balanced) l20 c20 k20
  have b20 := F20.binds (ps := ["word"]) fun _ _ _ _ _ _ us hl => match us, hl with | [_], _ => rfl
  have F21 := fun_mk (st := s_heavy_pair) l21 c21 k21
  have b21 := F21.binds (ps := ["word"]) fun _ _ _ _ _ _ us hl => match us, hl with | [_], _ => rfl
  have F22 := fun_mk (st := s_balanced_count) l22 c22 k22
  have b22 := F22.binds (ps := ["length"]) fun _ _ _ _ _ _ us hl => match us, hl with | [_], _ => rfl
  have F23 := fun_mk (st := s_coprimes) l23 c23 k23
  have b23 := F23.binds (ps := ["number"]) fun _ _ _ _ _ _ us hl => match us, hl with | [_], _ => rfl
  have F24 := fun_mk (st := s_common) l24 c24 k24
  have b24 := F24.binds (ps := ["a", "b"]) fun _ _ _ _ _ _ us hl => match us, hl with | [_, _], _ => rfl
  have F25 := fun_mk (st := s_check_slope) l25 c25 k25
  have b25 := F25.binds (ps := ["slope"]) fun _ _ _ _ _ _ us hl => match us, hl with | [_], _ => rfl
  have F26 := fun_mk (st := s_line_word) l26 c26 k26
  have b26 := F26.binds (ps := ["slope", "start", "length"]) fun _ _ _ _ _ _ us hl => match us, hl with | [_, _, _], _ => rfl
  have F27 := fun_mk (st := s_round_of_slope) l27 c27 k27
  have b27 := F27.binds (ps := ["slope"]) fun _ _ _ _ _ _ us hl => match us, hl with | [_], _ => rfl
  have F28 := fun_mk (st := s_slope_of) l28 c28 k28
  have b28 := F28.binds (ps := ["word"]) fun _ _ _ _ _ _ us hl => match us, hl with | [_], _ => rfl
  have F29 := fun_mk (st := s_parts_of) l29 c29 k29
  have b29 := F29.binds (ps := ["slope"]) fun _ _ _ _ _ _ us hl => match us, hl with | [_], _ => rfl
  have F30 := fun_mk (st := s_from_parts) l30 c30 k30
  have b30 := F30.binds (ps := ["row"]) fun _ _ _ _ _ _ us hl => match us, hl with | [_], _ => rfl
  have F31 := fun_mk (st := s_standard) l31 c31 k31
  have b31 := F31.binds (ps := ["row"]) fun _ _ _ _ _ _ us hl => match us, hl with | [_], _ => rfl
  have F32 := fun_mk (st := s_raised) l32 c32 k32
  have b32 := F32.binds (ps := ["word"]) fun _ _ _ _ _ _ us hl => match us, hl with | [_], _ => rfl
  have F33 := fun_mk (st := s_lowered) l33 c33 k33
  have b33 := F33.binds (ps := ["word"]) fun _ _ _ _ _ _ us hl => match us, hl with | [_], _ => rfl
  have F34 := fun_mk (st := s_parts_count) l34 c34 k34
  have b34 := F34.binds (ps := ["word", "size"]) fun _ _ _ _ _ _ us hl => match us, hl with | [_, _], _ => rfl
  have F35 := fun_mk (st := s__law_take) l35 c35 k35
  have b35 := F35.binds (ps := ["tape", "many"]) fun _ _ _ _ _ _ us hl => match us, hl with | [_, _], _ => rfl
  have F36 := fun_mk (st := s__law_words) l36 c36 k36
  have b36 := F36.binds (ps := ["signs", "length"]) fun _ _ _ _ _ _ us hl => match us, hl with | [_, _], _ => rfl
  have F37 := fun_mk (st := s__law_common) l37 c37 k37
  have b37 := F37.binds (ps := ["a", "b"]) fun _ _ _ _ _ _ us hl => match us, hl with | [_, _], _ => rfl
  have F38 := fun_mk (st := s__law_cuts_right) l38 c38 k38
  have b38 := F38.binds (ps := ["tape", "golden", "line"]) fun _ _ _ _ _ _ us hl => match us, hl with | [_, _, _], _ => rfl
  have F39 := fun_mk (st := s_law) l39 c39 k39
  have b39 := F39.binds (ps := ["script"]) fun _ _ _ _ _ _ us hl => match us, hl with | [_], _ => rfl
  have F40 := fun_mk (st := s_tape) l40 c40 k40
  have b40 := F40.binds (ps := ["script"]) fun _ _ _ _ _ _ us hl => match us, hl with | [_], _ => rfl
  refine ⟨PySem.W.fnOf "law" "law" (defArgs s_law) (defBody s_law) (defScope s_law) .none kV39 dc39 pm39 an39 cd39 ct39, [], spLaw { P := l.prog, w := w, K := K, mg := mg, base := h, tp := none, tb := [], ca := fun c => match c with | 0 => C0 | 1 => C1 | 2 => C2 | 3 => C3 | _ => 0 } (runL md dfs 40 n_law.length z_law), ?_, ?_, ?_, fun s u => .of_eq rfl, fun H a ns hl _ hT hS => ?_, fun base KB GB TB => ?_⟩
  · intro p hp; cases hp
  · intro p hp; cases hp
  · intro p hp; cases hp
  · refine ⟨a, ns, rfl, hS, Nat.le_trans hl (by decide), fun p hp => ?_, hlaw ns hl, fun _ => rfl⟩
    cases hp
  · let g : Gs := { P := l.prog, w := w, K := K, mg := mg, base := base, tp := none, tb := [], ca := fun c => match c with | 0 => C0 | 1 => C1 | 2 => C2 | 3 => C3 | _ => 0 }
    have hbl : ∀ x, x ∈ md.bl → g.mg x = none := fun x hx => by
      have hx : x ∈ (["abs", "all", "any", "dict", "enumerate", "int", "len", "max", "min", "range", "reversed", "sorted", "str", "sum", "tuple", "zip"] : List Str) := hx
      simp only [List.mem_cons, List.not_mem_nil, or_false] at hx
      rcases hx with rfl | rfl | rfl | rfl | rfl | rfl | rfl | rfl | rfl | rfl | rfl | rfl | rfl | rfl | rfl | rfl
      · exact PySem.W.mg_none_of X G z0
      · exact PySem.W.mg_none_of X G z1
      · exact PySem.W.mg_none_of X G z2
      · exact PySem.W.mg_none_of X G z3
      · exact PySem.W.mg_none_of X G z4
      · exact PySem.W.mg_none_of X G z5
      · exact PySem.W.mg_none_of X G z6
      · exact PySem.W.mg_none_of X G z7
      · exact PySem.W.mg_none_of X G z8
      · exact PySem.W.mg_none_of X G z9
      · exact PySem.W.mg_none_of X G z10
      · exact PySem.W.mg_none_of X G z11
      · exact PySem.W.mg_none_of X G z12
      · exact PySem.W.mg_none_of X G z13
      · exact PySem.W.mg_none_of X G z14
      · exact PySem.W.mg_none_of X G z15
    have mo : ModOk g md := ⟨hbl, fun i x d e => by
      match i, e with
      | 0, e => cases e; exact ⟨.int 16, _, PySem.W.mg_of X G dg0, ⟨_, rfl⟩, fun _ _ => rfl⟩
      | 1, e => cases e; exact ⟨.str ⟨([48, 49, 50, 51] : List Nat).toArray⟩, _, PySem.W.mg_of X G dg1, ⟨_, rfl⟩, fun _ _ => rfl⟩
      | 2, e => cases e; exact ⟨.int 20000, _, PySem.W.mg_of X G dg2, ⟨_, rfl⟩, fun _ _ => rfl⟩
      | 3, e => cases e; exact ⟨.int 40, _, PySem.W.mg_of X G dg3, ⟨_, rfl⟩, fun _ _ => rfl⟩
      | _ + 4, e => cases e⟩
    have xo : XcOk g md := ⟨fun c y e => by
      match c, e with
      | 0, e => cases e; exact ⟨_, _, _, _, PySem.F.excBase_ValueError, xe0, PySem.W.mg_of X G xa0, xk0, xs0, xt0⟩
      | 1, e => cases e; exact ⟨_, _, _, _, PySem.F.excBase_ValueError, xe1, PySem.W.mg_of X G xa1, xk1, xs1, xt1⟩
      | 2, e => cases e; exact ⟨_, _, _, _, PySem.F.excBase_ValueError, xe2, PySem.W.mg_of X G xa2, xk2, xs2, xt2⟩
      | 3, e => cases e; exact ⟨_, _, _, _, PySem.F.excBase_ValueError, xe3, PySem.W.mg_of X G xa3, xk3, xs3, xt3⟩
      | _ + 4, e => cases e⟩
    have hdf : All2 (DfOk g md) md.fn dfs := (.cons ⟨f0, "check_square", s_check_square, n_check_square, ["matrix"], false, false, _, _, _, _, _, _, _, _, _, PySem.W.mg_of X G a0, l0, c0, k0, b0, sc_check_square, ch_check_square, (fun h => by cases h), rfl, rfl, fun h => by cases h⟩ (.cons ⟨f1, "unit", s_unit, n_unit, ["size"], false, false, _, _, _, _, _, _, _, _, _, PySem.W.mg_of X G a1, l1, c1, k1, b1, sc_unit, ch_unit, (fun h => by cases h), rfl, rfl, fun h => by cases h⟩ (.cons ⟨f2, "matrix_product", s_matrix_product, n_matrix_product, ["one", "other"], false, false, _, _, _, _, _, _, _, _, _, PySem.W.mg_of X G a2, l2, c2, k2, b2, sc_matrix_product, ch_matrix_product, (fun h => by cases h), rfl, rfl, fun h => by cases h⟩ (.cons ⟨f3, "matrix_power", s_matrix_power, n_matrix_power, ["matrix", "many"], false, false, _, _, _, _, _, _, _, _, _, PySem.W.mg_of X G a3, l3, c3, k3, b3, sc_matrix_power, ch_matrix_power, (fun h => by cases h), rfl, rfl, fun h => by cases h⟩ (.cons ⟨f4, "share", s_share, n_share, ["n", "d"], false, false, _, _, _, _, _, _, _, _, _, PySem.W.mg_of X G a4, l4, c4, k4, b4, sc_share, ch_share, (fun h => by cases h), rfl, rfl, fun h => by cases h⟩ (.cons ⟨f5, "over", s_over, n_over, ["a", "b"], false, false, _, _, _, _, _, _, _, _, _, PySem.W.mg_of X G a5, l5, c5, k5, b5, sc_over, ch_over, (fun h => by cases h), rfl, rfl, fun h => by cases h⟩ (.cons ⟨f6, "check_substitution", s_check_substitution, n_check_substitution, ["rows"], false, false, _, _, _, _, _, _, _, _, _, PySem.W.mg_of X G a6, l6, c6, k6, b6, sc_check_substitution, ch_check_substitution, (fun h => by cases h), rfl, rfl, fun h => by cases h⟩ (.cons ⟨f7, "put", s_put, n_put, ["rows", "word"], false, false, _, _, _, _, _, _, _, _, _, PySem.W.mg_of X G a7, l7, c7, k7, b7, sc_put, ch_put, (fun h => by cases h), rfl, rfl, fun h => by cases h⟩ (.cons ⟨f8, "put_often", s_put_often, n_put_often, ["rows", "word", "many"], false, false, _, _, _, _, _, _, _, _, _, PySem.W.mg_of X G a8, l8, c8, k8, b8, sc_put_often, ch_put_often, (fun h => by cases h), rfl, rfl, fun h => by cases h⟩ (.cons ⟨f9, "count_matrix", s_count_matrix, n_count_matrix, ["rows"], false, false, _, _, _, _, _, _, _, _, _, PySem.W.mg_of X G a9, l9, c9, k9, b9, sc_count_matrix, ch_count_matrix, (fun h => by cases h), rfl, rfl, fun h => by cases h⟩ (.cons ⟨f10, "counts_behind", s_counts_behind, n_counts_behind, ["rows", "word", "many"], false, false, _, _, _, _, _, _, _, _, _, PySem.W.mg_of X G a10, l10, c10, k10, b10, sc_counts_behind, ch_counts_behind, (fun h => by cases h), rfl, rfl, fun h => by cases h⟩ (.cons ⟨f11, "is_mixing", s_is_mixing, n_is_mixing, ["rows"], false, false, _, _, _, _, _, _, _, _, _, PySem.W.mg_of X G a11, l11, c11, k11, b11, sc_is_mixing, ch_is_mixing, (fun h => by cases h), rfl, rfl, fun h => by cases h⟩ (.cons ⟨f12, "begins", s_begins, n_begins, ["rows"], false, false, _, _, _, _, _, _, _, _, _, PySem.W.mg_of X G a12, l12, c12, k12, b12, sc_begins, ch_begins, (fun h => by cases h), rfl, rfl, fun h => by cases h⟩ (.cons ⟨f13, "endless", s_endless, n_endless, ["rows", "sign", "length"], false, false, _, _, _, _, _, _, _, _, _, PySem.W.mg_of X G a13, l13, c13, k13, b13, sc_endless, ch_endless, (fun h => by cases h), rfl, rfl, fun h => by cases h⟩ (.cons ⟨f14, "factors", s_factors, n_factors, ["rows", "length"], false, false, _, _, _, _, _, _, _, _, _, PySem.W.mg_of X G a14, l14, c14, k14, b14, sc_factors, ch_factors, (fun h => by cases h), rfl, rfl, fun h => by cases h⟩ (.cons ⟨f15, "pairs_of", s_pairs_of, n_pairs_of, ["rows"], false, false, _, _, _, _, _, _, _, _, _, PySem.W.mg_of X G a15, l15, c15, k15, b15, sc_pairs_of, ch_pairs_of, (fun h => by cases h), rfl, rfl, fun h => by cases h⟩ (.cons ⟨f16, "cuts", s_cuts, n_cuts, ["rows", "word"], false, false, _, _, _, _, _, _, _, _, _, PySem.W.mg_of X G a16, l16, c16, k16, b16, sc_cuts, ch_cuts, (fun h => by cases h), rfl, rfl, fun h => by cases h⟩ (.cons ⟨f17, "sources_of", s_sources_of, n_sources_of, ["rows", "word"], false, false, _, _, _, _, _, _, _, _, _, PySem.W.mg_of X G a17, l17, c17, k17, b17, sc_sources_of, ch_sources_of, (fun h => by cases h), rfl, rfl, fun h => by cases h⟩ (.cons ⟨f18, "mean_growth", s_mean_growth, n_mean_growth, ["rows", "many"], false, false, _, _, _, _, _, _, _, _, _, PySem.W.mg_of X G a18, l18, c18, k18, b18, sc_mean_growth, ch_mean_growth, (fun h => by cases h), rfl, rfl, fun h => by cases h⟩ (.cons ⟨f19, "check_word", s_check_word, n_check_word, ["word"], false, false, _, _, _, _, _, _, _, _, _, PySem.W.mg_of X G a19, l19, c19, k19, b19, sc_check_word, ch_check_word, (fun h => by cases h), rfl, rfl, fun h => by cases h⟩ (.cons ⟨f20, "is_balanced", s_is_balanced, n_is_balanced, ["word"], false, false, _, _, _, _, _, _, _, _, _, PySem.W.mg_of X G a20, l20, c20, k20, b20, sc_is_balanced, ch_is_balanced, (fun h => by cases h), rfl, rfl, fun h => by cases h⟩ (.cons ⟨f21, "heavy_pair", s_heavy_pair, n_heavy_pair, ["word"], false, false, _, _, _, _, _, _, _, _, _, PySem.W.mg_of X G a21, l21, c21, k21, b21, sc_heavy_pair, ch_heavy_pair, (fun h => by cases h), rfl, rfl, fun h => by cases h⟩ (.cons ⟨f22, "balanced_count", s_balanced_count, n_balanced_count, ["length"], false, false, _, _, _, _, _, _, _, _, _, PySem.W.mg_of X G a22, l22, c22, k22, b22, sc_balanced_count, ch_balanced_count, (fun h => by cases h), rfl, rfl, fun h => by cases h⟩ (.cons ⟨f23, "coprimes", s_coprimes, n_coprimes, ["number"], false, false, _, _, _, _, _, _, _, _, _, PySem.W.mg_of X G a23, l23, c23, k23, b23, sc_coprimes, ch_coprimes, (fun h => by cases h), rfl, rfl, fun h => by cases h⟩ (.cons ⟨f24, "common", s_common, n_common, ["a", "b"], false, false, _, _, _, _, _, _, _, _, _, PySem.W.mg_of X G a24, l24, c24, k24, b24, sc_common, ch_common, (fun h => by cases h), rfl, rfl, fun h => by cases h⟩ (.cons ⟨f25, "check_slope", s_check_slope, n_check_slope, ["slope"], false, false, _, _, _, _, _, _, _, _, _, PySem.W.mg_of X G a25, l25, c25, k25, b25, sc_check_slope, ch_check_slope, (fun h => by cases h), rfl, rfl, fun h => by cases h⟩ (.cons ⟨f26, "line_word", s_line_word, n_line_word, ["slope", "start", "length"], false, false, _, _, _, _, _, _, _, _, _, PySem.W.mg_of X G a26, l26, c26, k26, b26, sc_line_word, ch_line_word, (fun h => by cases h), rfl, rfl, fun h => by cases h⟩ (.cons ⟨f27, "round_of_slope", s_round_of_slope, n_round_of_slope, ["slope"], false, false, _, _, _, _, _, _, _, _, _, PySem.W.mg_of X G a27, l27, c27, k27, b27, sc_round_of_slope, ch_round_of_slope, (fun h => by cases h), rfl, rfl, fun h => by cases h⟩ (.cons ⟨f28, "slope_of", s_slope_of, n_slope_of, ["word"], false, false, _, _, _, _, _, _, _, _, _, PySem.W.mg_of X G a28, l28, c28, k28, b28, sc_slope_of, ch_slope_of, (fun h => by cases h), rfl, rfl, fun h => by cases h⟩ (.cons ⟨f29, "parts_of", s_parts_of, n_parts_of, ["slope"], false, false, _, _, _, _, _, _, _, _, _, PySem.W.mg_of X G a29, l29, c29, k29, b29, sc_parts_of, ch_parts_of, (fun h => by cases h), rfl, rfl, fun h => by cases h⟩ (.cons ⟨f30, "from_parts", s_from_parts, n_from_parts, ["row"], false, false, _, _, _, _, _, _, _, _, _, PySem.W.mg_of X G a30, l30, c30, k30, b30, sc_from_parts, ch_from_parts, (fun h => by cases h), rfl, rfl, fun h => by cases h⟩ (.cons ⟨f31, "standard", s_standard, n_standard, ["row"], false, false, _, _, _, _, _, _, _, _, _, PySem.W.mg_of X G a31, l31, c31, k31, b31, sc_standard, ch_standard, (fun h => by cases h), rfl, rfl, fun h => by cases h⟩ (.cons ⟨f32, "raised", s_raised, n_raised, ["word"], false, false, _, _, _, _, _, _, _, _, _, PySem.W.mg_of X G a32, l32, c32, k32, b32, sc_raised, ch_raised, (fun h => by cases h), rfl, rfl, fun h => by cases h⟩ (.cons ⟨f33, "lowered", s_lowered, n_lowered, ["word"], false, true, _, _, _, _, _, _, _, _, _, PySem.W.mg_of X G a33, l33, c33, k33, b33, sc_lowered, ch_lowered, (fun _ => ⟨by decide +kernel, by decide⟩), rfl, rfl, fun h => by cases h⟩ (.cons ⟨f34, "parts_count", s_parts_count, n_parts_count, ["word", "size"], false, false, _, _, _, _, _, _, _, _, _, PySem.W.mg_of X G a34, l34, c34, k34, b34, sc_parts_count, ch_parts_count, (fun h => by cases h), rfl, rfl, fun h => by cases h⟩ (.cons ⟨f35, "_law_take", s__law_take, n__law_take, ["tape", "many"], false, false, _, _, _, _, _, _, _, _, _, PySem.W.mg_of X G a35, l35, c35, k35, b35, sc__law_take, ch__law_take, (fun h => by cases h), rfl, rfl, fun h => by cases h⟩ (.cons ⟨f36, "_law_words", s__law_words, n__law_words, ["signs", "length"], false, false, _, _, _, _, _, _, _, _, _, PySem.W.mg_of X G a36, l36, c36, k36, b36, sc__law_words, ch__law_words, (fun h => by cases h), rfl, rfl, fun h => by cases h⟩ (.cons ⟨f37, "_law_common", s__law_common, n__law_common, ["a", "b"], false, false, _, _, _, _, _, _, _, _, _, PySem.W.mg_of X G a37, l37, c37, k37, b37, sc__law_common, ch__law_common, (fun h => by cases h), rfl, rfl, fun h => by cases h⟩ (.cons ⟨f38, "_law_cuts_right", s__law_cuts_right, n__law_cuts_right, ["tape", "golden", "line"], false, false, _, _, _, _, _, _, _, _, _, PySem.W.mg_of X G a38, l38, c38, k38, b38, sc__law_cuts_right, ch__law_cuts_right, (fun h => by cases h), rfl, rfl, fun h => by cases h⟩ .nil)))))))))))))))))))))))))))))))))))))))
    have M : ModAll g md dfs := modAll_of mo xo rfl hdf
    exact law_ok (g := g) (lm := false) M l39 c39 sc_law hd_law rfl (by first | exact .inl rfl | exact .inr rfl) rfl (PySem.W.mg_of X G a40) k40 b40 (tape_ok F40 sc_tape tb_tape rfl rfl rfl rfl rfl (by decide +kernel) (PySem.W.mg_none_of X G z0) (PySem.W.mg_none_of X G z5)) (by decide) ch_law (fun h => by cases h)
end LW

set_option Elab.async false
set_option linter.all false
set_option maxRecDepth 100000
set_option maxHeartbeats 2000000
namespace LW
open EV
abbrev S1 : Z := .set [1, 3] 2 (.bi .tuple [(.lc [3] (.nm 3) .range [(.o2 .add (.cst (.int 1)) (.call 35 [(.var 1), (.cst (.int 3))]))] [] (.o2 .add (.cst (.int 1)) (.call 35 [(.var 1), (.cst (.int 3))])))])
abbrev S2 : Z := .par [2] [4, 5] [(.call 31 [(.var 2)]), (.call 30 [(.var 2)])]
abbrev S3 : Z := .ifS [4, 5] (.or (.o2 .ne (.me .count (.var 4) [(.cst (.str [49]))]) (.o2 .ix (.var 5) (.cst (.int 0)))) (.o2 .ne (.bi .len [(.var 4)]) (.o2 .ix (.var 5) (.cst (.int 1))))) [.ret [] (.cst (.bl false))] []
abbrev S4 : Z := .set [] 6 (.tup [(.cst (.str [48])), (.cst (.str [48, 49]))])
abbrev S5 : Z := .set [1, 3] 7 (.me .join (.cst (.str [])) [(.lc [3] (.nm 3) .range [(.cst (.int 8))] [] (.bi .str [(.call 35 [(.var 1), (.cst (.int 2))])]))])
abbrev S6 : Z := .ifS [6, 7] (.or (.o2 .ne (.call 7 [(.var 6), (.var 7)]) (.call 32 [(.var 7)])) (.or (.o2 .ne (.call 33 [(.call 7 [(.var 6), (.var 7)])]) (.var 7)) (.and (.o2 .eq (.call 17 [(.var 6), (.sl (.call 7 [(.var 6), (.var 7)]) [] [(.cst (.int 6))])]) (.tup [])) (.o2 .eq (.sl (.sl (.call 7 [(.var 6), (.var 7)]) [] [(.cst (.int 6))]) [(.o1 .neg (.cst (.int 1)))] []) (.cst (.str [49])))))) [.ret [] (.cst (.bl false))] []
abbrev S7 : Z := .par [1] [8, 9] [(.o2 .add (.cst (.int 1)) (.call 35 [(.var 1), (.cst (.int 5))])), (.o2 .add (.cst (.int 1)) (.call 35 [(.var 1), (.cst (.int 9))]))]
abbrev S8 : Z := .set [8, 9] 10 (.call 37 [(.var 8), (.var 9)])
abbrev S9 : Z := .par [8, 9, 10] [8, 9] [(.o2 .fdiv (.var 8) (.var 10)), (.o2 .fdiv (.var 9) (.var 10))]
abbrev S10 : Z := .ifS [8, 9] (.o2 .lt (.var 8) (.var 9)) [.set [8, 9] 11 (.call 27 [(.tup [(.var 8), (.var 9)])]), .set [11] 12 (.call 32 [(.var 11)]), .ifS [8, 9, 11, 12] (.or (.o2 .ne (.call 28 [(.var 12)]) (.tup [(.var 8), (.o2 .add (.var 9) (.var 8))])) (.or (.not (.call 20 [(.var 12)])) (.not (.call 20 [(.o2 .mul (.var 11) (.cst (.int 2)))])))) [.ret [] (.cst (.bl false))] [], .set [8, 9] 13 (.call 29 [(.tup [(.var 8), (.var 9)])]), .ifS [8, 9, 11, 13] (.or (.o2 .ne (.call 29 [(.tup [(.var 8), (.o2 .add (.var 9) (.var 8))])]) (.o2 .add (.tup [(.o2 .add (.o2 .ix (.var 13) (.cst (.int 0))) (.cst (.int 1)))]) (.sl (.var 13) [(.cst (.int 1))] []))) (.o2 .ne (.call 26 [(.tup [(.var 8), (.var 9)]), (.cst (.int 0)), (.o2 .mul (.cst (.int 2)) (.var 9))]) (.o2 .mul (.var 11) (.cst (.int 2))))) [.ret [] (.cst (.bl false))] []] []
abbrev S11 : Z := .set [] 14 (.tup [(.cst (.str [48, 49])), (.cst (.str [48]))])
abbrev S12 : Z := .ifS [14] (.or (.o1 (.isb true false) (.call 11 [(.var 14)])) (.o2 .ne (.call 9 [(.var 14)]) (.tup [(.tup [(.cst (.int 1)), (.cst (.int 1))]), (.tup [(.cst (.int 1)), (.cst (.int 0))])]))) [.ret [] (.cst (.bl false))] []
abbrev S13 : Z := .par [] [15, 16] [(.cst (.str [48])), (.cst (.str [49]))]
abbrev S14 : Z := .for [] (.nm 3) .range [(.cst (.int 1)), (.cst (.int 9))] [.set [3, 14] 12 (.call 8 [(.var 14), (.cst (.str [48])), (.var 3)]), .ifS [3, 12, 14, 15, 16] (.or (.o2 .ne (.var 12) (.o2 .add (.var 15) (.ife (.o2 .gt (.var 3) (.cst (.int 1))) (.var 16) (.cst (.str [49]))))) (.o2 .ne (.call 10 [(.var 14), (.cst (.str [48])), (.var 3)]) (.tup [(.me .count (.var 12) [(.cst (.str [48]))]), (.me .count (.var 12) [(.cst (.str [49]))])]))) [.ret [] (.cst (.bl false))] [], .par [12, 15] [15, 16] [(.var 12), (.var 15)]]
abbrev S15 : Z := .set [14] 17 (.call 13 [(.var 14), (.cst (.int 0)), (.cst (.int 60))])
abbrev S16 : Z := .ifS [15, 17] (.or (.o2 .ne (.sl (.var 15) [] [(.cst (.int 55))]) (.sl (.var 17) [] [(.cst (.int 55))])) (.not (.call 20 [(.sl (.var 17) [] [(.cst (.int 40))])]))) [.ret [] (.cst (.bl false))] []
abbrev S17 : Z := .for [] (.nm 18) .range [(.cst (.int 1)), (.cst (.int 8))] [.set [14, 18] 19 (.call 14 [(.var 14), (.var 18)]), .ifS [13, 14, 18, 19] (.or (.o2 .ne (.bi .len [(.var 19)]) (.o2 .add (.var 18) (.cst (.int 1)))) (.or (.bi .any [(.lc [13] (.nm 13) .val [(.var 19)] [] (.not (.call 20 [(.var 13)])))]) (.o2 .ne (.call 34 [(.call 13 [(.var 14), (.cst (.int 0)), (.cst (.int 120))]), (.var 18)]) (.o2 .add (.var 18) (.cst (.int 1)))))) [.ret [] (.cst (.bl false))] [], .ifS [13, 19] (.bi .any [(.lc [13] (.nm 13) .val [(.var 19)] [] (.o2 .nin (.o1 .rev (.var 13)) (.var 19)))]) [.ret [] (.cst (.bl false))] []]
abbrev S18 : Z := .for [] (.nm 3) .range [(.cst (.int 1)), (.cst (.int 7))] [.set [3] 20 (.o2 .mul (.tup [(.cst (.int 1))]) (.var 3)), .set [20] 12 (.call 31 [(.o2 .add (.tup [(.cst (.int 2))]) (.var 20))]), .ifS [12, 14] (.or (.o2 .ne (.sl (.var 12) [] [(.o1 .neg (.cst (.int 2)))]) (.sl (.call 13 [(.var 14), (.cst (.int 0)), (.bi .len [(.var 12)])]) [] [(.o1 .neg (.cst (.int 2)))])) (.not (.call 20 [(.var 12)]))) [.ret [] (.cst (.bl false))] []]
abbrev S19 : Z := .set [14] 21 (.call 15 [(.var 14)])
abbrev S20 : Z := .ifS [21] (.o2 .ne (.var 21) (.tup [(.cst (.str [48, 48])), (.cst (.str [48, 49])), (.cst (.str [49, 48]))])) [.ret [] (.cst (.bl false))] []
abbrev S21 : Z := .par [14] [22, 23] [(.call 18 [(.var 14), (.cst (.int 9))]), (.call 18 [(.var 14), (.cst (.int 10))])]
abbrev S22 : Z := .ifS [22, 23] (.o2 .ne (.bi .abs [(.o2 .sub (.o2 .mul (.o2 .ix (.var 22) (.cst (.int 0))) (.o2 .ix (.var 23) (.cst (.int 1)))) (.o2 .mul (.o2 .ix (.var 23) (.cst (.int 0))) (.o2 .ix (.var 22) (.cst (.int 1)))))]) (.cst (.int 1))) [.ret [] (.cst (.bl false))] []
abbrev S23 : Z := .ret [1, 14, 17] (.call 38 [(.var 1), (.var 14), (.var 17)])
theorem z_law_eq : z_law = [S1, S2, S3, S4, S5, S6, S7, S8, S9, S10, S11, S12, S13, S14, S15, S16, S17, S18, S19, S20, S21, S22, S23] := rfl
def sh (d : D) : Option (D × Bool) := some (d, false)
abbrev inS (n : Nat) : Option (D × Bool) := sh (.int (n : Nat))
abbrev stS (w : List Nat) : Option (D × Bool) := sh (.str w)
abbrev St (x2 x3 x4 x5 x6 x7 x8 x9 x10 x11 x12 x13 x14 x15 x16 x17 x18 x19 x20 x21 x22 x23 : Option (D × Bool)) : Rho := [none, some (.tape, false), x2, x3, x4, x5, x6, x7, x8, x9, x10, x11, x12, x13, x14, x15, x16, x17, x18, x19, x20, x21, x22, x23]
abbrev M40 : Md := mdN md (lowN md dfs 40)
abbrev C40 : Cl := callN md dfs 40
abbrev gold : Option (D × Bool) := sh (.tup [.str [48, 49], .str [48]])
abbrev U1 : Z := .set [0] 3 (.call 35 [(.var 0), (.cst (.int 40))])
abbrev U2 : Z := .set [2, 3] 4 (.sl (.var 2) [(.var 3)] [(.o2 .add (.var 3) (.cst (.int 6)))])
abbrev U3 : Z := .ifS [1, 2, 4] (.or (.and (.o2 .in_ (.var 4) (.var 2)) (.o2 .lt (.bi .len [(.call 16 [(.var 1), (.var 4)])]) (.cst (.int 1)))) (.o2 .nin (.var 4) (.call 14 [(.var 1), (.cst (.int 6))]))) [.ret [] (.cst (.bl false))] []
abbrev U4 : Z := .for [1, 4] (.tp [5, 6, 7]) .val [(.call 16 [(.var 1), (.var 4)])] [.set [1, 6] 8 (.call 7 [(.var 1), (.var 6)]), .set [1, 6] 9 (.o2 .ix (.var 1) (.bi .int [(.o2 .ix (.var 6) (.o1 .neg (.cst (.int 1))))])), .set [7, 8, 9] 10 (.ife (.o2 .eq (.var 7) (.cst (.int 0))) (.bi .len [(.var 8)]) (.o2 .add (.o2 .sub (.bi .len [(.var 8)]) (.bi .len [(.var 9)])) (.var 7))), .ifS [4, 5, 8, 10] (.o2 .ne (.sl (.var 8) [(.var 5)] [(.var 10)]) (.var 4)) [.ret [] (.cst (.bl false))] []]
abbrev U5 : Z := .set [0] 11 (.call 35 [(.var 0), (.cst (.int 7))])
abbrev U6 : Z := .set [11, 13] 12 (.lc [13] (.nm 13) .val [(.call 36 [(.cst (.int 2)), (.var 11)])] [(.call 20 [(.var 13)])] (.var 13))
abbrev U7 : Z := .ifS [1, 11, 12, 13] (.or (.o2 .ne (.call 22 [(.var 11)]) (.bi .len [(.var 12)])) (.and (.o2 .gt (.var 11) (.cst (.int 0))) (.bi .any [(.lc [13] (.nm 13) .val [(.call 14 [(.var 1), (.var 11)])] [] (.o2 .nin (.var 13) (.var 12)))]))) [.ret [] (.cst (.bl false))] []
abbrev U8 : Z := .set [] 14 (.dnw false)
abbrev U9 : Z := .for [11] (.nm 15) .range [(.cst (.int 1)), (.o2 .add (.var 11) (.cst (.int 2)))] [.for [15] (.nm 16) .range [(.o2 .add (.var 15) (.cst (.int 1)))] [.ifS [15, 16] (.o2 .eq (.call 37 [(.var 16), (.var 15)]) (.cst (.int 1))) [.set [11, 15, 16] 17 (.o2 .mul (.call 27 [(.tup [(.var 16), (.var 15)])]) (.o2 .add (.var 11) (.cst (.int 1)))), .upd [11, 15, 17, 18] 14 (.dcp (.lc [18] (.nm 18) .range [(.var 15)] [] (.tup [(.sl (.var 17) [(.var 18)] [(.o2 .add (.var 18) (.var 11))]), (.cst (.bl true))])))] []]]
abbrev U10 : Z := .ret [12, 14] (.o2 .eq (.bi .sorted [(.var 14)]) (.var 12))
theorem z__law_cuts_right_eq : z__law_cuts_right = [U1, U2, U3, U4, U5, U6, U7, U8, U9, U10] := rfl
abbrev lineS : Option (D × Bool) := sh (.str [48, 49, 48, 48, 49, 48, 49, 48, 48, 49, 48, 48, 49, 48, 49, 48, 48, 49, 48, 49, 48, 48, 49, 48, 48, 49, 48, 49, 48, 48, 49, 48, 48, 49, 48, 49, 48, 48, 49, 48, 49, 48, 48, 49, 48, 48, 49, 48, 49, 48, 48, 49, 48, 49, 48, 48, 49, 48, 48, 49])
abbrev M39 : Md := mdN md (lowN md dfs 39)
abbrev C39 : Cl := callN md dfs 39
end LW

set_option Elab.async false
set_option linter.all false
set_option maxRecDepth 100000
set_option maxHeartbeats 2000000
namespace LW
open EV
theorem tr_bl (b : Bool) : trB (.bl b) = some b := rfl
theorem tr_int (i : Int) : trB (.int i) = some (i != 0) := rfl
theorem imm_RI (l : List Int) : EV.imm (RI l) = true := by
  unfold RI EV.imm
  induction l with
  | nil => rfl
  | cons x l ih => rw [List.map_cons]; unfold immL; rw [ih]; rfl
theorem imm_MI (m : List (List Int)) : EV.imm (MI m) = true := by
  unfold MI EV.imm
  induction m with
  | nil => rfl
  | cons x l ih => rw [List.map_cons]; unfold immL; rw [ih, imm_RI]; rfl
theorem cell_MI (m : List (List Int)) : isCell (MI m) = false := rfl
theorem cell_RI (m : List Int) : isCell (RI m) = false := rfl
theorem cell_lst (l : List D) : isCell (.lst l) = true := rfl
theorem cell_tup (l : List D) : isCell (.tup l) = false := rfl
theorem cell_int (i : Int) : isCell (.int i) = false := rfl
theorem cell_str (i : List Nat) : isCell (.str i) = false := rfl
theorem cell_bl (i : Bool) : isCell (.bl i) = false := rfl
theorem cell_non : isCell .non = false := rfl
theorem neg_i (a : Int) : f1 .neg (.int a) = some (.int (-a)) := rfl
theorem immL_int : ∀ l : List Int, immL (l.map D.int) = true
  | [] => rfl
  | x :: l => by rw [List.map_cons]; unfold immL; rw [immL_int l]; rfl
def Wd (w : List Nat) : Prop := ∀ c ∈ w, c = 48 ∨ c = 49
def sl (c : Nat) : D := .str [c]
theorem strs_sl : ∀ l : List Nat, strsOf (l.map sl) = some (l.map fun c => [c])
  | [] => rfl
  | c :: l => by
    show (strsOf (l.map sl)).map ([c] :: ·) = _
    rw [strs_sl l]; rfl
theorem sum_one : ∀ l : List Nat, ((l.map fun c => [c]).map (·.length)).sum = l.length
  | [] => rfl
  | c :: l => by
    have ih := sum_one l
    simp only [List.map_cons, List.sum_cons, List.length_cons, List.length_nil]
    omega
theorem join_one : ∀ l : List Nat, TL.joinL [] (l.map fun c => [c]) = l
  | [] => rfl
  | [c] => rfl
  | c :: d :: l => by
    have ih := join_one (d :: l)
    show [c] ++ ([] ++ TL.joinL [] ((d :: l).map fun c => [c])) = _
    rw [ih]; rfl
theorem join_sl {l : List Nat} (h : l.length ≤ 1000000) : joinM (.str []) [.lst (l.map sl)] = some (.str l) := by
  unfold joinM
  simp only [strs_sl]
  rw [if_pos (by rw [sum_one]; simp; exact Nat.le_trans h (by decide)), join_one]
theorem int_nat (a : Int) : intN [.int a] = some (.int a) := rfl
section
variable {o : Option Cl} {cl : Cl} {t : Tape}
theorem mul_const {a b : Int} (h : -(2 ^ 64) < b ∧ b < 2 ^ 64) : mulD (.int a) (.int b) = some (.int (a * b)) := mul_r h
theorem mod_int {a b : Int} (h : 0 < b) : modD (.int a) (.int b) = some (.int (a % b)) := by
  show (if 0 < b then some (D.int (a % b)) else none) = _
  rw [if_pos h]
theorem add_int (a b : Int) : addD (.int a) (.int b) = some (.int (a + b)) := rfl
theorem eq_int (a b : Int) : eqO (.int a) (.int b) = some (.bl (decide (a = b))) := rfl
theorem lt_int (a b : Int) : ltD (.int a) (.int b) = some (.bl (decide (a < b))) := rfl
theorem gt_int (a b : Int) : gtD (.int a) (.int b) = some (.bl (decide (a > b))) := rfl
abbrev z_take2 : List Z := z__law_take.tail
theorem take2 {m : Nat} (h0 : 0 < m) (hm : m < 1000000) (t : Tape) (hv : 0 ≤ t.at_) : ∃ d t' ρ', evSs (mdN md o) cl true z_take2 [some (.tape, false), some (.int (m : Nat), false), none, none] t = .ok (.rt (.int (d : Nat)), ρ') t' ∧ d < m ∧ 0 ≤ t'.at_ := by
  have hm0 : (0 : Int) < (m : Int) := by omega
  have dv : ∀ x : Int, fdivD (.int x) (.int (m : Nat)) = some (.int (x / (m : Int))) := fun x => by
    show (if (0 : Int) < (m : Int) ∧ (m : Int) < 1073741824 then some (D.int (x / (m : Int))) else none) = _
    rw [if_pos (by omega)]
  have nn : ∀ x : Int, ∃ d : Nat, x % (m : Int) = (d : Int) ∧ d < m := fun x => by
    have h1 := Int.emod_nonneg x (by omega : (m : Int) ≠ 0)
    have h2 := Int.emod_lt_of_pos x hm0
    exact ⟨(x % (m : Int)).toNat, by omega, by omega⟩
  by_cases hl : t.left > 0
  · obtain ⟨d, e, hd⟩ := nn t.left
    refine ⟨d, tset 1 (t.left / (m : Int)) t, [some (.tape, false), some (.int (m : Nat), false), some (.int (d : Nat), false), none], ?_, hd, hv⟩
    have g1 : gtD (.int t.left) (.int 0) = some (.bl true) := by rw [gt_int, decide_eq_true hl]
    have g2 := mod_int (a := t.left) hm0
    rw [e] at g2
    unfold z_take2 z__law_take
    simp only [List.tail_cons, evSs_cons, evSs_nil, seqB_nx, seqB_rt, seqB_bk, seqB_ct, evS_set, evS_tgt, evS_par, evS_if, evS_ret, xS_retV, evS_rz, evS_pass, evS_exp, xS_app, xS_aug, evE_var, evE_cst, evE_glo, evE_o1, evE_o2, evE_ch, evE_and, evE_or, evE_not, evE_ife, evL_nil, evL_cons, evE_tup, evE_lst, evE_sl, evE_call, evE_bi, evE_me, evT_eq, evC_nil, evC_one, evI_eq, thn_ok, thn_exc, optR_some, chK_t, chK_f, trK_t, trK_f, nox_ok, ifM_t, nxO_some, o2R_some, isLst, isSh, isAny, nth, vw_cons, vwA, vw1, inM, f1, f2, fB, fM, kM, frE, aft, aftA, immA, immR, EV.imm, immL, immK, isCell, setAllO, tgR, tgV, tgSlots, setAllR, trB, List.set, List.map, xE_tf, isTape, tfld, int_nat, xS_tw, intO_int, g1, g2, dv, if_true, Bool.not_true, Bool.not_false, Bool.false_eq_true, if_false, Bool.true_and, Bool.and_true, Bool.false_and, Bool.and_false, Bool.or_true, Bool.true_or, Bool.or_false, Bool.false_or, Nat.beq, cond_true, cond_false]
  · obtain ⟨d, e, hd⟩ := nn ((((t.seed * 48271 + (t.salt + 1) * 69621) % 2147483647) * ((t.seed * 48271 + (t.salt + 1) * 69621) % 2147483647) + (t.salt + 1) * 40692 + 12345) % 2147483399)
    refine ⟨d, tset 3 (t.salt + 1) t, [some (.tape, false), some (.int (m : Nat), false), none, some (.int ((((t.seed * 48271 + (t.salt + 1) * 69621) % 2147483647) * ((t.seed * 48271 + (t.salt + 1) * 69621) % 2147483647) + (t.salt + 1) * 40692 + 12345) % 2147483399), false)], ?_, hd, hv⟩
    have g1 : gtD (.int t.left) (.int 0) = some (.bl false) := by rw [gt_int, decide_eq_false hl]
    have g2 := mod_int (a := (((t.seed * 48271 + (t.salt + 1) * 69621) % 2147483647) * ((t.seed * 48271 + (t.salt + 1) * 69621) % 2147483647) + (t.salt + 1) * 40692 + 12345) % 2147483399) hm0
    rw [e] at g2
    have g3 : ∀ x : Int, modD (.int x) (.int 2147483647) = some (.int (x % 2147483647)) := fun x => mod_int (by decide)
    have g4 : ∀ x : Int, modD (.int x) (.int 2147483399) = some (.int (x % 2147483399)) := fun x => mod_int (by decide)
    have g5 : ∀ x : Int, mulD (.int x) (.int 48271) = some (.int (x * 48271)) := fun x => mul_const (by decide)
    have g6 : ∀ x : Int, mulD (.int x) (.int 69621) = some (.int (x * 69621)) := fun x => mul_const (by decide)
    have g7 : ∀ x : Int, mulD (.int x) (.int 40692) = some (.int (x * 40692)) := fun x => mul_const (by decide)
    have g8 : ∀ x : Int, mulD (.int (x % 2147483647)) (.int (x % 2147483647)) = some (.int (x % 2147483647 * (x % 2147483647))) := fun x => mul_const (by
      have h1 := Int.emod_nonneg x (by decide : (2147483647 : Int) ≠ 0)
      have h2 := Int.emod_lt_of_pos x (by decide : (0 : Int) < 2147483647)
      omega)
    unfold z_take2 z__law_take
    simp only [List.tail_cons, evSs_cons, evSs_nil, seqB_nx, seqB_rt, seqB_bk, seqB_ct, evS_set, evS_tgt, evS_par, evS_if, evS_ret, xS_retV, evS_rz, evS_pass, evS_exp, xS_app, xS_aug, evE_var, evE_cst, evE_glo, evE_o1, evE_o2, evE_ch, evE_and, evE_or, evE_not, evE_ife, evL_nil, evL_cons, evE_tup, evE_lst, evE_sl, evE_call, evE_bi, evE_me, evT_eq, evC_nil, evC_one, evI_eq, thn_ok, thn_exc, optR_some, chK_t, chK_f, trK_t, trK_f, nox_ok, ifM_t, nxO_some, o2R_some, isLst, isSh, isAny, nth, vw_cons, vwA, vw1, inM, f1, f2, fB, fM, kM, frE, aft, aftA, immA, immR, EV.imm, immL, immK, isCell, setAllO, tgR, tgV, tgSlots, setAllR, trB, List.set, List.map, xE_tf, isTape, tfld, tset, int_nat, xS_tw, intO_int, add_int, g1, g2, g3, g4, g5, g6, g7, g8, if_true, Bool.not_true, Bool.not_false, Bool.false_eq_true, if_false, Bool.true_and, Bool.and_true, Bool.false_and, Bool.and_false, Bool.or_true, Bool.true_or, Bool.or_false, Bool.false_or, Nat.beq, cond_true, cond_false]
theorem take_ok {m : Nat} (h0 : 0 < m) (hm : m < 1000000) (t : Tape) (hv : 0 ≤ t.at_) : ∃ d t', evF (mdN md o) cl 2 4 true z__law_take [.tape, .int (m : Nat)] t = .ok (.int (d : Nat)) t' ∧ d < m ∧ 0 ≤ t'.at_ := by
  have r0 : rho0 [.tape, .int (m : Nat)] 4 = [some (.tape, false), some (.int (m : Nat), false), none, none] := rfl
  have key : ∃ t1, evSs (mdN md o) cl true z__law_take [some (.tape, false), some (.int (m : Nat), false), none, none] t = evSs (mdN md o) cl true z_take2 [some (.tape, false), some (.int (m : Nat), false), none, none] t1 ∧ 0 ≤ t1.at_ := by
    by_cases h1 : t.left = 0
    · by_cases h2 : t.at_ < (t.cells.length : Nat)
      · have hi : t.at_.toNat < t.cells.length := by omega
        have e1 : t.at_ = ((t.at_.toNat : Nat) : Int) := by omega
        have g3 : L2.atI t.cells t.at_ = some (t.cells[t.at_.toNat]'hi) := by
          conv => lhs; rw [e1]
          exact atI_nat hi
        refine ⟨tset 0 (t.at_ + 1) (tset 1 (t.cells[t.at_.toNat]'hi) t), ss_nx ?_, by show 0 ≤ t.at_ + 1; omega⟩
        have g1 : eqO (.int t.left) (.int 0) = some (.bl true) := by rw [eq_int, decide_eq_true h1]
        have g2 : ltD (.int t.at_) (.int (t.cells.length : Nat)) = some (.bl true) := by rw [lt_int, decide_eq_true h2]
        simp only [evSs_cons, evSs_nil, seqB_nx, seqB_rt, seqB_bk, seqB_ct, evS_set, evS_tgt, evS_par, evS_if, evS_ret, xS_retV, evS_rz, evS_pass, evS_exp, xS_app, xS_aug, evE_var, evE_cst, evE_glo, evE_o1, evE_o2, evE_ch, evE_and, evE_or, evE_not, evE_ife, evL_nil, evL_cons, evE_tup, evE_lst, evE_sl, evE_call, evE_bi, evE_me, evT_eq, evC_nil, evC_one, evI_eq, thn_ok, thn_exc, optR_some, chK_t, chK_f, trK_t, trK_f, nox_ok, ifM_t, nxO_some, o2R_some, isLst, isSh, isAny, nth, vw_cons, vwA, vw1, inM, f1, f2, fB, fM, kM, frE, aft, aftA, immA, immR, EV.imm, immL, immK, isCell, setAllO, tgR, tgV, tgSlots, setAllR, trB, List.set, List.map, xE_tf, xE_tln, xE_tci, tciR, Option.map, isTape, tfld, tset, xS_tw, intO_int, add_int, g1, g2, g3, if_true, Bool.not_true, Bool.not_false, Bool.false_eq_true, if_false, Bool.true_and, Bool.and_true, Bool.false_and, Bool.and_false, Bool.or_true, Bool.true_or, Bool.or_false, Bool.false_or, Nat.beq, cond_true, cond_false]
      · refine ⟨t, ss_nx ?_, hv⟩
        have g1 : eqO (.int t.left) (.int 0) = some (.bl true) := by rw [eq_int, decide_eq_true h1]
        have g2 : ltD (.int t.at_) (.int (t.cells.length : Nat)) = some (.bl false) := by rw [lt_int, decide_eq_false h2]
        simp only [evSs_cons, evSs_nil, seqB_nx, seqB_rt, seqB_bk, seqB_ct, evS_set, evS_tgt, evS_par, evS_if, evS_ret, xS_retV, evS_rz, evS_pass, evS_exp, xS_app, xS_aug, evE_var, evE_cst, evE_glo, evE_o1, evE_o2, evE_ch, evE_and, evE_or, evE_not, evE_ife, evL_nil, evL_cons, evE_tup, evE_lst, evE_sl, evE_call, evE_bi, evE_me, evT_eq, evC_nil, evC_one, evI_eq, thn_ok, thn_exc, optR_some, chK_t, chK_f, trK_t, trK_f, nox_ok, ifM_t, nxO_some, o2R_some, isLst, isSh, isAny, nth, vw_cons, vwA, vw1, inM, f1, f2, fB, fM, kM, frE, aft, aftA, immA, immR, EV.imm, immL, immK, isCell, setAllO, tgR, tgV, tgSlots, setAllR, trB, List.set, List.map, xE_tf, xE_tln, isTape, tfld, g1, g2, if_true, Bool.not_true, Bool.not_false, Bool.false_eq_true, if_false, Bool.true_and, Bool.and_true, Bool.false_and, Bool.and_false, Bool.or_true, Bool.true_or, Bool.or_false, Bool.false_or, Nat.beq, cond_true, cond_false]
    · refine ⟨t, ss_nx ?_, hv⟩
      have g1 : eqO (.int t.left) (.int 0) = some (.bl false) := by rw [eq_int, decide_eq_false h1]
      simp only [evSs_cons, evSs_nil, seqB_nx, seqB_rt, seqB_bk, seqB_ct, evS_set, evS_tgt, evS_par, evS_if, evS_ret, xS_retV, evS_rz, evS_pass, evS_exp, xS_app, xS_aug, evE_var, evE_cst, evE_glo, evE_o1, evE_o2, evE_ch, evE_and, evE_or, evE_not, evE_ife, evL_nil, evL_cons, evE_tup, evE_lst, evE_sl, evE_call, evE_bi, evE_me, evT_eq, evC_nil, evC_one, evI_eq, thn_ok, thn_exc, optR_some, chK_t, chK_f, trK_t, trK_f, nox_ok, ifM_t, nxO_some, o2R_some, isLst, isSh, isAny, nth, vw_cons, vwA, vw1, inM, f1, f2, fB, fM, kM, frE, aft, aftA, immA, immR, EV.imm, immL, immK, isCell, setAllO, tgR, tgV, tgSlots, setAllR, trB, List.set, List.map, xE_tf, xE_tln, isTape, tfld, g1, if_true, Bool.not_true, Bool.not_false, Bool.false_eq_true, if_false, Bool.true_and, Bool.and_true, Bool.false_and, Bool.and_false, Bool.or_true, Bool.true_or, Bool.or_false, Bool.false_or, Nat.beq, cond_true, cond_false]
  obtain ⟨t1, e, hv1⟩ := key
  obtain ⟨d, t', ρ', h, hd, hv'⟩ := take2 (o := o) (cl := cl) h0 hm t1 hv1
  refine ⟨d, t', ?_, hd, hv'⟩
  rw [evF_eq (np := 2) rfl, r0, e, h]
  simp only [thn_ok, retR_rt]
end
def Dr (cl : Cl) : Prop := ∀ (m : Nat) t, 0 < m → m < 1000000 → 0 ≤ t.at_ → ∃ (d : Nat) (t' : Tape), cl 35 [.tape, .int (m : Nat)] t = .ok (.int (d : Nat)) t' ∧ d < m ∧ 0 ≤ t'.at_
section
variable {o : Option Cl} {cl : Cl} {t : Tape}
theorem aft_imm {fr : Bool} {m : List Nat} {d : D} {ρ : Rho} (h : EV.imm d = true) : aft fr m d ρ = ρ := by
  unfold aft immR; rw [h]; cases fr <;> rfl
theorem nth_set_ne {α : Type} {l : List α} {i j : Nat} {a : α} (h : i ≠ j) : nth (l.set i a) j = nth l j := by
  rw [nth_eq, nth_eq, List.getElem?_set_ne h]
theorem nth_set_self {α : Type} {l : List α} {i : Nat} {a : α} (h : i < l.length) : nth (l.set i a) i = some a := by
  rw [nth_eq, List.getElem?_set_self h]
theorem lc_some {f : D → M (Option D)} {x d : D} {xs ys : List D} {t1 t2 : Tape} (h : f x t = .ok (some d) t1) (h2 : lcRun f xs t1 = .ok ys t2) : lcRun f (x :: xs) t = .ok (d :: ys) t2 := by
  unfold lcRun
  simp only [bnd, h, h2, ret]
theorem lc_none {f : D → M (Option D)} {x : D} {xs ys : List D} {t1 t2 : Tape} (h : f x t = .ok none t1) (h2 : lcRun f xs t1 = .ok ys t2) : lcRun f (x :: xs) t = .ok ys t2 := by
  unfold lcRun
  simp only [bnd, h, h2, ret]
def Tp (ρ : List (Option D)) : Prop := nth ρ 1 = some (some .tape)
theorem Tp.set {ρ : List (Option D)} (h : Tp ρ) {i : Nat} {a : Option D} (hi : i ≠ 1) : Tp (ρ.set i a) := by
  unfold Tp; rw [nth_set_ne hi]; exact h
theorem tk (hd : Dr cl) {m : Nat} (h0 : 0 < m) (hm : m < 1000000) (t : Tape) (hv : 0 ≤ t.at_) : ∃ (d : Nat) (t' : Tape), (∀ ρ, Tp ρ → evE (mdN md o) cl (.call 35 [(.var 1), (.cst (.int (m : Nat)))]) ρ t = .ok (.int (d : Nat)) t') ∧ d < m ∧ 0 ≤ t'.at_ := by
  obtain ⟨d, t', e, h, hv'⟩ := hd m t h0 hm hv
  refine ⟨d, t', fun ρ hp => ?_, h, hv'⟩
  have hp : nth ρ 1 = some (some .tape) := hp
  simp only [evE_call, evL_cons, evL_nil, evE_var, evE_cst, hp, thn_ok, e]
theorem wipe_one (ρ : List (Option D)) (v : Nat) : wipeD ρ [v] = ρ.set v none := rfl
theorem rng_len (n : Nat) : ((List.range n).map fun k => D.int (k : Nat)).length = n := by simp
theorem set_sh {ff : Bool} {m : List Nat} {i : Nat} {e : E} {d : D} {ρ : Rho} {t t1 : Tape} (h : evE (mdN md o) cl e (vw m ρ) t = .ok d t1) (hi : EV.imm d = true) (hc : isCell d = false) : evS (mdN md o) cl ff (.set m i e) ρ t = .ok (.nx, ρ.set i (sh d)) t1 := by
  rw [evS_set, h, thn_ok, aft_imm hi, hc, Bool.and_false]; rfl

theorem bit_str {d : Nat} (h : d < 2) : strN [.int (d : Nat)] = some (sl (48 + d)) := by
  rcases (by omega : d = 0 ∨ d = 1) with rfl | rfl <;> rfl
theorem bitsLc (hd : Dr cl) : ∀ (xs : List D) (t : Tape), 0 ≤ t.at_ → ∃ (l : List Nat) (t' : Tape), (∀ ρ, Tp ρ → lcRun (lcF (mdN md o) cl [3] (.nm 3) [] (.bi .str [(.call 35 [(.var 1), (.cst (.int 2))])]) ρ) xs t = .ok (l.map sl) t') ∧ l.length = xs.length ∧ Wd l ∧ 0 ≤ t'.at_
  | [], t, hv => ⟨[], t, fun ρ hp => rfl, rfl, (fun c hc => by cases hc), hv⟩
  | x :: xs, t, hv => by
    obtain ⟨d, t1, e1, hy, hv1'⟩ := tk (o := o) hd (m := 2) (by omega) (by omega) t hv
    obtain ⟨l, t2, e2, hl, hm2, hv2⟩ := bitsLc hd xs t1 hv1'
    refine ⟨(48 + d) :: l, t2, fun ρ hp => ?_, by simp [hl], fun z hz => ?_, hv2⟩
    · rw [List.map_cons]
      refine lc_some ?_ (e2 ρ hp)
      have e3 : evE (mdN md o) cl (.call 35 [(.var 1), (.cst (.int 2))]) ((wipeD ρ [3]).set 3 (some x)) t = .ok (.int (d : Nat)) t1 := e1 _ (by rw [wipe_one]; exact (hp.set (by omega)).set (by omega))
      have e4 := bit_str hy
      simp only [lcF_eq, tgD, evC_nil, nox_ok, thn_ok, if_true, evE_bi, evL_cons, evL_nil, e3, fB, e4, optR_some]
    · rcases List.mem_cons.mp hz with rfl | h
      · omega
      · exact hm2 z h
end
end LW

set_option Elab.async false
set_option linter.all false
set_option maxRecDepth 100000
set_option maxHeartbeats 4000000
namespace LW
open EV
section
variable (t : Tape) (x2 x3 x4 x5 x6 x7 x8 x9 x10 x11 x12 x13 x14 x15 x16 x17 x18 x19 x20 x21 x22 x23 : Option (D × Bool))
theorem s4_ok : evS M40 C40 false S4 (St x2 x3 x4 x5 x6 x7 x8 x9 x10 x11 x12 x13 x14 x15 x16 x17 x18 x19 x20 x21 x22 x23) t = .ok (.nx, St x2 x3 x4 x5 (sh (.tup [(.str [48]), (.str [48, 49])])) x7 x8 x9 x10 x11 x12 x13 x14 x15 x16 x17 x18 x19 x20 x21 x22 x23) t := by kernel_rfl
theorem s11_ok : evS M40 C40 false S11 (St x2 x3 x4 x5 x6 x7 x8 x9 x10 x11 x12 x13 x14 x15 x16 x17 x18 x19 x20 x21 x22 x23) t = .ok (.nx, St x2 x3 x4 x5 x6 x7 x8 x9 x10 x11 x12 x13 (sh (.tup [(.str [48, 49]), (.str [48])])) x15 x16 x17 x18 x19 x20 x21 x22 x23) t := by kernel_rfl
theorem s12_ok : evS M40 C40 false S12 (St x2 x3 x4 x5 x6 x7 x8 x9 x10 x11 x12 x13 (sh (.tup [(.str [48, 49]), (.str [48])])) x15 x16 x17 x18 x19 x20 x21 x22 x23) t = .ok (.nx, St x2 x3 x4 x5 x6 x7 x8 x9 x10 x11 x12 x13 (sh (.tup [(.str [48, 49]), (.str [48])])) x15 x16 x17 x18 x19 x20 x21 x22 x23) t := by kernel_rfl
theorem s13_ok : evS M40 C40 false S13 (St x2 x3 x4 x5 x6 x7 x8 x9 x10 x11 x12 x13 (sh (.tup [(.str [48, 49]), (.str [48])])) x15 x16 x17 x18 x19 x20 x21 x22 x23) t = .ok (.nx, St x2 x3 x4 x5 x6 x7 x8 x9 x10 x11 x12 x13 (sh (.tup [(.str [48, 49]), (.str [48])])) (sh (.str [48])) (sh (.str [49])) x17 x18 x19 x20 x21 x22 x23) t := by kernel_rfl
theorem s14_ok : evS M40 C40 false S14 (St x2 x3 x4 x5 x6 x7 x8 x9 x10 x11 x12 x13 (sh (.tup [(.str [48, 49]), (.str [48])])) (sh (.str [48])) (sh (.str [49])) x17 x18 x19 x20 x21 x22 x23) t = .ok (.nx, St x2 (sh (.int (8))) x4 x5 x6 x7 x8 x9 x10 x11 (sh (.str [48, 49, 48, 48, 49, 48, 49, 48, 48, 49, 48, 48, 49, 48, 49, 48, 48, 49, 48, 49, 48, 48, 49, 48, 48, 49, 48, 49, 48, 48, 49, 48, 48, 49, 48, 49, 48, 48, 49, 48, 49, 48, 48, 49, 48, 48, 49, 48, 49, 48, 48, 49, 48, 49, 48])) x13 (sh (.tup [(.str [48, 49]), (.str [48])])) (sh (.str [48, 49, 48, 48, 49, 48, 49, 48, 48, 49, 48, 48, 49, 48, 49, 48, 48, 49, 48, 49, 48, 48, 49, 48, 48, 49, 48, 49, 48, 48, 49, 48, 48, 49, 48, 49, 48, 48, 49, 48, 49, 48, 48, 49, 48, 48, 49, 48, 49, 48, 48, 49, 48, 49, 48])) (sh (.str [48, 49, 48, 48, 49, 48, 49, 48, 48, 49, 48, 48, 49, 48, 49, 48, 48, 49, 48, 49, 48, 48, 49, 48, 48, 49, 48, 49, 48, 48, 49, 48, 48, 49])) x17 x18 x19 x20 x21 x22 x23) t := by kernel_rfl
theorem s15_ok : evS M40 C40 false S15 (St x2 (sh (.int (8))) x4 x5 x6 x7 x8 x9 x10 x11 (sh (.str [48, 49, 48, 48, 49, 48, 49, 48, 48, 49, 48, 48, 49, 48, 49, 48, 48, 49, 48, 49, 48, 48, 49, 48, 48, 49, 48, 49, 48, 48, 49, 48, 48, 49, 48, 49, 48, 48, 49, 48, 49, 48, 48, 49, 48, 48, 49, 48, 49, 48, 48, 49, 48, 49, 48])) x13 (sh (.tup [(.str [48, 49]), (.str [48])])) (sh (.str [48, 49, 48, 48, 49, 48, 49, 48, 48, 49, 48, 48, 49, 48, 49, 48, 48, 49, 48, 49, 48, 48, 49, 48, 48, 49, 48, 49, 48, 48, 49, 48, 48, 49, 48, 49, 48, 48, 49, 48, 49, 48, 48, 49, 48, 48, 49, 48, 49, 48, 48, 49, 48, 49, 48])) (sh (.str [48, 49, 48, 48, 49, 48, 49, 48, 48, 49, 48, 48, 49, 48, 49, 48, 48, 49, 48, 49, 48, 48, 49, 48, 48, 49, 48, 49, 48, 48, 49, 48, 48, 49])) x17 x18 x19 x20 x21 x22 x23) t = .ok (.nx, St x2 (sh (.int (8))) x4 x5 x6 x7 x8 x9 x10 x11 (sh (.str [48, 49, 48, 48, 49, 48, 49, 48, 48, 49, 48, 48, 49, 48, 49, 48, 48, 49, 48, 49, 48, 48, 49, 48, 48, 49, 48, 49, 48, 48, 49, 48, 48, 49, 48, 49, 48, 48, 49, 48, 49, 48, 48, 49, 48, 48, 49, 48, 49, 48, 48, 49, 48, 49, 48])) x13 (sh (.tup [(.str [48, 49]), (.str [48])])) (sh (.str [48, 49, 48, 48, 49, 48, 49, 48, 48, 49, 48, 48, 49, 48, 49, 48, 48, 49, 48, 49, 48, 48, 49, 48, 48, 49, 48, 49, 48, 48, 49, 48, 48, 49, 48, 49, 48, 48, 49, 48, 49, 48, 48, 49, 48, 48, 49, 48, 49, 48, 48, 49, 48, 49, 48])) (sh (.str [48, 49, 48, 48, 49, 48, 49, 48, 48, 49, 48, 48, 49, 48, 49, 48, 48, 49, 48, 49, 48, 48, 49, 48, 48, 49, 48, 49, 48, 48, 49, 48, 48, 49])) (sh (.str [48, 49, 48, 48, 49, 48, 49, 48, 48, 49, 48, 48, 49, 48, 49, 48, 48, 49, 48, 49, 48, 48, 49, 48, 48, 49, 48, 49, 48, 48, 49, 48, 48, 49, 48, 49, 48, 48, 49, 48, 49, 48, 48, 49, 48, 48, 49, 48, 49, 48, 48, 49, 48, 49, 48, 48, 49, 48, 48, 49])) x18 x19 x20 x21 x22 x23) t := by kernel_rfl
theorem s16_ok : evS M40 C40 false S16 (St x2 (sh (.int (8))) x4 x5 x6 x7 x8 x9 x10 x11 (sh (.str [48, 49, 48, 48, 49, 48, 49, 48, 48, 49, 48, 48, 49, 48, 49, 48, 48, 49, 48, 49, 48, 48, 49, 48, 48, 49, 48, 49, 48, 48, 49, 48, 48, 49, 48, 49, 48, 48, 49, 48, 49, 48, 48, 49, 48, 48, 49, 48, 49, 48, 48, 49, 48, 49, 48])) x13 (sh (.tup [(.str [48, 49]), (.str [48])])) (sh (.str [48, 49, 48, 48, 49, 48, 49, 48, 48, 49, 48, 48, 49, 48, 49, 48, 48, 49, 48, 49, 48, 48, 49, 48, 48, 49, 48, 49, 48, 48, 49, 48, 48, 49, 48, 49, 48, 48, 49, 48, 49, 48, 48, 49, 48, 48, 49, 48, 49, 48, 48, 49, 48, 49, 48])) (sh (.str [48, 49, 48, 48, 49, 48, 49, 48, 48, 49, 48, 48, 49, 48, 49, 48, 48, 49, 48, 49, 48, 48, 49, 48, 48, 49, 48, 49, 48, 48, 49, 48, 48, 49])) (sh (.str [48, 49, 48, 48, 49, 48, 49, 48, 48, 49, 48, 48, 49, 48, 49, 48, 48, 49, 48, 49, 48, 48, 49, 48, 48, 49, 48, 49, 48, 48, 49, 48, 48, 49, 48, 49, 48, 48, 49, 48, 49, 48, 48, 49, 48, 48, 49, 48, 49, 48, 48, 49, 48, 49, 48, 48, 49, 48, 48, 49])) x18 x19 x20 x21 x22 x23) t = .ok (.nx, St x2 (sh (.int (8))) x4 x5 x6 x7 x8 x9 x10 x11 (sh (.str [48, 49, 48, 48, 49, 48, 49, 48, 48, 49, 48, 48, 49, 48, 49, 48, 48, 49, 48, 49, 48, 48, 49, 48, 48, 49, 48, 49, 48, 48, 49, 48, 48, 49, 48, 49, 48, 48, 49, 48, 49, 48, 48, 49, 48, 48, 49, 48, 49, 48, 48, 49, 48, 49, 48])) x13 (sh (.tup [(.str [48, 49]), (.str [48])])) (sh (.str [48, 49, 48, 48, 49, 48, 49, 48, 48, 49, 48, 48, 49, 48, 49, 48, 48, 49, 48, 49, 48, 48, 49, 48, 48, 49, 48, 49, 48, 48, 49, 48, 48, 49, 48, 49, 48, 48, 49, 48, 49, 48, 48, 49, 48, 48, 49, 48, 49, 48, 48, 49, 48, 49, 48])) (sh (.str [48, 49, 48, 48, 49, 48, 49, 48, 48, 49, 48, 48, 49, 48, 49, 48, 48, 49, 48, 49, 48, 48, 49, 48, 48, 49, 48, 49, 48, 48, 49, 48, 48, 49])) (sh (.str [48, 49, 48, 48, 49, 48, 49, 48, 48, 49, 48, 48, 49, 48, 49, 48, 48, 49, 48, 49, 48, 48, 49, 48, 48, 49, 48, 49, 48, 48, 49, 48, 48, 49, 48, 49, 48, 48, 49, 48, 49, 48, 48, 49, 48, 48, 49, 48, 49, 48, 48, 49, 48, 49, 48, 48, 49, 48, 48, 49])) x18 x19 x20 x21 x22 x23) t := by kernel_rfl
theorem s17_ok : evS M40 C40 false S17 (St x2 (sh (.int (8))) x4 x5 x6 x7 x8 x9 x10 x11 (sh (.str [48, 49, 48, 48, 49, 48, 49, 48, 48, 49, 48, 48, 49, 48, 49, 48, 48, 49, 48, 49, 48, 48, 49, 48, 48, 49, 48, 49, 48, 48, 49, 48, 48, 49, 48, 49, 48, 48, 49, 48, 49, 48, 48, 49, 48, 48, 49, 48, 49, 48, 48, 49, 48, 49, 48])) x13 (sh (.tup [(.str [48, 49]), (.str [48])])) (sh (.str [48, 49, 48, 48, 49, 48, 49, 48, 48, 49, 48, 48, 49, 48, 49, 48, 48, 49, 48, 49, 48, 48, 49, 48, 48, 49, 48, 49, 48, 48, 49, 48, 48, 49, 48, 49, 48, 48, 49, 48, 49, 48, 48, 49, 48, 48, 49, 48, 49, 48, 48, 49, 48, 49, 48])) (sh (.str [48, 49, 48, 48, 49, 48, 49, 48, 48, 49, 48, 48, 49, 48, 49, 48, 48, 49, 48, 49, 48, 48, 49, 48, 48, 49, 48, 49, 48, 48, 49, 48, 48, 49])) (sh (.str [48, 49, 48, 48, 49, 48, 49, 48, 48, 49, 48, 48, 49, 48, 49, 48, 48, 49, 48, 49, 48, 48, 49, 48, 48, 49, 48, 49, 48, 48, 49, 48, 48, 49, 48, 49, 48, 48, 49, 48, 49, 48, 48, 49, 48, 48, 49, 48, 49, 48, 48, 49, 48, 49, 48, 48, 49, 48, 48, 49])) x18 x19 x20 x21 x22 x23) t = .ok (.nx, St x2 (sh (.int (8))) x4 x5 x6 x7 x8 x9 x10 x11 (sh (.str [48, 49, 48, 48, 49, 48, 49, 48, 48, 49, 48, 48, 49, 48, 49, 48, 48, 49, 48, 49, 48, 48, 49, 48, 48, 49, 48, 49, 48, 48, 49, 48, 48, 49, 48, 49, 48, 48, 49, 48, 49, 48, 48, 49, 48, 48, 49, 48, 49, 48, 48, 49, 48, 49, 48])) x13 (sh (.tup [(.str [48, 49]), (.str [48])])) (sh (.str [48, 49, 48, 48, 49, 48, 49, 48, 48, 49, 48, 48, 49, 48, 49, 48, 48, 49, 48, 49, 48, 48, 49, 48, 48, 49, 48, 49, 48, 48, 49, 48, 48, 49, 48, 49, 48, 48, 49, 48, 49, 48, 48, 49, 48, 48, 49, 48, 49, 48, 48, 49, 48, 49, 48])) (sh (.str [48, 49, 48, 48, 49, 48, 49, 48, 48, 49, 48, 48, 49, 48, 49, 48, 48, 49, 48, 49, 48, 48, 49, 48, 48, 49, 48, 49, 48, 48, 49, 48, 48, 49])) (sh (.str [48, 49, 48, 48, 49, 48, 49, 48, 48, 49, 48, 48, 49, 48, 49, 48, 48, 49, 48, 49, 48, 48, 49, 48, 48, 49, 48, 49, 48, 48, 49, 48, 48, 49, 48, 49, 48, 48, 49, 48, 49, 48, 48, 49, 48, 48, 49, 48, 49, 48, 48, 49, 48, 49, 48, 48, 49, 48, 48, 49])) (sh (.int (7))) (sh (.tup [(.str [48, 48, 49, 48, 48, 49, 48]), (.str [48, 48, 49, 48, 49, 48, 48]), (.str [48, 49, 48, 48, 49, 48, 48]), (.str [48, 49, 48, 48, 49, 48, 49]), (.str [48, 49, 48, 49, 48, 48, 49]), (.str [49, 48, 48, 49, 48, 48, 49]), (.str [49, 48, 48, 49, 48, 49, 48]), (.str [49, 48, 49, 48, 48, 49, 48])])) x20 x21 x22 x23) t := by kernel_rfl
theorem s18_ok : evS M40 C40 false S18 (St x2 (sh (.int (8))) x4 x5 x6 x7 x8 x9 x10 x11 (sh (.str [48, 49, 48, 48, 49, 48, 49, 48, 48, 49, 48, 48, 49, 48, 49, 48, 48, 49, 48, 49, 48, 48, 49, 48, 48, 49, 48, 49, 48, 48, 49, 48, 48, 49, 48, 49, 48, 48, 49, 48, 49, 48, 48, 49, 48, 48, 49, 48, 49, 48, 48, 49, 48, 49, 48])) x13 (sh (.tup [(.str [48, 49]), (.str [48])])) (sh (.str [48, 49, 48, 48, 49, 48, 49, 48, 48, 49, 48, 48, 49, 48, 49, 48, 48, 49, 48, 49, 48, 48, 49, 48, 48, 49, 48, 49, 48, 48, 49, 48, 48, 49, 48, 49, 48, 48, 49, 48, 49, 48, 48, 49, 48, 48, 49, 48, 49, 48, 48, 49, 48, 49, 48])) (sh (.str [48, 49, 48, 48, 49, 48, 49, 48, 48, 49, 48, 48, 49, 48, 49, 48, 48, 49, 48, 49, 48, 48, 49, 48, 48, 49, 48, 49, 48, 48, 49, 48, 48, 49])) (sh (.str [48, 49, 48, 48, 49, 48, 49, 48, 48, 49, 48, 48, 49, 48, 49, 48, 48, 49, 48, 49, 48, 48, 49, 48, 48, 49, 48, 49, 48, 48, 49, 48, 48, 49, 48, 49, 48, 48, 49, 48, 49, 48, 48, 49, 48, 48, 49, 48, 49, 48, 48, 49, 48, 49, 48, 48, 49, 48, 48, 49])) (sh (.int (7))) (sh (.tup [(.str [48, 48, 49, 48, 48, 49, 48]), (.str [48, 48, 49, 48, 49, 48, 48]), (.str [48, 49, 48, 48, 49, 48, 48]), (.str [48, 49, 48, 48, 49, 48, 49]), (.str [48, 49, 48, 49, 48, 48, 49]), (.str [49, 48, 48, 49, 48, 48, 49]), (.str [49, 48, 48, 49, 48, 49, 48]), (.str [49, 48, 49, 48, 48, 49, 48])])) x20 x21 x22 x23) t = .ok (.nx, St x2 (sh (.int (6))) x4 x5 x6 x7 x8 x9 x10 x11 (sh (.str [48, 49, 48, 48, 49, 48, 49, 48, 48, 49, 48, 48, 49, 48, 49, 48, 48, 49, 48, 49, 48, 48, 49, 48, 48, 49, 48, 49, 48, 48, 49, 48, 48, 49])) x13 (sh (.tup [(.str [48, 49]), (.str [48])])) (sh (.str [48, 49, 48, 48, 49, 48, 49, 48, 48, 49, 48, 48, 49, 48, 49, 48, 48, 49, 48, 49, 48, 48, 49, 48, 48, 49, 48, 49, 48, 48, 49, 48, 48, 49, 48, 49, 48, 48, 49, 48, 49, 48, 48, 49, 48, 48, 49, 48, 49, 48, 48, 49, 48, 49, 48])) (sh (.str [48, 49, 48, 48, 49, 48, 49, 48, 48, 49, 48, 48, 49, 48, 49, 48, 48, 49, 48, 49, 48, 48, 49, 48, 48, 49, 48, 49, 48, 48, 49, 48, 48, 49])) (sh (.str [48, 49, 48, 48, 49, 48, 49, 48, 48, 49, 48, 48, 49, 48, 49, 48, 48, 49, 48, 49, 48, 48, 49, 48, 48, 49, 48, 49, 48, 48, 49, 48, 48, 49, 48, 49, 48, 48, 49, 48, 49, 48, 48, 49, 48, 48, 49, 48, 49, 48, 48, 49, 48, 49, 48, 48, 49, 48, 48, 49])) (sh (.int (7))) (sh (.tup [(.str [48, 48, 49, 48, 48, 49, 48]), (.str [48, 48, 49, 48, 49, 48, 48]), (.str [48, 49, 48, 48, 49, 48, 48]), (.str [48, 49, 48, 48, 49, 48, 49]), (.str [48, 49, 48, 49, 48, 48, 49]), (.str [49, 48, 48, 49, 48, 48, 49]), (.str [49, 48, 48, 49, 48, 49, 48]), (.str [49, 48, 49, 48, 48, 49, 48])])) (sh (.tup [(.int (1)), (.int (1)), (.int (1)), (.int (1)), (.int (1)), (.int (1))])) x21 x22 x23) t := by kernel_rfl
theorem s19_ok : evS M40 C40 false S19 (St x2 (sh (.int (6))) x4 x5 x6 x7 x8 x9 x10 x11 (sh (.str [48, 49, 48, 48, 49, 48, 49, 48, 48, 49, 48, 48, 49, 48, 49, 48, 48, 49, 48, 49, 48, 48, 49, 48, 48, 49, 48, 49, 48, 48, 49, 48, 48, 49])) x13 (sh (.tup [(.str [48, 49]), (.str [48])])) (sh (.str [48, 49, 48, 48, 49, 48, 49, 48, 48, 49, 48, 48, 49, 48, 49, 48, 48, 49, 48, 49, 48, 48, 49, 48, 48, 49, 48, 49, 48, 48, 49, 48, 48, 49, 48, 49, 48, 48, 49, 48, 49, 48, 48, 49, 48, 48, 49, 48, 49, 48, 48, 49, 48, 49, 48])) (sh (.str [48, 49, 48, 48, 49, 48, 49, 48, 48, 49, 48, 48, 49, 48, 49, 48, 48, 49, 48, 49, 48, 48, 49, 48, 48, 49, 48, 49, 48, 48, 49, 48, 48, 49])) (sh (.str [48, 49, 48, 48, 49, 48, 49, 48, 48, 49, 48, 48, 49, 48, 49, 48, 48, 49, 48, 49, 48, 48, 49, 48, 48, 49, 48, 49, 48, 48, 49, 48, 48, 49, 48, 49, 48, 48, 49, 48, 49, 48, 48, 49, 48, 48, 49, 48, 49, 48, 48, 49, 48, 49, 48, 48, 49, 48, 48, 49])) (sh (.int (7))) (sh (.tup [(.str [48, 48, 49, 48, 48, 49, 48]), (.str [48, 48, 49, 48, 49, 48, 48]), (.str [48, 49, 48, 48, 49, 48, 48]), (.str [48, 49, 48, 48, 49, 48, 49]), (.str [48, 49, 48, 49, 48, 48, 49]), (.str [49, 48, 48, 49, 48, 48, 49]), (.str [49, 48, 48, 49, 48, 49, 48]), (.str [49, 48, 49, 48, 48, 49, 48])])) (sh (.tup [(.int (1)), (.int (1)), (.int (1)), (.int (1)), (.int (1)), (.int (1))])) x21 x22 x23) t = .ok (.nx, St x2 (sh (.int (6))) x4 x5 x6 x7 x8 x9 x10 x11 (sh (.str [48, 49, 48, 48, 49, 48, 49, 48, 48, 49, 48, 48, 49, 48, 49, 48, 48, 49, 48, 49, 48, 48, 49, 48, 48, 49, 48, 49, 48, 48, 49, 48, 48, 49])) x13 (sh (.tup [(.str [48, 49]), (.str [48])])) (sh (.str [48, 49, 48, 48, 49, 48, 49, 48, 48, 49, 48, 48, 49, 48, 49, 48, 48, 49, 48, 49, 48, 48, 49, 48, 48, 49, 48, 49, 48, 48, 49, 48, 48, 49, 48, 49, 48, 48, 49, 48, 49, 48, 48, 49, 48, 48, 49, 48, 49, 48, 48, 49, 48, 49, 48])) (sh (.str [48, 49, 48, 48, 49, 48, 49, 48, 48, 49, 48, 48, 49, 48, 49, 48, 48, 49, 48, 49, 48, 48, 49, 48, 48, 49, 48, 49, 48, 48, 49, 48, 48, 49])) (sh (.str [48, 49, 48, 48, 49, 48, 49, 48, 48, 49, 48, 48, 49, 48, 49, 48, 48, 49, 48, 49, 48, 48, 49, 48, 48, 49, 48, 49, 48, 48, 49, 48, 48, 49, 48, 49, 48, 48, 49, 48, 49, 48, 48, 49, 48, 48, 49, 48, 49, 48, 48, 49, 48, 49, 48, 48, 49, 48, 48, 49])) (sh (.int (7))) (sh (.tup [(.str [48, 48, 49, 48, 48, 49, 48]), (.str [48, 48, 49, 48, 49, 48, 48]), (.str [48, 49, 48, 48, 49, 48, 48]), (.str [48, 49, 48, 48, 49, 48, 49]), (.str [48, 49, 48, 49, 48, 48, 49]), (.str [49, 48, 48, 49, 48, 48, 49]), (.str [49, 48, 48, 49, 48, 49, 48]), (.str [49, 48, 49, 48, 48, 49, 48])])) (sh (.tup [(.int (1)), (.int (1)), (.int (1)), (.int (1)), (.int (1)), (.int (1))])) (sh (.tup [(.str [48, 48]), (.str [48, 49]), (.str [49, 48])])) x22 x23) t := by kernel_rfl
theorem s20_ok : evS M40 C40 false S20 (St x2 (sh (.int (6))) x4 x5 x6 x7 x8 x9 x10 x11 (sh (.str [48, 49, 48, 48, 49, 48, 49, 48, 48, 49, 48, 48, 49, 48, 49, 48, 48, 49, 48, 49, 48, 48, 49, 48, 48, 49, 48, 49, 48, 48, 49, 48, 48, 49])) x13 (sh (.tup [(.str [48, 49]), (.str [48])])) (sh (.str [48, 49, 48, 48, 49, 48, 49, 48, 48, 49, 48, 48, 49, 48, 49, 48, 48, 49, 48, 49, 48, 48, 49, 48, 48, 49, 48, 49, 48, 48, 49, 48, 48, 49, 48, 49, 48, 48, 49, 48, 49, 48, 48, 49, 48, 48, 49, 48, 49, 48, 48, 49, 48, 49, 48])) (sh (.str [48, 49, 48, 48, 49, 48, 49, 48, 48, 49, 48, 48, 49, 48, 49, 48, 48, 49, 48, 49, 48, 48, 49, 48, 48, 49, 48, 49, 48, 48, 49, 48, 48, 49])) (sh (.str [48, 49, 48, 48, 49, 48, 49, 48, 48, 49, 48, 48, 49, 48, 49, 48, 48, 49, 48, 49, 48, 48, 49, 48, 48, 49, 48, 49, 48, 48, 49, 48, 48, 49, 48, 49, 48, 48, 49, 48, 49, 48, 48, 49, 48, 48, 49, 48, 49, 48, 48, 49, 48, 49, 48, 48, 49, 48, 48, 49])) (sh (.int (7))) (sh (.tup [(.str [48, 48, 49, 48, 48, 49, 48]), (.str [48, 48, 49, 48, 49, 48, 48]), (.str [48, 49, 48, 48, 49, 48, 48]), (.str [48, 49, 48, 48, 49, 48, 49]), (.str [48, 49, 48, 49, 48, 48, 49]), (.str [49, 48, 48, 49, 48, 48, 49]), (.str [49, 48, 48, 49, 48, 49, 48]), (.str [49, 48, 49, 48, 48, 49, 48])])) (sh (.tup [(.int (1)), (.int (1)), (.int (1)), (.int (1)), (.int (1)), (.int (1))])) (sh (.tup [(.str [48, 48]), (.str [48, 49]), (.str [49, 48])])) x22 x23) t = .ok (.nx, St x2 (sh (.int (6))) x4 x5 x6 x7 x8 x9 x10 x11 (sh (.str [48, 49, 48, 48, 49, 48, 49, 48, 48, 49, 48, 48, 49, 48, 49, 48, 48, 49, 48, 49, 48, 48, 49, 48, 48, 49, 48, 49, 48, 48, 49, 48, 48, 49])) x13 (sh (.tup [(.str [48, 49]), (.str [48])])) (sh (.str [48, 49, 48, 48, 49, 48, 49, 48, 48, 49, 48, 48, 49, 48, 49, 48, 48, 49, 48, 49, 48, 48, 49, 48, 48, 49, 48, 49, 48, 48, 49, 48, 48, 49, 48, 49, 48, 48, 49, 48, 49, 48, 48, 49, 48, 48, 49, 48, 49, 48, 48, 49, 48, 49, 48])) (sh (.str [48, 49, 48, 48, 49, 48, 49, 48, 48, 49, 48, 48, 49, 48, 49, 48, 48, 49, 48, 49, 48, 48, 49, 48, 48, 49, 48, 49, 48, 48, 49, 48, 48, 49])) (sh (.str [48, 49, 48, 48, 49, 48, 49, 48, 48, 49, 48, 48, 49, 48, 49, 48, 48, 49, 48, 49, 48, 48, 49, 48, 48, 49, 48, 49, 48, 48, 49, 48, 48, 49, 48, 49, 48, 48, 49, 48, 49, 48, 48, 49, 48, 48, 49, 48, 49, 48, 48, 49, 48, 49, 48, 48, 49, 48, 48, 49])) (sh (.int (7))) (sh (.tup [(.str [48, 48, 49, 48, 48, 49, 48]), (.str [48, 48, 49, 48, 49, 48, 48]), (.str [48, 49, 48, 48, 49, 48, 48]), (.str [48, 49, 48, 48, 49, 48, 49]), (.str [48, 49, 48, 49, 48, 48, 49]), (.str [49, 48, 48, 49, 48, 48, 49]), (.str [49, 48, 48, 49, 48, 49, 48]), (.str [49, 48, 49, 48, 48, 49, 48])])) (sh (.tup [(.int (1)), (.int (1)), (.int (1)), (.int (1)), (.int (1)), (.int (1))])) (sh (.tup [(.str [48, 48]), (.str [48, 49]), (.str [49, 48])])) x22 x23) t := by kernel_rfl
theorem s21_ok : evS M40 C40 false S21 (St x2 (sh (.int (6))) x4 x5 x6 x7 x8 x9 x10 x11 (sh (.str [48, 49, 48, 48, 49, 48, 49, 48, 48, 49, 48, 48, 49, 48, 49, 48, 48, 49, 48, 49, 48, 48, 49, 48, 48, 49, 48, 49, 48, 48, 49, 48, 48, 49])) x13 (sh (.tup [(.str [48, 49]), (.str [48])])) (sh (.str [48, 49, 48, 48, 49, 48, 49, 48, 48, 49, 48, 48, 49, 48, 49, 48, 48, 49, 48, 49, 48, 48, 49, 48, 48, 49, 48, 49, 48, 48, 49, 48, 48, 49, 48, 49, 48, 48, 49, 48, 49, 48, 48, 49, 48, 48, 49, 48, 49, 48, 48, 49, 48, 49, 48])) (sh (.str [48, 49, 48, 48, 49, 48, 49, 48, 48, 49, 48, 48, 49, 48, 49, 48, 48, 49, 48, 49, 48, 48, 49, 48, 48, 49, 48, 49, 48, 48, 49, 48, 48, 49])) (sh (.str [48, 49, 48, 48, 49, 48, 49, 48, 48, 49, 48, 48, 49, 48, 49, 48, 48, 49, 48, 49, 48, 48, 49, 48, 48, 49, 48, 49, 48, 48, 49, 48, 48, 49, 48, 49, 48, 48, 49, 48, 49, 48, 48, 49, 48, 48, 49, 48, 49, 48, 48, 49, 48, 49, 48, 48, 49, 48, 48, 49])) (sh (.int (7))) (sh (.tup [(.str [48, 48, 49, 48, 48, 49, 48]), (.str [48, 48, 49, 48, 49, 48, 48]), (.str [48, 49, 48, 48, 49, 48, 48]), (.str [48, 49, 48, 48, 49, 48, 49]), (.str [48, 49, 48, 49, 48, 48, 49]), (.str [49, 48, 48, 49, 48, 48, 49]), (.str [49, 48, 48, 49, 48, 49, 48]), (.str [49, 48, 49, 48, 48, 49, 48])])) (sh (.tup [(.int (1)), (.int (1)), (.int (1)), (.int (1)), (.int (1)), (.int (1))])) (sh (.tup [(.str [48, 48]), (.str [48, 49]), (.str [49, 48])])) x22 x23) t = .ok (.nx, St x2 (sh (.int (6))) x4 x5 x6 x7 x8 x9 x10 x11 (sh (.str [48, 49, 48, 48, 49, 48, 49, 48, 48, 49, 48, 48, 49, 48, 49, 48, 48, 49, 48, 49, 48, 48, 49, 48, 48, 49, 48, 49, 48, 48, 49, 48, 48, 49])) x13 (sh (.tup [(.str [48, 49]), (.str [48])])) (sh (.str [48, 49, 48, 48, 49, 48, 49, 48, 48, 49, 48, 48, 49, 48, 49, 48, 48, 49, 48, 49, 48, 48, 49, 48, 48, 49, 48, 49, 48, 48, 49, 48, 48, 49, 48, 49, 48, 48, 49, 48, 49, 48, 48, 49, 48, 48, 49, 48, 49, 48, 48, 49, 48, 49, 48])) (sh (.str [48, 49, 48, 48, 49, 48, 49, 48, 48, 49, 48, 48, 49, 48, 49, 48, 48, 49, 48, 49, 48, 48, 49, 48, 48, 49, 48, 49, 48, 48, 49, 48, 48, 49])) (sh (.str [48, 49, 48, 48, 49, 48, 49, 48, 48, 49, 48, 48, 49, 48, 49, 48, 48, 49, 48, 49, 48, 48, 49, 48, 48, 49, 48, 49, 48, 48, 49, 48, 48, 49, 48, 49, 48, 48, 49, 48, 49, 48, 48, 49, 48, 48, 49, 48, 49, 48, 48, 49, 48, 49, 48, 48, 49, 48, 48, 49])) (sh (.int (7))) (sh (.tup [(.str [48, 48, 49, 48, 48, 49, 48]), (.str [48, 48, 49, 48, 49, 48, 48]), (.str [48, 49, 48, 48, 49, 48, 48]), (.str [48, 49, 48, 48, 49, 48, 49]), (.str [48, 49, 48, 49, 48, 48, 49]), (.str [49, 48, 48, 49, 48, 48, 49]), (.str [49, 48, 48, 49, 48, 49, 48]), (.str [49, 48, 49, 48, 48, 49, 48])])) (sh (.tup [(.int (1)), (.int (1)), (.int (1)), (.int (1)), (.int (1)), (.int (1))])) (sh (.tup [(.str [48, 48]), (.str [48, 49]), (.str [49, 48])])) (sh (.tup [(.int (89)), (.int (55))])) (sh (.tup [(.int (144)), (.int (89))]))) t := by kernel_rfl
theorem s22_ok : evS M40 C40 false S22 (St x2 (sh (.int (6))) x4 x5 x6 x7 x8 x9 x10 x11 (sh (.str [48, 49, 48, 48, 49, 48, 49, 48, 48, 49, 48, 48, 49, 48, 49, 48, 48, 49, 48, 49, 48, 48, 49, 48, 48, 49, 48, 49, 48, 48, 49, 48, 48, 49])) x13 (sh (.tup [(.str [48, 49]), (.str [48])])) (sh (.str [48, 49, 48, 48, 49, 48, 49, 48, 48, 49, 48, 48, 49, 48, 49, 48, 48, 49, 48, 49, 48, 48, 49, 48, 48, 49, 48, 49, 48, 48, 49, 48, 48, 49, 48, 49, 48, 48, 49, 48, 49, 48, 48, 49, 48, 48, 49, 48, 49, 48, 48, 49, 48, 49, 48])) (sh (.str [48, 49, 48, 48, 49, 48, 49, 48, 48, 49, 48, 48, 49, 48, 49, 48, 48, 49, 48, 49, 48, 48, 49, 48, 48, 49, 48, 49, 48, 48, 49, 48, 48, 49])) (sh (.str [48, 49, 48, 48, 49, 48, 49, 48, 48, 49, 48, 48, 49, 48, 49, 48, 48, 49, 48, 49, 48, 48, 49, 48, 48, 49, 48, 49, 48, 48, 49, 48, 48, 49, 48, 49, 48, 48, 49, 48, 49, 48, 48, 49, 48, 48, 49, 48, 49, 48, 48, 49, 48, 49, 48, 48, 49, 48, 48, 49])) (sh (.int (7))) (sh (.tup [(.str [48, 48, 49, 48, 48, 49, 48]), (.str [48, 48, 49, 48, 49, 48, 48]), (.str [48, 49, 48, 48, 49, 48, 48]), (.str [48, 49, 48, 48, 49, 48, 49]), (.str [48, 49, 48, 49, 48, 48, 49]), (.str [49, 48, 48, 49, 48, 48, 49]), (.str [49, 48, 48, 49, 48, 49, 48]), (.str [49, 48, 49, 48, 48, 49, 48])])) (sh (.tup [(.int (1)), (.int (1)), (.int (1)), (.int (1)), (.int (1)), (.int (1))])) (sh (.tup [(.str [48, 48]), (.str [48, 49]), (.str [49, 48])])) (sh (.tup [(.int (89)), (.int (55))])) (sh (.tup [(.int (144)), (.int (89))]))) t = .ok (.nx, St x2 (sh (.int (6))) x4 x5 x6 x7 x8 x9 x10 x11 (sh (.str [48, 49, 48, 48, 49, 48, 49, 48, 48, 49, 48, 48, 49, 48, 49, 48, 48, 49, 48, 49, 48, 48, 49, 48, 48, 49, 48, 49, 48, 48, 49, 48, 48, 49])) x13 (sh (.tup [(.str [48, 49]), (.str [48])])) (sh (.str [48, 49, 48, 48, 49, 48, 49, 48, 48, 49, 48, 48, 49, 48, 49, 48, 48, 49, 48, 49, 48, 48, 49, 48, 48, 49, 48, 49, 48, 48, 49, 48, 48, 49, 48, 49, 48, 48, 49, 48, 49, 48, 48, 49, 48, 48, 49, 48, 49, 48, 48, 49, 48, 49, 48])) (sh (.str [48, 49, 48, 48, 49, 48, 49, 48, 48, 49, 48, 48, 49, 48, 49, 48, 48, 49, 48, 49, 48, 48, 49, 48, 48, 49, 48, 49, 48, 48, 49, 48, 48, 49])) (sh (.str [48, 49, 48, 48, 49, 48, 49, 48, 48, 49, 48, 48, 49, 48, 49, 48, 48, 49, 48, 49, 48, 48, 49, 48, 48, 49, 48, 49, 48, 48, 49, 48, 48, 49, 48, 49, 48, 48, 49, 48, 49, 48, 48, 49, 48, 48, 49, 48, 49, 48, 48, 49, 48, 49, 48, 48, 49, 48, 48, 49])) (sh (.int (7))) (sh (.tup [(.str [48, 48, 49, 48, 48, 49, 48]), (.str [48, 48, 49, 48, 49, 48, 48]), (.str [48, 49, 48, 48, 49, 48, 48]), (.str [48, 49, 48, 48, 49, 48, 49]), (.str [48, 49, 48, 49, 48, 48, 49]), (.str [49, 48, 48, 49, 48, 48, 49]), (.str [49, 48, 48, 49, 48, 49, 48]), (.str [49, 48, 49, 48, 48, 49, 48])])) (sh (.tup [(.int (1)), (.int (1)), (.int (1)), (.int (1)), (.int (1)), (.int (1))])) (sh (.tup [(.str [48, 48]), (.str [48, 49]), (.str [49, 48])])) (sh (.tup [(.int (89)), (.int (55))])) (sh (.tup [(.int (144)), (.int (89))]))) t := by kernel_rfl
end
end LW

set_option Elab.async false
set_option linter.all false
set_option maxRecDepth 100000
set_option maxHeartbeats 4000000
namespace LW
open EV
section
variable (t : Tape) (x2 x3 x4 x5 x6 x7 x8 x9 x10 x11 x12 x13 x14 x15 x16 x17 x18 x19 x20 x21 x22 x23 : Option (D × Bool))
theorem nd_1_1 : evSs M40 C40 false [S8, S9, S10] (St x2 x3 x4 x5 x6 x7 (inS 1) (inS 1) x10 x11 x12 x13 x14 x15 x16 x17 x18 x19 x20 x21 x22 x23) t = .ok (.nx, St x2 x3 x4 x5 x6 x7 (sh (.int (1))) (sh (.int (1))) (sh (.int (1))) x11 x12 x13 x14 x15 x16 x17 x18 x19 x20 x21 x22 x23) t := by kernel_rfl
theorem nd_1_2 : evSs M40 C40 false [S8, S9, S10] (St x2 x3 x4 x5 x6 x7 (inS 1) (inS 2) x10 x11 x12 x13 x14 x15 x16 x17 x18 x19 x20 x21 x22 x23) t = .ok (.nx, St x2 x3 x4 x5 x6 x7 (sh (.int (1))) (sh (.int (2))) (sh (.int (1))) (sh (.str [48, 49])) (sh (.str [48, 48, 49])) (sh (.tup [(.int (2))])) x14 x15 x16 x17 x18 x19 x20 x21 x22 x23) t := by kernel_rfl
theorem nd_1_3 : evSs M40 C40 false [S8, S9, S10] (St x2 x3 x4 x5 x6 x7 (inS 1) (inS 3) x10 x11 x12 x13 x14 x15 x16 x17 x18 x19 x20 x21 x22 x23) t = .ok (.nx, St x2 x3 x4 x5 x6 x7 (sh (.int (1))) (sh (.int (3))) (sh (.int (1))) (sh (.str [48, 48, 49])) (sh (.str [48, 48, 48, 49])) (sh (.tup [(.int (3))])) x14 x15 x16 x17 x18 x19 x20 x21 x22 x23) t := by kernel_rfl
theorem nd_1_4 : evSs M40 C40 false [S8, S9, S10] (St x2 x3 x4 x5 x6 x7 (inS 1) (inS 4) x10 x11 x12 x13 x14 x15 x16 x17 x18 x19 x20 x21 x22 x23) t = .ok (.nx, St x2 x3 x4 x5 x6 x7 (sh (.int (1))) (sh (.int (4))) (sh (.int (1))) (sh (.str [48, 48, 48, 49])) (sh (.str [48, 48, 48, 48, 49])) (sh (.tup [(.int (4))])) x14 x15 x16 x17 x18 x19 x20 x21 x22 x23) t := by kernel_rfl
theorem nd_1_5 : evSs M40 C40 false [S8, S9, S10] (St x2 x3 x4 x5 x6 x7 (inS 1) (inS 5) x10 x11 x12 x13 x14 x15 x16 x17 x18 x19 x20 x21 x22 x23) t = .ok (.nx, St x2 x3 x4 x5 x6 x7 (sh (.int (1))) (sh (.int (5))) (sh (.int (1))) (sh (.str [48, 48, 48, 48, 49])) (sh (.str [48, 48, 48, 48, 48, 49])) (sh (.tup [(.int (5))])) x14 x15 x16 x17 x18 x19 x20 x21 x22 x23) t := by kernel_rfl
theorem nd_1_6 : evSs M40 C40 false [S8, S9, S10] (St x2 x3 x4 x5 x6 x7 (inS 1) (inS 6) x10 x11 x12 x13 x14 x15 x16 x17 x18 x19 x20 x21 x22 x23) t = .ok (.nx, St x2 x3 x4 x5 x6 x7 (sh (.int (1))) (sh (.int (6))) (sh (.int (1))) (sh (.str [48, 48, 48, 48, 48, 49])) (sh (.str [48, 48, 48, 48, 48, 48, 49])) (sh (.tup [(.int (6))])) x14 x15 x16 x17 x18 x19 x20 x21 x22 x23) t := by kernel_rfl
theorem nd_1_7 : evSs M40 C40 false [S8, S9, S10] (St x2 x3 x4 x5 x6 x7 (inS 1) (inS 7) x10 x11 x12 x13 x14 x15 x16 x17 x18 x19 x20 x21 x22 x23) t = .ok (.nx, St x2 x3 x4 x5 x6 x7 (sh (.int (1))) (sh (.int (7))) (sh (.int (1))) (sh (.str [48, 48, 48, 48, 48, 48, 49])) (sh (.str [48, 48, 48, 48, 48, 48, 48, 49])) (sh (.tup [(.int (7))])) x14 x15 x16 x17 x18 x19 x20 x21 x22 x23) t := by kernel_rfl
theorem nd_1_8 : evSs M40 C40 false [S8, S9, S10] (St x2 x3 x4 x5 x6 x7 (inS 1) (inS 8) x10 x11 x12 x13 x14 x15 x16 x17 x18 x19 x20 x21 x22 x23) t = .ok (.nx, St x2 x3 x4 x5 x6 x7 (sh (.int (1))) (sh (.int (8))) (sh (.int (1))) (sh (.str [48, 48, 48, 48, 48, 48, 48, 49])) (sh (.str [48, 48, 48, 48, 48, 48, 48, 48, 49])) (sh (.tup [(.int (8))])) x14 x15 x16 x17 x18 x19 x20 x21 x22 x23) t := by kernel_rfl
theorem nd_1_9 : evSs M40 C40 false [S8, S9, S10] (St x2 x3 x4 x5 x6 x7 (inS 1) (inS 9) x10 x11 x12 x13 x14 x15 x16 x17 x18 x19 x20 x21 x22 x23) t = .ok (.nx, St x2 x3 x4 x5 x6 x7 (sh (.int (1))) (sh (.int (9))) (sh (.int (1))) (sh (.str [48, 48, 48, 48, 48, 48, 48, 48, 49])) (sh (.str [48, 48, 48, 48, 48, 48, 48, 48, 48, 49])) (sh (.tup [(.int (9))])) x14 x15 x16 x17 x18 x19 x20 x21 x22 x23) t := by kernel_rfl
theorem nd_2_1 : evSs M40 C40 false [S8, S9, S10] (St x2 x3 x4 x5 x6 x7 (inS 2) (inS 1) x10 x11 x12 x13 x14 x15 x16 x17 x18 x19 x20 x21 x22 x23) t = .ok (.nx, St x2 x3 x4 x5 x6 x7 (sh (.int (2))) (sh (.int (1))) (sh (.int (1))) x11 x12 x13 x14 x15 x16 x17 x18 x19 x20 x21 x22 x23) t := by kernel_rfl
theorem nd_2_2 : evSs M40 C40 false [S8, S9, S10] (St x2 x3 x4 x5 x6 x7 (inS 2) (inS 2) x10 x11 x12 x13 x14 x15 x16 x17 x18 x19 x20 x21 x22 x23) t = .ok (.nx, St x2 x3 x4 x5 x6 x7 (sh (.int (1))) (sh (.int (1))) (sh (.int (2))) x11 x12 x13 x14 x15 x16 x17 x18 x19 x20 x21 x22 x23) t := by kernel_rfl
theorem nd_2_3 : evSs M40 C40 false [S8, S9, S10] (St x2 x3 x4 x5 x6 x7 (inS 2) (inS 3) x10 x11 x12 x13 x14 x15 x16 x17 x18 x19 x20 x21 x22 x23) t = .ok (.nx, St x2 x3 x4 x5 x6 x7 (sh (.int (2))) (sh (.int (3))) (sh (.int (1))) (sh (.str [48, 49, 49])) (sh (.str [48, 48, 49, 48, 49])) (sh (.tup [(.int (1)), (.int (2))])) x14 x15 x16 x17 x18 x19 x20 x21 x22 x23) t := by kernel_rfl
theorem nd_2_4 : evSs M40 C40 false [S8, S9, S10] (St x2 x3 x4 x5 x6 x7 (inS 2) (inS 4) x10 x11 x12 x13 x14 x15 x16 x17 x18 x19 x20 x21 x22 x23) t = .ok (.nx, St x2 x3 x4 x5 x6 x7 (sh (.int (1))) (sh (.int (2))) (sh (.int (2))) (sh (.str [48, 49])) (sh (.str [48, 48, 49])) (sh (.tup [(.int (2))])) x14 x15 x16 x17 x18 x19 x20 x21 x22 x23) t := by kernel_rfl
theorem nd_2_5 : evSs M40 C40 false [S8, S9, S10] (St x2 x3 x4 x5 x6 x7 (inS 2) (inS 5) x10 x11 x12 x13 x14 x15 x16 x17 x18 x19 x20 x21 x22 x23) t = .ok (.nx, St x2 x3 x4 x5 x6 x7 (sh (.int (2))) (sh (.int (5))) (sh (.int (1))) (sh (.str [48, 48, 49, 48, 49])) (sh (.str [48, 48, 48, 49, 48, 48, 49])) (sh (.tup [(.int (2)), (.int (2))])) x14 x15 x16 x17 x18 x19 x20 x21 x22 x23) t := by kernel_rfl
theorem nd_2_6 : evSs M40 C40 false [S8, S9, S10] (St x2 x3 x4 x5 x6 x7 (inS 2) (inS 6) x10 x11 x12 x13 x14 x15 x16 x17 x18 x19 x20 x21 x22 x23) t = .ok (.nx, St x2 x3 x4 x5 x6 x7 (sh (.int (1))) (sh (.int (3))) (sh (.int (2))) (sh (.str [48, 48, 49])) (sh (.str [48, 48, 48, 49])) (sh (.tup [(.int (3))])) x14 x15 x16 x17 x18 x19 x20 x21 x22 x23) t := by kernel_rfl
theorem nd_2_7 : evSs M40 C40 false [S8, S9, S10] (St x2 x3 x4 x5 x6 x7 (inS 2) (inS 7) x10 x11 x12 x13 x14 x15 x16 x17 x18 x19 x20 x21 x22 x23) t = .ok (.nx, St x2 x3 x4 x5 x6 x7 (sh (.int (2))) (sh (.int (7))) (sh (.int (1))) (sh (.str [48, 48, 48, 49, 48, 48, 49])) (sh (.str [48, 48, 48, 48, 49, 48, 48, 48, 49])) (sh (.tup [(.int (3)), (.int (2))])) x14 x15 x16 x17 x18 x19 x20 x21 x22 x23) t := by kernel_rfl
theorem nd_2_8 : evSs M40 C40 false [S8, S9, S10] (St x2 x3 x4 x5 x6 x7 (inS 2) (inS 8) x10 x11 x12 x13 x14 x15 x16 x17 x18 x19 x20 x21 x22 x23) t = .ok (.nx, St x2 x3 x4 x5 x6 x7 (sh (.int (1))) (sh (.int (4))) (sh (.int (2))) (sh (.str [48, 48, 48, 49])) (sh (.str [48, 48, 48, 48, 49])) (sh (.tup [(.int (4))])) x14 x15 x16 x17 x18 x19 x20 x21 x22 x23) t := by kernel_rfl
theorem nd_2_9 : evSs M40 C40 false [S8, S9, S10] (St x2 x3 x4 x5 x6 x7 (inS 2) (inS 9) x10 x11 x12 x13 x14 x15 x16 x17 x18 x19 x20 x21 x22 x23) t = .ok (.nx, St x2 x3 x4 x5 x6 x7 (sh (.int (2))) (sh (.int (9))) (sh (.int (1))) (sh (.str [48, 48, 48, 48, 49, 48, 48, 48, 49])) (sh (.str [48, 48, 48, 48, 48, 49, 48, 48, 48, 48, 49])) (sh (.tup [(.int (4)), (.int (2))])) x14 x15 x16 x17 x18 x19 x20 x21 x22 x23) t := by kernel_rfl
theorem nd_3_1 : evSs M40 C40 false [S8, S9, S10] (St x2 x3 x4 x5 x6 x7 (inS 3) (inS 1) x10 x11 x12 x13 x14 x15 x16 x17 x18 x19 x20 x21 x22 x23) t = .ok (.nx, St x2 x3 x4 x5 x6 x7 (sh (.int (3))) (sh (.int (1))) (sh (.int (1))) x11 x12 x13 x14 x15 x16 x17 x18 x19 x20 x21 x22 x23) t := by kernel_rfl
theorem nd_3_2 : evSs M40 C40 false [S8, S9, S10] (St x2 x3 x4 x5 x6 x7 (inS 3) (inS 2) x10 x11 x12 x13 x14 x15 x16 x17 x18 x19 x20 x21 x22 x23) t = .ok (.nx, St x2 x3 x4 x5 x6 x7 (sh (.int (3))) (sh (.int (2))) (sh (.int (1))) x11 x12 x13 x14 x15 x16 x17 x18 x19 x20 x21 x22 x23) t := by kernel_rfl
theorem nd_3_3 : evSs M40 C40 false [S8, S9, S10] (St x2 x3 x4 x5 x6 x7 (inS 3) (inS 3) x10 x11 x12 x13 x14 x15 x16 x17 x18 x19 x20 x21 x22 x23) t = .ok (.nx, St x2 x3 x4 x5 x6 x7 (sh (.int (1))) (sh (.int (1))) (sh (.int (3))) x11 x12 x13 x14 x15 x16 x17 x18 x19 x20 x21 x22 x23) t := by kernel_rfl
theorem nd_3_4 : evSs M40 C40 false [S8, S9, S10] (St x2 x3 x4 x5 x6 x7 (inS 3) (inS 4) x10 x11 x12 x13 x14 x15 x16 x17 x18 x19 x20 x21 x22 x23) t = .ok (.nx, St x2 x3 x4 x5 x6 x7 (sh (.int (3))) (sh (.int (4))) (sh (.int (1))) (sh (.str [48, 49, 49, 49])) (sh (.str [48, 48, 49, 48, 49, 48, 49])) (sh (.tup [(.int (1)), (.int (3))])) x14 x15 x16 x17 x18 x19 x20 x21 x22 x23) t := by kernel_rfl
theorem nd_3_5 : evSs M40 C40 false [S8, S9, S10] (St x2 x3 x4 x5 x6 x7 (inS 3) (inS 5) x10 x11 x12 x13 x14 x15 x16 x17 x18 x19 x20 x21 x22 x23) t = .ok (.nx, St x2 x3 x4 x5 x6 x7 (sh (.int (3))) (sh (.int (5))) (sh (.int (1))) (sh (.str [48, 49, 48, 49, 49])) (sh (.str [48, 48, 49, 48, 48, 49, 48, 49])) (sh (.tup [(.int (1)), (.int (1)), (.int (2))])) x14 x15 x16 x17 x18 x19 x20 x21 x22 x23) t := by kernel_rfl
theorem nd_3_6 : evSs M40 C40 false [S8, S9, S10] (St x2 x3 x4 x5 x6 x7 (inS 3) (inS 6) x10 x11 x12 x13 x14 x15 x16 x17 x18 x19 x20 x21 x22 x23) t = .ok (.nx, St x2 x3 x4 x5 x6 x7 (sh (.int (1))) (sh (.int (2))) (sh (.int (3))) (sh (.str [48, 49])) (sh (.str [48, 48, 49])) (sh (.tup [(.int (2))])) x14 x15 x16 x17 x18 x19 x20 x21 x22 x23) t := by kernel_rfl
theorem nd_3_7 : evSs M40 C40 false [S8, S9, S10] (St x2 x3 x4 x5 x6 x7 (inS 3) (inS 7) x10 x11 x12 x13 x14 x15 x16 x17 x18 x19 x20 x21 x22 x23) t = .ok (.nx, St x2 x3 x4 x5 x6 x7 (sh (.int (3))) (sh (.int (7))) (sh (.int (1))) (sh (.str [48, 48, 49, 48, 49, 48, 49])) (sh (.str [48, 48, 48, 49, 48, 48, 49, 48, 48, 49])) (sh (.tup [(.int (2)), (.int (3))])) x14 x15 x16 x17 x18 x19 x20 x21 x22 x23) t := by kernel_rfl
theorem nd_3_8 : evSs M40 C40 false [S8, S9, S10] (St x2 x3 x4 x5 x6 x7 (inS 3) (inS 8) x10 x11 x12 x13 x14 x15 x16 x17 x18 x19 x20 x21 x22 x23) t = .ok (.nx, St x2 x3 x4 x5 x6 x7 (sh (.int (3))) (sh (.int (8))) (sh (.int (1))) (sh (.str [48, 48, 49, 48, 48, 49, 48, 49])) (sh (.str [48, 48, 48, 49, 48, 48, 48, 49, 48, 48, 49])) (sh (.tup [(.int (2)), (.int (1)), (.int (2))])) x14 x15 x16 x17 x18 x19 x20 x21 x22 x23) t := by kernel_rfl
theorem nd_3_9 : evSs M40 C40 false [S8, S9, S10] (St x2 x3 x4 x5 x6 x7 (inS 3) (inS 9) x10 x11 x12 x13 x14 x15 x16 x17 x18 x19 x20 x21 x22 x23) t = .ok (.nx, St x2 x3 x4 x5 x6 x7 (sh (.int (1))) (sh (.int (3))) (sh (.int (3))) (sh (.str [48, 48, 49])) (sh (.str [48, 48, 48, 49])) (sh (.tup [(.int (3))])) x14 x15 x16 x17 x18 x19 x20 x21 x22 x23) t := by kernel_rfl
theorem nd_4_1 : evSs M40 C40 false [S8, S9, S10] (St x2 x3 x4 x5 x6 x7 (inS 4) (inS 1) x10 x11 x12 x13 x14 x15 x16 x17 x18 x19 x20 x21 x22 x23) t = .ok (.nx, St x2 x3 x4 x5 x6 x7 (sh (.int (4))) (sh (.int (1))) (sh (.int (1))) x11 x12 x13 x14 x15 x16 x17 x18 x19 x20 x21 x22 x23) t := by kernel_rfl
theorem nd_4_2 : evSs M40 C40 false [S8, S9, S10] (St x2 x3 x4 x5 x6 x7 (inS 4) (inS 2) x10 x11 x12 x13 x14 x15 x16 x17 x18 x19 x20 x21 x22 x23) t = .ok (.nx, St x2 x3 x4 x5 x6 x7 (sh (.int (2))) (sh (.int (1))) (sh (.int (2))) x11 x12 x13 x14 x15 x16 x17 x18 x19 x20 x21 x22 x23) t := by kernel_rfl
theorem nd_4_3 : evSs M40 C40 false [S8, S9, S10] (St x2 x3 x4 x5 x6 x7 (inS 4) (inS 3) x10 x11 x12 x13 x14 x15 x16 x17 x18 x19 x20 x21 x22 x23) t = .ok (.nx, St x2 x3 x4 x5 x6 x7 (sh (.int (4))) (sh (.int (3))) (sh (.int (1))) x11 x12 x13 x14 x15 x16 x17 x18 x19 x20 x21 x22 x23) t := by kernel_rfl
theorem nd_4_4 : evSs M40 C40 false [S8, S9, S10] (St x2 x3 x4 x5 x6 x7 (inS 4) (inS 4) x10 x11 x12 x13 x14 x15 x16 x17 x18 x19 x20 x21 x22 x23) t = .ok (.nx, St x2 x3 x4 x5 x6 x7 (sh (.int (1))) (sh (.int (1))) (sh (.int (4))) x11 x12 x13 x14 x15 x16 x17 x18 x19 x20 x21 x22 x23) t := by kernel_rfl
theorem nd_4_5 : evSs M40 C40 false [S8, S9, S10] (St x2 x3 x4 x5 x6 x7 (inS 4) (inS 5) x10 x11 x12 x13 x14 x15 x16 x17 x18 x19 x20 x21 x22 x23) t = .ok (.nx, St x2 x3 x4 x5 x6 x7 (sh (.int (4))) (sh (.int (5))) (sh (.int (1))) (sh (.str [48, 49, 49, 49, 49])) (sh (.str [48, 48, 49, 48, 49, 48, 49, 48, 49])) (sh (.tup [(.int (1)), (.int (4))])) x14 x15 x16 x17 x18 x19 x20 x21 x22 x23) t := by kernel_rfl
theorem nd_4_6 : evSs M40 C40 false [S8, S9, S10] (St x2 x3 x4 x5 x6 x7 (inS 4) (inS 6) x10 x11 x12 x13 x14 x15 x16 x17 x18 x19 x20 x21 x22 x23) t = .ok (.nx, St x2 x3 x4 x5 x6 x7 (sh (.int (2))) (sh (.int (3))) (sh (.int (2))) (sh (.str [48, 49, 49])) (sh (.str [48, 48, 49, 48, 49])) (sh (.tup [(.int (1)), (.int (2))])) x14 x15 x16 x17 x18 x19 x20 x21 x22 x23) t := by kernel_rfl
theorem nd_4_7 : evSs M40 C40 false [S8, S9, S10] (St x2 x3 x4 x5 x6 x7 (inS 4) (inS 7) x10 x11 x12 x13 x14 x15 x16 x17 x18 x19 x20 x21 x22 x23) t = .ok (.nx, St x2 x3 x4 x5 x6 x7 (sh (.int (4))) (sh (.int (7))) (sh (.int (1))) (sh (.str [48, 49, 48, 49, 48, 49, 49])) (sh (.str [48, 48, 49, 48, 48, 49, 48, 48, 49, 48, 49])) (sh (.tup [(.int (1)), (.int (1)), (.int (3))])) x14 x15 x16 x17 x18 x19 x20 x21 x22 x23) t := by kernel_rfl
theorem nd_4_8 : evSs M40 C40 false [S8, S9, S10] (St x2 x3 x4 x5 x6 x7 (inS 4) (inS 8) x10 x11 x12 x13 x14 x15 x16 x17 x18 x19 x20 x21 x22 x23) t = .ok (.nx, St x2 x3 x4 x5 x6 x7 (sh (.int (1))) (sh (.int (2))) (sh (.int (4))) (sh (.str [48, 49])) (sh (.str [48, 48, 49])) (sh (.tup [(.int (2))])) x14 x15 x16 x17 x18 x19 x20 x21 x22 x23) t := by kernel_rfl
theorem nd_4_9 : evSs M40 C40 false [S8, S9, S10] (St x2 x3 x4 x5 x6 x7 (inS 4) (inS 9) x10 x11 x12 x13 x14 x15 x16 x17 x18 x19 x20 x21 x22 x23) t = .ok (.nx, St x2 x3 x4 x5 x6 x7 (sh (.int (4))) (sh (.int (9))) (sh (.int (1))) (sh (.str [48, 48, 49, 48, 49, 48, 49, 48, 49])) (sh (.str [48, 48, 48, 49, 48, 48, 49, 48, 48, 49, 48, 48, 49])) (sh (.tup [(.int (2)), (.int (4))])) x14 x15 x16 x17 x18 x19 x20 x21 x22 x23) t := by kernel_rfl
theorem nd_5_1 : evSs M40 C40 false [S8, S9, S10] (St x2 x3 x4 x5 x6 x7 (inS 5) (inS 1) x10 x11 x12 x13 x14 x15 x16 x17 x18 x19 x20 x21 x22 x23) t = .ok (.nx, St x2 x3 x4 x5 x6 x7 (sh (.int (5))) (sh (.int (1))) (sh (.int (1))) x11 x12 x13 x14 x15 x16 x17 x18 x19 x20 x21 x22 x23) t := by kernel_rfl
theorem nd_5_2 : evSs M40 C40 false [S8, S9, S10] (St x2 x3 x4 x5 x6 x7 (inS 5) (inS 2) x10 x11 x12 x13 x14 x15 x16 x17 x18 x19 x20 x21 x22 x23) t = .ok (.nx, St x2 x3 x4 x5 x6 x7 (sh (.int (5))) (sh (.int (2))) (sh (.int (1))) x11 x12 x13 x14 x15 x16 x17 x18 x19 x20 x21 x22 x23) t := by kernel_rfl
theorem nd_5_3 : evSs M40 C40 false [S8, S9, S10] (St x2 x3 x4 x5 x6 x7 (inS 5) (inS 3) x10 x11 x12 x13 x14 x15 x16 x17 x18 x19 x20 x21 x22 x23) t = .ok (.nx, St x2 x3 x4 x5 x6 x7 (sh (.int (5))) (sh (.int (3))) (sh (.int (1))) x11 x12 x13 x14 x15 x16 x17 x18 x19 x20 x21 x22 x23) t := by kernel_rfl
theorem nd_5_4 : evSs M40 C40 false [S8, S9, S10] (St x2 x3 x4 x5 x6 x7 (inS 5) (inS 4) x10 x11 x12 x13 x14 x15 x16 x17 x18 x19 x20 x21 x22 x23) t = .ok (.nx, St x2 x3 x4 x5 x6 x7 (sh (.int (5))) (sh (.int (4))) (sh (.int (1))) x11 x12 x13 x14 x15 x16 x17 x18 x19 x20 x21 x22 x23) t := by kernel_rfl
theorem nd_5_5 : evSs M40 C40 false [S8, S9, S10] (St x2 x3 x4 x5 x6 x7 (inS 5) (inS 5) x10 x11 x12 x13 x14 x15 x16 x17 x18 x19 x20 x21 x22 x23) t = .ok (.nx, St x2 x3 x4 x5 x6 x7 (sh (.int (1))) (sh (.int (1))) (sh (.int (5))) x11 x12 x13 x14 x15 x16 x17 x18 x19 x20 x21 x22 x23) t := by kernel_rfl
theorem nd_5_6 : evSs M40 C40 false [S8, S9, S10] (St x2 x3 x4 x5 x6 x7 (inS 5) (inS 6) x10 x11 x12 x13 x14 x15 x16 x17 x18 x19 x20 x21 x22 x23) t = .ok (.nx, St x2 x3 x4 x5 x6 x7 (sh (.int (5))) (sh (.int (6))) (sh (.int (1))) (sh (.str [48, 49, 49, 49, 49, 49])) (sh (.str [48, 48, 49, 48, 49, 48, 49, 48, 49, 48, 49])) (sh (.tup [(.int (1)), (.int (5))])) x14 x15 x16 x17 x18 x19 x20 x21 x22 x23) t := by kernel_rfl
theorem nd_5_7 : evSs M40 C40 false [S8, S9, S10] (St x2 x3 x4 x5 x6 x7 (inS 5) (inS 7) x10 x11 x12 x13 x14 x15 x16 x17 x18 x19 x20 x21 x22 x23) t = .ok (.nx, St x2 x3 x4 x5 x6 x7 (sh (.int (5))) (sh (.int (7))) (sh (.int (1))) (sh (.str [48, 49, 49, 48, 49, 49, 49])) (sh (.str [48, 48, 49, 48, 49, 48, 48, 49, 48, 49, 48, 49])) (sh (.tup [(.int (1)), (.int (2)), (.int (2))])) x14 x15 x16 x17 x18 x19 x20 x21 x22 x23) t := by kernel_rfl
theorem nd_5_8 : evSs M40 C40 false [S8, S9, S10] (St x2 x3 x4 x5 x6 x7 (inS 5) (inS 8) x10 x11 x12 x13 x14 x15 x16 x17 x18 x19 x20 x21 x22 x23) t = .ok (.nx, St x2 x3 x4 x5 x6 x7 (sh (.int (5))) (sh (.int (8))) (sh (.int (1))) (sh (.str [48, 49, 48, 49, 49, 48, 49, 49])) (sh (.str [48, 48, 49, 48, 48, 49, 48, 49, 48, 48, 49, 48, 49])) (sh (.tup [(.int (1)), (.int (1)), (.int (1)), (.int (2))])) x14 x15 x16 x17 x18 x19 x20 x21 x22 x23) t := by kernel_rfl
theorem nd_5_9 : evSs M40 C40 false [S8, S9, S10] (St x2 x3 x4 x5 x6 x7 (inS 5) (inS 9) x10 x11 x12 x13 x14 x15 x16 x17 x18 x19 x20 x21 x22 x23) t = .ok (.nx, St x2 x3 x4 x5 x6 x7 (sh (.int (5))) (sh (.int (9))) (sh (.int (1))) (sh (.str [48, 49, 48, 49, 48, 49, 48, 49, 49])) (sh (.str [48, 48, 49, 48, 48, 49, 48, 48, 49, 48, 48, 49, 48, 49])) (sh (.tup [(.int (1)), (.int (1)), (.int (4))])) x14 x15 x16 x17 x18 x19 x20 x21 x22 x23) t := by kernel_rfl
end
theorem nd_ok {n d : Nat} (h1 : 1 ≤ n) (h2 : n ≤ 5) (h3 : 1 ≤ d) (h4 : d ≤ 9) (t : Tape) (x2 x3 x4 x5 x6 x7 x8 x9 x10 x11 x12 x13 x14 x15 x16 x17 x18 x19 x20 x21 x22 x23 : Option (D × Bool)) : ∃ y8 y9 y10 y11 y12 y13, evSs M40 C40 false [S8, S9, S10] (St x2 x3 x4 x5 x6 x7 (inS n) (inS d) x10 x11 x12 x13 x14 x15 x16 x17 x18 x19 x20 x21 x22 x23) t = .ok (.nx, St x2 x3 x4 x5 x6 x7 y8 y9 y10 y11 y12 y13 x14 x15 x16 x17 x18 x19 x20 x21 x22 x23) t := by
  rcases (by omega : n = 1 ∨ n = 2 ∨ n = 3 ∨ n = 4 ∨ n = 5) with rfl | rfl | rfl | rfl | rfl <;> rcases (by omega : d = 1 ∨ d = 2 ∨ d = 3 ∨ d = 4 ∨ d = 5 ∨ d = 6 ∨ d = 7 ∨ d = 8 ∨ d = 9) with rfl | rfl | rfl | rfl | rfl | rfl | rfl | rfl | rfl
  · exact ⟨_, _, _, _, _, _, nd_1_1 t x2 x3 x4 x5 x6 x7 x10 x11 x12 x13 x14 x15 x16 x17 x18 x19 x20 x21 x22 x23⟩
  · exact ⟨_, _, _, _, _, _, nd_1_2 t x2 x3 x4 x5 x6 x7 x10 x11 x12 x13 x14 x15 x16 x17 x18 x19 x20 x21 x22 x23⟩
  · exact ⟨_, _, _, _, _, _, nd_1_3 t x2 x3 x4 x5 x6 x7 x10 x11 x12 x13 x14 x15 x16 x17 x18 x19 x20 x21 x22 x23⟩
  · exact ⟨_, _, _, _, _, _, nd_1_4 t x2 x3 x4 x5 x6 x7 x10 x11 x12 x13 x14 x15 x16 x17 x18 x19 x20 x21 x22 x23⟩
  · exact ⟨_, _, _, _, _, _, nd_1_5 t x2 x3 x4 x5 x6 x7 x10 x11 x12 x13 x14 x15 x16 x17 x18 x19 x20 x21 x22 x23⟩
  · exact ⟨_, _, _, _, _, _, nd_1_6 t x2 x3 x4 x5 x6 x7 x10 x11 x12 x13 x14 x15 x16 x17 x18 x19 x20 x21 x22 x23⟩
  · exact ⟨_, _, _, _, _, _, nd_1_7 t x2 x3 x4 x5 x6 x7 x10 x11 x12 x13 x14 x15 x16 x17 x18 x19 x20 x21 x22 x23⟩
  · exact ⟨_, _, _, _, _, _, nd_1_8 t x2 x3 x4 x5 x6 x7 x10 x11 x12 x13 x14 x15 x16 x17 x18 x19 x20 x21 x22 x23⟩
  · exact ⟨_, _, _, _, _, _, nd_1_9 t x2 x3 x4 x5 x6 x7 x10 x11 x12 x13 x14 x15 x16 x17 x18 x19 x20 x21 x22 x23⟩
  · exact ⟨_, _, _, _, _, _, nd_2_1 t x2 x3 x4 x5 x6 x7 x10 x11 x12 x13 x14 x15 x16 x17 x18 x19 x20 x21 x22 x23⟩
  · exact ⟨_, _, _, _, _, _, nd_2_2 t x2 x3 x4 x5 x6 x7 x10 x11 x12 x13 x14 x15 x16 x17 x18 x19 x20 x21 x22 x23⟩
  · exact ⟨_, _, _, _, _, _, nd_2_3 t x2 x3 x4 x5 x6 x7 x10 x11 x12 x13 x14 x15 x16 x17 x18 x19 x20 x21 x22 x23⟩
  · exact ⟨_, _, _, _, _, _, nd_2_4 t x2 x3 x4 x5 x6 x7 x10 x11 x12 x13 x14 x15 x16 x17 x18 x19 x20 x21 x22 x23⟩
  · exact ⟨_, _, _, _, _, _, nd_2_5 t x2 x3 x4 x5 x6 x7 x10 x11 x12 x13 x14 x15 x16 x17 x18 x19 x20 x21 x22 x23⟩
  · exact ⟨_, _, _, _, _, _, nd_2_6 t x2 x3 x4 x5 x6 x7 x10 x11 x12 x13 x14 x15 x16 x17 x18 x19 x20 x21 x22 x23⟩
  · exact ⟨_, _, _, _, _, _, nd_2_7 t x2 x3 x4 x5 x6 x7 x10 x11 x12 x13 x14 x15 x16 x17 x18 x19 x20 x21 x22 x23⟩
  · exact ⟨_, _, _, _, _, _, nd_2_8 t x2 x3 x4 x5 x6 x7 x10 x11 x12 x13 x14 x15 x16 x17 x18 x19 x20 x21 x22 x23⟩
  · exact ⟨_, _, _, _, _, _, nd_2_9 t x2 x3 x4 x5 x6 x7 x10 x11 x12 x13 x14 x15 x16 x17 x18 x19 x20 x21 x22 x23⟩
  · exact ⟨_, _, _, _, _, _, nd_3_1 t x2 x3 x4 x5 x6 x7 x10 x11 x12 x13 x14 x15 x16 x17 x18 x19 x20 x21 x22 x23⟩
  · exact ⟨_, _, _, _, _, _, nd_3_2 t x2 x3 x4 x5 x6 x7 x10 x11 x12 x13 x14 x15 x16 x17 x18 x19 x20 x21 x22 x23⟩
  · exact ⟨_, _, _, _, _, _, nd_3_3 t x2 x3 x4 x5 x6 x7 x10 x11 x12 x13 x14 x15 x16 x17 x18 x19 x20 x21 x22 x23⟩
  · exact ⟨_, _, _, _, _, _, nd_3_4 t x2 x3 x4 x5 x6 x7 x10 x11 x12 x13 x14 x15 x16 x17 x18 x19 x20 x21 x22 x23⟩
  · exact ⟨_, _, _, _, _, _, nd_3_5 t x2 x3 x4 x5 x6 x7 x10 x11 x12 x13 x14 x15 x16 x17 x18 x19 x20 x21 x22 x23⟩
  · exact ⟨_, _, _, _, _, _, nd_3_6 t x2 x3 x4 x5 x6 x7 x10 x11 x12 x13 x14 x15 x16 x17 x18 x19 x20 x21 x22 x23⟩
  · exact ⟨_, _, _, _, _, _, nd_3_7 t x2 x3 x4 x5 x6 x7 x10 x11 x12 x13 x14 x15 x16 x17 x18 x19 x20 x21 x22 x23⟩
  · exact ⟨_, _, _, _, _, _, nd_3_8 t x2 x3 x4 x5 x6 x7 x10 x11 x12 x13 x14 x15 x16 x17 x18 x19 x20 x21 x22 x23⟩
  · exact ⟨_, _, _, _, _, _, nd_3_9 t x2 x3 x4 x5 x6 x7 x10 x11 x12 x13 x14 x15 x16 x17 x18 x19 x20 x21 x22 x23⟩
  · exact ⟨_, _, _, _, _, _, nd_4_1 t x2 x3 x4 x5 x6 x7 x10 x11 x12 x13 x14 x15 x16 x17 x18 x19 x20 x21 x22 x23⟩
  · exact ⟨_, _, _, _, _, _, nd_4_2 t x2 x3 x4 x5 x6 x7 x10 x11 x12 x13 x14 x15 x16 x17 x18 x19 x20 x21 x22 x23⟩
  · exact ⟨_, _, _, _, _, _, nd_4_3 t x2 x3 x4 x5 x6 x7 x10 x11 x12 x13 x14 x15 x16 x17 x18 x19 x20 x21 x22 x23⟩
  · exact ⟨_, _, _, _, _, _, nd_4_4 t x2 x3 x4 x5 x6 x7 x10 x11 x12 x13 x14 x15 x16 x17 x18 x19 x20 x21 x22 x23⟩
  · exact ⟨_, _, _, _, _, _, nd_4_5 t x2 x3 x4 x5 x6 x7 x10 x11 x12 x13 x14 x15 x16 x17 x18 x19 x20 x21 x22 x23⟩
  · exact ⟨_, _, _, _, _, _, nd_4_6 t x2 x3 x4 x5 x6 x7 x10 x11 x12 x13 x14 x15 x16 x17 x18 x19 x20 x21 x22 x23⟩
  · exact ⟨_, _, _, _, _, _, nd_4_7 t x2 x3 x4 x5 x6 x7 x10 x11 x12 x13 x14 x15 x16 x17 x18 x19 x20 x21 x22 x23⟩
  · exact ⟨_, _, _, _, _, _, nd_4_8 t x2 x3 x4 x5 x6 x7 x10 x11 x12 x13 x14 x15 x16 x17 x18 x19 x20 x21 x22 x23⟩
  · exact ⟨_, _, _, _, _, _, nd_4_9 t x2 x3 x4 x5 x6 x7 x10 x11 x12 x13 x14 x15 x16 x17 x18 x19 x20 x21 x22 x23⟩
  · exact ⟨_, _, _, _, _, _, nd_5_1 t x2 x3 x4 x5 x6 x7 x10 x11 x12 x13 x14 x15 x16 x17 x18 x19 x20 x21 x22 x23⟩
  · exact ⟨_, _, _, _, _, _, nd_5_2 t x2 x3 x4 x5 x6 x7 x10 x11 x12 x13 x14 x15 x16 x17 x18 x19 x20 x21 x22 x23⟩
  · exact ⟨_, _, _, _, _, _, nd_5_3 t x2 x3 x4 x5 x6 x7 x10 x11 x12 x13 x14 x15 x16 x17 x18 x19 x20 x21 x22 x23⟩
  · exact ⟨_, _, _, _, _, _, nd_5_4 t x2 x3 x4 x5 x6 x7 x10 x11 x12 x13 x14 x15 x16 x17 x18 x19 x20 x21 x22 x23⟩
  · exact ⟨_, _, _, _, _, _, nd_5_5 t x2 x3 x4 x5 x6 x7 x10 x11 x12 x13 x14 x15 x16 x17 x18 x19 x20 x21 x22 x23⟩
  · exact ⟨_, _, _, _, _, _, nd_5_6 t x2 x3 x4 x5 x6 x7 x10 x11 x12 x13 x14 x15 x16 x17 x18 x19 x20 x21 x22 x23⟩
  · exact ⟨_, _, _, _, _, _, nd_5_7 t x2 x3 x4 x5 x6 x7 x10 x11 x12 x13 x14 x15 x16 x17 x18 x19 x20 x21 x22 x23⟩
  · exact ⟨_, _, _, _, _, _, nd_5_8 t x2 x3 x4 x5 x6 x7 x10 x11 x12 x13 x14 x15 x16 x17 x18 x19 x20 x21 x22 x23⟩
  · exact ⟨_, _, _, _, _, _, nd_5_9 t x2 x3 x4 x5 x6 x7 x10 x11 x12 x13 x14 x15 x16 x17 x18 x19 x20 x21 x22 x23⟩
end LW

set_option Elab.async false
set_option linter.all false
set_option maxRecDepth 100000
set_option maxHeartbeats 4000000
namespace LW
open EV
section
variable (t : Tape)
theorem at_0 : evSs M39 C39 true [U2, U3, U4] [sh .tape, gold, lineS, (inS 0), none, none, none, none, none, none, none, none, none, none, none, none, none, none, none] t = .ok (.nx, [sh .tape, gold, lineS, (sh (.int (0))), (sh (.str [48, 49, 48, 48, 49, 48])), (sh (.int (0))), (sh (.str [48, 49, 48, 49])), (sh (.int (0))), (sh (.str [48, 49, 48, 48, 49, 48])), (sh (.str [48])), (sh (.int (6))), none, none, none, none, none, none, none, none]) t := by kernel_rfl
theorem at_1 : evSs M39 C39 true [U2, U3, U4] [sh .tape, gold, lineS, (inS 1), none, none, none, none, none, none, none, none, none, none, none, none, none, none, none] t = .ok (.nx, [sh .tape, gold, lineS, (sh (.int (1))), (sh (.str [49, 48, 48, 49, 48, 49])), (sh (.int (1))), (sh (.str [48, 49, 48, 48])), (sh (.int (0))), (sh (.str [48, 49, 48, 48, 49, 48, 49])), (sh (.str [48, 49])), (sh (.int (7))), none, none, none, none, none, none, none, none]) t := by kernel_rfl
theorem at_2 : evSs M39 C39 true [U2, U3, U4] [sh .tape, gold, lineS, (inS 2), none, none, none, none, none, none, none, none, none, none, none, none, none, none, none] t = .ok (.nx, [sh .tape, gold, lineS, (sh (.int (2))), (sh (.str [48, 48, 49, 48, 49, 48])), (sh (.int (0))), (sh (.str [49, 48, 48, 49])), (sh (.int (0))), (sh (.str [48, 48, 49, 48, 49, 48])), (sh (.str [48])), (sh (.int (6))), none, none, none, none, none, none, none, none]) t := by kernel_rfl
theorem at_3 : evSs M39 C39 true [U2, U3, U4] [sh .tape, gold, lineS, (inS 3), none, none, none, none, none, none, none, none, none, none, none, none, none, none, none] t = .ok (.nx, [sh .tape, gold, lineS, (sh (.int (3))), (sh (.str [48, 49, 48, 49, 48, 48])), (sh (.int (0))), (sh (.str [48, 48, 49, 49])), (sh (.int (0))), (sh (.str [48, 49, 48, 49, 48, 48])), (sh (.str [48])), (sh (.int (6))), none, none, none, none, none, none, none, none]) t := by kernel_rfl
theorem at_4 : evSs M39 C39 true [U2, U3, U4] [sh .tape, gold, lineS, (inS 4), none, none, none, none, none, none, none, none, none, none, none, none, none, none, none] t = .ok (.nx, [sh .tape, gold, lineS, (sh (.int (4))), (sh (.str [49, 48, 49, 48, 48, 49])), (sh (.int (1))), (sh (.str [48, 48, 49, 48])), (sh (.int (0))), (sh (.str [48, 49, 48, 49, 48, 48, 49])), (sh (.str [48, 49])), (sh (.int (7))), none, none, none, none, none, none, none, none]) t := by kernel_rfl
theorem at_5 : evSs M39 C39 true [U2, U3, U4] [sh .tape, gold, lineS, (inS 5), none, none, none, none, none, none, none, none, none, none, none, none, none, none, none] t = .ok (.nx, [sh .tape, gold, lineS, (sh (.int (5))), (sh (.str [48, 49, 48, 48, 49, 48])), (sh (.int (0))), (sh (.str [48, 49, 48, 49])), (sh (.int (0))), (sh (.str [48, 49, 48, 48, 49, 48])), (sh (.str [48])), (sh (.int (6))), none, none, none, none, none, none, none, none]) t := by kernel_rfl
theorem at_6 : evSs M39 C39 true [U2, U3, U4] [sh .tape, gold, lineS, (inS 6), none, none, none, none, none, none, none, none, none, none, none, none, none, none, none] t = .ok (.nx, [sh .tape, gold, lineS, (sh (.int (6))), (sh (.str [49, 48, 48, 49, 48, 48])), (sh (.int (1))), (sh (.str [48, 49, 48, 49, 49])), (sh (.int (0))), (sh (.str [48, 49, 48, 48, 49, 48, 48])), (sh (.str [48])), (sh (.int (7))), none, none, none, none, none, none, none, none]) t := by kernel_rfl
theorem at_7 : evSs M39 C39 true [U2, U3, U4] [sh .tape, gold, lineS, (inS 7), none, none, none, none, none, none, none, none, none, none, none, none, none, none, none] t = .ok (.nx, [sh .tape, gold, lineS, (sh (.int (7))), (sh (.str [48, 48, 49, 48, 48, 49])), (sh (.int (0))), (sh (.str [49, 48, 49, 48])), (sh (.int (0))), (sh (.str [48, 48, 49, 48, 48, 49])), (sh (.str [48, 49])), (sh (.int (6))), none, none, none, none, none, none, none, none]) t := by kernel_rfl
theorem at_8 : evSs M39 C39 true [U2, U3, U4] [sh .tape, gold, lineS, (inS 8), none, none, none, none, none, none, none, none, none, none, none, none, none, none, none] t = .ok (.nx, [sh .tape, gold, lineS, (sh (.int (8))), (sh (.str [48, 49, 48, 48, 49, 48])), (sh (.int (0))), (sh (.str [48, 49, 48, 49])), (sh (.int (0))), (sh (.str [48, 49, 48, 48, 49, 48])), (sh (.str [48])), (sh (.int (6))), none, none, none, none, none, none, none, none]) t := by kernel_rfl
theorem at_9 : evSs M39 C39 true [U2, U3, U4] [sh .tape, gold, lineS, (inS 9), none, none, none, none, none, none, none, none, none, none, none, none, none, none, none] t = .ok (.nx, [sh .tape, gold, lineS, (sh (.int (9))), (sh (.str [49, 48, 48, 49, 48, 49])), (sh (.int (1))), (sh (.str [48, 49, 48, 48])), (sh (.int (0))), (sh (.str [48, 49, 48, 48, 49, 48, 49])), (sh (.str [48, 49])), (sh (.int (7))), none, none, none, none, none, none, none, none]) t := by kernel_rfl
theorem at_10 : evSs M39 C39 true [U2, U3, U4] [sh .tape, gold, lineS, (inS 10), none, none, none, none, none, none, none, none, none, none, none, none, none, none, none] t = .ok (.nx, [sh .tape, gold, lineS, (sh (.int (10))), (sh (.str [48, 48, 49, 48, 49, 48])), (sh (.int (0))), (sh (.str [49, 48, 48, 49])), (sh (.int (0))), (sh (.str [48, 48, 49, 48, 49, 48])), (sh (.str [48])), (sh (.int (6))), none, none, none, none, none, none, none, none]) t := by kernel_rfl
theorem at_11 : evSs M39 C39 true [U2, U3, U4] [sh .tape, gold, lineS, (inS 11), none, none, none, none, none, none, none, none, none, none, none, none, none, none, none] t = .ok (.nx, [sh .tape, gold, lineS, (sh (.int (11))), (sh (.str [48, 49, 48, 49, 48, 48])), (sh (.int (0))), (sh (.str [48, 48, 49, 49])), (sh (.int (0))), (sh (.str [48, 49, 48, 49, 48, 48])), (sh (.str [48])), (sh (.int (6))), none, none, none, none, none, none, none, none]) t := by kernel_rfl
theorem at_12 : evSs M39 C39 true [U2, U3, U4] [sh .tape, gold, lineS, (inS 12), none, none, none, none, none, none, none, none, none, none, none, none, none, none, none] t = .ok (.nx, [sh .tape, gold, lineS, (sh (.int (12))), (sh (.str [49, 48, 49, 48, 48, 49])), (sh (.int (1))), (sh (.str [48, 48, 49, 48])), (sh (.int (0))), (sh (.str [48, 49, 48, 49, 48, 48, 49])), (sh (.str [48, 49])), (sh (.int (7))), none, none, none, none, none, none, none, none]) t := by kernel_rfl
theorem at_13 : evSs M39 C39 true [U2, U3, U4] [sh .tape, gold, lineS, (inS 13), none, none, none, none, none, none, none, none, none, none, none, none, none, none, none] t = .ok (.nx, [sh .tape, gold, lineS, (sh (.int (13))), (sh (.str [48, 49, 48, 48, 49, 48])), (sh (.int (0))), (sh (.str [48, 49, 48, 49])), (sh (.int (0))), (sh (.str [48, 49, 48, 48, 49, 48])), (sh (.str [48])), (sh (.int (6))), none, none, none, none, none, none, none, none]) t := by kernel_rfl
theorem at_14 : evSs M39 C39 true [U2, U3, U4] [sh .tape, gold, lineS, (inS 14), none, none, none, none, none, none, none, none, none, none, none, none, none, none, none] t = .ok (.nx, [sh .tape, gold, lineS, (sh (.int (14))), (sh (.str [49, 48, 48, 49, 48, 49])), (sh (.int (1))), (sh (.str [48, 49, 48, 48])), (sh (.int (0))), (sh (.str [48, 49, 48, 48, 49, 48, 49])), (sh (.str [48, 49])), (sh (.int (7))), none, none, none, none, none, none, none, none]) t := by kernel_rfl
theorem at_15 : evSs M39 C39 true [U2, U3, U4] [sh .tape, gold, lineS, (inS 15), none, none, none, none, none, none, none, none, none, none, none, none, none, none, none] t = .ok (.nx, [sh .tape, gold, lineS, (sh (.int (15))), (sh (.str [48, 48, 49, 48, 49, 48])), (sh (.int (0))), (sh (.str [49, 48, 48, 49])), (sh (.int (0))), (sh (.str [48, 48, 49, 48, 49, 48])), (sh (.str [48])), (sh (.int (6))), none, none, none, none, none, none, none, none]) t := by kernel_rfl
theorem at_16 : evSs M39 C39 true [U2, U3, U4] [sh .tape, gold, lineS, (inS 16), none, none, none, none, none, none, none, none, none, none, none, none, none, none, none] t = .ok (.nx, [sh .tape, gold, lineS, (sh (.int (16))), (sh (.str [48, 49, 48, 49, 48, 48])), (sh (.int (0))), (sh (.str [48, 48, 49, 49])), (sh (.int (0))), (sh (.str [48, 49, 48, 49, 48, 48])), (sh (.str [48])), (sh (.int (6))), none, none, none, none, none, none, none, none]) t := by kernel_rfl
theorem at_17 : evSs M39 C39 true [U2, U3, U4] [sh .tape, gold, lineS, (inS 17), none, none, none, none, none, none, none, none, none, none, none, none, none, none, none] t = .ok (.nx, [sh .tape, gold, lineS, (sh (.int (17))), (sh (.str [49, 48, 49, 48, 48, 49])), (sh (.int (1))), (sh (.str [48, 48, 49, 48])), (sh (.int (0))), (sh (.str [48, 49, 48, 49, 48, 48, 49])), (sh (.str [48, 49])), (sh (.int (7))), none, none, none, none, none, none, none, none]) t := by kernel_rfl
theorem at_18 : evSs M39 C39 true [U2, U3, U4] [sh .tape, gold, lineS, (inS 18), none, none, none, none, none, none, none, none, none, none, none, none, none, none, none] t = .ok (.nx, [sh .tape, gold, lineS, (sh (.int (18))), (sh (.str [48, 49, 48, 48, 49, 48])), (sh (.int (0))), (sh (.str [48, 49, 48, 49])), (sh (.int (0))), (sh (.str [48, 49, 48, 48, 49, 48])), (sh (.str [48])), (sh (.int (6))), none, none, none, none, none, none, none, none]) t := by kernel_rfl
theorem at_19 : evSs M39 C39 true [U2, U3, U4] [sh .tape, gold, lineS, (inS 19), none, none, none, none, none, none, none, none, none, none, none, none, none, none, none] t = .ok (.nx, [sh .tape, gold, lineS, (sh (.int (19))), (sh (.str [49, 48, 48, 49, 48, 48])), (sh (.int (1))), (sh (.str [48, 49, 48, 49, 49])), (sh (.int (0))), (sh (.str [48, 49, 48, 48, 49, 48, 48])), (sh (.str [48])), (sh (.int (7))), none, none, none, none, none, none, none, none]) t := by kernel_rfl
theorem at_20 : evSs M39 C39 true [U2, U3, U4] [sh .tape, gold, lineS, (inS 20), none, none, none, none, none, none, none, none, none, none, none, none, none, none, none] t = .ok (.nx, [sh .tape, gold, lineS, (sh (.int (20))), (sh (.str [48, 48, 49, 48, 48, 49])), (sh (.int (0))), (sh (.str [49, 48, 49, 48])), (sh (.int (0))), (sh (.str [48, 48, 49, 48, 48, 49])), (sh (.str [48, 49])), (sh (.int (6))), none, none, none, none, none, none, none, none]) t := by kernel_rfl
theorem at_21 : evSs M39 C39 true [U2, U3, U4] [sh .tape, gold, lineS, (inS 21), none, none, none, none, none, none, none, none, none, none, none, none, none, none, none] t = .ok (.nx, [sh .tape, gold, lineS, (sh (.int (21))), (sh (.str [48, 49, 48, 48, 49, 48])), (sh (.int (0))), (sh (.str [48, 49, 48, 49])), (sh (.int (0))), (sh (.str [48, 49, 48, 48, 49, 48])), (sh (.str [48])), (sh (.int (6))), none, none, none, none, none, none, none, none]) t := by kernel_rfl
theorem at_22 : evSs M39 C39 true [U2, U3, U4] [sh .tape, gold, lineS, (inS 22), none, none, none, none, none, none, none, none, none, none, none, none, none, none, none] t = .ok (.nx, [sh .tape, gold, lineS, (sh (.int (22))), (sh (.str [49, 48, 48, 49, 48, 49])), (sh (.int (1))), (sh (.str [48, 49, 48, 48])), (sh (.int (0))), (sh (.str [48, 49, 48, 48, 49, 48, 49])), (sh (.str [48, 49])), (sh (.int (7))), none, none, none, none, none, none, none, none]) t := by kernel_rfl
theorem at_23 : evSs M39 C39 true [U2, U3, U4] [sh .tape, gold, lineS, (inS 23), none, none, none, none, none, none, none, none, none, none, none, none, none, none, none] t = .ok (.nx, [sh .tape, gold, lineS, (sh (.int (23))), (sh (.str [48, 48, 49, 48, 49, 48])), (sh (.int (0))), (sh (.str [49, 48, 48, 49])), (sh (.int (0))), (sh (.str [48, 48, 49, 48, 49, 48])), (sh (.str [48])), (sh (.int (6))), none, none, none, none, none, none, none, none]) t := by kernel_rfl
theorem at_24 : evSs M39 C39 true [U2, U3, U4] [sh .tape, gold, lineS, (inS 24), none, none, none, none, none, none, none, none, none, none, none, none, none, none, none] t = .ok (.nx, [sh .tape, gold, lineS, (sh (.int (24))), (sh (.str [48, 49, 48, 49, 48, 48])), (sh (.int (0))), (sh (.str [48, 48, 49, 49])), (sh (.int (0))), (sh (.str [48, 49, 48, 49, 48, 48])), (sh (.str [48])), (sh (.int (6))), none, none, none, none, none, none, none, none]) t := by kernel_rfl
theorem at_25 : evSs M39 C39 true [U2, U3, U4] [sh .tape, gold, lineS, (inS 25), none, none, none, none, none, none, none, none, none, none, none, none, none, none, none] t = .ok (.nx, [sh .tape, gold, lineS, (sh (.int (25))), (sh (.str [49, 48, 49, 48, 48, 49])), (sh (.int (1))), (sh (.str [48, 48, 49, 48])), (sh (.int (0))), (sh (.str [48, 49, 48, 49, 48, 48, 49])), (sh (.str [48, 49])), (sh (.int (7))), none, none, none, none, none, none, none, none]) t := by kernel_rfl
theorem at_26 : evSs M39 C39 true [U2, U3, U4] [sh .tape, gold, lineS, (inS 26), none, none, none, none, none, none, none, none, none, none, none, none, none, none, none] t = .ok (.nx, [sh .tape, gold, lineS, (sh (.int (26))), (sh (.str [48, 49, 48, 48, 49, 48])), (sh (.int (0))), (sh (.str [48, 49, 48, 49])), (sh (.int (0))), (sh (.str [48, 49, 48, 48, 49, 48])), (sh (.str [48])), (sh (.int (6))), none, none, none, none, none, none, none, none]) t := by kernel_rfl
theorem at_27 : evSs M39 C39 true [U2, U3, U4] [sh .tape, gold, lineS, (inS 27), none, none, none, none, none, none, none, none, none, none, none, none, none, none, none] t = .ok (.nx, [sh .tape, gold, lineS, (sh (.int (27))), (sh (.str [49, 48, 48, 49, 48, 48])), (sh (.int (1))), (sh (.str [48, 49, 48, 49, 49])), (sh (.int (0))), (sh (.str [48, 49, 48, 48, 49, 48, 48])), (sh (.str [48])), (sh (.int (7))), none, none, none, none, none, none, none, none]) t := by kernel_rfl
theorem at_28 : evSs M39 C39 true [U2, U3, U4] [sh .tape, gold, lineS, (inS 28), none, none, none, none, none, none, none, none, none, none, none, none, none, none, none] t = .ok (.nx, [sh .tape, gold, lineS, (sh (.int (28))), (sh (.str [48, 48, 49, 48, 48, 49])), (sh (.int (0))), (sh (.str [49, 48, 49, 48])), (sh (.int (0))), (sh (.str [48, 48, 49, 48, 48, 49])), (sh (.str [48, 49])), (sh (.int (6))), none, none, none, none, none, none, none, none]) t := by kernel_rfl
theorem at_29 : evSs M39 C39 true [U2, U3, U4] [sh .tape, gold, lineS, (inS 29), none, none, none, none, none, none, none, none, none, none, none, none, none, none, none] t = .ok (.nx, [sh .tape, gold, lineS, (sh (.int (29))), (sh (.str [48, 49, 48, 48, 49, 48])), (sh (.int (0))), (sh (.str [48, 49, 48, 49])), (sh (.int (0))), (sh (.str [48, 49, 48, 48, 49, 48])), (sh (.str [48])), (sh (.int (6))), none, none, none, none, none, none, none, none]) t := by kernel_rfl
theorem at_30 : evSs M39 C39 true [U2, U3, U4] [sh .tape, gold, lineS, (inS 30), none, none, none, none, none, none, none, none, none, none, none, none, none, none, none] t = .ok (.nx, [sh .tape, gold, lineS, (sh (.int (30))), (sh (.str [49, 48, 48, 49, 48, 49])), (sh (.int (1))), (sh (.str [48, 49, 48, 48])), (sh (.int (0))), (sh (.str [48, 49, 48, 48, 49, 48, 49])), (sh (.str [48, 49])), (sh (.int (7))), none, none, none, none, none, none, none, none]) t := by kernel_rfl
theorem at_31 : evSs M39 C39 true [U2, U3, U4] [sh .tape, gold, lineS, (inS 31), none, none, none, none, none, none, none, none, none, none, none, none, none, none, none] t = .ok (.nx, [sh .tape, gold, lineS, (sh (.int (31))), (sh (.str [48, 48, 49, 48, 49, 48])), (sh (.int (0))), (sh (.str [49, 48, 48, 49])), (sh (.int (0))), (sh (.str [48, 48, 49, 48, 49, 48])), (sh (.str [48])), (sh (.int (6))), none, none, none, none, none, none, none, none]) t := by kernel_rfl
theorem at_32 : evSs M39 C39 true [U2, U3, U4] [sh .tape, gold, lineS, (inS 32), none, none, none, none, none, none, none, none, none, none, none, none, none, none, none] t = .ok (.nx, [sh .tape, gold, lineS, (sh (.int (32))), (sh (.str [48, 49, 48, 49, 48, 48])), (sh (.int (0))), (sh (.str [48, 48, 49, 49])), (sh (.int (0))), (sh (.str [48, 49, 48, 49, 48, 48])), (sh (.str [48])), (sh (.int (6))), none, none, none, none, none, none, none, none]) t := by kernel_rfl
theorem at_33 : evSs M39 C39 true [U2, U3, U4] [sh .tape, gold, lineS, (inS 33), none, none, none, none, none, none, none, none, none, none, none, none, none, none, none] t = .ok (.nx, [sh .tape, gold, lineS, (sh (.int (33))), (sh (.str [49, 48, 49, 48, 48, 49])), (sh (.int (1))), (sh (.str [48, 48, 49, 48])), (sh (.int (0))), (sh (.str [48, 49, 48, 49, 48, 48, 49])), (sh (.str [48, 49])), (sh (.int (7))), none, none, none, none, none, none, none, none]) t := by kernel_rfl
theorem at_34 : evSs M39 C39 true [U2, U3, U4] [sh .tape, gold, lineS, (inS 34), none, none, none, none, none, none, none, none, none, none, none, none, none, none, none] t = .ok (.nx, [sh .tape, gold, lineS, (sh (.int (34))), (sh (.str [48, 49, 48, 48, 49, 48])), (sh (.int (0))), (sh (.str [48, 49, 48, 49])), (sh (.int (0))), (sh (.str [48, 49, 48, 48, 49, 48])), (sh (.str [48])), (sh (.int (6))), none, none, none, none, none, none, none, none]) t := by kernel_rfl
theorem at_35 : evSs M39 C39 true [U2, U3, U4] [sh .tape, gold, lineS, (inS 35), none, none, none, none, none, none, none, none, none, none, none, none, none, none, none] t = .ok (.nx, [sh .tape, gold, lineS, (sh (.int (35))), (sh (.str [49, 48, 48, 49, 48, 49])), (sh (.int (1))), (sh (.str [48, 49, 48, 48])), (sh (.int (0))), (sh (.str [48, 49, 48, 48, 49, 48, 49])), (sh (.str [48, 49])), (sh (.int (7))), none, none, none, none, none, none, none, none]) t := by kernel_rfl
theorem at_36 : evSs M39 C39 true [U2, U3, U4] [sh .tape, gold, lineS, (inS 36), none, none, none, none, none, none, none, none, none, none, none, none, none, none, none] t = .ok (.nx, [sh .tape, gold, lineS, (sh (.int (36))), (sh (.str [48, 48, 49, 48, 49, 48])), (sh (.int (0))), (sh (.str [49, 48, 48, 49])), (sh (.int (0))), (sh (.str [48, 48, 49, 48, 49, 48])), (sh (.str [48])), (sh (.int (6))), none, none, none, none, none, none, none, none]) t := by kernel_rfl
theorem at_37 : evSs M39 C39 true [U2, U3, U4] [sh .tape, gold, lineS, (inS 37), none, none, none, none, none, none, none, none, none, none, none, none, none, none, none] t = .ok (.nx, [sh .tape, gold, lineS, (sh (.int (37))), (sh (.str [48, 49, 48, 49, 48, 48])), (sh (.int (0))), (sh (.str [48, 48, 49, 49])), (sh (.int (0))), (sh (.str [48, 49, 48, 49, 48, 48])), (sh (.str [48])), (sh (.int (6))), none, none, none, none, none, none, none, none]) t := by kernel_rfl
theorem at_38 : evSs M39 C39 true [U2, U3, U4] [sh .tape, gold, lineS, (inS 38), none, none, none, none, none, none, none, none, none, none, none, none, none, none, none] t = .ok (.nx, [sh .tape, gold, lineS, (sh (.int (38))), (sh (.str [49, 48, 49, 48, 48, 49])), (sh (.int (1))), (sh (.str [48, 48, 49, 48])), (sh (.int (0))), (sh (.str [48, 49, 48, 49, 48, 48, 49])), (sh (.str [48, 49])), (sh (.int (7))), none, none, none, none, none, none, none, none]) t := by kernel_rfl
theorem at_39 : evSs M39 C39 true [U2, U3, U4] [sh .tape, gold, lineS, (inS 39), none, none, none, none, none, none, none, none, none, none, none, none, none, none, none] t = .ok (.nx, [sh .tape, gold, lineS, (sh (.int (39))), (sh (.str [48, 49, 48, 48, 49, 48])), (sh (.int (0))), (sh (.str [48, 49, 48, 49])), (sh (.int (0))), (sh (.str [48, 49, 48, 48, 49, 48])), (sh (.str [48])), (sh (.int (6))), none, none, none, none, none, none, none, none]) t := by kernel_rfl
variable (x3 x4 x5 x6 x7 x8 x9 x10 x11 x12 x13 x14 x15 x16 x17 x18 : Option (D × Bool))
theorem len_0 : thn (evSs M39 C39 true [U6, U7, U8, U9, U10] [sh .tape, gold, lineS, x3, x4, x5, x6, x7, x8, x9, x10, (inS 0), x12, x13, x14, x15, x16, x17, x18] t) (fun o t1 => retR o.1 t1) = .ok (.bl true) t := by kernel_rfl
theorem len_1 : thn (evSs M39 C39 true [U6, U7, U8, U9, U10] [sh .tape, gold, lineS, x3, x4, x5, x6, x7, x8, x9, x10, (inS 1), x12, x13, x14, x15, x16, x17, x18] t) (fun o t1 => retR o.1 t1) = .ok (.bl true) t := by kernel_rfl
theorem len_2 : thn (evSs M39 C39 true [U6, U7, U8, U9, U10] [sh .tape, gold, lineS, x3, x4, x5, x6, x7, x8, x9, x10, (inS 2), x12, x13, x14, x15, x16, x17, x18] t) (fun o t1 => retR o.1 t1) = .ok (.bl true) t := by kernel_rfl
theorem len_3 : thn (evSs M39 C39 true [U6, U7, U8, U9, U10] [sh .tape, gold, lineS, x3, x4, x5, x6, x7, x8, x9, x10, (inS 3), x12, x13, x14, x15, x16, x17, x18] t) (fun o t1 => retR o.1 t1) = .ok (.bl true) t := by kernel_rfl
theorem len_4 : thn (evSs M39 C39 true [U6, U7, U8, U9, U10] [sh .tape, gold, lineS, x3, x4, x5, x6, x7, x8, x9, x10, (inS 4), x12, x13, x14, x15, x16, x17, x18] t) (fun o t1 => retR o.1 t1) = .ok (.bl true) t := by kernel_rfl
theorem len_5 : thn (evSs M39 C39 true [U6, U7, U8, U9, U10] [sh .tape, gold, lineS, x3, x4, x5, x6, x7, x8, x9, x10, (inS 5), x12, x13, x14, x15, x16, x17, x18] t) (fun o t1 => retR o.1 t1) = .ok (.bl true) t := by kernel_rfl
theorem len_6 : thn (evSs M39 C39 true [U6, U7, U8, U9, U10] [sh .tape, gold, lineS, x3, x4, x5, x6, x7, x8, x9, x10, (inS 6), x12, x13, x14, x15, x16, x17, x18] t) (fun o t1 => retR o.1 t1) = .ok (.bl true) t := by kernel_rfl
end
theorem at_ok {a : Nat} (h : a < 40) (t : Tape) : ∃ y4 y5 y6 y7 y8 y9 y10, evSs M39 C39 true [U2, U3, U4] [sh .tape, gold, lineS, (inS a), none, none, none, none, none, none, none, none, none, none, none, none, none, none, none] t = .ok (.nx, [sh .tape, gold, lineS, (inS a), y4, y5, y6, y7, y8, y9, y10, none, none, none, none, none, none, none, none]) t := by
  rcases (by omega : a = 0 ∨ a = 1 ∨ a = 2 ∨ a = 3 ∨ a = 4 ∨ a = 5 ∨ a = 6 ∨ a = 7 ∨ a = 8 ∨ a = 9 ∨ a = 10 ∨ a = 11 ∨ a = 12 ∨ a = 13 ∨ a = 14 ∨ a = 15 ∨ a = 16 ∨ a = 17 ∨ a = 18 ∨ a = 19 ∨ a = 20 ∨ a = 21 ∨ a = 22 ∨ a = 23 ∨ a = 24 ∨ a = 25 ∨ a = 26 ∨ a = 27 ∨ a = 28 ∨ a = 29 ∨ a = 30 ∨ a = 31 ∨ a = 32 ∨ a = 33 ∨ a = 34 ∨ a = 35 ∨ a = 36 ∨ a = 37 ∨ a = 38 ∨ a = 39) with rfl | rfl | rfl | rfl | rfl | rfl | rfl | rfl | rfl | rfl | rfl | rfl | rfl | rfl | rfl | rfl | rfl | rfl | rfl | rfl | rfl | rfl | rfl | rfl | rfl | rfl | rfl | rfl | rfl | rfl | rfl | rfl | rfl | rfl | rfl | rfl | rfl | rfl | rfl | rfl
  · exact ⟨_, _, _, _, _, _, _, at_0 t⟩
  · exact ⟨_, _, _, _, _, _, _, at_1 t⟩
  · exact ⟨_, _, _, _, _, _, _, at_2 t⟩
  · exact ⟨_, _, _, _, _, _, _, at_3 t⟩
  · exact ⟨_, _, _, _, _, _, _, at_4 t⟩
  · exact ⟨_, _, _, _, _, _, _, at_5 t⟩
  · exact ⟨_, _, _, _, _, _, _, at_6 t⟩
  · exact ⟨_, _, _, _, _, _, _, at_7 t⟩
  · exact ⟨_, _, _, _, _, _, _, at_8 t⟩
  · exact ⟨_, _, _, _, _, _, _, at_9 t⟩
  · exact ⟨_, _, _, _, _, _, _, at_10 t⟩
  · exact ⟨_, _, _, _, _, _, _, at_11 t⟩
  · exact ⟨_, _, _, _, _, _, _, at_12 t⟩
  · exact ⟨_, _, _, _, _, _, _, at_13 t⟩
  · exact ⟨_, _, _, _, _, _, _, at_14 t⟩
  · exact ⟨_, _, _, _, _, _, _, at_15 t⟩
  · exact ⟨_, _, _, _, _, _, _, at_16 t⟩
  · exact ⟨_, _, _, _, _, _, _, at_17 t⟩
  · exact ⟨_, _, _, _, _, _, _, at_18 t⟩
  · exact ⟨_, _, _, _, _, _, _, at_19 t⟩
  · exact ⟨_, _, _, _, _, _, _, at_20 t⟩
  · exact ⟨_, _, _, _, _, _, _, at_21 t⟩
  · exact ⟨_, _, _, _, _, _, _, at_22 t⟩
  · exact ⟨_, _, _, _, _, _, _, at_23 t⟩
  · exact ⟨_, _, _, _, _, _, _, at_24 t⟩
  · exact ⟨_, _, _, _, _, _, _, at_25 t⟩
  · exact ⟨_, _, _, _, _, _, _, at_26 t⟩
  · exact ⟨_, _, _, _, _, _, _, at_27 t⟩
  · exact ⟨_, _, _, _, _, _, _, at_28 t⟩
  · exact ⟨_, _, _, _, _, _, _, at_29 t⟩
  · exact ⟨_, _, _, _, _, _, _, at_30 t⟩
  · exact ⟨_, _, _, _, _, _, _, at_31 t⟩
  · exact ⟨_, _, _, _, _, _, _, at_32 t⟩
  · exact ⟨_, _, _, _, _, _, _, at_33 t⟩
  · exact ⟨_, _, _, _, _, _, _, at_34 t⟩
  · exact ⟨_, _, _, _, _, _, _, at_35 t⟩
  · exact ⟨_, _, _, _, _, _, _, at_36 t⟩
  · exact ⟨_, _, _, _, _, _, _, at_37 t⟩
  · exact ⟨_, _, _, _, _, _, _, at_38 t⟩
  · exact ⟨_, _, _, _, _, _, _, at_39 t⟩
theorem len_ok {a : Nat} (h : a < 7) (t : Tape) (x3 x4 x5 x6 x7 x8 x9 x10 x11 x12 x13 x14 x15 x16 x17 x18 : Option (D × Bool)) : thn (evSs M39 C39 true [U6, U7, U8, U9, U10] [sh .tape, gold, lineS, x3, x4, x5, x6, x7, x8, x9, x10, (inS a), x12, x13, x14, x15, x16, x17, x18] t) (fun o t1 => retR o.1 t1) = .ok (.bl true) t := by
  rcases (by omega : a = 0 ∨ a = 1 ∨ a = 2 ∨ a = 3 ∨ a = 4 ∨ a = 5 ∨ a = 6) with rfl | rfl | rfl | rfl | rfl | rfl | rfl
  · exact len_0 t x3 x4 x5 x6 x7 x8 x9 x10 x12 x13 x14 x15 x16 x17 x18
  · exact len_1 t x3 x4 x5 x6 x7 x8 x9 x10 x12 x13 x14 x15 x16 x17 x18
  · exact len_2 t x3 x4 x5 x6 x7 x8 x9 x10 x12 x13 x14 x15 x16 x17 x18
  · exact len_3 t x3 x4 x5 x6 x7 x8 x9 x10 x12 x13 x14 x15 x16 x17 x18
  · exact len_4 t x3 x4 x5 x6 x7 x8 x9 x10 x12 x13 x14 x15 x16 x17 x18
  · exact len_5 t x3 x4 x5 x6 x7 x8 x9 x10 x12 x13 x14 x15 x16 x17 x18
  · exact len_6 t x3 x4 x5 x6 x7 x8 x9 x10 x12 x13 x14 x15 x16 x17 x18
end LW

set_option Elab.async false
set_option linter.all false
set_option maxRecDepth 100000
set_option maxHeartbeats 4000000
namespace LW
open EV
def wordsN : Nat → List (List Nat)
  | 0 => [[]]
  | n + 1 => (wordsN n).flatMap fun w => [w ++ [48], w ++ [49]]
theorem wordsN_all : ∀ (n : Nat) (w : List Nat), w.length = n → Wd w → w ∈ wordsN n
  | 0, w, h, _ => by rw [List.length_eq_zero_iff.mp h]; simp [wordsN]
  | n + 1, w, h, hw => by
    rcases List.eq_nil_or_concat w with rfl | ⟨l, a, rfl⟩
    · simp at h
    · rw [List.concat_eq_append] at *
      have hl : l ∈ wordsN n := wordsN_all n l (by simpa using h) fun c hc => hw c (by simp [hc])
      unfold wordsN
      refine List.mem_flatMap.mpr ⟨l, hl, ?_⟩
      rcases hw a (by simp) with rfl | rfl <;> simp
theorem map_mem {α β : Type} {f g : α → β} : ∀ {l : List α}, l.map f = l.map g → ∀ x ∈ l, f x = g x
  | a :: l, h, x, hx => by
    rw [List.map_cons, List.map_cons] at h
    have h1 := (List.cons.inj h).1
    have h2 := (List.cons.inj h).2
    rcases List.mem_cons.mp hx with rfl | hx
    · exact h1
    · exact map_mem h2 x hx
section
variable (t : Tape) (x2 x3 x4 x5 x6 x7 x8 x9 x10 x11 x12 x13 x14 x15 x16 x17 x18 x19 x20 x21 x22 x23 : Option (D × Bool))
theorem w8_0 : (((wordsN 8).drop 0).take 16).map (fun w => evS M40 C40 false S6 (St x2 x3 x4 x5 (sh (.tup [(.str [48]), (.str [48, 49])])) (stS w) x8 x9 x10 x11 x12 x13 x14 x15 x16 x17 x18 x19 x20 x21 x22 x23) t) = (((wordsN 8).drop 0).take 16).map (fun w => .ok (.nx, St x2 x3 x4 x5 (sh (.tup [(.str [48]), (.str [48, 49])])) (stS w) x8 x9 x10 x11 x12 x13 x14 x15 x16 x17 x18 x19 x20 x21 x22 x23) t) := by kernel_rfl
theorem w8_1 : (((wordsN 8).drop 16).take 16).map (fun w => evS M40 C40 false S6 (St x2 x3 x4 x5 (sh (.tup [(.str [48]), (.str [48, 49])])) (stS w) x8 x9 x10 x11 x12 x13 x14 x15 x16 x17 x18 x19 x20 x21 x22 x23) t) = (((wordsN 8).drop 16).take 16).map (fun w => .ok (.nx, St x2 x3 x4 x5 (sh (.tup [(.str [48]), (.str [48, 49])])) (stS w) x8 x9 x10 x11 x12 x13 x14 x15 x16 x17 x18 x19 x20 x21 x22 x23) t) := by kernel_rfl
theorem w8_2 : (((wordsN 8).drop 32).take 16).map (fun w => evS M40 C40 false S6 (St x2 x3 x4 x5 (sh (.tup [(.str [48]), (.str [48, 49])])) (stS w) x8 x9 x10 x11 x12 x13 x14 x15 x16 x17 x18 x19 x20 x21 x22 x23) t) = (((wordsN 8).drop 32).take 16).map (fun w => .ok (.nx, St x2 x3 x4 x5 (sh (.tup [(.str [48]), (.str [48, 49])])) (stS w) x8 x9 x10 x11 x12 x13 x14 x15 x16 x17 x18 x19 x20 x21 x22 x23) t) := by kernel_rfl
theorem w8_3 : (((wordsN 8).drop 48).take 16).map (fun w => evS M40 C40 false S6 (St x2 x3 x4 x5 (sh (.tup [(.str [48]), (.str [48, 49])])) (stS w) x8 x9 x10 x11 x12 x13 x14 x15 x16 x17 x18 x19 x20 x21 x22 x23) t) = (((wordsN 8).drop 48).take 16).map (fun w => .ok (.nx, St x2 x3 x4 x5 (sh (.tup [(.str [48]), (.str [48, 49])])) (stS w) x8 x9 x10 x11 x12 x13 x14 x15 x16 x17 x18 x19 x20 x21 x22 x23) t) := by kernel_rfl
theorem w8_4 : (((wordsN 8).drop 64).take 16).map (fun w => evS M40 C40 false S6 (St x2 x3 x4 x5 (sh (.tup [(.str [48]), (.str [48, 49])])) (stS w) x8 x9 x10 x11 x12 x13 x14 x15 x16 x17 x18 x19 x20 x21 x22 x23) t) = (((wordsN 8).drop 64).take 16).map (fun w => .ok (.nx, St x2 x3 x4 x5 (sh (.tup [(.str [48]), (.str [48, 49])])) (stS w) x8 x9 x10 x11 x12 x13 x14 x15 x16 x17 x18 x19 x20 x21 x22 x23) t) := by kernel_rfl
theorem w8_5 : (((wordsN 8).drop 80).take 16).map (fun w => evS M40 C40 false S6 (St x2 x3 x4 x5 (sh (.tup [(.str [48]), (.str [48, 49])])) (stS w) x8 x9 x10 x11 x12 x13 x14 x15 x16 x17 x18 x19 x20 x21 x22 x23) t) = (((wordsN 8).drop 80).take 16).map (fun w => .ok (.nx, St x2 x3 x4 x5 (sh (.tup [(.str [48]), (.str [48, 49])])) (stS w) x8 x9 x10 x11 x12 x13 x14 x15 x16 x17 x18 x19 x20 x21 x22 x23) t) := by kernel_rfl
theorem w8_6 : (((wordsN 8).drop 96).take 16).map (fun w => evS M40 C40 false S6 (St x2 x3 x4 x5 (sh (.tup [(.str [48]), (.str [48, 49])])) (stS w) x8 x9 x10 x11 x12 x13 x14 x15 x16 x17 x18 x19 x20 x21 x22 x23) t) = (((wordsN 8).drop 96).take 16).map (fun w => .ok (.nx, St x2 x3 x4 x5 (sh (.tup [(.str [48]), (.str [48, 49])])) (stS w) x8 x9 x10 x11 x12 x13 x14 x15 x16 x17 x18 x19 x20 x21 x22 x23) t) := by kernel_rfl
theorem w8_7 : (((wordsN 8).drop 112).take 16).map (fun w => evS M40 C40 false S6 (St x2 x3 x4 x5 (sh (.tup [(.str [48]), (.str [48, 49])])) (stS w) x8 x9 x10 x11 x12 x13 x14 x15 x16 x17 x18 x19 x20 x21 x22 x23) t) = (((wordsN 8).drop 112).take 16).map (fun w => .ok (.nx, St x2 x3 x4 x5 (sh (.tup [(.str [48]), (.str [48, 49])])) (stS w) x8 x9 x10 x11 x12 x13 x14 x15 x16 x17 x18 x19 x20 x21 x22 x23) t) := by kernel_rfl
theorem w8_8 : (((wordsN 8).drop 128).take 16).map (fun w => evS M40 C40 false S6 (St x2 x3 x4 x5 (sh (.tup [(.str [48]), (.str [48, 49])])) (stS w) x8 x9 x10 x11 x12 x13 x14 x15 x16 x17 x18 x19 x20 x21 x22 x23) t) = (((wordsN 8).drop 128).take 16).map (fun w => .ok (.nx, St x2 x3 x4 x5 (sh (.tup [(.str [48]), (.str [48, 49])])) (stS w) x8 x9 x10 x11 x12 x13 x14 x15 x16 x17 x18 x19 x20 x21 x22 x23) t) := by kernel_rfl
theorem w8_9 : (((wordsN 8).drop 144).take 16).map (fun w => evS M40 C40 false S6 (St x2 x3 x4 x5 (sh (.tup [(.str [48]), (.str [48, 49])])) (stS w) x8 x9 x10 x11 x12 x13 x14 x15 x16 x17 x18 x19 x20 x21 x22 x23) t) = (((wordsN 8).drop 144).take 16).map (fun w => .ok (.nx, St x2 x3 x4 x5 (sh (.tup [(.str [48]), (.str [48, 49])])) (stS w) x8 x9 x10 x11 x12 x13 x14 x15 x16 x17 x18 x19 x20 x21 x22 x23) t) := by kernel_rfl
theorem w8_10 : (((wordsN 8).drop 160).take 16).map (fun w => evS M40 C40 false S6 (St x2 x3 x4 x5 (sh (.tup [(.str [48]), (.str [48, 49])])) (stS w) x8 x9 x10 x11 x12 x13 x14 x15 x16 x17 x18 x19 x20 x21 x22 x23) t) = (((wordsN 8).drop 160).take 16).map (fun w => .ok (.nx, St x2 x3 x4 x5 (sh (.tup [(.str [48]), (.str [48, 49])])) (stS w) x8 x9 x10 x11 x12 x13 x14 x15 x16 x17 x18 x19 x20 x21 x22 x23) t) := by kernel_rfl
theorem w8_11 : (((wordsN 8).drop 176).take 16).map (fun w => evS M40 C40 false S6 (St x2 x3 x4 x5 (sh (.tup [(.str [48]), (.str [48, 49])])) (stS w) x8 x9 x10 x11 x12 x13 x14 x15 x16 x17 x18 x19 x20 x21 x22 x23) t) = (((wordsN 8).drop 176).take 16).map (fun w => .ok (.nx, St x2 x3 x4 x5 (sh (.tup [(.str [48]), (.str [48, 49])])) (stS w) x8 x9 x10 x11 x12 x13 x14 x15 x16 x17 x18 x19 x20 x21 x22 x23) t) := by kernel_rfl
theorem w8_12 : (((wordsN 8).drop 192).take 16).map (fun w => evS M40 C40 false S6 (St x2 x3 x4 x5 (sh (.tup [(.str [48]), (.str [48, 49])])) (stS w) x8 x9 x10 x11 x12 x13 x14 x15 x16 x17 x18 x19 x20 x21 x22 x23) t) = (((wordsN 8).drop 192).take 16).map (fun w => .ok (.nx, St x2 x3 x4 x5 (sh (.tup [(.str [48]), (.str [48, 49])])) (stS w) x8 x9 x10 x11 x12 x13 x14 x15 x16 x17 x18 x19 x20 x21 x22 x23) t) := by kernel_rfl
theorem w8_13 : (((wordsN 8).drop 208).take 16).map (fun w => evS M40 C40 false S6 (St x2 x3 x4 x5 (sh (.tup [(.str [48]), (.str [48, 49])])) (stS w) x8 x9 x10 x11 x12 x13 x14 x15 x16 x17 x18 x19 x20 x21 x22 x23) t) = (((wordsN 8).drop 208).take 16).map (fun w => .ok (.nx, St x2 x3 x4 x5 (sh (.tup [(.str [48]), (.str [48, 49])])) (stS w) x8 x9 x10 x11 x12 x13 x14 x15 x16 x17 x18 x19 x20 x21 x22 x23) t) := by kernel_rfl
theorem w8_14 : (((wordsN 8).drop 224).take 16).map (fun w => evS M40 C40 false S6 (St x2 x3 x4 x5 (sh (.tup [(.str [48]), (.str [48, 49])])) (stS w) x8 x9 x10 x11 x12 x13 x14 x15 x16 x17 x18 x19 x20 x21 x22 x23) t) = (((wordsN 8).drop 224).take 16).map (fun w => .ok (.nx, St x2 x3 x4 x5 (sh (.tup [(.str [48]), (.str [48, 49])])) (stS w) x8 x9 x10 x11 x12 x13 x14 x15 x16 x17 x18 x19 x20 x21 x22 x23) t) := by kernel_rfl
theorem w8_15 : (((wordsN 8).drop 240).take 16).map (fun w => evS M40 C40 false S6 (St x2 x3 x4 x5 (sh (.tup [(.str [48]), (.str [48, 49])])) (stS w) x8 x9 x10 x11 x12 x13 x14 x15 x16 x17 x18 x19 x20 x21 x22 x23) t) = (((wordsN 8).drop 240).take 16).map (fun w => .ok (.nx, St x2 x3 x4 x5 (sh (.tup [(.str [48]), (.str [48, 49])])) (stS w) x8 x9 x10 x11 x12 x13 x14 x15 x16 x17 x18 x19 x20 x21 x22 x23) t) := by kernel_rfl
end
theorem cut_mem {α : Type} {l : List α} (h : l.length = 256) : ∀ x ∈ l, ∃ c, c < 16 ∧ x ∈ (l.drop (c * 16)).take 16 := fun x hx => by
  obtain ⟨i, hi, rfl⟩ := List.mem_iff_getElem.mp hx
  refine ⟨i / 16, by omega, List.mem_iff_getElem.mpr ⟨i - i / 16 * 16, by simp; omega, ?_⟩⟩
  simp only [List.getElem_take, List.getElem_drop]
  congr 1; omega
theorem len8 : (wordsN 8).length = 256 := by decide +kernel
theorem s6_ok {w : List Nat} (h : Wd w) (hl : w.length = 8) (t : Tape) (x2 x3 x4 x5 x6 x7 x8 x9 x10 x11 x12 x13 x14 x15 x16 x17 x18 x19 x20 x21 x22 x23 : Option (D × Bool)) : evS M40 C40 false S6 (St x2 x3 x4 x5 (sh (.tup [(.str [48]), (.str [48, 49])])) (stS w) x8 x9 x10 x11 x12 x13 x14 x15 x16 x17 x18 x19 x20 x21 x22 x23) t = .ok (.nx, St x2 x3 x4 x5 (sh (.tup [(.str [48]), (.str [48, 49])])) (stS w) x8 x9 x10 x11 x12 x13 x14 x15 x16 x17 x18 x19 x20 x21 x22 x23) t := by
  obtain ⟨c, hc, hm⟩ := cut_mem len8 w (wordsN_all 8 w hl h)
  rcases (by omega : c = 0 ∨ c = 1 ∨ c = 2 ∨ c = 3 ∨ c = 4 ∨ c = 5 ∨ c = 6 ∨ c = 7 ∨ c = 8 ∨ c = 9 ∨ c = 10 ∨ c = 11 ∨ c = 12 ∨ c = 13 ∨ c = 14 ∨ c = 15) with rfl | rfl | rfl | rfl | rfl | rfl | rfl | rfl | rfl | rfl | rfl | rfl | rfl | rfl | rfl | rfl
  · exact map_mem (w8_0 t x2 x3 x4 x5 x8 x9 x10 x11 x12 x13 x14 x15 x16 x17 x18 x19 x20 x21 x22 x23) w hm
  · exact map_mem (w8_1 t x2 x3 x4 x5 x8 x9 x10 x11 x12 x13 x14 x15 x16 x17 x18 x19 x20 x21 x22 x23) w hm
  · exact map_mem (w8_2 t x2 x3 x4 x5 x8 x9 x10 x11 x12 x13 x14 x15 x16 x17 x18 x19 x20 x21 x22 x23) w hm
  · exact map_mem (w8_3 t x2 x3 x4 x5 x8 x9 x10 x11 x12 x13 x14 x15 x16 x17 x18 x19 x20 x21 x22 x23) w hm
  · exact map_mem (w8_4 t x2 x3 x4 x5 x8 x9 x10 x11 x12 x13 x14 x15 x16 x17 x18 x19 x20 x21 x22 x23) w hm
  · exact map_mem (w8_5 t x2 x3 x4 x5 x8 x9 x10 x11 x12 x13 x14 x15 x16 x17 x18 x19 x20 x21 x22 x23) w hm
  · exact map_mem (w8_6 t x2 x3 x4 x5 x8 x9 x10 x11 x12 x13 x14 x15 x16 x17 x18 x19 x20 x21 x22 x23) w hm
  · exact map_mem (w8_7 t x2 x3 x4 x5 x8 x9 x10 x11 x12 x13 x14 x15 x16 x17 x18 x19 x20 x21 x22 x23) w hm
  · exact map_mem (w8_8 t x2 x3 x4 x5 x8 x9 x10 x11 x12 x13 x14 x15 x16 x17 x18 x19 x20 x21 x22 x23) w hm
  · exact map_mem (w8_9 t x2 x3 x4 x5 x8 x9 x10 x11 x12 x13 x14 x15 x16 x17 x18 x19 x20 x21 x22 x23) w hm
  · exact map_mem (w8_10 t x2 x3 x4 x5 x8 x9 x10 x11 x12 x13 x14 x15 x16 x17 x18 x19 x20 x21 x22 x23) w hm
  · exact map_mem (w8_11 t x2 x3 x4 x5 x8 x9 x10 x11 x12 x13 x14 x15 x16 x17 x18 x19 x20 x21 x22 x23) w hm
  · exact map_mem (w8_12 t x2 x3 x4 x5 x8 x9 x10 x11 x12 x13 x14 x15 x16 x17 x18 x19 x20 x21 x22 x23) w hm
  · exact map_mem (w8_13 t x2 x3 x4 x5 x8 x9 x10 x11 x12 x13 x14 x15 x16 x17 x18 x19 x20 x21 x22 x23) w hm
  · exact map_mem (w8_14 t x2 x3 x4 x5 x8 x9 x10 x11 x12 x13 x14 x15 x16 x17 x18 x19 x20 x21 x22 x23) w hm
  · exact map_mem (w8_15 t x2 x3 x4 x5 x8 x9 x10 x11 x12 x13 x14 x15 x16 x17 x18 x19 x20 x21 x22 x23) w hm
end LW

set_option Elab.async false
set_option linter.all false
set_option maxRecDepth 100000
set_option maxHeartbeats 4000000
namespace LW
open EV
/-! ### partial quotients -/
def qd (q : List Nat) : D := .tup (q.map fun a => .int (a : Nat))
def stdG : List Nat → List Nat → List Nat → List Nat
  | _, n, [] => n
  | b, n, a :: r => stdG n ((List.replicate a n).flatten ++ b) r
def stdF : List Nat → List Nat
  | [] => [48]
  | a :: r => stdG [48] (List.replicate (a - 1) 48 ++ [49]) r
def fpF (q : List Nat) : Nat × Nat := q.reverse.foldl (fun p a => (p.2, a * p.2 + p.1)) (0, 1)
def fpD (q : List Nat) : D := .tup [.int ((fpF q).1 : Nat), .int ((fpF q).2 : Nat)]
def quots : Nat → List (List Nat)
  | 0 => [[]]
  | k + 1 => (quots k).flatMap fun q => [q ++ [1], q ++ [2], q ++ [3]]
theorem quots_all : ∀ (n : Nat) (q : List Nat), q.length = n → (∀ a ∈ q, 1 ≤ a ∧ a ≤ 3) → q ∈ quots n
  | 0, q, h, _ => by rw [List.length_eq_zero_iff.mp h]; simp [quots]
  | n + 1, q, h, hq => by
    rcases List.eq_nil_or_concat q with rfl | ⟨l, a, rfl⟩
    · simp at h
    · rw [List.concat_eq_append] at *
      have hl : l ∈ quots n := quots_all n l (by simpa using h) fun c hc => hq c (by simp [hc])
      unfold quots
      refine List.mem_flatMap.mpr ⟨l, hl, ?_⟩
      have := hq a (by simp)
      rcases (by omega : a = 1 ∨ a = 2 ∨ a = 3) with rfl | rfl | rfl <;> simp
section
variable (t : Tape) (x2 x3 x4 x5 x6 x7 x8 x9 x10 x11 x12 x13 x14 x15 x16 x17 x18 x19 x20 x21 x22 x23 : Option (D × Bool))
theorem s2_1 : (quots 1).map (fun q => evS M40 C40 false S2 (St (sh (qd q)) x3 x4 x5 x6 x7 x8 x9 x10 x11 x12 x13 x14 x15 x16 x17 x18 x19 x20 x21 x22 x23) t) = (quots 1).map fun q => .ok (.nx, St (sh (qd q)) x3 (stS (stdF q)) (sh (fpD q)) x6 x7 x8 x9 x10 x11 x12 x13 x14 x15 x16 x17 x18 x19 x20 x21 x22 x23) t := by kernel_rfl
theorem s3_1 : (quots 1).map (fun q => evS M40 C40 false S3 (St (sh (qd q)) x3 (stS (stdF q)) (sh (fpD q)) x6 x7 x8 x9 x10 x11 x12 x13 x14 x15 x16 x17 x18 x19 x20 x21 x22 x23) t) = (quots 1).map fun q => .ok (.nx, St (sh (qd q)) x3 (stS (stdF q)) (sh (fpD q)) x6 x7 x8 x9 x10 x11 x12 x13 x14 x15 x16 x17 x18 x19 x20 x21 x22 x23) t := by kernel_rfl
theorem s2_2 : (quots 2).map (fun q => evS M40 C40 false S2 (St (sh (qd q)) x3 x4 x5 x6 x7 x8 x9 x10 x11 x12 x13 x14 x15 x16 x17 x18 x19 x20 x21 x22 x23) t) = (quots 2).map fun q => .ok (.nx, St (sh (qd q)) x3 (stS (stdF q)) (sh (fpD q)) x6 x7 x8 x9 x10 x11 x12 x13 x14 x15 x16 x17 x18 x19 x20 x21 x22 x23) t := by kernel_rfl
theorem s3_2 : (quots 2).map (fun q => evS M40 C40 false S3 (St (sh (qd q)) x3 (stS (stdF q)) (sh (fpD q)) x6 x7 x8 x9 x10 x11 x12 x13 x14 x15 x16 x17 x18 x19 x20 x21 x22 x23) t) = (quots 2).map fun q => .ok (.nx, St (sh (qd q)) x3 (stS (stdF q)) (sh (fpD q)) x6 x7 x8 x9 x10 x11 x12 x13 x14 x15 x16 x17 x18 x19 x20 x21 x22 x23) t := by kernel_rfl
theorem s2_3 : (quots 3).map (fun q => evS M40 C40 false S2 (St (sh (qd q)) x3 x4 x5 x6 x7 x8 x9 x10 x11 x12 x13 x14 x15 x16 x17 x18 x19 x20 x21 x22 x23) t) = (quots 3).map fun q => .ok (.nx, St (sh (qd q)) x3 (stS (stdF q)) (sh (fpD q)) x6 x7 x8 x9 x10 x11 x12 x13 x14 x15 x16 x17 x18 x19 x20 x21 x22 x23) t := by kernel_rfl
theorem s3_3 : (quots 3).map (fun q => evS M40 C40 false S3 (St (sh (qd q)) x3 (stS (stdF q)) (sh (fpD q)) x6 x7 x8 x9 x10 x11 x12 x13 x14 x15 x16 x17 x18 x19 x20 x21 x22 x23) t) = (quots 3).map fun q => .ok (.nx, St (sh (qd q)) x3 (stS (stdF q)) (sh (fpD q)) x6 x7 x8 x9 x10 x11 x12 x13 x14 x15 x16 x17 x18 x19 x20 x21 x22 x23) t := by kernel_rfl
end
structure Qt (q : List Nat) : Prop where
  lo : 1 ≤ q.length
  hi : q.length ≤ 3
  en : ∀ a ∈ q, 1 ≤ a ∧ a ≤ 3
section
variable {q : List Nat} (t : Tape) (x2 x3 x4 x5 x6 x7 x8 x9 x10 x11 x12 x13 x14 x15 x16 x17 x18 x19 x20 x21 x22 x23 : Option (D × Bool))
theorem s2_ok (h : Qt q) : evS M40 C40 false S2 (St (sh (qd q)) x3 x4 x5 x6 x7 x8 x9 x10 x11 x12 x13 x14 x15 x16 x17 x18 x19 x20 x21 x22 x23) t = .ok (.nx, St (sh (qd q)) x3 (stS (stdF q)) (sh (fpD q)) x6 x7 x8 x9 x10 x11 x12 x13 x14 x15 x16 x17 x18 x19 x20 x21 x22 x23) t := by
  have hm := quots_all q.length q rfl h.en
  have h1 := h.lo
  have h2 := h.hi
  generalize q.length = n at *
  rcases (by omega : n = 1 ∨ n = 2 ∨ n = 3) with rfl | rfl | rfl
  · exact map_mem (s2_1 t x3 x4 x5 x6 x7 x8 x9 x10 x11 x12 x13 x14 x15 x16 x17 x18 x19 x20 x21 x22 x23) q hm
  · exact map_mem (s2_2 t x3 x4 x5 x6 x7 x8 x9 x10 x11 x12 x13 x14 x15 x16 x17 x18 x19 x20 x21 x22 x23) q hm
  · exact map_mem (s2_3 t x3 x4 x5 x6 x7 x8 x9 x10 x11 x12 x13 x14 x15 x16 x17 x18 x19 x20 x21 x22 x23) q hm
theorem s3_ok (h : Qt q) : evS M40 C40 false S3 (St (sh (qd q)) x3 (stS (stdF q)) (sh (fpD q)) x6 x7 x8 x9 x10 x11 x12 x13 x14 x15 x16 x17 x18 x19 x20 x21 x22 x23) t = .ok (.nx, St (sh (qd q)) x3 (stS (stdF q)) (sh (fpD q)) x6 x7 x8 x9 x10 x11 x12 x13 x14 x15 x16 x17 x18 x19 x20 x21 x22 x23) t := by
  have hm := quots_all q.length q rfl h.en
  have h1 := h.lo
  have h2 := h.hi
  generalize q.length = n at *
  rcases (by omega : n = 1 ∨ n = 2 ∨ n = 3) with rfl | rfl | rfl
  · exact map_mem (s3_1 t x3 x6 x7 x8 x9 x10 x11 x12 x13 x14 x15 x16 x17 x18 x19 x20 x21 x22 x23) q hm
  · exact map_mem (s3_2 t x3 x6 x7 x8 x9 x10 x11 x12 x13 x14 x15 x16 x17 x18 x19 x20 x21 x22 x23) q hm
  · exact map_mem (s3_3 t x3 x6 x7 x8 x9 x10 x11 x12 x13 x14 x15 x16 x17 x18 x19 x20 x21 x22 x23) q hm
end
section
variable {o : Option Cl} {cl : Cl}
theorem quLc (hd : Dr cl) : ∀ (xs : List D) (t : Tape), 0 ≤ t.at_ → ∃ (l : List Nat) (t' : Tape), (∀ ρ, Tp ρ → lcRun (lcF (mdN md o) cl [3] (.nm 3) [] (.o2 .add (.cst (.int 1)) (.call 35 [(.var 1), (.cst (.int 3))])) ρ) xs t = .ok (l.map fun a => D.int (a : Nat)) t') ∧ l.length = xs.length ∧ (∀ a ∈ l, 1 ≤ a ∧ a ≤ 3) ∧ 0 ≤ t'.at_
  | [], t, hv => ⟨[], t, fun ρ hp => rfl, rfl, (fun c hc => by cases hc), hv⟩
  | x :: xs, t, hv => by
    obtain ⟨d, t1, e1, hy, hv1'⟩ := tk (o := o) hd (m := 3) (by omega) (by omega) t hv
    obtain ⟨l, t2, e2, hl, hm2, hv2⟩ := quLc hd xs t1 hv1'
    refine ⟨(1 + d) :: l, t2, fun ρ hp => ?_, by simp [hl], fun z hz => ?_, hv2⟩
    · rw [List.map_cons]
      refine lc_some ?_ (e2 ρ hp)
      have e3 : evE (mdN md o) cl (.call 35 [(.var 1), (.cst (.int 3))]) ((wipeD ρ [3]).set 3 (some x)) t = .ok (.int (d : Nat)) t1 := e1 _ (by rw [wipe_one]; exact (hp.set (by omega)).set (by omega))
      have g : f2 .add (.int 1) (.int (d : Nat)) = some (.int ((1 + d : Nat) : Int)) := rfl
      simp only [lcF_eq, tgD, evC_nil, nox_ok, thn_ok, if_true, evE_o2, evE_cst, e3, g, optR_some]
    · rcases List.mem_cons.mp hz with rfl | h
      · omega
      · exact hm2 z h
theorem add_ii (a b : Int) : f2 .add (.int a) (.int b) = some (.int (a + b)) := rfl
theorem s1_ok (hd : Dr cl) (t : Tape) (hv : 0 ≤ t.at_) (x2 x3 x4 x5 x6 x7 x8 x9 x10 x11 x12 x13 x14 x15 x16 x17 x18 x19 x20 x21 x22 x23 : Option (D × Bool)) : ∃ (q : List Nat) (t' : Tape), evS (mdN md o) cl false S1 (St x2 x3 x4 x5 x6 x7 x8 x9 x10 x11 x12 x13 x14 x15 x16 x17 x18 x19 x20 x21 x22 x23) t = .ok (.nx, St (sh (qd q)) x3 x4 x5 x6 x7 x8 x9 x10 x11 x12 x13 x14 x15 x16 x17 x18 x19 x20 x21 x22 x23) t' ∧ Qt q ∧ 0 ≤ t'.at_ := by
  obtain ⟨d, t1, e1, hd1, hv1⟩ := tk (o := o) hd (m := 3) (by omega) (by omega) t hv
  obtain ⟨l, t2, e2, hl, hb, hv2⟩ := quLc (o := o) hd ((List.range (1 + d)).map fun k => D.int (k : Nat)) t1 hv1
  rw [rng_len] at hl
  refine ⟨l, t2, set_sh ?_ ?_ rfl, ⟨by omega, by omega, hb⟩, hv2⟩
  · have e3 : evE (mdN md o) cl (.lc [3] (.nm 3) .range [(.o2 .add (.cst (.int 1)) (.call 35 [(.var 1), (.cst (.int 3))]))] [] (.o2 .add (.cst (.int 1)) (.call 35 [(.var 1), (.cst (.int 3))]))) (vw [1, 3] (St x2 x3 x4 x5 x6 x7 x8 x9 x10 x11 x12 x13 x14 x15 x16 x17 x18 x19 x20 x21 x22 x23)) t = .ok (.lst (l.map fun a => D.int (a : Nat))) t2 := by
      refine evE_lc' (ds := [.int ((1 + d : Nat) : Int)]) (t1 := t1) ?_ (rng1 (by omega)) (by simp; omega) (e2 _ rfl)
      have e1 : evE (mdN md o) cl (.call 35 [(.var 1), (.cst (.int 3))]) (vw [1, 3] (St x2 x3 x4 x5 x6 x7 x8 x9 x10 x11 x12 x13 x14 x15 x16 x17 x18 x19 x20 x21 x22 x23)) t = .ok (.int (d : Nat)) t1 := e1 _ rfl
      have g : f2 .add (.int 1) (.int (d : Nat)) = some (.int ((1 + d : Nat) : Int)) := rfl
      rw [evL_cons, evE_o2, evE_cst, thn_ok, e1, thn_ok, g]
      simp only [evL_nil, thn_ok, optR_some]
    have e4 : fB .tuple [.lst (l.map fun a => D.int (a : Nat))] = some (qd l) := rfl
    rw [evE_bi, evL_cons, e3]
    simp only [evL_nil, thn_ok, e4, optR_some]
  · show EV.imm (qd l) = true
    have := imm_RI (l.map Int.ofNat)
    unfold RI at this
    rw [List.map_map] at this
    exact this
theorem s5_ok (hd : Dr cl) (t : Tape) (hv : 0 ≤ t.at_) (x2 x3 x4 x5 x6 x7 x8 x9 x10 x11 x12 x13 x14 x15 x16 x17 x18 x19 x20 x21 x22 x23 : Option (D × Bool)) : ∃ (w : List Nat) (t' : Tape), evS (mdN md o) cl false S5 (St x2 x3 x4 x5 x6 x7 x8 x9 x10 x11 x12 x13 x14 x15 x16 x17 x18 x19 x20 x21 x22 x23) t = .ok (.nx, St x2 x3 x4 x5 x6 (stS w) x8 x9 x10 x11 x12 x13 x14 x15 x16 x17 x18 x19 x20 x21 x22 x23) t' ∧ w.length = 8 ∧ Wd w ∧ 0 ≤ t'.at_ := by
  obtain ⟨l, t2, e2, hl, hb, hv2⟩ := bitsLc (o := o) hd ((List.range 8).map fun k => D.int (k : Nat)) t hv
  rw [rng_len] at hl
  refine ⟨l, t2, set_sh ?_ rfl rfl, hl, hb, hv2⟩
  have e3 : evE (mdN md o) cl (.lc [3] (.nm 3) .range [(.cst (.int 8))] [] (.bi .str [(.call 35 [(.var 1), (.cst (.int 2))])])) (vw [1, 3] (St x2 x3 x4 x5 x6 x7 x8 x9 x10 x11 x12 x13 x14 x15 x16 x17 x18 x19 x20 x21 x22 x23)) t = .ok (.lst (l.map sl)) t2 := by
    refine evE_lc' (ds := [.int ((8 : Nat) : Int)]) (t1 := t) ?_ (rng1 (by omega)) (by simp) (e2 _ rfl)
    simp only [evL_cons, evL_nil, evE_cst, thn_ok]
    rfl
  have e5 : fM .join (.str []) [.lst (l.map sl)] = some (.str l) := join_sl (by omega)
  have e6 : kM .join (.str []) = true := rfl
  rw [evE_me, evE_cst, thn_ok, e6, ifM_t, evL_cons, e3]
  simp only [evL_nil, thn_ok, e5, optR_some]
theorem s7_ok (hd : Dr cl) (t : Tape) (hv : 0 ≤ t.at_) (x2 x3 x4 x5 x6 x7 x8 x9 x10 x11 x12 x13 x14 x15 x16 x17 x18 x19 x20 x21 x22 x23 : Option (D × Bool)) : ∃ (n d : Nat) (t' : Tape), evS (mdN md o) cl false S7 (St x2 x3 x4 x5 x6 x7 x8 x9 x10 x11 x12 x13 x14 x15 x16 x17 x18 x19 x20 x21 x22 x23) t = .ok (.nx, St x2 x3 x4 x5 x6 x7 (inS n) (inS d) x10 x11 x12 x13 x14 x15 x16 x17 x18 x19 x20 x21 x22 x23) t' ∧ 1 ≤ n ∧ n ≤ 5 ∧ 1 ≤ d ∧ d ≤ 9 ∧ 0 ≤ t'.at_ := by
  obtain ⟨n, t1, e1, h1, v1⟩ := hd 5 t (by omega) (by omega) hv
  obtain ⟨d, t2, e2, h2, v2⟩ := hd 9 t1 (by omega) (by omega) v1
  have e1 : cl 35 [.tape, .int 5] t = .ok (.int (n : Nat)) t1 := e1
  have e2 : cl 35 [.tape, .int 9] t1 = .ok (.int (d : Nat)) t2 := e2
  have g1 : addD (.int 1) (.int (n : Nat)) = some (.int ((1 + n : Nat) : Int)) := rfl
  have g2 : addD (.int 1) (.int (d : Nat)) = some (.int ((1 + d : Nat) : Int)) := rfl
  refine ⟨1 + n, 1 + d, t2, ?_, by omega, by omega, by omega, by omega, v2⟩
  simp only [S7, St, inS, sh, evSs_cons, evSs_nil, seqB_nx, seqB_rt, seqB_bk, seqB_ct, evS_set, evS_tgt, evS_par, evS_if, evS_ret, xS_retV, evS_rz, evS_pass, evS_exp, xS_app, xS_aug, evE_var, evE_cst, evE_glo, evE_o1, evE_o2, evE_ch, evE_and, evE_or, evE_not, evE_ife, evL_nil, evL_cons, evE_tup, evE_lst, evE_sl, evE_call, evE_bi, evE_me, evT_eq, evC_nil, evC_one, evI_eq, thn_ok, thn_exc, optR_some, chK_t, chK_f, trK_t, trK_f, nox_ok, ifM_t, nxO_some, o2R_some, isLst, isSh, isAny, nth, vw_cons, vwA, vw1, inM, f1, f2, fB, fM, kM, frE, aft, aftA, immA, immR, EV.imm, immL, immK, cell_lst, cell_tup, cell_int, cell_bl, cell_non, cell_MI, cell_RI, imm_RI, imm_MI, setAllO, tgR, tgV, tgSlots, setAllR, tr_bl, tr_int, List.set, List.map, e1, e2, g1, g2, if_true, Bool.not_true, Bool.not_false, Bool.false_eq_true, if_false, Bool.true_and, Bool.and_true, Bool.false_and, Bool.and_false, Bool.or_true, Bool.true_or, Bool.or_false, Bool.false_or, Nat.beq, cond_true, cond_false]
end
theorem C35 (k : Nat) : Dr (callN md dfs (k + 1)) := fun m t h0 hm hv => take_ok h0 hm t hv
theorem ss_cons2 {md : Md} {cl : Cl} {ff : Bool} {a b c : Z} {r : List Z} {ρ ρ1 : Rho} {t t1 : Tape} (h : evSs md cl ff [a, b, c] ρ t = .ok (.nx, ρ1) t1) : evSs md cl ff (a :: b :: c :: r) ρ t = evSs md cl ff r ρ1 t1 := by
  have e : evSs md cl ff (a :: ([b, c] ++ r)) ρ t = evSs md cl ff r ρ1 t1 := by
    rw [evSs_cons] at h ⊢
    revert h
    cases h1 : evS md cl ff a ρ t with
    | exc c t => intro h; cases h
    | bad => intro h; cases h
    | ok o t2 =>
      obtain ⟨fl, ρ2⟩ := o
      cases fl <;> intro h <;> first | (simp only [thn_ok, seqB_bk, seqB_ct, seqB_rt] at h; cases h; done) | skip
      simp only [thn_ok, seqB_nx] at h ⊢
      rw [evSs_cons] at h
      show evSs md cl ff (b :: ([c] ++ r)) ρ2 t2 = _
      rw [evSs_cons]
      revert h
      cases h2 : evS md cl ff b ρ2 t2 with
      | exc c t => intro h; cases h
      | bad => intro h; cases h
      | ok o t3 =>
        obtain ⟨fl, ρ3⟩ := o
        cases fl <;> intro h <;> first | (simp only [thn_ok, seqB_bk, seqB_ct, seqB_rt] at h; cases h; done) | skip
        simp only [thn_ok, seqB_nx] at h ⊢
        rw [evSs_cons] at h
        show evSs md cl ff (c :: r) ρ3 t3 = _
        rw [evSs_cons]
        revert h
        cases h3 : evS md cl ff c ρ3 t3 with
        | exc c t => intro h; cases h
        | bad => intro h; cases h
        | ok o t4 =>
          obtain ⟨fl, ρ4⟩ := o
          cases fl <;> intro h <;> first | (simp only [thn_ok, seqB_bk, seqB_ct, seqB_rt] at h; cases h; done) | skip
          simp only [thn_ok, seqB_nx, evSs_nil] at h ⊢
          cases h; rfl
  exact e
abbrev goldD : D := .tup [.str [48, 49], .str [48]]
theorem cr_ok (t : Tape) (hv : 0 ≤ t.at_) {li : D} (hl : sh li = lineS) : ∃ t', callN md dfs 40 38 [.tape, goldD, li] t = .ok (.bl true) t' := by
  have hl : li = match lineS with
    | some (d, _) => d
    | none => .non := by
    have : some (li, false) = lineS := hl
    rw [← this]
  subst hl
  obtain ⟨a, t1, e1, h1, v1⟩ := C35 38 40 t (by omega) (by omega) hv
  have e1 : callN md dfs 39 35 [.tape, .int 40] t = .ok (.int (a : Nat)) t1 := e1
  obtain ⟨y4, y5, y6, y7, y8, y9, y10, e2⟩ := at_ok h1 t1
  obtain ⟨b, t2, e3, h2, v2⟩ := C35 38 7 t1 (by omega) (by omega) v1
  have e3 : callN md dfs 39 35 [.tape, .int 7] t1 = .ok (.int (b : Nat)) t2 := e3
  have e4 := len_ok h2 t2 (inS a) y4 y5 y6 y7 y8 y9 y10 none none none none none none none none
  refine ⟨t2, ?_⟩
  show evF M39 C39 3 19 true z__law_cuts_right _ t = _
  rw [evF_eq (np := 3) rfl, z__law_cuts_right_eq]
  have q1 : evS M39 C39 true U1 [sh .tape, gold, lineS, none, none, none, none, none, none, none, none, none, none, none, none, none, none, none, none] t = .ok (.nx, [sh .tape, gold, lineS, inS a, none, none, none, none, none, none, none, none, none, none, none, none, none, none, none]) t1 := by
    refine set_sh ?_ rfl rfl
    show evE M39 C39 (.call 35 [(.var 0), (.cst (.int 40))]) _ t = _
    rw [evE_call, evL_cons, evE_var]
    show thn (thn (Res.ok D.tape t) _) _ = _
    simp only [thn_ok, evL_cons, evL_nil, evE_cst]
    exact e1
  have q5 : evS M39 C39 true U5 [sh .tape, gold, lineS, inS a, y4, y5, y6, y7, y8, y9, y10, none, none, none, none, none, none, none, none] t1 = .ok (.nx, [sh .tape, gold, lineS, inS a, y4, y5, y6, y7, y8, y9, y10, inS b, none, none, none, none, none, none, none]) t2 := by
    refine set_sh ?_ rfl rfl
    show evE M39 C39 (.call 35 [(.var 0), (.cst (.int 7))]) _ t1 = _
    rw [evE_call, evL_cons, evE_var]
    show thn (thn (Res.ok D.tape t1) _) _ = _
    simp only [thn_ok, evL_cons, evL_nil, evE_cst]
    exact e3
  refine (congrArg (fun r => thn r _) ((ss_nx q1).trans ((ss_cons2 e2).trans (ss_nx q5)))).trans ?_
  exact e4
theorem law_ok (t : Tape) (hv : 0 ≤ t.at_) : isTrueR (evSs M40 C40 false z_law (rhoL 24) t) = true := by
  have r0 : rhoL 24 = St none none none none none none none none none none none none none none none none none none none none none none := rfl
  obtain ⟨q, t1, q1, hq, v1⟩ := s1_ok (o := lowN md dfs 40) (C35 39) t hv none none none none none none none none none none none none none none none none none none none none none none
  have q1 : evS M40 C40 false S1 (St none none none none none none none none none none none none none none none none none none none none none none) t = .ok (.nx, St (sh (qd q)) none none none none none none none none none none none none none none none none none none none none none) t1 := q1
  have q2 : evS M40 C40 false S2 (St (sh (qd q)) none none none none none none none none none none none none none none none none none none none none none) t1 = .ok (.nx, St (sh (qd q)) none (stS (stdF q)) (sh (fpD q)) none none none none none none none none none none none none none none none none none none) t1 := s2_ok t1 _ _ _ _ _ _ _ _ _ _ _ _ _ _ _ _ _ _ _ _ _ hq
  have q3 : evS M40 C40 false S3 (St (sh (qd q)) none (stS (stdF q)) (sh (fpD q)) none none none none none none none none none none none none none none none none none none) t1 = .ok (.nx, St (sh (qd q)) none (stS (stdF q)) (sh (fpD q)) none none none none none none none none none none none none none none none none none none) t1 := s3_ok t1 _ _ _ _ _ _ _ _ _ _ _ _ _ _ _ _ _ _ _ hq
  have cS4 : evS M40 C40 false S4 (St (sh (qd q)) none (stS (stdF q)) (sh (fpD q)) none none none none none none none none none none none none none none none none none none) t1 = .ok (.nx, St (sh (qd q)) none (stS (stdF q)) (sh (fpD q)) (sh (.tup [(.str [48]), (.str [48, 49])])) none none none none none none none none none none none none none none none none none) t1 := s4_ok t1 (sh (qd q)) none (stS (stdF q)) (sh (fpD q)) none none none none none none none none none none none none none none none none none none
  obtain ⟨w, t2, q5, hl, hw, v2⟩ := s5_ok (o := lowN md dfs 40) (C35 39) t1 v1 (sh (qd q)) none (stS (stdF q)) (sh (fpD q)) (sh (.tup [(.str [48]), (.str [48, 49])])) none none none none none none none none none none none none none none none none none
  have q5 : evS M40 C40 false S5 (St (sh (qd q)) none (stS (stdF q)) (sh (fpD q)) (sh (.tup [(.str [48]), (.str [48, 49])])) none none none none none none none none none none none none none none none none none) t1 = .ok (.nx, St (sh (qd q)) none (stS (stdF q)) (sh (fpD q)) (sh (.tup [(.str [48]), (.str [48, 49])])) (stS w) none none none none none none none none none none none none none none none none) t2 := q5
  have q6 : evS M40 C40 false S6 (St (sh (qd q)) none (stS (stdF q)) (sh (fpD q)) (sh (.tup [(.str [48]), (.str [48, 49])])) (stS w) none none none none none none none none none none none none none none none none) t2 = .ok (.nx, St (sh (qd q)) none (stS (stdF q)) (sh (fpD q)) (sh (.tup [(.str [48]), (.str [48, 49])])) (stS w) none none none none none none none none none none none none none none none none) t2 := s6_ok hw hl t2 _ _ _ _ none none _ _ _ _ _ _ _ _ _ _ _ _ _ _ _ _
  obtain ⟨n, d, t3, q7, h1, h2, h3, h4, v3⟩ := s7_ok (o := lowN md dfs 40) (C35 39) t2 v2 (sh (qd q)) none (stS (stdF q)) (sh (fpD q)) (sh (.tup [(.str [48]), (.str [48, 49])])) (stS w) none none none none none none none none none none none none none none none none
  have q7 : evS M40 C40 false S7 (St (sh (qd q)) none (stS (stdF q)) (sh (fpD q)) (sh (.tup [(.str [48]), (.str [48, 49])])) (stS w) none none none none none none none none none none none none none none none none) t2 = .ok (.nx, St (sh (qd q)) none (stS (stdF q)) (sh (fpD q)) (sh (.tup [(.str [48]), (.str [48, 49])])) (stS w) (inS n) (inS d) none none none none none none none none none none none none none none) t3 := q7
  obtain ⟨y8, y9, y10, y11, y12, y13, q8⟩ := nd_ok h1 h2 h3 h4 t3 (sh (qd q)) none (stS (stdF q)) (sh (fpD q)) (sh (.tup [(.str [48]), (.str [48, 49])])) (stS w) (inS n) (inS d) none none none none none none none none none none none none none none
  have q8 : evSs M40 C40 false [S8, S9, S10] (St (sh (qd q)) none (stS (stdF q)) (sh (fpD q)) (sh (.tup [(.str [48]), (.str [48, 49])])) (stS w) (inS n) (inS d) none none none none none none none none none none none none none none) t3 = .ok (.nx, St (sh (qd q)) none (stS (stdF q)) (sh (fpD q)) (sh (.tup [(.str [48]), (.str [48, 49])])) (stS w) y8 y9 y10 y11 y12 y13 none none none none none none none none none none) t3 := q8
  have cS11 : evS M40 C40 false S11 (St (sh (qd q)) none (stS (stdF q)) (sh (fpD q)) (sh (.tup [(.str [48]), (.str [48, 49])])) (stS w) y8 y9 y10 y11 y12 y13 none none none none none none none none none none) t3 = .ok (.nx, St (sh (qd q)) none (stS (stdF q)) (sh (fpD q)) (sh (.tup [(.str [48]), (.str [48, 49])])) (stS w) y8 y9 y10 y11 y12 y13 (sh (.tup [(.str [48, 49]), (.str [48])])) none none none none none none none none none) t3 := s11_ok t3 (sh (qd q)) none (stS (stdF q)) (sh (fpD q)) (sh (.tup [(.str [48]), (.str [48, 49])])) (stS w) y8 y9 y10 y11 y12 y13 none none none none none none none none none none
  have cS12 : evS M40 C40 false S12 (St (sh (qd q)) none (stS (stdF q)) (sh (fpD q)) (sh (.tup [(.str [48]), (.str [48, 49])])) (stS w) y8 y9 y10 y11 y12 y13 (sh (.tup [(.str [48, 49]), (.str [48])])) none none none none none none none none none) t3 = .ok (.nx, St (sh (qd q)) none (stS (stdF q)) (sh (fpD q)) (sh (.tup [(.str [48]), (.str [48, 49])])) (stS w) y8 y9 y10 y11 y12 y13 (sh (.tup [(.str [48, 49]), (.str [48])])) none none none none none none none none none) t3 := s12_ok t3 (sh (qd q)) none (stS (stdF q)) (sh (fpD q)) (sh (.tup [(.str [48]), (.str [48, 49])])) (stS w) y8 y9 y10 y11 y12 y13 none none none none none none none none none
  have cS13 : evS M40 C40 false S13 (St (sh (qd q)) none (stS (stdF q)) (sh (fpD q)) (sh (.tup [(.str [48]), (.str [48, 49])])) (stS w) y8 y9 y10 y11 y12 y13 (sh (.tup [(.str [48, 49]), (.str [48])])) none none none none none none none none none) t3 = .ok (.nx, St (sh (qd q)) none (stS (stdF q)) (sh (fpD q)) (sh (.tup [(.str [48]), (.str [48, 49])])) (stS w) y8 y9 y10 y11 y12 y13 (sh (.tup [(.str [48, 49]), (.str [48])])) (sh (.str [48])) (sh (.str [49])) none none none none none none none) t3 := s13_ok t3 (sh (qd q)) none (stS (stdF q)) (sh (fpD q)) (sh (.tup [(.str [48]), (.str [48, 49])])) (stS w) y8 y9 y10 y11 y12 y13 none none none none none none none none none
  have cS14 : evS M40 C40 false S14 (St (sh (qd q)) none (stS (stdF q)) (sh (fpD q)) (sh (.tup [(.str [48]), (.str [48, 49])])) (stS w) y8 y9 y10 y11 y12 y13 (sh (.tup [(.str [48, 49]), (.str [48])])) (sh (.str [48])) (sh (.str [49])) none none none none none none none) t3 = .ok (.nx, St (sh (qd q)) (sh (.int (8))) (stS (stdF q)) (sh (fpD q)) (sh (.tup [(.str [48]), (.str [48, 49])])) (stS w) y8 y9 y10 y11 (sh (.str [48, 49, 48, 48, 49, 48, 49, 48, 48, 49, 48, 48, 49, 48, 49, 48, 48, 49, 48, 49, 48, 48, 49, 48, 48, 49, 48, 49, 48, 48, 49, 48, 48, 49, 48, 49, 48, 48, 49, 48, 49, 48, 48, 49, 48, 48, 49, 48, 49, 48, 48, 49, 48, 49, 48])) y13 (sh (.tup [(.str [48, 49]), (.str [48])])) (sh (.str [48, 49, 48, 48, 49, 48, 49, 48, 48, 49, 48, 48, 49, 48, 49, 48, 48, 49, 48, 49, 48, 48, 49, 48, 48, 49, 48, 49, 48, 48, 49, 48, 48, 49, 48, 49, 48, 48, 49, 48, 49, 48, 48, 49, 48, 48, 49, 48, 49, 48, 48, 49, 48, 49, 48])) (sh (.str [48, 49, 48, 48, 49, 48, 49, 48, 48, 49, 48, 48, 49, 48, 49, 48, 48, 49, 48, 49, 48, 48, 49, 48, 48, 49, 48, 49, 48, 48, 49, 48, 48, 49])) none none none none none none none) t3 := s14_ok t3 (sh (qd q)) none (stS (stdF q)) (sh (fpD q)) (sh (.tup [(.str [48]), (.str [48, 49])])) (stS w) y8 y9 y10 y11 y12 y13 none none none none none none none
  have cS15 : evS M40 C40 false S15 (St (sh (qd q)) (sh (.int (8))) (stS (stdF q)) (sh (fpD q)) (sh (.tup [(.str [48]), (.str [48, 49])])) (stS w) y8 y9 y10 y11 (sh (.str [48, 49, 48, 48, 49, 48, 49, 48, 48, 49, 48, 48, 49, 48, 49, 48, 48, 49, 48, 49, 48, 48, 49, 48, 48, 49, 48, 49, 48, 48, 49, 48, 48, 49, 48, 49, 48, 48, 49, 48, 49, 48, 48, 49, 48, 48, 49, 48, 49, 48, 48, 49, 48, 49, 48])) y13 (sh (.tup [(.str [48, 49]), (.str [48])])) (sh (.str [48, 49, 48, 48, 49, 48, 49, 48, 48, 49, 48, 48, 49, 48, 49, 48, 48, 49, 48, 49, 48, 48, 49, 48, 48, 49, 48, 49, 48, 48, 49, 48, 48, 49, 48, 49, 48, 48, 49, 48, 49, 48, 48, 49, 48, 48, 49, 48, 49, 48, 48, 49, 48, 49, 48])) (sh (.str [48, 49, 48, 48, 49, 48, 49, 48, 48, 49, 48, 48, 49, 48, 49, 48, 48, 49, 48, 49, 48, 48, 49, 48, 48, 49, 48, 49, 48, 48, 49, 48, 48, 49])) none none none none none none none) t3 = .ok (.nx, St (sh (qd q)) (sh (.int (8))) (stS (stdF q)) (sh (fpD q)) (sh (.tup [(.str [48]), (.str [48, 49])])) (stS w) y8 y9 y10 y11 (sh (.str [48, 49, 48, 48, 49, 48, 49, 48, 48, 49, 48, 48, 49, 48, 49, 48, 48, 49, 48, 49, 48, 48, 49, 48, 48, 49, 48, 49, 48, 48, 49, 48, 48, 49, 48, 49, 48, 48, 49, 48, 49, 48, 48, 49, 48, 48, 49, 48, 49, 48, 48, 49, 48, 49, 48])) y13 (sh (.tup [(.str [48, 49]), (.str [48])])) (sh (.str [48, 49, 48, 48, 49, 48, 49, 48, 48, 49, 48, 48, 49, 48, 49, 48, 48, 49, 48, 49, 48, 48, 49, 48, 48, 49, 48, 49, 48, 48, 49, 48, 48, 49, 48, 49, 48, 48, 49, 48, 49, 48, 48, 49, 48, 48, 49, 48, 49, 48, 48, 49, 48, 49, 48])) (sh (.str [48, 49, 48, 48, 49, 48, 49, 48, 48, 49, 48, 48, 49, 48, 49, 48, 48, 49, 48, 49, 48, 48, 49, 48, 48, 49, 48, 49, 48, 48, 49, 48, 48, 49])) (sh (.str [48, 49, 48, 48, 49, 48, 49, 48, 48, 49, 48, 48, 49, 48, 49, 48, 48, 49, 48, 49, 48, 48, 49, 48, 48, 49, 48, 49, 48, 48, 49, 48, 48, 49, 48, 49, 48, 48, 49, 48, 49, 48, 48, 49, 48, 48, 49, 48, 49, 48, 48, 49, 48, 49, 48, 48, 49, 48, 48, 49])) none none none none none none) t3 := s15_ok t3 (sh (qd q)) (stS (stdF q)) (sh (fpD q)) (sh (.tup [(.str [48]), (.str [48, 49])])) (stS w) y8 y9 y10 y11 y13 none none none none none none none
  have cS16 : evS M40 C40 false S16 (St (sh (qd q)) (sh (.int (8))) (stS (stdF q)) (sh (fpD q)) (sh (.tup [(.str [48]), (.str [48, 49])])) (stS w) y8 y9 y10 y11 (sh (.str [48, 49, 48, 48, 49, 48, 49, 48, 48, 49, 48, 48, 49, 48, 49, 48, 48, 49, 48, 49, 48, 48, 49, 48, 48, 49, 48, 49, 48, 48, 49, 48, 48, 49, 48, 49, 48, 48, 49, 48, 49, 48, 48, 49, 48, 48, 49, 48, 49, 48, 48, 49, 48, 49, 48])) y13 (sh (.tup [(.str [48, 49]), (.str [48])])) (sh (.str [48, 49, 48, 48, 49, 48, 49, 48, 48, 49, 48, 48, 49, 48, 49, 48, 48, 49, 48, 49, 48, 48, 49, 48, 48, 49, 48, 49, 48, 48, 49, 48, 48, 49, 48, 49, 48, 48, 49, 48, 49, 48, 48, 49, 48, 48, 49, 48, 49, 48, 48, 49, 48, 49, 48])) (sh (.str [48, 49, 48, 48, 49, 48, 49, 48, 48, 49, 48, 48, 49, 48, 49, 48, 48, 49, 48, 49, 48, 48, 49, 48, 48, 49, 48, 49, 48, 48, 49, 48, 48, 49])) (sh (.str [48, 49, 48, 48, 49, 48, 49, 48, 48, 49, 48, 48, 49, 48, 49, 48, 48, 49, 48, 49, 48, 48, 49, 48, 48, 49, 48, 49, 48, 48, 49, 48, 48, 49, 48, 49, 48, 48, 49, 48, 49, 48, 48, 49, 48, 48, 49, 48, 49, 48, 48, 49, 48, 49, 48, 48, 49, 48, 48, 49])) none none none none none none) t3 = .ok (.nx, St (sh (qd q)) (sh (.int (8))) (stS (stdF q)) (sh (fpD q)) (sh (.tup [(.str [48]), (.str [48, 49])])) (stS w) y8 y9 y10 y11 (sh (.str [48, 49, 48, 48, 49, 48, 49, 48, 48, 49, 48, 48, 49, 48, 49, 48, 48, 49, 48, 49, 48, 48, 49, 48, 48, 49, 48, 49, 48, 48, 49, 48, 48, 49, 48, 49, 48, 48, 49, 48, 49, 48, 48, 49, 48, 48, 49, 48, 49, 48, 48, 49, 48, 49, 48])) y13 (sh (.tup [(.str [48, 49]), (.str [48])])) (sh (.str [48, 49, 48, 48, 49, 48, 49, 48, 48, 49, 48, 48, 49, 48, 49, 48, 48, 49, 48, 49, 48, 48, 49, 48, 48, 49, 48, 49, 48, 48, 49, 48, 48, 49, 48, 49, 48, 48, 49, 48, 49, 48, 48, 49, 48, 48, 49, 48, 49, 48, 48, 49, 48, 49, 48])) (sh (.str [48, 49, 48, 48, 49, 48, 49, 48, 48, 49, 48, 48, 49, 48, 49, 48, 48, 49, 48, 49, 48, 48, 49, 48, 48, 49, 48, 49, 48, 48, 49, 48, 48, 49])) (sh (.str [48, 49, 48, 48, 49, 48, 49, 48, 48, 49, 48, 48, 49, 48, 49, 48, 48, 49, 48, 49, 48, 48, 49, 48, 48, 49, 48, 49, 48, 48, 49, 48, 48, 49, 48, 49, 48, 48, 49, 48, 49, 48, 48, 49, 48, 48, 49, 48, 49, 48, 48, 49, 48, 49, 48, 48, 49, 48, 48, 49])) none none none none none none) t3 := s16_ok t3 (sh (qd q)) (stS (stdF q)) (sh (fpD q)) (sh (.tup [(.str [48]), (.str [48, 49])])) (stS w) y8 y9 y10 y11 y13 none none none none none none
  have cS17 : evS M40 C40 false S17 (St (sh (qd q)) (sh (.int (8))) (stS (stdF q)) (sh (fpD q)) (sh (.tup [(.str [48]), (.str [48, 49])])) (stS w) y8 y9 y10 y11 (sh (.str [48, 49, 48, 48, 49, 48, 49, 48, 48, 49, 48, 48, 49, 48, 49, 48, 48, 49, 48, 49, 48, 48, 49, 48, 48, 49, 48, 49, 48, 48, 49, 48, 48, 49, 48, 49, 48, 48, 49, 48, 49, 48, 48, 49, 48, 48, 49, 48, 49, 48, 48, 49, 48, 49, 48])) y13 (sh (.tup [(.str [48, 49]), (.str [48])])) (sh (.str [48, 49, 48, 48, 49, 48, 49, 48, 48, 49, 48, 48, 49, 48, 49, 48, 48, 49, 48, 49, 48, 48, 49, 48, 48, 49, 48, 49, 48, 48, 49, 48, 48, 49, 48, 49, 48, 48, 49, 48, 49, 48, 48, 49, 48, 48, 49, 48, 49, 48, 48, 49, 48, 49, 48])) (sh (.str [48, 49, 48, 48, 49, 48, 49, 48, 48, 49, 48, 48, 49, 48, 49, 48, 48, 49, 48, 49, 48, 48, 49, 48, 48, 49, 48, 49, 48, 48, 49, 48, 48, 49])) (sh (.str [48, 49, 48, 48, 49, 48, 49, 48, 48, 49, 48, 48, 49, 48, 49, 48, 48, 49, 48, 49, 48, 48, 49, 48, 48, 49, 48, 49, 48, 48, 49, 48, 48, 49, 48, 49, 48, 48, 49, 48, 49, 48, 48, 49, 48, 48, 49, 48, 49, 48, 48, 49, 48, 49, 48, 48, 49, 48, 48, 49])) none none none none none none) t3 = .ok (.nx, St (sh (qd q)) (sh (.int (8))) (stS (stdF q)) (sh (fpD q)) (sh (.tup [(.str [48]), (.str [48, 49])])) (stS w) y8 y9 y10 y11 (sh (.str [48, 49, 48, 48, 49, 48, 49, 48, 48, 49, 48, 48, 49, 48, 49, 48, 48, 49, 48, 49, 48, 48, 49, 48, 48, 49, 48, 49, 48, 48, 49, 48, 48, 49, 48, 49, 48, 48, 49, 48, 49, 48, 48, 49, 48, 48, 49, 48, 49, 48, 48, 49, 48, 49, 48])) y13 (sh (.tup [(.str [48, 49]), (.str [48])])) (sh (.str [48, 49, 48, 48, 49, 48, 49, 48, 48, 49, 48, 48, 49, 48, 49, 48, 48, 49, 48, 49, 48, 48, 49, 48, 48, 49, 48, 49, 48, 48, 49, 48, 48, 49, 48, 49, 48, 48, 49, 48, 49, 48, 48, 49, 48, 48, 49, 48, 49, 48, 48, 49, 48, 49, 48])) (sh (.str [48, 49, 48, 48, 49, 48, 49, 48, 48, 49, 48, 48, 49, 48, 49, 48, 48, 49, 48, 49, 48, 48, 49, 48, 48, 49, 48, 49, 48, 48, 49, 48, 48, 49])) (sh (.str [48, 49, 48, 48, 49, 48, 49, 48, 48, 49, 48, 48, 49, 48, 49, 48, 48, 49, 48, 49, 48, 48, 49, 48, 48, 49, 48, 49, 48, 48, 49, 48, 48, 49, 48, 49, 48, 48, 49, 48, 49, 48, 48, 49, 48, 48, 49, 48, 49, 48, 48, 49, 48, 49, 48, 48, 49, 48, 48, 49])) (sh (.int (7))) (sh (.tup [(.str [48, 48, 49, 48, 48, 49, 48]), (.str [48, 48, 49, 48, 49, 48, 48]), (.str [48, 49, 48, 48, 49, 48, 48]), (.str [48, 49, 48, 48, 49, 48, 49]), (.str [48, 49, 48, 49, 48, 48, 49]), (.str [49, 48, 48, 49, 48, 48, 49]), (.str [49, 48, 48, 49, 48, 49, 48]), (.str [49, 48, 49, 48, 48, 49, 48])])) none none none none) t3 := s17_ok t3 (sh (qd q)) (stS (stdF q)) (sh (fpD q)) (sh (.tup [(.str [48]), (.str [48, 49])])) (stS w) y8 y9 y10 y11 y13 none none none none none none
  have cS18 : evS M40 C40 false S18 (St (sh (qd q)) (sh (.int (8))) (stS (stdF q)) (sh (fpD q)) (sh (.tup [(.str [48]), (.str [48, 49])])) (stS w) y8 y9 y10 y11 (sh (.str [48, 49, 48, 48, 49, 48, 49, 48, 48, 49, 48, 48, 49, 48, 49, 48, 48, 49, 48, 49, 48, 48, 49, 48, 48, 49, 48, 49, 48, 48, 49, 48, 48, 49, 48, 49, 48, 48, 49, 48, 49, 48, 48, 49, 48, 48, 49, 48, 49, 48, 48, 49, 48, 49, 48])) y13 (sh (.tup [(.str [48, 49]), (.str [48])])) (sh (.str [48, 49, 48, 48, 49, 48, 49, 48, 48, 49, 48, 48, 49, 48, 49, 48, 48, 49, 48, 49, 48, 48, 49, 48, 48, 49, 48, 49, 48, 48, 49, 48, 48, 49, 48, 49, 48, 48, 49, 48, 49, 48, 48, 49, 48, 48, 49, 48, 49, 48, 48, 49, 48, 49, 48])) (sh (.str [48, 49, 48, 48, 49, 48, 49, 48, 48, 49, 48, 48, 49, 48, 49, 48, 48, 49, 48, 49, 48, 48, 49, 48, 48, 49, 48, 49, 48, 48, 49, 48, 48, 49])) (sh (.str [48, 49, 48, 48, 49, 48, 49, 48, 48, 49, 48, 48, 49, 48, 49, 48, 48, 49, 48, 49, 48, 48, 49, 48, 48, 49, 48, 49, 48, 48, 49, 48, 48, 49, 48, 49, 48, 48, 49, 48, 49, 48, 48, 49, 48, 48, 49, 48, 49, 48, 48, 49, 48, 49, 48, 48, 49, 48, 48, 49])) (sh (.int (7))) (sh (.tup [(.str [48, 48, 49, 48, 48, 49, 48]), (.str [48, 48, 49, 48, 49, 48, 48]), (.str [48, 49, 48, 48, 49, 48, 48]), (.str [48, 49, 48, 48, 49, 48, 49]), (.str [48, 49, 48, 49, 48, 48, 49]), (.str [49, 48, 48, 49, 48, 48, 49]), (.str [49, 48, 48, 49, 48, 49, 48]), (.str [49, 48, 49, 48, 48, 49, 48])])) none none none none) t3 = .ok (.nx, St (sh (qd q)) (sh (.int (6))) (stS (stdF q)) (sh (fpD q)) (sh (.tup [(.str [48]), (.str [48, 49])])) (stS w) y8 y9 y10 y11 (sh (.str [48, 49, 48, 48, 49, 48, 49, 48, 48, 49, 48, 48, 49, 48, 49, 48, 48, 49, 48, 49, 48, 48, 49, 48, 48, 49, 48, 49, 48, 48, 49, 48, 48, 49])) y13 (sh (.tup [(.str [48, 49]), (.str [48])])) (sh (.str [48, 49, 48, 48, 49, 48, 49, 48, 48, 49, 48, 48, 49, 48, 49, 48, 48, 49, 48, 49, 48, 48, 49, 48, 48, 49, 48, 49, 48, 48, 49, 48, 48, 49, 48, 49, 48, 48, 49, 48, 49, 48, 48, 49, 48, 48, 49, 48, 49, 48, 48, 49, 48, 49, 48])) (sh (.str [48, 49, 48, 48, 49, 48, 49, 48, 48, 49, 48, 48, 49, 48, 49, 48, 48, 49, 48, 49, 48, 48, 49, 48, 48, 49, 48, 49, 48, 48, 49, 48, 48, 49])) (sh (.str [48, 49, 48, 48, 49, 48, 49, 48, 48, 49, 48, 48, 49, 48, 49, 48, 48, 49, 48, 49, 48, 48, 49, 48, 48, 49, 48, 49, 48, 48, 49, 48, 48, 49, 48, 49, 48, 48, 49, 48, 49, 48, 48, 49, 48, 48, 49, 48, 49, 48, 48, 49, 48, 49, 48, 48, 49, 48, 48, 49])) (sh (.int (7))) (sh (.tup [(.str [48, 48, 49, 48, 48, 49, 48]), (.str [48, 48, 49, 48, 49, 48, 48]), (.str [48, 49, 48, 48, 49, 48, 48]), (.str [48, 49, 48, 48, 49, 48, 49]), (.str [48, 49, 48, 49, 48, 48, 49]), (.str [49, 48, 48, 49, 48, 48, 49]), (.str [49, 48, 48, 49, 48, 49, 48]), (.str [49, 48, 49, 48, 48, 49, 48])])) (sh (.tup [(.int (1)), (.int (1)), (.int (1)), (.int (1)), (.int (1)), (.int (1))])) none none none) t3 := s18_ok t3 (sh (qd q)) (stS (stdF q)) (sh (fpD q)) (sh (.tup [(.str [48]), (.str [48, 49])])) (stS w) y8 y9 y10 y11 y13 none none none none
  have cS19 : evS M40 C40 false S19 (St (sh (qd q)) (sh (.int (6))) (stS (stdF q)) (sh (fpD q)) (sh (.tup [(.str [48]), (.str [48, 49])])) (stS w) y8 y9 y10 y11 (sh (.str [48, 49, 48, 48, 49, 48, 49, 48, 48, 49, 48, 48, 49, 48, 49, 48, 48, 49, 48, 49, 48, 48, 49, 48, 48, 49, 48, 49, 48, 48, 49, 48, 48, 49])) y13 (sh (.tup [(.str [48, 49]), (.str [48])])) (sh (.str [48, 49, 48, 48, 49, 48, 49, 48, 48, 49, 48, 48, 49, 48, 49, 48, 48, 49, 48, 49, 48, 48, 49, 48, 48, 49, 48, 49, 48, 48, 49, 48, 48, 49, 48, 49, 48, 48, 49, 48, 49, 48, 48, 49, 48, 48, 49, 48, 49, 48, 48, 49, 48, 49, 48])) (sh (.str [48, 49, 48, 48, 49, 48, 49, 48, 48, 49, 48, 48, 49, 48, 49, 48, 48, 49, 48, 49, 48, 48, 49, 48, 48, 49, 48, 49, 48, 48, 49, 48, 48, 49])) (sh (.str [48, 49, 48, 48, 49, 48, 49, 48, 48, 49, 48, 48, 49, 48, 49, 48, 48, 49, 48, 49, 48, 48, 49, 48, 48, 49, 48, 49, 48, 48, 49, 48, 48, 49, 48, 49, 48, 48, 49, 48, 49, 48, 48, 49, 48, 48, 49, 48, 49, 48, 48, 49, 48, 49, 48, 48, 49, 48, 48, 49])) (sh (.int (7))) (sh (.tup [(.str [48, 48, 49, 48, 48, 49, 48]), (.str [48, 48, 49, 48, 49, 48, 48]), (.str [48, 49, 48, 48, 49, 48, 48]), (.str [48, 49, 48, 48, 49, 48, 49]), (.str [48, 49, 48, 49, 48, 48, 49]), (.str [49, 48, 48, 49, 48, 48, 49]), (.str [49, 48, 48, 49, 48, 49, 48]), (.str [49, 48, 49, 48, 48, 49, 48])])) (sh (.tup [(.int (1)), (.int (1)), (.int (1)), (.int (1)), (.int (1)), (.int (1))])) none none none) t3 = .ok (.nx, St (sh (qd q)) (sh (.int (6))) (stS (stdF q)) (sh (fpD q)) (sh (.tup [(.str [48]), (.str [48, 49])])) (stS w) y8 y9 y10 y11 (sh (.str [48, 49, 48, 48, 49, 48, 49, 48, 48, 49, 48, 48, 49, 48, 49, 48, 48, 49, 48, 49, 48, 48, 49, 48, 48, 49, 48, 49, 48, 48, 49, 48, 48, 49])) y13 (sh (.tup [(.str [48, 49]), (.str [48])])) (sh (.str [48, 49, 48, 48, 49, 48, 49, 48, 48, 49, 48, 48, 49, 48, 49, 48, 48, 49, 48, 49, 48, 48, 49, 48, 48, 49, 48, 49, 48, 48, 49, 48, 48, 49, 48, 49, 48, 48, 49, 48, 49, 48, 48, 49, 48, 48, 49, 48, 49, 48, 48, 49, 48, 49, 48])) (sh (.str [48, 49, 48, 48, 49, 48, 49, 48, 48, 49, 48, 48, 49, 48, 49, 48, 48, 49, 48, 49, 48, 48, 49, 48, 48, 49, 48, 49, 48, 48, 49, 48, 48, 49])) (sh (.str [48, 49, 48, 48, 49, 48, 49, 48, 48, 49, 48, 48, 49, 48, 49, 48, 48, 49, 48, 49, 48, 48, 49, 48, 48, 49, 48, 49, 48, 48, 49, 48, 48, 49, 48, 49, 48, 48, 49, 48, 49, 48, 48, 49, 48, 48, 49, 48, 49, 48, 48, 49, 48, 49, 48, 48, 49, 48, 48, 49])) (sh (.int (7))) (sh (.tup [(.str [48, 48, 49, 48, 48, 49, 48]), (.str [48, 48, 49, 48, 49, 48, 48]), (.str [48, 49, 48, 48, 49, 48, 48]), (.str [48, 49, 48, 48, 49, 48, 49]), (.str [48, 49, 48, 49, 48, 48, 49]), (.str [49, 48, 48, 49, 48, 48, 49]), (.str [49, 48, 48, 49, 48, 49, 48]), (.str [49, 48, 49, 48, 48, 49, 48])])) (sh (.tup [(.int (1)), (.int (1)), (.int (1)), (.int (1)), (.int (1)), (.int (1))])) (sh (.tup [(.str [48, 48]), (.str [48, 49]), (.str [49, 48])])) none none) t3 := s19_ok t3 (sh (qd q)) (stS (stdF q)) (sh (fpD q)) (sh (.tup [(.str [48]), (.str [48, 49])])) (stS w) y8 y9 y10 y11 y13 none none none
  have cS20 : evS M40 C40 false S20 (St (sh (qd q)) (sh (.int (6))) (stS (stdF q)) (sh (fpD q)) (sh (.tup [(.str [48]), (.str [48, 49])])) (stS w) y8 y9 y10 y11 (sh (.str [48, 49, 48, 48, 49, 48, 49, 48, 48, 49, 48, 48, 49, 48, 49, 48, 48, 49, 48, 49, 48, 48, 49, 48, 48, 49, 48, 49, 48, 48, 49, 48, 48, 49])) y13 (sh (.tup [(.str [48, 49]), (.str [48])])) (sh (.str [48, 49, 48, 48, 49, 48, 49, 48, 48, 49, 48, 48, 49, 48, 49, 48, 48, 49, 48, 49, 48, 48, 49, 48, 48, 49, 48, 49, 48, 48, 49, 48, 48, 49, 48, 49, 48, 48, 49, 48, 49, 48, 48, 49, 48, 48, 49, 48, 49, 48, 48, 49, 48, 49, 48])) (sh (.str [48, 49, 48, 48, 49, 48, 49, 48, 48, 49, 48, 48, 49, 48, 49, 48, 48, 49, 48, 49, 48, 48, 49, 48, 48, 49, 48, 49, 48, 48, 49, 48, 48, 49])) (sh (.str [48, 49, 48, 48, 49, 48, 49, 48, 48, 49, 48, 48, 49, 48, 49, 48, 48, 49, 48, 49, 48, 48, 49, 48, 48, 49, 48, 49, 48, 48, 49, 48, 48, 49, 48, 49, 48, 48, 49, 48, 49, 48, 48, 49, 48, 48, 49, 48, 49, 48, 48, 49, 48, 49, 48, 48, 49, 48, 48, 49])) (sh (.int (7))) (sh (.tup [(.str [48, 48, 49, 48, 48, 49, 48]), (.str [48, 48, 49, 48, 49, 48, 48]), (.str [48, 49, 48, 48, 49, 48, 48]), (.str [48, 49, 48, 48, 49, 48, 49]), (.str [48, 49, 48, 49, 48, 48, 49]), (.str [49, 48, 48, 49, 48, 48, 49]), (.str [49, 48, 48, 49, 48, 49, 48]), (.str [49, 48, 49, 48, 48, 49, 48])])) (sh (.tup [(.int (1)), (.int (1)), (.int (1)), (.int (1)), (.int (1)), (.int (1))])) (sh (.tup [(.str [48, 48]), (.str [48, 49]), (.str [49, 48])])) none none) t3 = .ok (.nx, St (sh (qd q)) (sh (.int (6))) (stS (stdF q)) (sh (fpD q)) (sh (.tup [(.str [48]), (.str [48, 49])])) (stS w) y8 y9 y10 y11 (sh (.str [48, 49, 48, 48, 49, 48, 49, 48, 48, 49, 48, 48, 49, 48, 49, 48, 48, 49, 48, 49, 48, 48, 49, 48, 48, 49, 48, 49, 48, 48, 49, 48, 48, 49])) y13 (sh (.tup [(.str [48, 49]), (.str [48])])) (sh (.str [48, 49, 48, 48, 49, 48, 49, 48, 48, 49, 48, 48, 49, 48, 49, 48, 48, 49, 48, 49, 48, 48, 49, 48, 48, 49, 48, 49, 48, 48, 49, 48, 48, 49, 48, 49, 48, 48, 49, 48, 49, 48, 48, 49, 48, 48, 49, 48, 49, 48, 48, 49, 48, 49, 48])) (sh (.str [48, 49, 48, 48, 49, 48, 49, 48, 48, 49, 48, 48, 49, 48, 49, 48, 48, 49, 48, 49, 48, 48, 49, 48, 48, 49, 48, 49, 48, 48, 49, 48, 48, 49])) (sh (.str [48, 49, 48, 48, 49, 48, 49, 48, 48, 49, 48, 48, 49, 48, 49, 48, 48, 49, 48, 49, 48, 48, 49, 48, 48, 49, 48, 49, 48, 48, 49, 48, 48, 49, 48, 49, 48, 48, 49, 48, 49, 48, 48, 49, 48, 48, 49, 48, 49, 48, 48, 49, 48, 49, 48, 48, 49, 48, 48, 49])) (sh (.int (7))) (sh (.tup [(.str [48, 48, 49, 48, 48, 49, 48]), (.str [48, 48, 49, 48, 49, 48, 48]), (.str [48, 49, 48, 48, 49, 48, 48]), (.str [48, 49, 48, 48, 49, 48, 49]), (.str [48, 49, 48, 49, 48, 48, 49]), (.str [49, 48, 48, 49, 48, 48, 49]), (.str [49, 48, 48, 49, 48, 49, 48]), (.str [49, 48, 49, 48, 48, 49, 48])])) (sh (.tup [(.int (1)), (.int (1)), (.int (1)), (.int (1)), (.int (1)), (.int (1))])) (sh (.tup [(.str [48, 48]), (.str [48, 49]), (.str [49, 48])])) none none) t3 := s20_ok t3 (sh (qd q)) (stS (stdF q)) (sh (fpD q)) (sh (.tup [(.str [48]), (.str [48, 49])])) (stS w) y8 y9 y10 y11 y13 none none
  have cS21 : evS M40 C40 false S21 (St (sh (qd q)) (sh (.int (6))) (stS (stdF q)) (sh (fpD q)) (sh (.tup [(.str [48]), (.str [48, 49])])) (stS w) y8 y9 y10 y11 (sh (.str [48, 49, 48, 48, 49, 48, 49, 48, 48, 49, 48, 48, 49, 48, 49, 48, 48, 49, 48, 49, 48, 48, 49, 48, 48, 49, 48, 49, 48, 48, 49, 48, 48, 49])) y13 (sh (.tup [(.str [48, 49]), (.str [48])])) (sh (.str [48, 49, 48, 48, 49, 48, 49, 48, 48, 49, 48, 48, 49, 48, 49, 48, 48, 49, 48, 49, 48, 48, 49, 48, 48, 49, 48, 49, 48, 48, 49, 48, 48, 49, 48, 49, 48, 48, 49, 48, 49, 48, 48, 49, 48, 48, 49, 48, 49, 48, 48, 49, 48, 49, 48])) (sh (.str [48, 49, 48, 48, 49, 48, 49, 48, 48, 49, 48, 48, 49, 48, 49, 48, 48, 49, 48, 49, 48, 48, 49, 48, 48, 49, 48, 49, 48, 48, 49, 48, 48, 49])) (sh (.str [48, 49, 48, 48, 49, 48, 49, 48, 48, 49, 48, 48, 49, 48, 49, 48, 48, 49, 48, 49, 48, 48, 49, 48, 48, 49, 48, 49, 48, 48, 49, 48, 48, 49, 48, 49, 48, 48, 49, 48, 49, 48, 48, 49, 48, 48, 49, 48, 49, 48, 48, 49, 48, 49, 48, 48, 49, 48, 48, 49])) (sh (.int (7))) (sh (.tup [(.str [48, 48, 49, 48, 48, 49, 48]), (.str [48, 48, 49, 48, 49, 48, 48]), (.str [48, 49, 48, 48, 49, 48, 48]), (.str [48, 49, 48, 48, 49, 48, 49]), (.str [48, 49, 48, 49, 48, 48, 49]), (.str [49, 48, 48, 49, 48, 48, 49]), (.str [49, 48, 48, 49, 48, 49, 48]), (.str [49, 48, 49, 48, 48, 49, 48])])) (sh (.tup [(.int (1)), (.int (1)), (.int (1)), (.int (1)), (.int (1)), (.int (1))])) (sh (.tup [(.str [48, 48]), (.str [48, 49]), (.str [49, 48])])) none none) t3 = .ok (.nx, St (sh (qd q)) (sh (.int (6))) (stS (stdF q)) (sh (fpD q)) (sh (.tup [(.str [48]), (.str [48, 49])])) (stS w) y8 y9 y10 y11 (sh (.str [48, 49, 48, 48, 49, 48, 49, 48, 48, 49, 48, 48, 49, 48, 49, 48, 48, 49, 48, 49, 48, 48, 49, 48, 48, 49, 48, 49, 48, 48, 49, 48, 48, 49])) y13 (sh (.tup [(.str [48, 49]), (.str [48])])) (sh (.str [48, 49, 48, 48, 49, 48, 49, 48, 48, 49, 48, 48, 49, 48, 49, 48, 48, 49, 48, 49, 48, 48, 49, 48, 48, 49, 48, 49, 48, 48, 49, 48, 48, 49, 48, 49, 48, 48, 49, 48, 49, 48, 48, 49, 48, 48, 49, 48, 49, 48, 48, 49, 48, 49, 48])) (sh (.str [48, 49, 48, 48, 49, 48, 49, 48, 48, 49, 48, 48, 49, 48, 49, 48, 48, 49, 48, 49, 48, 48, 49, 48, 48, 49, 48, 49, 48, 48, 49, 48, 48, 49])) (sh (.str [48, 49, 48, 48, 49, 48, 49, 48, 48, 49, 48, 48, 49, 48, 49, 48, 48, 49, 48, 49, 48, 48, 49, 48, 48, 49, 48, 49, 48, 48, 49, 48, 48, 49, 48, 49, 48, 48, 49, 48, 49, 48, 48, 49, 48, 48, 49, 48, 49, 48, 48, 49, 48, 49, 48, 48, 49, 48, 48, 49])) (sh (.int (7))) (sh (.tup [(.str [48, 48, 49, 48, 48, 49, 48]), (.str [48, 48, 49, 48, 49, 48, 48]), (.str [48, 49, 48, 48, 49, 48, 48]), (.str [48, 49, 48, 48, 49, 48, 49]), (.str [48, 49, 48, 49, 48, 48, 49]), (.str [49, 48, 48, 49, 48, 48, 49]), (.str [49, 48, 48, 49, 48, 49, 48]), (.str [49, 48, 49, 48, 48, 49, 48])])) (sh (.tup [(.int (1)), (.int (1)), (.int (1)), (.int (1)), (.int (1)), (.int (1))])) (sh (.tup [(.str [48, 48]), (.str [48, 49]), (.str [49, 48])])) (sh (.tup [(.int (89)), (.int (55))])) (sh (.tup [(.int (144)), (.int (89))]))) t3 := s21_ok t3 (sh (qd q)) (stS (stdF q)) (sh (fpD q)) (sh (.tup [(.str [48]), (.str [48, 49])])) (stS w) y8 y9 y10 y11 y13 none none
  have cS22 : evS M40 C40 false S22 (St (sh (qd q)) (sh (.int (6))) (stS (stdF q)) (sh (fpD q)) (sh (.tup [(.str [48]), (.str [48, 49])])) (stS w) y8 y9 y10 y11 (sh (.str [48, 49, 48, 48, 49, 48, 49, 48, 48, 49, 48, 48, 49, 48, 49, 48, 48, 49, 48, 49, 48, 48, 49, 48, 48, 49, 48, 49, 48, 48, 49, 48, 48, 49])) y13 (sh (.tup [(.str [48, 49]), (.str [48])])) (sh (.str [48, 49, 48, 48, 49, 48, 49, 48, 48, 49, 48, 48, 49, 48, 49, 48, 48, 49, 48, 49, 48, 48, 49, 48, 48, 49, 48, 49, 48, 48, 49, 48, 48, 49, 48, 49, 48, 48, 49, 48, 49, 48, 48, 49, 48, 48, 49, 48, 49, 48, 48, 49, 48, 49, 48])) (sh (.str [48, 49, 48, 48, 49, 48, 49, 48, 48, 49, 48, 48, 49, 48, 49, 48, 48, 49, 48, 49, 48, 48, 49, 48, 48, 49, 48, 49, 48, 48, 49, 48, 48, 49])) (sh (.str [48, 49, 48, 48, 49, 48, 49, 48, 48, 49, 48, 48, 49, 48, 49, 48, 48, 49, 48, 49, 48, 48, 49, 48, 48, 49, 48, 49, 48, 48, 49, 48, 48, 49, 48, 49, 48, 48, 49, 48, 49, 48, 48, 49, 48, 48, 49, 48, 49, 48, 48, 49, 48, 49, 48, 48, 49, 48, 48, 49])) (sh (.int (7))) (sh (.tup [(.str [48, 48, 49, 48, 48, 49, 48]), (.str [48, 48, 49, 48, 49, 48, 48]), (.str [48, 49, 48, 48, 49, 48, 48]), (.str [48, 49, 48, 48, 49, 48, 49]), (.str [48, 49, 48, 49, 48, 48, 49]), (.str [49, 48, 48, 49, 48, 48, 49]), (.str [49, 48, 48, 49, 48, 49, 48]), (.str [49, 48, 49, 48, 48, 49, 48])])) (sh (.tup [(.int (1)), (.int (1)), (.int (1)), (.int (1)), (.int (1)), (.int (1))])) (sh (.tup [(.str [48, 48]), (.str [48, 49]), (.str [49, 48])])) (sh (.tup [(.int (89)), (.int (55))])) (sh (.tup [(.int (144)), (.int (89))]))) t3 = .ok (.nx, St (sh (qd q)) (sh (.int (6))) (stS (stdF q)) (sh (fpD q)) (sh (.tup [(.str [48]), (.str [48, 49])])) (stS w) y8 y9 y10 y11 (sh (.str [48, 49, 48, 48, 49, 48, 49, 48, 48, 49, 48, 48, 49, 48, 49, 48, 48, 49, 48, 49, 48, 48, 49, 48, 48, 49, 48, 49, 48, 48, 49, 48, 48, 49])) y13 (sh (.tup [(.str [48, 49]), (.str [48])])) (sh (.str [48, 49, 48, 48, 49, 48, 49, 48, 48, 49, 48, 48, 49, 48, 49, 48, 48, 49, 48, 49, 48, 48, 49, 48, 48, 49, 48, 49, 48, 48, 49, 48, 48, 49, 48, 49, 48, 48, 49, 48, 49, 48, 48, 49, 48, 48, 49, 48, 49, 48, 48, 49, 48, 49, 48])) (sh (.str [48, 49, 48, 48, 49, 48, 49, 48, 48, 49, 48, 48, 49, 48, 49, 48, 48, 49, 48, 49, 48, 48, 49, 48, 48, 49, 48, 49, 48, 48, 49, 48, 48, 49])) (sh (.str [48, 49, 48, 48, 49, 48, 49, 48, 48, 49, 48, 48, 49, 48, 49, 48, 48, 49, 48, 49, 48, 48, 49, 48, 48, 49, 48, 49, 48, 48, 49, 48, 48, 49, 48, 49, 48, 48, 49, 48, 49, 48, 48, 49, 48, 48, 49, 48, 49, 48, 48, 49, 48, 49, 48, 48, 49, 48, 48, 49])) (sh (.int (7))) (sh (.tup [(.str [48, 48, 49, 48, 48, 49, 48]), (.str [48, 48, 49, 48, 49, 48, 48]), (.str [48, 49, 48, 48, 49, 48, 48]), (.str [48, 49, 48, 48, 49, 48, 49]), (.str [48, 49, 48, 49, 48, 48, 49]), (.str [49, 48, 48, 49, 48, 48, 49]), (.str [49, 48, 48, 49, 48, 49, 48]), (.str [49, 48, 49, 48, 48, 49, 48])])) (sh (.tup [(.int (1)), (.int (1)), (.int (1)), (.int (1)), (.int (1)), (.int (1))])) (sh (.tup [(.str [48, 48]), (.str [48, 49]), (.str [49, 48])])) (sh (.tup [(.int (89)), (.int (55))])) (sh (.tup [(.int (144)), (.int (89))]))) t3 := s22_ok t3 (sh (qd q)) (stS (stdF q)) (sh (fpD q)) (sh (.tup [(.str [48]), (.str [48, 49])])) (stS w) y8 y9 y10 y11 y13
  obtain ⟨t4, q23⟩ := cr_ok t3 v3 (li := (match lineS with | some (d, _) => d | none => .non)) rfl
  rw [z_law_eq, r0]
  refine (congrArg isTrueR (ss_nx q1)).trans ?_
  refine (congrArg isTrueR (ss_nx q2)).trans ?_
  refine (congrArg isTrueR (ss_nx q3)).trans ?_
  refine (congrArg isTrueR (ss_nx cS4)).trans ?_
  refine (congrArg isTrueR (ss_nx q5)).trans ?_
  refine (congrArg isTrueR (ss_nx q6)).trans ?_
  refine (congrArg isTrueR (ss_nx q7)).trans ?_
  refine (congrArg isTrueR (ss_cons2 q8)).trans ?_
  refine (congrArg isTrueR (ss_nx cS11)).trans ?_
  refine (congrArg isTrueR (ss_nx cS12)).trans ?_
  refine (congrArg isTrueR (ss_nx cS13)).trans ?_
  refine (congrArg isTrueR (ss_nx cS14)).trans ?_
  refine (congrArg isTrueR (ss_nx cS15)).trans ?_
  refine (congrArg isTrueR (ss_nx cS16)).trans ?_
  refine (congrArg isTrueR (ss_nx cS17)).trans ?_
  refine (congrArg isTrueR (ss_nx cS18)).trans ?_
  refine (congrArg isTrueR (ss_nx cS19)).trans ?_
  refine (congrArg isTrueR (ss_nx cS20)).trans ?_
  refine (congrArg isTrueR (ss_nx cS21)).trans ?_
  refine (congrArg isTrueR (ss_nx cS22)).trans ?_
  have q24 : evE M40 C40 (.call 38 [(.var 1), (.var 14), (.var 17)]) (vw [1, 14, 17] (St (sh (qd q)) (sh (.int (6))) (stS (stdF q)) (sh (fpD q)) (sh (.tup [(.str [48]), (.str [48, 49])])) (stS w) y8 y9 y10 y11 (sh (.str [48, 49, 48, 48, 49, 48, 49, 48, 48, 49, 48, 48, 49, 48, 49, 48, 48, 49, 48, 49, 48, 48, 49, 48, 48, 49, 48, 49, 48, 48, 49, 48, 48, 49])) y13 (sh (.tup [(.str [48, 49]), (.str [48])])) (sh (.str [48, 49, 48, 48, 49, 48, 49, 48, 48, 49, 48, 48, 49, 48, 49, 48, 48, 49, 48, 49, 48, 48, 49, 48, 48, 49, 48, 49, 48, 48, 49, 48, 48, 49, 48, 49, 48, 48, 49, 48, 49, 48, 48, 49, 48, 48, 49, 48, 49, 48, 48, 49, 48, 49, 48])) (sh (.str [48, 49, 48, 48, 49, 48, 49, 48, 48, 49, 48, 48, 49, 48, 49, 48, 48, 49, 48, 49, 48, 48, 49, 48, 48, 49, 48, 49, 48, 48, 49, 48, 48, 49])) (sh (.str [48, 49, 48, 48, 49, 48, 49, 48, 48, 49, 48, 48, 49, 48, 49, 48, 48, 49, 48, 49, 48, 48, 49, 48, 48, 49, 48, 49, 48, 48, 49, 48, 48, 49, 48, 49, 48, 48, 49, 48, 49, 48, 48, 49, 48, 48, 49, 48, 49, 48, 48, 49, 48, 49, 48, 48, 49, 48, 48, 49])) (sh (.int (7))) (sh (.tup [(.str [48, 48, 49, 48, 48, 49, 48]), (.str [48, 48, 49, 48, 49, 48, 48]), (.str [48, 49, 48, 48, 49, 48, 48]), (.str [48, 49, 48, 48, 49, 48, 49]), (.str [48, 49, 48, 49, 48, 48, 49]), (.str [49, 48, 48, 49, 48, 48, 49]), (.str [49, 48, 48, 49, 48, 49, 48]), (.str [49, 48, 49, 48, 48, 49, 48])])) (sh (.tup [(.int (1)), (.int (1)), (.int (1)), (.int (1)), (.int (1)), (.int (1))])) (sh (.tup [(.str [48, 48]), (.str [48, 49]), (.str [49, 48])])) (sh (.tup [(.int (89)), (.int (55))])) (sh (.tup [(.int (144)), (.int (89))])))) t3 = .ok (.bl true) t4 := by
    rw [evE_call]
    have e1 : evL M40 C40 [(.var 1), (.var 14), (.var 17)] (vw [1, 14, 17] (St (sh (qd q)) (sh (.int (6))) (stS (stdF q)) (sh (fpD q)) (sh (.tup [(.str [48]), (.str [48, 49])])) (stS w) y8 y9 y10 y11 (sh (.str [48, 49, 48, 48, 49, 48, 49, 48, 48, 49, 48, 48, 49, 48, 49, 48, 48, 49, 48, 49, 48, 48, 49, 48, 48, 49, 48, 49, 48, 48, 49, 48, 48, 49])) y13 (sh (.tup [(.str [48, 49]), (.str [48])])) (sh (.str [48, 49, 48, 48, 49, 48, 49, 48, 48, 49, 48, 48, 49, 48, 49, 48, 48, 49, 48, 49, 48, 48, 49, 48, 48, 49, 48, 49, 48, 48, 49, 48, 48, 49, 48, 49, 48, 48, 49, 48, 49, 48, 48, 49, 48, 48, 49, 48, 49, 48, 48, 49, 48, 49, 48])) (sh (.str [48, 49, 48, 48, 49, 48, 49, 48, 48, 49, 48, 48, 49, 48, 49, 48, 48, 49, 48, 49, 48, 48, 49, 48, 48, 49, 48, 49, 48, 48, 49, 48, 48, 49])) (sh (.str [48, 49, 48, 48, 49, 48, 49, 48, 48, 49, 48, 48, 49, 48, 49, 48, 48, 49, 48, 49, 48, 48, 49, 48, 48, 49, 48, 49, 48, 48, 49, 48, 48, 49, 48, 49, 48, 48, 49, 48, 49, 48, 48, 49, 48, 48, 49, 48, 49, 48, 48, 49, 48, 49, 48, 48, 49, 48, 48, 49])) (sh (.int (7))) (sh (.tup [(.str [48, 48, 49, 48, 48, 49, 48]), (.str [48, 48, 49, 48, 49, 48, 48]), (.str [48, 49, 48, 48, 49, 48, 48]), (.str [48, 49, 48, 48, 49, 48, 49]), (.str [48, 49, 48, 49, 48, 48, 49]), (.str [49, 48, 48, 49, 48, 48, 49]), (.str [49, 48, 48, 49, 48, 49, 48]), (.str [49, 48, 49, 48, 48, 49, 48])])) (sh (.tup [(.int (1)), (.int (1)), (.int (1)), (.int (1)), (.int (1)), (.int (1))])) (sh (.tup [(.str [48, 48]), (.str [48, 49]), (.str [49, 48])])) (sh (.tup [(.int (89)), (.int (55))])) (sh (.tup [(.int (144)), (.int (89))])))) t3 = .ok [.tape, goldD, (match lineS with | some (d, _) => d | none => .non)] t3 := by
      kernel_rfl
    rw [e1, thn_ok]
    exact q23
  have q25 : evS M40 C40 false S23 (St (sh (qd q)) (sh (.int (6))) (stS (stdF q)) (sh (fpD q)) (sh (.tup [(.str [48]), (.str [48, 49])])) (stS w) y8 y9 y10 y11 (sh (.str [48, 49, 48, 48, 49, 48, 49, 48, 48, 49, 48, 48, 49, 48, 49, 48, 48, 49, 48, 49, 48, 48, 49, 48, 48, 49, 48, 49, 48, 48, 49, 48, 48, 49])) y13 (sh (.tup [(.str [48, 49]), (.str [48])])) (sh (.str [48, 49, 48, 48, 49, 48, 49, 48, 48, 49, 48, 48, 49, 48, 49, 48, 48, 49, 48, 49, 48, 48, 49, 48, 48, 49, 48, 49, 48, 48, 49, 48, 48, 49, 48, 49, 48, 48, 49, 48, 49, 48, 48, 49, 48, 48, 49, 48, 49, 48, 48, 49, 48, 49, 48])) (sh (.str [48, 49, 48, 48, 49, 48, 49, 48, 48, 49, 48, 48, 49, 48, 49, 48, 48, 49, 48, 49, 48, 48, 49, 48, 48, 49, 48, 49, 48, 48, 49, 48, 48, 49])) (sh (.str [48, 49, 48, 48, 49, 48, 49, 48, 48, 49, 48, 48, 49, 48, 49, 48, 48, 49, 48, 49, 48, 48, 49, 48, 48, 49, 48, 49, 48, 48, 49, 48, 48, 49, 48, 49, 48, 48, 49, 48, 49, 48, 48, 49, 48, 48, 49, 48, 49, 48, 48, 49, 48, 49, 48, 48, 49, 48, 48, 49])) (sh (.int (7))) (sh (.tup [(.str [48, 48, 49, 48, 48, 49, 48]), (.str [48, 48, 49, 48, 49, 48, 48]), (.str [48, 49, 48, 48, 49, 48, 48]), (.str [48, 49, 48, 48, 49, 48, 49]), (.str [48, 49, 48, 49, 48, 48, 49]), (.str [49, 48, 48, 49, 48, 48, 49]), (.str [49, 48, 48, 49, 48, 49, 48]), (.str [49, 48, 49, 48, 48, 49, 48])])) (sh (.tup [(.int (1)), (.int (1)), (.int (1)), (.int (1)), (.int (1)), (.int (1))])) (sh (.tup [(.str [48, 48]), (.str [48, 49]), (.str [49, 48])])) (sh (.tup [(.int (89)), (.int (55))])) (sh (.tup [(.int (144)), (.int (89))]))) t3 = .ok (.rt (.bl true), St (sh (qd q)) (sh (.int (6))) (stS (stdF q)) (sh (fpD q)) (sh (.tup [(.str [48]), (.str [48, 49])])) (stS w) y8 y9 y10 y11 (sh (.str [48, 49, 48, 48, 49, 48, 49, 48, 48, 49, 48, 48, 49, 48, 49, 48, 48, 49, 48, 49, 48, 48, 49, 48, 48, 49, 48, 49, 48, 48, 49, 48, 48, 49])) y13 (sh (.tup [(.str [48, 49]), (.str [48])])) (sh (.str [48, 49, 48, 48, 49, 48, 49, 48, 48, 49, 48, 48, 49, 48, 49, 48, 48, 49, 48, 49, 48, 48, 49, 48, 48, 49, 48, 49, 48, 48, 49, 48, 48, 49, 48, 49, 48, 48, 49, 48, 49, 48, 48, 49, 48, 48, 49, 48, 49, 48, 48, 49, 48, 49, 48])) (sh (.str [48, 49, 48, 48, 49, 48, 49, 48, 48, 49, 48, 48, 49, 48, 49, 48, 48, 49, 48, 49, 48, 48, 49, 48, 48, 49, 48, 49, 48, 48, 49, 48, 48, 49])) (sh (.str [48, 49, 48, 48, 49, 48, 49, 48, 48, 49, 48, 48, 49, 48, 49, 48, 48, 49, 48, 49, 48, 48, 49, 48, 48, 49, 48, 49, 48, 48, 49, 48, 48, 49, 48, 49, 48, 48, 49, 48, 49, 48, 48, 49, 48, 48, 49, 48, 49, 48, 48, 49, 48, 49, 48, 48, 49, 48, 48, 49])) (sh (.int (7))) (sh (.tup [(.str [48, 48, 49, 48, 48, 49, 48]), (.str [48, 48, 49, 48, 49, 48, 48]), (.str [48, 49, 48, 48, 49, 48, 48]), (.str [48, 49, 48, 48, 49, 48, 49]), (.str [48, 49, 48, 49, 48, 48, 49]), (.str [49, 48, 48, 49, 48, 48, 49]), (.str [49, 48, 48, 49, 48, 49, 48]), (.str [49, 48, 49, 48, 48, 49, 48])])) (sh (.tup [(.int (1)), (.int (1)), (.int (1)), (.int (1)), (.int (1)), (.int (1))])) (sh (.tup [(.str [48, 48]), (.str [48, 49]), (.str [49, 48])])) (sh (.tup [(.int (89)), (.int (55))])) (sh (.tup [(.int (144)), (.int (89))]))) t4 := by
    unfold S23
    rw [evS_ret, q24]
    rfl
  exact (congrArg isTrueR (ss_rt q25)).trans rfl
theorem law_true : ∀ ns : List Int, ns.length ≤ 63 → EV.isTrueR (EV.runL md dfs 40 n_law.length z_law ns) = true := fun ns _ => law_ok (tape0 ns) (Int.le_refl 0)
end LW

open PySem PySem.W PyProof.Rows
set_option maxRecDepth 100000 in
set_option maxHeartbeats 0 in
theorem PySem.Challenge.cw_shiftsandcells_k29_whole_slopes_and_putt_holds : PySem.Challenge.rw_shiftsandcells_k29_whole_slopes_and_putt.Holds := by
  w_on; o_law; k_head; (case hw => w_witness2)
  k_fill
  refine LamX.walk_ofTs (l := PySem.Challenge.rw_shiftsandcells_k29_whole_slopes_and_putt) (n := 63) (k := 41) (x := "script") (CX := fun w => L2.CX (PySem.Challenge.rw_shiftsandcells_k29_whole_slopes_and_putt).prog w) rfl (by decide) rfl ⟨rfl, by decide, by decide⟩ (fun w h Y => PySem.W.kIn_of Y) ?F (fun w H s e s' z => EV.cx_none z)
  case F =>
    intro w mg fa h Y KX G hmg
    refine' LW.all_mk KX G hmg ?a0 ?l0 ?c0 ?k0 ?a1 ?l1 ?c1 ?k1 ?a2 ?l2 ?c2 ?k2 ?a3 ?l3 ?c3 ?k3 ?a4 ?l4 ?c4 ?k4 ?a5 ?l5 ?c5 ?k5 ?a6 ?l6 ?c6 ?k6 ?a7 ?l7 ?c7 ?k7 ?a8 ?l8 ?c8 ?k8 ?a9 ?l9 ?c9 ?k9 ?a10 ?l10 ?c10 ?k10 ?a11 ?l11 ?c11 ?k11 ?a12 ?l12 ?c12 ?k12 ?a13 ?l13 ?c13 ?k13 ?a14 ?l14 ?c14 ?k14 ?a15 ?l15 ?c15 ?k15 ?a16 ?l16 ?c16 ?k16 ?a17 ?l17 ?c17 ?k17 ?a18 ?l18 ?c18 ?k18 ?a19 ?l19 ?c19 ?k19 ?a20 ?l20 ?c20 ?k20 ?a21 ?l21 ?c21 ?k21 ?a22 ?l22 ?c22 ?k22 ?a23 ?l23 ?c23 ?k23 ?a24 ?l24 ?c24 ?k24 ?a25 ?l25 ?c25 ?k25 ?a26 ?l26 ?c26 ?k26 ?a27 ?l27 ?c27 ?k27 ?a28 ?l28 ?c28 ?k28 ?a29 ?l29 ?c29 ?k29 ?a30 ?l30 ?c30 ?k30 ?a31 ?l31 ?c31 ?k31 ?a32 ?l32 ?c32 ?k32 ?a33 ?l33 ?c33 ?k33 ?a34 ?l34 ?c34 ?k34 ?a35 ?l35 ?c35 ?k35 ?a36 ?l36 ?c36 ?k36 ?a37 ?l37 ?c37 ?k37 ?a38 ?l38 ?c38 ?k38 ?a39 ?l39 ?c39 ?k39 ?a40 ?l40 ?c40 ?k40 ?xa0 ?xe0 ?xk0 ?xs0 ?xt0 ?xa1 ?xe1 ?xk1 ?xs1 ?xt1 ?xa2 ?xe2 ?xk2 ?xs2 ?xt2 ?xa3 ?xe3 ?xk3 ?xs3 ?xt3 ?z0 ?z1 ?z2 ?z3 ?z4 ?z5 ?z6 ?z7 ?z8 ?z9 ?z10 ?z11 ?z12 ?z13 ?z14 ?z15 ?dg0 ?dg1 ?dg2 ?dg3  ?hlaw
    (case a0 => k_is)
    (case l0 => k_is)
    (case c0 => k_is)
    (case k0 => k_is)
    (case a1 => k_is)
    (case l1 => k_is)
    (case c1 => k_is)
    (case k1 => k_is)
    (case a2 => k_is)
    (case l2 => k_is)
    (case c2 => k_is)
    (case k2 => k_is)
    (case a3 => k_is)
    (case l3 => k_is)
    (case c3 => k_is)
    (case k3 => k_is)
    (case a4 => k_is)
    (case l4 => k_is)
    (case c4 => k_is)
    (case k4 => k_is)
    (case a5 => k_is)
    (case l5 => k_is)
    (case c5 => k_is)
    (case k5 => k_is)
    (case a6 => k_is)
    (case l6 => k_is)
    (case c6 => k_is)
    (case k6 => k_is)
    (case a7 => k_is)
    (case l7 => k_is)
    (case c7 => k_is)
    (case k7 => k_is)
    (case a8 => k_is)
    (case l8 => k_is)
    (case c8 => k_is)
    (case k8 => k_is)
    (case a9 => k_is)
    (case l9 => k_is)
    (case c9 => k_is)
    (case k9 => k_is)
    (case a10 => k_is)
    (case l10 => k_is)
    (case c10 => k_is)
    (case k10 => k_is)
    (case a11 => k_is)
    (case l11 => k_is)
    (case c11 => k_is)
    (case k11 => k_is)
    (case a12 => k_is)
    (case l12 => k_is)
    (case c12 => k_is)
    (case k12 => k_is)
    (case a13 => k_is)
    (case l13 => k_is)
    (case c13 => k_is)
    (case k13 => k_is)
    (case a14 => k_is)
    (case l14 => k_is)
    (case c14 => k_is)
    (case k14 => k_is)
    (case a15 => k_is)
    (case l15 => k_is)
    (case c15 => k_is)
    (case k15 => k_is)
    (case a16 => k_is)
    (case l16 => k_is)
    (case c16 => k_is)
    (case k16 => k_is)
    (case a17 => k_is)
    (case l17 => k_is)
    (case c17 => k_is)
    (case k17 => k_is)
    (case a18 => k_is)
    (case l18 => k_is)
    (case c18 => k_is)
    (case k18 => k_is)
    (case a19 => k_is)
    (case l19 => k_is)
    (case c19 => k_is)
    (case k19 => k_is)
    (case a20 => k_is)
    (case l20 => k_is)
    (case c20 => k_is)
    (case k20 => k_is)
    (case a21 => k_is)
    (case l21 => k_is)
    (case c21 => k_is)
    (case k21 => k_is)
    (case a22 => k_is)
    (case l22 => k_is)
    (case c22 => k_is)
    (case k22 => k_is)
    (case a23 => k_is)
    (case l23 => k_is)
    (case c23 => k_is)
    (case k23 => k_is)
    (case a24 => k_is)
    (case l24 => k_is)
    (case c24 => k_is)
    (case k24 => k_is)
    (case a25 => k_is)
    (case l25 => k_is)
    (case c25 => k_is)
    (case k25 => k_is)
    (case a26 => k_is)
    (case l26 => k_is)
    (case c26 => k_is)
    (case k26 => k_is)
    (case a27 => k_is)
    (case l27 => k_is)
    (case c27 => k_is)
    (case k27 => k_is)
    (case a28 => k_is)
    (case l28 => k_is)
    (case c28 => k_is)
    (case k28 => k_is)
    (case a29 => k_is)
    (case l29 => k_is)
    (case c29 => k_is)
    (case k29 => k_is)
    (case a30 => k_is)
    (case l30 => k_is)
    (case c30 => k_is)
    (case k30 => k_is)
    (case a31 => k_is)
    (case l31 => k_is)
    (case c31 => k_is)
    (case k31 => k_is)
    (case a32 => k_is)
    (case l32 => k_is)
    (case c32 => k_is)
    (case k32 => k_is)
    (case a33 => k_is)
    (case l33 => k_is)
    (case c33 => k_is)
    (case k33 => k_is)
    (case a34 => k_is)
    (case l34 => k_is)
    (case c34 => k_is)
    (case k34 => k_is)
    (case a35 => k_is)
    (case l35 => k_is)
    (case c35 => k_is)
    (case k35 => k_is)
    (case a36 => k_is)
    (case l36 => k_is)
    (case c36 => k_is)
    (case k36 => k_is)
    (case a37 => k_is)
    (case l37 => k_is)
    (case c37 => k_is)
    (case k37 => k_is)
    (case a38 => k_is)
    (case l38 => k_is)
    (case c38 => k_is)
    (case k38 => k_is)
    (case a39 => k_is)
    (case l39 => k_is)
    (case c39 => k_is)
    (case k39 => k_is)
    (case a40 => k_is)
    (case l40 => k_is)
    (case c40 => k_is)
    (case k40 => k_is)
    (case xa0 => k_is)
    (case xe0 => first | kernel_rfl | k_is)
    (case xk0 => k_is)
    (case xs0 => k_is)
    (case xt0 => k_is)
    (case xa1 => k_is)
    (case xe1 => first | kernel_rfl | k_is)
    (case xk1 => k_is)
    (case xs1 => k_is)
    (case xt1 => k_is)
    (case xa2 => k_is)
    (case xe2 => first | kernel_rfl | k_is)
    (case xk2 => k_is)
    (case xs2 => k_is)
    (case xt2 => k_is)
    (case xa3 => k_is)
    (case xe3 => first | kernel_rfl | k_is)
    (case xk3 => k_is)
    (case xs3 => k_is)
    (case xt3 => k_is)
    (case z0 => k_is)
    (case z1 => k_is)
    (case z2 => k_is)
    (case z3 => k_is)
    (case z4 => k_is)
    (case z5 => k_is)
    (case z6 => k_is)
    (case z7 => k_is)
    (case z8 => k_is)
    (case z9 => k_is)
    (case z10 => k_is)
    (case z11 => k_is)
    (case z12 => k_is)
    (case z13 => k_is)
    (case z14 => k_is)
    (case z15 => k_is)
    (case dg0 => k_is)
    (case dg1 => k_is)
    (case dg2 => k_is)
    (case dg3 => k_is)
    (case hlaw => exact LW.law_true)
