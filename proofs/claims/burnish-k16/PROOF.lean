import PyProof.Rows.All
import Wide.All
import OpenK.AllK
import Wide.FinOn
import HandS.ForMost
import HandS.ForExc
import HandS.IsInst
import HandS.Wide
import HandS.WideBits
import HandS.WideMore
import KE.GoesMore
import KE.GoesEnum
import HandS.More
import HandS.HeadHook3
import KE.DatumOrd
import HandS.SortKw
import HandS.List
import HandS.Dict
import HandS.Text
import HandS.RaiseMore
import KE.SortData
import HandS.Conv
import HandS.TupAny
import HandS.Style
import HandS.DictComp
import HandS.SetKeys
import HandS.ListItems
import HandS.Defaults
import HandS.EndBits
import HandS.Head0
import HandS.Head1
import HandS.Head2
import HandS.HeadEnd
import HandS.HeadHook1
import HandS.HeadHook2
import KE.KStateDown
import HandS.Codes
import PyProof.ReprLen
import PySem.Challenge.RW_burnish_k16_objects_and_lives
set_option Elab.async false
set_option linter.all false
set_option maxRecDepth 100000
set_option maxHeartbeats 4000000
/-! N1: enumerate over a tuple. -/
namespace L2
open PySem PySem.Spec PyProof.Rows
theorem begins_tup (t : Addr) (items : Array Value) : Begins (.ref t) { cls := .type "tuple_iterator", data := .fields #[.ref t, .int 0 0] } (fun h => IsTup h t items) where
  iter := fun prog w A E s Q h q => by
    refine wpAny_pyIter_slot h.typeIs F.slot_tuple_iter (wpAny_call_entry F.slot_tuple_iter h.typeIs F.entry_tuple_iter ?_ (F.args_tuple_iter_1 _))
    show wpAny _ _ (do ret (← newFields "tuple_iterator" [.ref t, rawInt 0])) _ _ s
    exact wpAny_bind (wpAny_newObj_type (wpAny_pure ⟨_, rfl, "tuple_iterator", _, ⟨_, Heap.get?_push_size _ rfl, rfl⟩, F.slot_tuple_iterator_next.lookup, q⟩) (by size_fits))
  keeps := fun h h' ⟨o, e, r⟩ k => ⟨o, k _ _ e, r⟩
  free := rfl
set_option maxHeartbeats 1000000 in
theorem meets_enumerate_newB0 {v : Value} {o : Obj} {H : Heap → Prop} (B : Begins v o H) :
    Meets (Builtin.«enumerate.__new__» ⟨[.type "enumerate", v], []⟩) (fun _ R s => H s.heap ∧
      R (.ok (.ret (.ref (s.heap.push o).objs.size))) { s with heap := (s.heap.push o).push { cls := .type "enumerate", data := .fields #[.none, .bool false, .ref s.heap.objs.size, rawInt 0, .none, .none] } }) :=
  .of_wp fun prog w A R s h => by
    obtain ⟨hp, g, d, tk, os⟩ := s; obtain ⟨h1, h⟩ := h
    have hsub := sub_enumerate
    have q1 : ∀ {A' : Around} {E : Value → Shared → Prop} {Q : Value → Shared → Prop}, Q (.ref hp.objs.size) ⟨hp.push o, g, d, tk, os⟩ → wpAny (model prog w) A' (pyIter v) Q E ⟨hp, g, d, tk, os⟩ :=
      fun q => B.iter prog w _ _ ⟨hp, g, d, tk, os⟩ _ h1 q
    wp_walk using q1
    refine wpAny_stack_any fun st => wpAny_pure ?_
    split
    · rename_i c _ _ _ _ _
      cases (c == Value.type "enumerate")
      · wp_walk using q1
        exact ⟨_, rfl, h⟩
      · wp_walk using q1
        exact ⟨_, rfl, h⟩
    · wp_walk using q1
      exact ⟨_, rfl, h⟩
section
variable {prog : Program} {w : World} {A : Around} {E : Value → Shared → Prop} {s : Shared}
theorem call_enumerate_tup {t : Addr} {items : Array Value} {Q : Value → Shared → Prop} (hT : IsTup s.heap t items)
    (h : ∀ h', IsEnum h' (s.heap.objs.size + 1) s.heap.objs.size 0 .none → h'.IsTupleIter s.heap.objs.size t 0 → h'.objs.size = s.heap.objs.size + 2 →
      (∀ b o, s.heap.get? b = some o → h'.get? b = some o) → Q (.ref (s.heap.objs.size + 1)) { s with heap := h' }) :
    wpAny (model prog w) A (call (.type "enumerate") [.ref t]) Q E s := by
  refine callType_new F.called_enumerate (by decide) (F.typeCall_enumerate_1 _) (F.newCall_enumerate_1 _) (fun obj => F.args_object_init_2 obj _) F.entry_enumerate_new
    (meets_enumerate_newB0 (begins_tup t items)) ⟨hT, ?_⟩
  have hz : (s.heap.push { cls := .type "tuple_iterator", data := .fields #[.ref t, .int 0 0] }).objs.size = s.heap.objs.size + 1 := Heap.size_push ..
  show _ ∧ _
  rw [hz]
  have he : IsEnum ((s.heap.push { cls := .type "tuple_iterator", data := .fields #[.ref t, .int 0 0] }).push
      { cls := .type "enumerate", data := .fields #[.none, .bool false, .ref s.heap.objs.size, rawInt 0, .none, .none] }) (s.heap.objs.size + 1) s.heap.objs.size 0 .none := by
    have := Heap.get?_push_size (s.heap.push { cls := .type "tuple_iterator", data := .fields #[.ref t, .int 0 0] })
      (o := { cls := .type "enumerate", data := .fields #[.none, .bool false, .ref s.heap.objs.size, rawInt 0, .none, .none] }) rfl
    rw [hz] at this; exact this
  refine ⟨⟨_, he, rfl⟩, h _ he ⟨_, Heap.get?_push_of_some _ (Heap.get?_push_size _ rfl), rfl, rfl⟩ (by rw [Heap.size_push, hz]) fun b o x => Heap.get?_push_of_some _ (Heap.get?_push_of_some _ x)⟩
end
/-- the tuple at a as it stands at each turn, each item in a new pair -/
def IteT (K : PySem.W.Frag) (a : Addr) : It :=
  ⟨fun i H => ∃ (xs : List V) (x : V), SqT K H a xs ∧ xs[i]? = some x, fun i H v H' => ∃ T x, v = .ref T ∧ H T = none ∧ H' = upd H T (.tup [.int (i : Nat), x]) ∧ ∀ xs, SqT K H a xs → xs[i]? = some x, fun i H => ∃ xs : List V, SqT K H a xs ∧ xs.length ≤ i⟩
theorem turn_enumT {P : Program} {w : World} {K : PySem.W.Frag} {elts : List Expr} {kk : Nat} {tpos : Pos} (a e it : Addr) :
    Turn P w K (.Tuple elts kk tpos) (IteT K a) [e, it] e (fun i h => (∃ old, IsEnum h e it ((i : Nat) : Int) old) ∧ h.IsTupleIter it a i ∧ e ≠ it) where
  mem := by simp
  obj := fun i h st b hb => by
    obtain ⟨⟨old, he⟩, ⟨o, ho, hc, hd⟩, _⟩ := st
    have e' : b = e ∨ b = it := by simpa using hb
    rcases e' with z | z
    · rw [z]; exact ⟨_, he, fun v q => nomatch q⟩
    · rw [z]; exact ⟨o, ho, fun v q => by rw [hd] at q; cases q⟩
  keep := fun i h h' st k => let ⟨⟨old, he⟩, hi, hne⟩ := st; ⟨⟨old, k e (by simp) _ he⟩, hi.at fun o q => k it (by simp) o q, hne⟩
  item := by
    intro X hP hw hK hc i pins s σ H E I hf st hg
    subst hP hw hK
    obtain ⟨⟨old, he⟩, hit, hne⟩ := st
    obtain ⟨xs, x, hq, hx⟩ := hg
    obtain ⟨its, rv, p, hz⟩ := I.tuple hq
    obtain ⟨u, hu, ru⟩ := rv.get hx
    have hel : e < s.heap.objs.size := Heap.lt_size he
    have hil : it < s.heap.objs.size := by obtain ⟨_, q, _⟩ := hit; exact Heap.lt_size q
    have p' : s.heap.IsTuple a its.toArray := p
    have hai : a ≠ it := fun z => by
      obtain ⟨o1, e1, c1, _⟩ := p
      obtain ⟨o2, e2, c2, _⟩ := hit
      subst z
      rw [e1] at e2; cases e2
      rw [c1] at c2
      exact absurd c2 (by decide)
    have hae : e ≠ a := fun z => by
      obtain ⟨o1, e1, c1, _⟩ := p
      subst z
      have e2 : s.heap.get? e = some _ := he
      rw [e1] at e2; cases e2
      have c1 : Value.type "enumerate" = Value.type "tuple" := c1
      exact absurd c1 (by decide)
    have hlt : i < its.toArray.size := by
      rw [List.size_toArray]
      exact (List.getElem?_eq_some_iff.mp hu).1
    refine wpAny_pyNext_enum_itemD (Draws.tuple (prog := X.prog) (w := X.w) (A := X.A.in1) (show X.A.in1.handled = none from I.ok.hd hc) it a hai its.toArray) he ⟨hit, p'⟩ hlt hne (by simp [hne, hae]) fun x' h' tk hPx ho hst' hT hsz hk => ?_
    have ex : x' = u := by
      have : its.toArray[i]? = some x' := hPx
      rw [List.getElem?_toArray, hu] at this
      exact (Option.some.inj this).symm
    subst ex
    refine ⟨_, rfl, wpAny_letOwnedTupleGo_enum (s := { s with heap := h', toks := tk + 1 }) ho fun h'' he' sb => ?_⟩
    have hT2 : h''.get? s.heap.objs.size = some { cls := .type "tuple", data := .seq #[.int i tk, x'] } := (sb.2 _ (Nat.ne_of_gt hel)).trans hT
    have new : ObjOk X.prog X.w (upd H s.heap.objs.size (.tup [.int (i : Nat), x])) h'' s.heap.objs.size (.tup [.int (i : Nat), x]) :=
      ⟨by show 2 ≤ sizeLine; decide, [.int i tk, x'], .cons ⟨_, rfl⟩ (.cons ru .nil), ⟨_, hT2, rfl, _, rfl⟩⟩
    have I1 : Inv X pins σ (upd H s.heap.objs.size (.tup [.int (i : Nat), x])) { s with heap := h'', toks := tk + 1 } :=
      I.turnedNew (ch := [e, it]) (fun b ob hb q => (sb.2 b (fun z => hb (by simp [z]))).trans (hk b ob (fun z => hb (by simp [z])) (fun z => hb (by simp [z])) q)) hf (Nat.le_refl _) new
    refine ⟨.ref s.heap.objs.size, _, I1, rfl, ⟨_, x, rfl, I.hok.fresh (Nat.le_refl _), rfl, fun ys hy => by rw [I.tuple_inj hy hq]; exact hx⟩, ⟨⟨x', ?_⟩, hst'.1.at fun o q => (sb.2 it (Ne.symm hne)).trans q, hne⟩, fun b hb => ?_⟩
    · have e1 : ((i + 1 : Nat) : Int) = (i : Int) + 1 := by omega
      rw [e1]; exact he'
    · have hb' : b < s.heap.objs.size := by
        have e' : b = e ∨ b = it := by simpa using hb
        rcases e' with z | z
        · rw [z]; exact hel
        · rw [z]; exact hil
      rw [upd_ne (Nat.ne_of_lt hb')]
      exact (hf b hb).1
  done := by
    intro X hP hw hK hc i pins s σ H E I hf st hg
    subst hP hw hK
    obtain ⟨⟨old, he⟩, hit, hne⟩ := st
    obtain ⟨xs, hq, hx⟩ := hg
    obtain ⟨its, rv, p, hz⟩ := I.tuple hq
    obtain ⟨f0, f1, f2, f3, f4, f5⟩ := hf it (by simp)
    have hl := rv.length
    have hT : s.TypeIs (.ref e) "enumerate" := ⟨_, he, rfl⟩
    unfold pyNext
    refine wpAny_bind (wpAny_attempt (wpAny_callSpecial?_slot (name := Str.ofString "__next__") hT F.slot_enumerate_next
      (wpAny_call_entry F.slot_enumerate_next hT F.entry_enumerate_next ?_ (F.args_enumerate_next_1 _))))
    show wpAny _ _ (field (.ref e) 2 >>= _) _ _ _
    refine wpAny_bind (wpAny_field he rfl (x := .ref it) rfl ?_)
    refine wpAny_bind (wpAny_nextOf_tuple_end (I.ok.hd hc) hit (show s.heap.IsTuple a its.toArray from p) (by simp; omega) fun h' x he' hx' => ?_)
    obtain ⟨o, ho, hcl⟩ := hx'
    refine wpAny_bind (wpAny_isInstance (T := "StopIteration") (b := true) ⟨o, ho, hcl⟩ isSubtype_stop ?_)
    exact wpAny_pure ⟨rfl, I.turned (t' := s.toks) (fun b o hb q => he' b o hb q) f0 f1 f3 f4 f5⟩
  self := fun A i s Q E st h => let ⟨⟨_, he⟩, _⟩ := st; wpAny_pyIter_enum he h
def iEnumT (K : PySem.W.Frag) (ta : TA) : TI := fun σ H R => ta σ H fun vs H1 => ∃ a xs, vs = [.ref a] ∧ SqT K H1 a xs ∧ R (IteT K a) H1
/-- enumerate over a list or a tuple -/
theorem pi_enumX {X : Cx} {e : Expr} {ta : TA} {p pos tpos : Pos} {elts : List Expr} {kk : Nat} (hg : Gl X "enumerate") (hm : X.mg "enumerate" = none) (ha : PA X [e] ta) (hs : starEach [e] X.env = [(false, eval e X.env)] := by rfl) :
    PI X (.Tuple elts kk tpos) (.Call (.Name "enumerate" p) [e] [] pos) (iEnumT X.K ta) := by
  refine ⟨fun pins s σ H R I h => ?_⟩
  refine Call_ (ld_blt I hg hm boot_enumerate (PyProof.Rows.callWith_type1 (thn (ha.run pos pins s σ H _ I h) fun us s1 ⟨vs, H1, I1, r1, q1⟩ => ?_) hs rfl))
  obtain ⟨a, xs, ex, hq, q⟩ := q1
  subst ex
  cases r1 with
  | cons r rr =>
    cases rr
    cases r
    obtain ⟨its, rv, p', hz⟩ := I1.tuple hq
    refine call_enumerate_tup p' fun h' he hit hsz hk => wpAny_pyIter_enum he ?_
    have I2 : Inv X pins σ H1 { s1 with heap := h' } := I1.kept (t' := s1.toks) hk
    refine ⟨s1.heap.objs.size + 1, [s1.heap.objs.size + 1, s1.heap.objs.size], _, _, H1, rfl, I2, turn_enumT a (s1.heap.objs.size + 1) s1.heap.objs.size, ⟨⟨.none, he⟩, hit, Nat.succ_ne_self _⟩, fun b hb => ?_, q⟩
    have e' : b = s1.heap.objs.size + 1 ∨ b = s1.heap.objs.size := by simpa using hb
    have hle : s1.heap.objs.size ≤ b := by
      rcases e' with z | z
      · rw [z]; exact Nat.le_add_right _ _
      · rw [z]; exact Nat.le_refl _
    exact I1.fpOk hle (I1.hok.fresh hle)
end L2
/-! N2: max and min of a list with default=. -/
namespace L2
open PySem PySem.Spec PyProof.Rows
def maxI (n : Int) (ns : List Int) : Int := ns.foldl (fun a y => if a < y then y else a) n
def minI (n : Int) (ns : List Int) : Int := ns.foldl (fun a y => if y < a then y else a) n
def maxDI (d : Int) : List Int → Int
  | [] => d
  | n :: r => maxI n r
def minDI (d : Int) : List Int → Int
  | [] => d
  | n :: r => minI n r
theorem max_of (n : Int) (ns : List Int) : PySem.W.maxOf n ns = maxI n ns := by
  unfold PySem.W.maxOf maxI
  congr 1
  funext a y
  show (if decide (a < y) = true then y else a) = _
  simp
theorem min_of (n : Int) (ns : List Int) : PySem.W.minOf n ns = minI n ns := by
  unfold PySem.W.minOf minI
  congr 1
  funext a y
  show (if decide (y < a) = true then y else a) = _
  simp
theorem int_held {h : Heap} {v : Value} {m : Int} (H : PySem.W.Holds h v m) : ∃ t, v = .int m t := by
  have := (PySem.W.HoldAll.cons H PySem.W.HoldAll.nil).toInts
  cases this with
  | cons n t _ => exact ⟨t, rfl⟩
/-- max(xs, default=d) of a list of ints -/
def rMaxDf (K : PySem.W.Frag) (F : Int → List Int → Int) : List V → List V → Hp → VK → Prop := fun xs zs H Q => ∃ (a : Addr) (ns : List Int) (d : Int), xs = [V.ref a] ∧ zs = [V.int d] ∧ SqL K H a (ns.map V.int) ∧ Q (.int (F d ns)) H
section
variable {X : Cx}
theorem crk_maxD (hc : X.calm = true) (hu : X.A.units + 1 < cLine) : CallRK X (.builtin "max") [Str.ofString "default"] (rMaxDf X.K maxDI) := by
  intro pins s σ H xs zs us ws Q I r1 r2 h
  obtain ⟨a, ns, d, rfl, rfl, hs, q⟩ := h
  obtain ⟨its, rv, hl, _⟩ := I.list hs
  rw [Vals.ref1 r1]
  cases r2 with
  | cons r3 r4 =>
    cases r4
    obtain ⟨t, rfl⟩ := r3
    refine PySem.W.max_list_datum_default (α := Int) (xs := ns) (I.ok.hd hc) hl.isList (PySem.W.HoldAll.of_ints rv.ints) hu (fun e h' tk k => ?_) fun y ys i v h' tk e hv hm k => ?_
    · subst e
      exact ⟨.int d, H, I.kept k, ⟨_, rfl⟩, q⟩
    · subst e
      obtain ⟨t', rfl⟩ := int_held hm
      rw [max_of]
      exact ⟨.int _, H, I.kept k, ⟨_, rfl⟩, q⟩
theorem crk_minD (hc : X.calm = true) (hu : X.A.units + 1 < cLine) : CallRK X (.builtin "min") [Str.ofString "default"] (rMaxDf X.K minDI) := by
  intro pins s σ H xs zs us ws Q I r1 r2 h
  obtain ⟨a, ns, d, rfl, rfl, hs, q⟩ := h
  obtain ⟨its, rv, hl, _⟩ := I.list hs
  rw [Vals.ref1 r1]
  cases r2 with
  | cons r3 r4 =>
    cases r4
    obtain ⟨t, rfl⟩ := r3
    refine PySem.W.min_list_datum_default (α := Int) (xs := ns) (I.ok.hd hc) hl.isList (PySem.W.HoldAll.of_ints rv.ints) hu (fun e h' tk k => ?_) fun y ys i v h' tk e hv hm k => ?_
    · subst e
      exact ⟨.int d, H, I.kept k, ⟨_, rfl⟩, q⟩
    · subst e
      obtain ⟨t', rfl⟩ := int_held hm
      rw [min_of]
      exact ⟨.int _, H, I.kept k, ⟨_, rfl⟩, q⟩
/-- max(xs), min(xs) of a list of ints that is not empty -/
def rMax1 (K : PySem.W.Frag) (F : Int → List Int → Int) : List V → Hp → VK → Prop := fun vs H Q => ∃ (a : Addr) (n : Int) (ns : List Int), vs = [V.ref a] ∧ SqL K H a ((n :: ns).map V.int) ∧ Q (.int (F n ns)) H
theorem cr_max1 (hc : X.calm = true) (hu : X.A.units + 1 < cLine) : CallR X (.builtin "max") (rMax1 X.K maxI) := by
  intro pins s σ H vs us Q I r h
  obtain ⟨a, n, ns, rfl, hs, q⟩ := h
  obtain ⟨its, rv, hl, _⟩ := I.list hs
  rw [Vals.ref1 r]
  refine PySem.W.max_list_datum (α := Int) (x := n) (xs := ns) (I.ok.hd hc) hl.isList (PySem.W.HoldAll.of_ints rv.ints) hu fun i v h' tk hv hm k => ?_
  obtain ⟨t', rfl⟩ := int_held hm
  rw [max_of]
  exact ⟨.int _, H, I.kept k, ⟨_, rfl⟩, q⟩
theorem cr_min1 (hc : X.calm = true) (hu : X.A.units + 1 < cLine) : CallR X (.builtin "min") (rMax1 X.K minI) := by
  intro pins s σ H vs us Q I r h
  obtain ⟨a, n, ns, rfl, hs, q⟩ := h
  obtain ⟨its, rv, hl, _⟩ := I.list hs
  rw [Vals.ref1 r]
  refine PySem.W.min_list_datum (α := Int) (x := n) (xs := ns) (I.ok.hd hc) hl.isList (PySem.W.HoldAll.of_ints rv.ints) hu fun i v h' tk hv hm k => ?_
  obtain ⟨t', rfl⟩ := int_held hm
  rw [min_of]
  exact ⟨.int _, H, I.kept k, ⟨_, rfl⟩, q⟩
section
variable {d : Addr} {es : Array DictEntry} {n : Nat} {pins : List (Addr × Obj)} {σ : St} {H : Hp} {s : Shared} {A : Around} {E : Value → Shared → Prop} {z : Str} {t : Tok} {r : Option Value} {w : Value}
theorem kd_get1 {Q : Value → Shared → Prop} (D : KDict X.K X.w d es n) (I : Inv X pins σ H s) (e : PySem.W.nsIn X.K d z = some r) (h : ∀ s', Inv X pins σ H s' → Q (r.getD .none) s') :
    wpAny (model X.prog X.w) A (call (.builtin "dict.get") [.ref d, .str z t]) Q E s := by
  have mo := PySem.W.mapOf_K (prog := X.prog) (w := X.w) I.kIn D.at_ D.lit
  refine call_meetsIn PySem.F.slot_dict_get mo.typeIs PySem.F.entry_dict_get (PySem.F.args_dict_get_2 _ _) (meets_dict_get (PySem.strKind X.prog X.w) d (PySem.strKind_is X.prog X.w z t) D.low) ⟨_, mo, ?_⟩
  rw [PySem.W.find_K D.at_ e]
  exact h _ (I.tok _)
theorem kd_get2 {Q : Value → Shared → Prop} (D : KDict X.K X.w d es n) (I : Inv X pins σ H s) (e : PySem.W.nsIn X.K d z = some r) (h : ∀ s', Inv X pins σ H s' → Q (r.getD w) s') :
    wpAny (model X.prog X.w) A (call (.builtin "dict.get") [.ref d, .str z t, w]) Q E s := by
  have mo := PySem.W.mapOf_K (prog := X.prog) (w := X.w) I.kIn D.at_ D.lit
  refine call_meetsIn PySem.F.slot_dict_get mo.typeIs PySem.F.entry_dict_get (PySem.F.args_dict_get_3 _ _ _) (meets_dict_get_default (PySem.strKind X.prog X.w) d (PySem.strKind_is X.prog X.w z t) D.low w) ⟨_, mo, ?_⟩
  rw [PySem.W.find_K D.at_ e]
  exact h _ (I.tok _)
variable {o e f : Expr} {apos cpos : Pos} {ty tx : TE}
theorem pe_kget1 (D : KDict X.K X.w d es n) (ho : PE X o (tC (.ref d))) (he : PE X e ty) (m : M1 X o "get" apos e cpos) :
    PE X (.Call (.Attribute o "get" apos) [e] [] cpos) (fun σ H Q => ty σ H fun y H2 => ∃ (z : Str) (r : Option Value) (v : V), y = .str z ∧ PySem.W.nsIn X.K d z = some r ∧ RelV v (r.getD .none) ∧ Q v H2) := by
  refine ⟨fun pins s σ H Q I h => ?_⟩
  refine wpAny_Call_method m.base m.few m.line PySem.F.plainAttrs_dict PySem.F.slot_dict_get PySem.F.type_dict_get (thn (ho.run pins s σ H (fun x H1 => x = .ref d ∧ ty σ H1 fun y H2 => ∃ (z : Str) (r : Option Value) (v : V), y = .str z ∧ PySem.W.nsIn X.K d z = some r ∧ RelV v (r.getD .none) ∧ Q v H2) I ⟨rfl, h⟩) fun u s1 ⟨x, H1, I1, rx, ex, q1⟩ => ?_)
  subst ex
  obtain rfl : u = Value.ref d := rx
  have mo := PySem.W.mapOf_K (prog := X.prog) (w := X.w) I1.kIn D.at_ D.lit
  refine ⟨mo.typeIs, mo.noDict, ?_⟩
  rw [m.trees]
  refine Calls.callWith_builtin rfl (Calls.evalArgs_plain (Calls.spliced_cons (thn (he.run pins s1 σ H1 _ I1 q1) fun iv s2 ⟨y, H2, I2, ry, z, r, v, ey, g, rv, q2⟩ => Calls.spliced_nil ?_)))
  subst ey
  obtain ⟨t, rfl⟩ := ry
  exact kd_get1 D I2 g fun s3 I3 => ⟨v, H2, I3, rv, q2⟩
theorem pe_kget2 (D : KDict X.K X.w d es n) (ho : PE X o (tC (.ref d))) (he : PE X e ty) (hf : PE X f tx) (m : M2 X o "get" apos e f cpos) :
    PE X (.Call (.Attribute o "get" apos) [e, f] [] cpos) (fun σ H Q => ty σ H fun y H2 => tx σ H2 fun x H3 => ∃ (z : Str) (r : Option Value), y = .str z ∧ PySem.W.nsIn X.K d z = some r ∧ ((r = none ∧ Q x H3) ∨ ∃ u v, r = some u ∧ RelV v u ∧ Q v H3)) := by
  refine ⟨fun pins s σ H Q I h => ?_⟩
  refine wpAny_Call_method m.base m.few m.line PySem.F.plainAttrs_dict PySem.F.slot_dict_get PySem.F.type_dict_get (thn (ho.run pins s σ H (fun x H1 => x = .ref d ∧ ty σ H1 fun y H2 => tx σ H2 fun x H3 => ∃ (z : Str) (r : Option Value), y = .str z ∧ PySem.W.nsIn X.K d z = some r ∧ ((r = none ∧ Q x H3) ∨ ∃ u v, r = some u ∧ RelV v u ∧ Q v H3)) I ⟨rfl, h⟩) fun u s1 ⟨x, H1, I1, rx, ex, q1⟩ => ?_)
  subst ex
  obtain rfl : u = Value.ref d := rx
  have mo := PySem.W.mapOf_K (prog := X.prog) (w := X.w) I1.kIn D.at_ D.lit
  refine ⟨mo.typeIs, mo.noDict, ?_⟩
  rw [m.trees]
  refine Calls.callWith_builtin rfl (Calls.evalArgs_plain (Calls.spliced_cons (thn (he.run pins s1 σ H1 _ I1 q1) fun iv s2 ⟨y, H2, I2, ry, q2⟩ =>
    Calls.spliced_cons (thn (hf.run pins s2 σ H2 _ I2 q2) fun fv s3 ⟨x, H3, I3, rz, z, r, ey, g, q3⟩ => Calls.spliced_nil ?_))))
  subst ey
  obtain ⟨t, rfl⟩ := ry
  refine kd_get2 D I3 g fun s4 I4 => ?_
  rcases q3 with ⟨rfl, q⟩ | ⟨u, v, rfl, rv, q⟩
  · exact ⟨x, H3, I4, rz, q⟩
  · exact ⟨v, H3, I4, rv, q⟩
end
end
end L2
/-! N3: sorted of a list or a tuple of any data. -/
namespace L2
open PySem PySem.Spec PyProof.Rows
section
variable {X : Cx}
theorem each_vals {bs : List (V × PyData)} : ∀ {its : List Value}, Vals (bs.map (·.1)) its → PySem.W.EachIs (fun (v : Value) (b : V × PyData) => RelV b.1 v) its bs := by
  induction bs with
  | nil => intro its r; cases r; exact .nil
  | cons b bs ih => intro its r; cases r with | cons h t => exact .cons h (ih t)
theorem vals_each {bs : List (V × PyData)} : ∀ {its : List Value}, PySem.W.EachIs (fun (v : Value) (b : V × PyData) => RelV b.1 v) its bs → Vals (bs.map (·.1)) its := by
  induction bs with
  | nil => intro its r; cases r; exact .nil
  | cons b bs ih => intro its r; cases r with | cons h t => exact .cons h (ih t)
theorem each_mono {α β : Type} {R S : α → β → Prop} {bs : List β} : ∀ {as : List α}, PySem.W.EachIs R as bs → (∀ a b, b ∈ bs → R a b → S a b) → PySem.W.EachIs S as bs := by
  induction bs with
  | nil => intro as r _; cases r; exact .nil
  | cons b bs ih => intro as r k; cases r with | cons h t => exact .cons (k _ _ List.mem_cons_self h) (ih t fun a b m => k a b (List.mem_cons_of_mem _ m))
/-- sorted(xs): a new list of the same items in the library's order of data -/
def rSortX (K : PySem.W.Frag) : List V → Hp → VK → Prop := fun vs H Q => ∃ (a : Addr) (bs : List (V × PyData)), vs = [V.ref a] ∧ (SqL K H a (bs.map (·.1)) ∨ SqT K H a (bs.map (·.1))) ∧ (∀ b ∈ bs, Dp K H b.1 b.2) ∧
  PySem.W.AllAlike (bs.map (·.2)) ∧ PySem.W.Sortable (bs.map (·.2)) ∧ (∀ b ∈ bs, b.2.depth ≤ 50) ∧ bs.length ≤ sizeLine ∧
  ∀ p, H p = none → Q (.ref p) (upd H p (.lst ((bs.mergeSort (PySem.W.dataLe false (·.2))).map (·.1))))
theorem cr_sortX (hu : X.A.units + 64 < cLine) : CallR X (.builtin "sorted") (rSortX X.K) := by
  intro pins s σ H vs us Q I r h
  obtain ⟨a, bs, rfl, hs, hd, hal, hk, hdep, hL, q⟩ := h
  obtain ⟨u, rfl, rx⟩ := vals1 r
  cases rx
  obtain ⟨its, rv, T, o, n, hT, ho, hc, hdat⟩ : ∃ (its : List Value), Vals (bs.map (·.1)) its ∧ ∃ T o n, (T = "list" ∨ T = "tuple") ∧ s.heap.get? a = some o ∧ o.cls = .type T ∧ o.data = .seq its.toArray n := by
    rcases hs with hq | hq
    · obtain ⟨its, r', pl, hz⟩ := I.list hq
      obtain ⟨o, ho, hc, n, hd⟩ := pl.isList
      exact ⟨its, r', "list", o, n, .inl rfl, ho, hc, hd⟩
    · obtain ⟨its, r', pl, hz⟩ := I.tuple hq
      obtain ⟨o, ho, hc, n, hd⟩ := pl
      exact ⟨its, r', "tuple", o, n, .inr rfl, ho, hc, hd⟩
  have hlen : its.length = bs.length := by rw [← rv.length, List.length_map]
  refine Calls.call_function_entry PyProof.Rows.kind_sorted PyProof.Rows.plain_sorted PyProof.Rows.entry_sorted (PyProof.Rows.args_sorted1 _) ?_
  unfold Builtin.«sorted»
  refine wpAny_bind (m := checkCount "sorted" 1 1 _) (wpAny_pure ?_)
  refine wpAny_bind (wpAny_collect_seq (A := X.A.in1) a hT ho hc hdat (fun h' hk1 => ?_) (by rw [List.size_toArray, hlen]; exact hL))
  have I1 : Inv X pins σ H { s with heap := h' } := I.kept hk1
  refine wpAny_bind (wpAny_newList ?_ (by rw [hlen]; exact hL))
  have hoL : (h'.push (seqObj "list" its.toArray 0)).get? h'.objs.size = some (seqObj "list" its.toArray 0) := Heap.get?_push_size _ rfl
  show wpAny _ _ _ _ _ { s with heap := h'.push (seqObj "list" its.toArray 0) }
  have e := each_vals rv
  have er : PySem.W.EachIs (fun v (b : V × PyData) => ∃ as, Reads (PySem.W.sortingHeap (h'.push (seqObj "list" its.toArray 0)) h'.objs.size its) v b.2 as) its bs := each_mono e fun v b m rl => by
    obtain ⟨as, q⟩ := Dp.reads I1 b.2 b.1 v (hd b m) rl
    refine ⟨as, PyProof.Rows.Reads.keeps (fun c oc ec => ?_) q⟩
    have hb : c < h'.objs.size := Heap.lt_size ec
    rw [PySem.W.sortingHeap_old (Nat.ne_of_lt hb)]
    exact Heap.get?_push_of_some _ ec
  have hun : X.A.in1.in1.units = X.A.in1.in1.units := rfl
  refine wpAny_bind (wpAny_holding (wpAny_call_entry PyProof.Rows.slot_list_sort ⟨_, hoL, rfl⟩ PyProof.Rows.entry_list_sort
    (PySem.W.list_sort_vals (κ := PySem.W.dataKind (PySem.W.sortingHeap (h'.push (seqObj "list" its.toArray 0)) h'.objs.size its) (bs.map (·.2))) (s := { s with heap := h'.push (seqObj "list" its.toArray 0) }) hoL
      (PySem.W.SortsAt.data (s := { s with heap := PySem.W.sortingHeap (h'.push (seqObj "list" its.toArray 0)) h'.objs.size its }) (PySem.W.each_map (R := fun v d => ∃ as, Reads (PySem.W.sortingHeap (h'.push (seqObj "list" its.toArray 0)) h'.objs.size its) v d as) (fun b : V × PyData => b.2) er) hal hk ?hb) (by rw [hlen]; exact hL) ⟨_, rfl, ?fin⟩) (PyProof.Rows.args_list_sort _)))
  case hb =>
    intro d m
    obtain ⟨b, mb, rfl⟩ := List.mem_map.mp m
    have := hdep b mb
    simp only [Around.in1_units]
    omega
  case fin =>
    have eo := PySem.W.sortVals_data (h' := PySem.W.sortingHeap (h'.push (seqObj "list" its.toArray 0)) h'.objs.size its) false e er hal
    have vo := vals_each eo
    obtain ⟨e', he'⟩ := PyProof.Rows.sortedHeap_at (vs := its) (out := (PySem.W.sortVals (PySem.W.dataKind (PySem.W.sortingHeap (h'.push (seqObj "list" its.toArray 0)) h'.objs.size its) (bs.map (·.2))) false its its).toArray) hoL
    refine wpAny_pure ⟨_, rfl, .ref h'.objs.size, upd H h'.objs.size (.lst ((bs.mergeSort (PySem.W.dataLe false (·.2))).map (·.1))), I1.laid (t' := s.toks) (fun b u e => ?_) (Nat.le_refl _)
      (show ObjOk X.prog X.w _ _ _ (.lst _) from ⟨by rw [List.length_map, List.length_mergeSort]; exact hL, _, e', vo, he'⟩), rfl, q _ (I1.hok.fresh (Nat.le_refl _))⟩
    have hb : b < h'.objs.size := Heap.lt_size e
    rw [PyProof.Rows.sortedHeap_old (Nat.ne_of_lt hb) (by rw [size_push']; exact Nat.lt_succ_of_lt hb)]
    exact Heap.get?_push_of_some _ e
end
section
variable {X : Cx}
/-- list(d): a new list of the keys, in order -/
def rListR : List V → Hp → VK → Prop := fun xs H Q => ∃ p kvs, xs = [.ref p] ∧ Rd H p (.dK kvs) ∧ ∀ q, H q = none → Q (.ref q) (upd H q (.lst (kvs.map fun kv => kV kv.1)))
theorem cr_listR (hc : X.calm = true) : CallR X (.type "list") rListR := by
  intro pins s σ H xs us Q I r h
  obtain ⟨p, kvs, rfl, hk, q⟩ := h
  obtain ⟨u, rfl, rx⟩ := vals1 r
  cases rx
  obtain ⟨z, lo, vs, rk, hd⟩ := dk_rd I.hok hk
  obtain ⟨ep, hat⟩ := hd.dictAt
  have hl : kvs.length = vs.length := Paired.length rk
  refine PySem.W.kdl_call (PySem.W.kdl_dict (knd := mixKind X.prog X.w) (kvs := vs) (ep := ep) lo) (I.ok.hd hc) hat (by rw [← hl]; exact z) fun h' tk acc' c' hkeep hS hacc => ?_
  refine ⟨.ref s.heap.objs.size, upd H s.heap.objs.size (.lst (kvs.map fun kv => kV kv.1)), I.laid hkeep (Nat.le_refl _) (show ObjOk X.prog X.w _ _ _ (.lst (kvs.map fun kv => kV kv.1)) from ⟨?_, acc'.toList, c', ?_, ?_⟩), rfl, q _ (I.hok.fresh (Nat.le_refl _))⟩
  · rw [List.length_map]; exact z
  · have el : acc'.toList.length = acc'.size := by simp
    refine vals_of_at (by rw [List.length_map, el, hacc.1, hl]) fun j x w h1 h2 => ?_
    obtain ⟨k, y, hky, hi⟩ := hacc.2 j w (by rw [← Array.getElem?_toList]; exact h2)
    have e1 : (kvs.map (·.1))[j]? = some k := by
      rw [KV.keys rk, List.getElem?_map, hky] <;> rfl
    have e2 : (kvs.map fun kv => kV kv.1)[j]? = some (kV k) := by
      have e3 : (kvs.map fun kv => kV kv.1) = (kvs.map (·.1)).map kV := by rw [List.map_map] <;> rfl
      rw [e3, List.getElem?_map, e1] <;> rfl
    rw [e2] at h1
    cases h1
    exact keyIs_rel hi
  · rw [Array.toArray_toList]; exact hS
end
end L2
/-! BA: values as trees, what represents them over the abstract heap. -/
namespace B
open PySem L2

inductive D where
  | non | bl (b : Bool) | int (i : Int) | str (s : Str)
  | tup (xs : List D) | lst (xs : List D) | clst (xs : List D)
  | dK (kvs : List (Key × D)) | dT (kvs : List (List Key × D))

mutual
/-- holds something that can change -/
def D.mut : D → Bool
  | .tup xs => D.mutL xs
  | .lst _ => true
  | .clst xs => D.mutL xs
  | .dK _ => true
  | .dT _ => true
  | .non => false
  | .bl _ => false
  | .int _ => false
  | .str _ => false
def D.mutL : List D → Bool
  | [] => false
  | x :: xs => D.mut x || D.mutL xs
end

/-- objects that never change -/
def imm : HO → Bool
  | .tup _ => true
  | .frz _ _ => true
  | _ => false

/-- a node that is read (o = false) or owned (o = true) -/
def At (o : Bool) (H : Hp) (a : Addr) (u : HO) : Prop := if o = true then H a = some u else Rd H a u
theorem At.rd {o : Bool} {H : Hp} {a : Addr} {u : HO} (h : At o H a u) : Rd H a u := by
  unfold At at h
  split at h
  · exact .inl h
  · exact h
theorem At.own {o : Bool} {H : Hp} {a : Addr} {u : HO} (h : At o H a u) (ho : o = true) : H a = some u := by
  unfold At at h; rw [if_pos ho] at h; exact h
theorem At.low {o : Bool} {H : Hp} {a : Addr} {u : HO} (h : At o H a u) : At false H a u := h.rd

/-- a list that never changes: frozen, or of the written part -/
def CL (K : PySem.W.Frag) (H : Hp) (a : Addr) (vs : List V) : Prop := (∃ ob, H a = some (.frz ob (.lst vs))) ∨
  ∃ (o : Obj) (its : Array Value) (n : Nat), K.lookup a = some o ∧ o.cls = .type "list" ∧ o.dict = none ∧ o.data = .seq its n ∧ its.size ≤ sizeLine ∧ Vals vs its.toList
theorem CL.sqL {K : PySem.W.Frag} {H : Hp} {a : Addr} {vs : List V} (h : CL K H a vs) : SqL K H a vs := by
  rcases h with ⟨ob, h⟩ | h
  · exact .inl (.inr ⟨ob, h⟩)
  · exact .inr h
mutual
inductive Rep (K : PySem.W.Frag) (H : Hp) (o : Bool) : List Addr → V → D → Prop
  | non : Rep K H o [] .non .non
  | bl {b : Bool} : Rep K H o [] (.bl b) (.bl b)
  | int {i : Int} : Rep K H o [] (.int i) (.int i)
  | str {s : Str} : Rep K H o [] (.str s) (.str s)
  | tup {a : Addr} {vs : List V} {F : List Addr} {ds : List D} : SqT K H a vs → Reps K H o F vs ds → Rep K H o F (.ref a) (.tup ds)
  | lst {a : Addr} {vs : List V} {F : List Addr} {ds : List D} : At o H a (.lst vs) → Reps K H o F vs ds → Rep K H o (a :: F) (.ref a) (.lst ds)
  | clst {a : Addr} {vs : List V} {F : List Addr} {ds : List D} : CL K H a vs → Reps K H o F vs ds → Rep K H o F (.ref a) (.clst ds)
  | dK {a : Addr} {kvs : List (Key × V)} {F : List Addr} {kds : List (Key × D)} : At o H a (.dK kvs) → (kvs.map (·.1) = kds.map (·.1) ∧ (kds.map (·.1)).Nodup) → Reps K H o F (kvs.map (·.2)) (kds.map (·.2)) → Rep K H o (a :: F) (.ref a) (.dK kds)
  | dT {a : Addr} {kvs : List (List Key × V)} {F : List Addr} {kds : List (List Key × D)} : At o H a (.dT kvs) → (kvs.map (·.1) = kds.map (·.1) ∧ (kds.map (·.1)).Nodup) → Reps K H o F (kvs.map (·.2)) (kds.map (·.2)) → Rep K H o (a :: F) (.ref a) (.dT kds)
inductive Reps (K : PySem.W.Frag) (H : Hp) (o : Bool) : List Addr → List V → List D → Prop
  | nil : Reps K H o [] [] []
  | cons {F G : List Addr} {v : V} {vs : List V} {d : D} {ds : List D} : Rep K H o F v d → Reps K H o G vs ds → Reps K H o (F ++ G) (v :: vs) (d :: ds)
end

section
variable {K : PySem.W.Frag} {H H' : Hp} {o : Bool} {F G : List Addr} {v : V} {d : D} {vs : List V} {ds : List D} {a : Addr}

theorem Reps.length : ∀ {F : List Addr} {vs : List V} {ds : List D}, Reps K H o F vs ds → vs.length = ds.length
  | _, _, _, .nil => rfl
  | _, _, _, .cons _ t => by simp [Reps.length t]
theorem Reps.at_ : ∀ {F : List Addr} {vs : List V} {ds : List D}, Reps K H o F vs ds → ∀ {i : Nat} {d : D}, ds[i]? = some d → ∃ v G, vs[i]? = some v ∧ Rep K H o G v d ∧ G.Sublist F
  | _, _, _, .nil, i, d, h => by simp at h
  | _, _, _, .cons r t, 0, d, h => by
    simp at h; subst h
    exact ⟨_, _, rfl, r, List.sublist_append_left _ _⟩
  | _, _, _, .cons (F := F) r t, i + 1, d, h => by
    obtain ⟨v, G, h1, h2, h3⟩ := Reps.at_ t (by simpa using h)
    exact ⟨v, G, by simpa using h1, h2, h3.trans (List.sublist_append_right _ _)⟩
theorem Reps.at' : ∀ {F : List Addr} {vs : List V} {ds : List D}, Reps K H o F vs ds → ∀ {i : Nat} {v : V}, vs[i]? = some v → ∃ d G, ds[i]? = some d ∧ Rep K H o G v d ∧ G.Sublist F := fun {F vs ds} r {i v} h => by
  have hi : i < ds.length := by rw [← r.length]; exact (List.getElem?_eq_some_iff.mp h).1
  obtain ⟨w, G, h1, h2, h3⟩ := r.at_ (i := i) (d := ds[i]) (by simp [hi])
  rw [h] at h1; cases h1
  exact ⟨ds[i], G, by simp [hi], h2, h3⟩

mutual
theorem Rep.low : ∀ {F : List Addr} {v : V} {d : D}, Rep K H o F v d → Rep K H false F v d
  | _, _, _, .non => .non
  | _, _, _, .bl => .bl
  | _, _, _, .int => .int
  | _, _, _, .str => .str
  | _, _, _, .tup h r => .tup h r.low
  | _, _, _, .lst h r => .lst h.low r.low
  | _, _, _, .clst h r => .clst h r.low
  | _, _, _, .dK h e r => .dK h.low e r.low
  | _, _, _, .dT h e r => .dT h.low e r.low
theorem Reps.low : ∀ {F : List Addr} {vs : List V} {ds : List D}, Reps K H o F vs ds → Reps K H false F vs ds
  | _, _, _, .nil => .nil
  | _, _, _, .cons r t => .cons r.low t.low
end
/-- what H' keeps of H: the nodes in F, what never changes -/
def Kp (H H' : Hp) (F : List Addr) : Prop := ∀ a u, H a = some u → (a ∈ F ∨ imm u = true) → H' a = some u
theorem Kp.mono (k : Kp H H' F) (h : ∀ a ∈ G, a ∈ F) : Kp H H' G := fun a u e q => k a u e (q.imp (h a) id)
theorem Kp.refl : Kp H H F := fun _ _ e _ => e
theorem Kp.rd {u : HO} (k : Kp H H' F) (h : Rd H a u) (m : a ∈ F ∨ imm u = true) : Rd H' a u := by
  rcases h with h | ⟨ob, h⟩
  · exact .inl (k a u h m)
  · exact .inr ⟨ob, k a _ h (.inr rfl)⟩
theorem Kp.at_ {u : HO} (k : Kp H H' F) (h : At o H a u) (m : a ∈ F ∨ imm u = true) : At o H' a u := by
  unfold At at h ⊢
  split at h
  · rename_i q; rw [if_pos q]; exact k a u h m
  · rename_i q; rw [if_neg q]; exact k.rd h m
theorem Kp.sqT {xs : List V} (k : Kp H H' F) (h : SqT K H a xs) : SqT K H' a xs := by
  rcases h with h | h
  · exact .inl (k.rd h (.inr rfl))
  · exact .inr h
theorem Kp.cl {xs : List V} (k : Kp H H' F) (h : CL K H a xs) : CL K H' a xs := by
  rcases h with ⟨ob, h⟩ | h
  · exact .inl ⟨ob, k a _ h (.inr rfl)⟩
  · exact .inr h
mutual
theorem Rep.keep : ∀ {F : List Addr} {v : V} {d : D}, Rep K H o F v d → Kp H H' F → Rep K H' o F v d
  | _, _, _, .non, _ => .non
  | _, _, _, .bl, _ => .bl
  | _, _, _, .int, _ => .int
  | _, _, _, .str, _ => .str
  | _, _, _, .tup h r, k => .tup (k.sqT h) (r.keep k)
  | _, _, _, .lst h r, k => .lst (k.at_ h (.inl List.mem_cons_self)) (r.keep (k.mono fun _ m => List.mem_cons_of_mem _ m))
  | _, _, _, .clst h r, k => .clst (k.cl h) (r.keep k)
  | _, _, _, .dK h e r, k => .dK (k.at_ h (.inl List.mem_cons_self)) e (r.keep (k.mono fun _ m => List.mem_cons_of_mem _ m))
  | _, _, _, .dT h e r, k => .dT (k.at_ h (.inl List.mem_cons_self)) e (r.keep (k.mono fun _ m => List.mem_cons_of_mem _ m))
theorem Reps.keep : ∀ {F : List Addr} {vs : List V} {ds : List D}, Reps K H o F vs ds → Kp H H' F → Reps K H' o F vs ds
  | _, _, _, .nil, _ => .nil
  | _, _, _, .cons r t, k => .cons (r.keep (k.mono fun _ m => List.mem_append_left _ m)) (t.keep (k.mono fun _ m => List.mem_append_right _ m))
end
mutual
/-- a value without changeable parts has no footprint -/
theorem Rep.pure : ∀ {F : List Addr} {v : V} {d : D}, Rep K H o F v d → d.mut = false → F = []
  | _, _, _, .non, _ => rfl
  | _, _, _, .bl, _ => rfl
  | _, _, _, .int, _ => rfl
  | _, _, _, .str, _ => rfl
  | _, _, .tup ds, .tup h r, e => r.pure (by simpa [D.mut] using e)
  | _, _, .clst ds, .clst h r, e => r.pure (by simpa [D.mut] using e)
  | _, _, _, .lst h r, e => by simp [D.mut] at e
  | _, _, _, .dK h q r, e => by simp [D.mut] at e
  | _, _, _, .dT h q r, e => by simp [D.mut] at e
theorem Reps.pure : ∀ {F : List Addr} {vs : List V} {ds : List D}, Reps K H o F vs ds → D.mutL ds = false → F = []
  | _, _, _, .nil, _ => rfl
  | _, _, d :: ds, .cons r t, e => by
    simp only [D.mutL, Bool.or_eq_false_iff] at e
    rw [r.pure e.1, t.pure e.2]
    rfl
end
mutual
theorem Rep.up : ∀ {F : List Addr} {v : V} {d : D}, Rep K H o F v d → d.mut = false → ∀ o', Rep K H o' F v d
  | _, _, _, .non, _, _ => .non
  | _, _, _, .bl, _, _ => .bl
  | _, _, _, .int, _, _ => .int
  | _, _, _, .str, _, _ => .str
  | _, _, .tup ds, .tup h r, e, o' => .tup h (r.up (by simpa [D.mut] using e) o')
  | _, _, .clst ds, .clst h r, e, o' => .clst h (r.up (by simpa [D.mut] using e) o')
  | _, _, _, .lst h r, e, _ => by simp [D.mut] at e
  | _, _, _, .dK h q r, e, _ => by simp [D.mut] at e
  | _, _, _, .dT h q r, e, _ => by simp [D.mut] at e
theorem Reps.up : ∀ {F : List Addr} {vs : List V} {ds : List D}, Reps K H o F vs ds → D.mutL ds = false → ∀ o', Reps K H o' F vs ds
  | _, _, _, .nil, _, _ => .nil
  | _, _, d :: ds, .cons r t, e, o' => by
    simp only [D.mutL, Bool.or_eq_false_iff] at e
    exact .cons (r.up e.1 o') (t.up e.2 o')
end
mutual
/-- the nodes of an owned footprint can change -/
theorem Rep.mutN (ho : o = true) : ∀ {F : List Addr} {v : V} {d : D}, Rep K H o F v d → ∀ a ∈ F, ∃ u, H a = some u ∧ imm u = false
  | _, _, _, .non, a, h => by simp at h
  | _, _, _, .bl, a, h => by simp at h
  | _, _, _, .int, a, h => by simp at h
  | _, _, _, .str, a, h => by simp at h
  | _, _, _, .tup h r, a, m => r.mutN ho a m
  | _, _, _, .clst h r, a, m => r.mutN ho a m
  | _, _, _, .lst h r, a, m => by
    rcases List.mem_cons.mp m with e | m
    · subst e; exact ⟨_, h.own ho, rfl⟩
    · exact r.mutN ho a m
  | _, _, _, .dK h q r, a, m => by
    rcases List.mem_cons.mp m with e | m
    · subst e; exact ⟨_, h.own ho, rfl⟩
    · exact r.mutN ho a m
  | _, _, _, .dT h q r, a, m => by
    rcases List.mem_cons.mp m with e | m
    · subst e; exact ⟨_, h.own ho, rfl⟩
    · exact r.mutN ho a m
theorem Reps.mutN (ho : o = true) : ∀ {F : List Addr} {vs : List V} {ds : List D}, Reps K H o F vs ds → ∀ a ∈ F, ∃ u, H a = some u ∧ imm u = false
  | _, _, _, .nil, a, h => by simp at h
  | _, _, _, .cons r t, a, m => by
    rcases List.mem_append.mp m with m | m
    · exact r.mutN ho a m
    · exact t.mutN ho a m
end
mutual
/-- the nodes of a footprint are tracked -/
theorem Rep.trk : ∀ {F : List Addr} {v : V} {d : D}, Rep K H o F v d → ∀ a ∈ F, H a ≠ none
  | _, _, _, .non, a, h => by simp at h
  | _, _, _, .bl, a, h => by simp at h
  | _, _, _, .int, a, h => by simp at h
  | _, _, _, .str, a, h => by simp at h
  | _, _, _, .tup h r, a, m => r.trk a m
  | _, _, _, .clst h r, a, m => r.trk a m
  | _, _, _, .lst h r, a, m => by
    rcases List.mem_cons.mp m with e | m
    · subst e
      rcases h.rd with q | ⟨_, q⟩ <;> (rw [q]; simp)
    · exact r.trk a m
  | _, _, _, .dK h q r, a, m => by
    rcases List.mem_cons.mp m with e | m
    · subst e
      rcases h.rd with q | ⟨_, q⟩ <;> (rw [q]; simp)
    · exact r.trk a m
  | _, _, _, .dT h q r, a, m => by
    rcases List.mem_cons.mp m with e | m
    · subst e
      rcases h.rd with q | ⟨_, q⟩ <;> (rw [q]; simp)
    · exact r.trk a m
theorem Reps.trk : ∀ {F : List Addr} {vs : List V} {ds : List D}, Reps K H o F vs ds → ∀ a ∈ F, H a ≠ none
  | _, _, _, .nil, a, h => by simp at h
  | _, _, _, .cons r t, a, m => by
    rcases List.mem_append.mp m with m | m
    · exact r.trk a m
    · exact t.trk a m
end
end

/-! ### values in hand, frames -/
inductive Fl where
  | own | shr | bor
  deriving DecidableEq
/-- a value in hand, a local's value: owned (nobody else has it), shared (never changed again), borrowed (a local's, or locked while it is walked) -/
structure FD where
  f : Fl
  d : D
def toO : Fl → Bool
  | .own => true
  | _ => false
def FD.o (x : FD) : Bool := toO x.f
theorem toO_iff {f : Fl} : toO f = true ↔ f = .own := by cases f <;> simp [toO]
def nrm (f : Fl) (d : D) : FD := if d.mut = true then ⟨f, d⟩ else ⟨.own, d⟩
abbrev Rho := List (Option FD)
structure FR (K : PySem.W.Frag) (H : Hp) (σ : St) (ρ : Rho) (Fs : Nat → List Addr) : Prop where
  len : σ.length = ρ.length
  rep : ∀ i s, ρ[i]? = some (some s) → ∃ v, σ[i]? = some (some v) ∧ Rep K H s.o (Fs i) v s.d ∧ (s.f = .own → (Fs i).Nodup)
  sep : ∀ i j s t, i ≠ j → ρ[i]? = some (some s) → ρ[j]? = some (some t) → s.f ≠ .shr → (s.f = .own ∨ t.f ≠ .bor) → ∀ a ∈ Fs i, a ∉ Fs j
def Own (ρ : Rho) (Fs : Nat → List Addr) (a : Addr) : Prop := ∃ i s, ρ[i]? = some (some s) ∧ s.f = .own ∧ a ∈ Fs i
def Exc (ρ : Rho) (Fs : Nat → List Addr) (a : Addr) : Prop := ∃ i s, ρ[i]? = some (some s) ∧ s.f ≠ .shr ∧ a ∈ Fs i
def All (ρ : Rho) (Fs : Nat → List Addr) (a : Addr) : Prop := ∃ i s, ρ[i]? = some (some s) ∧ a ∈ Fs i
def Shr (ρ : Rho) (Fs : Nat → List Addr) (a : Addr) : Prop := ∃ i s, ρ[i]? = some (some s) ∧ s.f = .shr ∧ a ∈ Fs i
/-- what may come to be shared: what is owned, what is shared, what is new -/
def ShO (ρ : Rho) (Fs : Nat → List Addr) (H : Hp) (a : Addr) : Prop := Shr ρ Fs a ∨ Own ρ Fs a ∨ H a = none
theorem Own.exc {ρ : Rho} {Fs : Nat → List Addr} {a : Addr} (h : Own ρ Fs a) : Exc ρ Fs a := let ⟨i, s, h1, h2, h3⟩ := h; ⟨i, s, h1, by rw [h2]; decide, h3⟩
theorem Exc.all {ρ : Rho} {Fs : Nat → List Addr} {a : Addr} (h : Exc ρ Fs a) : All ρ Fs a := let ⟨i, s, h1, _, h3⟩ := h; ⟨i, s, h1, h3⟩
theorem Own.all {ρ : Rho} {Fs : Nat → List Addr} {a : Addr} (h : Own ρ Fs a) : All ρ Fs a := h.exc.all
theorem Shr.all {ρ : Rho} {Fs : Nat → List Addr} {a : Addr} (h : Shr ρ Fs a) : All ρ Fs a := let ⟨i, s, h1, _, h3⟩ := h; ⟨i, s, h1, h3⟩
theorem ShO.all {ρ : Rho} {Fs : Nat → List Addr} {H : Hp} {a : Addr} (h : ShO ρ Fs H a) : All ρ Fs a ∨ H a = none := by
  rcases h with h | h | h
  · exact .inl h.all
  · exact .inl h.all
  · exact .inr h
theorem ShO.of {ρ : Rho} {Fs : Nat → List Addr} {H : Hp} {a : Addr} (h : Own ρ Fs a ∨ H a = none) : ShO ρ Fs H a := .inr h
/-- from one state to another: what is not owned stays; what is owned or held stood so, or is new; what is locked was so -/
structure Stp (ρ : Rho) (Fs : Nat → List Addr) (H : Hp) (ρ' : Rho) (Fs' : Nat → List Addr) (H' : Hp) : Prop where
  keep : ∀ a u, H a = some u → ¬ Own ρ Fs a → H' a = some u
  own : ∀ a, Own ρ' Fs' a → Own ρ Fs a ∨ H a = none
  all : ∀ a, All ρ' Fs' a → All ρ Fs a ∨ H a = none
  shr : ∀ a, Shr ρ' Fs' a → ShO ρ Fs H a
  lk : ∀ i s, ρ'[i]? = some (some s) → s.f = .bor → ρ[i]? = some (some s) ∧ Fs' i = Fs i
section
variable {K : PySem.W.Frag} {H H' H1 H2 : Hp} {σ : St} {ρ ρ' ρ1 ρ2 : Rho} {Fs Fs' Fs1 Fs2 : Nat → List Addr}
theorem Stp.refl : Stp ρ Fs H ρ Fs H := ⟨fun _ _ e _ => e, fun _ h => .inl h, fun _ h => .inl h, fun _ h => .inl h, fun _ _ h _ => ⟨h, rfl⟩⟩
theorem Stp.exc (a : Stp ρ Fs H ρ1 Fs1 H1) {b : Addr} (h : Exc ρ1 Fs1 b) : Exc ρ Fs b ∨ H b = none := by
  obtain ⟨i, s, h1, h2, h3⟩ := h
  cases e : s.f with
  | own => exact (a.own b ⟨i, s, h1, e, h3⟩).imp Own.exc id
  | shr => exact absurd e h2
  | bor =>
    obtain ⟨q, r⟩ := a.lk i s h1 e
    rw [r] at h3
    exact .inl ⟨i, s, q, h2, h3⟩
theorem Stp.back (a : Stp ρ Fs H ρ1 Fs1 H1) {b : Addr} (h : H1 b = none) : Own ρ Fs b ∨ H b = none := by
  cases e : H b with
  | none => exact .inr rfl
  | some u =>
    refine .inl (Classical.byContradiction fun q => ?_)
    rw [a.keep b u e q] at h
    cases h
theorem Stp.sho (a : Stp ρ Fs H ρ1 Fs1 H1) {b : Addr} (h : ShO ρ1 Fs1 H1 b) : ShO ρ Fs H b := by
  rcases h with h | h | h
  · exact a.shr b h
  · exact .inr (a.own b h)
  · exact .inr (a.back h)
theorem Stp.trans (a : Stp ρ Fs H ρ1 Fs1 H1) (b : Stp ρ1 Fs1 H1 ρ2 Fs2 H2) : Stp ρ Fs H ρ2 Fs2 H2 where
  keep := fun x u e n => b.keep x u (a.keep x u e n) fun q => by
    rcases a.own x q with q | q
    · exact n q
    · rw [q] at e; cases e
  own := fun x q => by
    rcases b.own x q with q | q
    · exact a.own x q
    · exact a.back q
  all := fun x q => by
    rcases b.all x q with q | q
    · exact a.all x q
    · exact (a.back q).imp Own.all id
  shr := fun x q => a.sho (b.shr x q)
  lk := fun i s h e => by
    obtain ⟨q, r⟩ := b.lk i s h e
    obtain ⟨q2, r2⟩ := a.lk i s q e
    exact ⟨q2, r.trans r2⟩
theorem FR.own_mut (f : FR K H σ ρ Fs) {a : Addr} (h : Own ρ Fs a) : ∃ u, H a = some u ∧ imm u = false := by
  obtain ⟨i, s, h1, h2, h3⟩ := h
  obtain ⟨v, _, r, _⟩ := f.rep i s h1
  exact r.mutN (toO_iff.mpr h2) a h3
theorem FR.all_trk (f : FR K H σ ρ Fs) {a : Addr} (h : All ρ Fs a) : H a ≠ none := by
  obtain ⟨i, s, h1, h3⟩ := h
  obtain ⟨v, _, r, _⟩ := f.rep i s h1
  exact r.trk a h3
/-- what is apart from the owned is kept -/
theorem Stp.kp (f : FR K H σ ρ Fs) (a : Stp ρ Fs H ρ1 Fs1 H1) {F : List Addr} (h : ∀ b ∈ F, ¬ Own ρ Fs b) : Kp H H1 F := fun b u e q => a.keep b u e fun o => by
  rcases q with q | q
  · exact h b q o
  · obtain ⟨u', e', n⟩ := f.own_mut o
    rw [e] at e'; cases e'
    rw [q] at n; cases n
/-- a value in hand behind a step -/
structure Tm (K : PySem.W.Frag) (ρ : Rho) (Fs : Nat → List Addr) (H : Hp) (ρ' : Rho) (Fs' : Nat → List Addr) (H' : Hp) (x : FD) (v : V) (F : List Addr) : Prop where
  rep : Rep K H' x.o F v x.d
  own : x.f = .own → F.Nodup ∧ ∀ a ∈ F, ¬ All ρ' Fs' a ∧ (Own ρ Fs a ∨ H a = none)
  shr : x.f = .shr → ∀ a ∈ F, ¬ Exc ρ' Fs' a ∧ ShO ρ Fs H a
  bor : x.f = .bor → ∀ a ∈ F, All ρ' Fs' a
theorem Tm.pure {x : FD} {v : V} {F : List Addr} (r : Rep K H' x.o F v x.d) (p : x.d.mut = false) : Tm K ρ Fs H ρ' Fs' H' x v F := by
  have e := r.pure p
  subst e
  exact ⟨r, fun _ => ⟨.nil, by simp⟩, fun _ => by simp, fun _ => by simp⟩
/-- from an earlier start -/
theorem Tm.from {x : FD} {v : V} {F : List Addr} (a : Stp ρ Fs H ρ1 Fs1 H1) (t : Tm K ρ1 Fs1 H1 ρ' Fs' H' x v F) : Tm K ρ Fs H ρ' Fs' H' x v F where
  rep := t.rep
  own := fun e => ⟨(t.own e).1, fun b m => ⟨((t.own e).2 b m).1, by
    rcases ((t.own e).2 b m).2 with q | q
    · exact a.own b q
    · exact a.back q⟩⟩
  shr := fun e b m => ⟨(t.shr e b m).1, a.sho (t.shr e b m).2⟩
  bor := t.bor
/-- behind a later step (a borrowed value does not last) -/
theorem Tm.next {x : FD} {v : V} {F : List Addr} (f : FR K H1 σ ρ1 Fs1) (t : Tm K ρ Fs H ρ1 Fs1 H1 x v F) (b : Stp ρ1 Fs1 H1 ρ2 Fs2 H2) (nb : x.f ≠ .bor) : Tm K ρ Fs H ρ2 Fs2 H2 x v F where
  rep := t.rep.keep (b.kp f fun c m o => by
    cases e : x.f with
    | own => exact ((t.own e).2 c m).1 o.all
    | shr => exact (t.shr e c m).1 o.exc
    | bor => exact nb e)
  own := fun e => ⟨(t.own e).1, fun c m => ⟨fun q => by
    rcases b.all c q with q | q
    · exact ((t.own e).2 c m).1 q
    · exact t.rep.trk c m q, ((t.own e).2 c m).2⟩⟩
  shr := fun e c m => ⟨fun q => by
    rcases b.exc q with q | q
    · exact (t.shr e c m).1 q
    · exact t.rep.trk c m q, (t.shr e c m).2⟩
  bor := fun e => absurd e nb
end
end B
/-! BB: the small language and its evaluation over trees. -/
namespace B
open PySem L2

/-- built-ins by name -/
inductive Bi where
  | len | abs | int | max2 | min2 | list | tuple | sum | sorted | bool | str | isT (t : String) | isTs (ts : List String) | ord | all | any | dict0 | setl | maxD | minD | max1 | min1 | repr
  deriving DecidableEq
/-- methods that only read -/
inductive Mt where
  | join | get1 | get2 | index | isdigit | bitlen
  deriving DecidableEq
/-- operators -/
inductive OpK where
  | bin (o : Operator) | un (o : UnaryOp) | cmp (o : CmpOp) | blt (b : Bi) | mth (m : Mt) | ix | sl (lo hi : Bool) | rev | dget | lrg | ixof
  deriving DecidableEq
/-- what is walked -/
inductive ItK where
  | seq | rng1 | rng2 | rng3 | enum | zip | items | keys | vals | rev | itemsT | keysT | valsT
  deriving DecidableEq
/-- targets -/
inductive Tg where
  | nm (i : Nat) | tp (is : List Nat)
/-- changes in place -/
inductive MuK where
  | append | extend | pop | sort | reverse | clear | insert | popAt | popK | setdefault | remove
  deriving DecidableEq

/-- what is asked of a constant dict of the module -/
inductive KM where
  | ix | isin | notin | get1 | get2
  deriving DecidableEq
inductive E where
  | var (i : Nat) | mv (i : Nat) | fr (i : Nat)
  | cst (c : D)
  | glob (g : Nat)
  | op (o : OpK) (args : List E)
  | tup (args : List E) | lst (args : List E)
  | call (f : Nat) (args : List E)
  | bool (isAnd : Bool) (args : List E)
  | not_ (e : E)
  | ife (c a b : E)
  | chain (o1 o2 : CmpOp) (a b c : E)
  | mut (root : Nat) (path : List E) (m : MuK) (args : List E)
  | lc (own : List Nat) (k : ItK) (its : List E) (tg : Tg) (cond : List E) (elt : E)
  | dict (kvs : List E) (isT : Bool)
  | kop (m : KM) (g : Nat) (args : List E)
  | dc (own : List Nat) (k : ItK) (its : List E) (tg : Tg) (cond : List E) (key val : E)

inductive S where
  | asg (i : Nat) (e : E)
  | asgS (i : Nat) (e : E)
  | asgT (is : List Nat) (e : E)
  | par (i j : Nat) (a b : E)
  | put (root : Nat) (path : List E) (ix : E) (e : E)
  | aug (i : Nat) (o : Operator) (e : E)
  | expr (e : E)
  | sda (root : Nat) (k v : E)
  | ite (c : E) (a b : List S)
  | for_ (tg : Tg) (k : ItK) (its : List E) (body : List S)
  | while_ (c : E) (body : List S)
  | ret (e : E) | retN | brk | cnt | pass | doc

/-! ### trees as the library's data, equality -/
mutual
def D.py : D → Option PyData
  | .non => some .none
  | .bl b => some (.bool b)
  | .int i => some (.int i)
  | .str s => some (.str s)
  | .tup xs => (D.pyL xs).map .tuple
  | .lst xs => (D.pyL xs).map .list
  | .clst xs => (D.pyL xs).map .list
  | .dK _ => none
  | .dT _ => none
def D.pyL : List D → Option (List PyData)
  | [] => some []
  | x :: xs => (D.py x).bind fun a => (D.pyL xs).map fun b => a :: b
end
/-- == of two trees, where the library can tell it -/
def deq (x y : D) : Option Bool := match D.py x, D.py y with
  | some a, some b => if SeqAt.shaped a = true ∧ SeqAt.shaped b = true then some (PyData.eqv a b) else none
  | _, _ => none
/-- a flat tree -/
def D.flat : D → Option V
  | .non => some .non
  | .bl b => some (.bl b)
  | .int i => some (.int i)
  | .str s => some (.str s)
  | _ => none
def flats : List D → Option (List V)
  | [] => some []
  | x :: xs => (D.flat x).bind fun a => (flats xs).map fun b => a :: b
def D.key : D → Option Key
  | .int i => some (.inl i)
  | .str s => some (.inr s)
  | _ => none
def keysD : List D → Option (List Key)
  | [] => some []
  | x :: xs => (D.key x).bind fun a => (keysD xs).map fun b => a :: b
def D.tkey : D → Option (List Key)
  | .tup xs => keysD xs
  | _ => none
def lookD {κ : Type} [DecidableEq κ] (kvs : List (κ × D)) (k : κ) : Option D := (kvs.find? fun kv => decide (kv.1 = k)).map (·.2)
def putD {κ : Type} [DecidableEq κ] (kvs : List (κ × D)) (k : κ) (v : D) : List (κ × D) :=
  if (kvs.any fun kv => decide (kv.1 = k)) = true then kvs.map (fun kv => if kv.1 = k then (kv.1, v) else kv) else kvs ++ [(k, v)]

/-! ### operators on trees -/
instance (i j : Int) : Decidable (CMul i j) := by unfold CMul; infer_instance
instance (i j : Int) : Decidable (CMulW i j) := by unfold CMulW; infer_instance
instance (i j : Int) : Decidable (CDivW i j) := by unfold CDivW; infer_instance
instance (i j : Int) : Decidable (CPow i j) := by unfold CPow; infer_instance
def binD (o : Operator) (x y : D) : Option D := match o, x, y with
  | .Add, .int i, .int j => some (.int (i + j))
  | .Add, .str i, .str j => if i.length + j.length ≤ sizeLine then some (.str (i ++ j)) else none
  | .Add, .lst xs, .lst ys => if D.mutL xs = false ∧ D.mutL ys = false ∧ xs.length + ys.length ≤ sizeLine then some (.lst (xs ++ ys)) else none
  | .Add, .tup xs, .tup ys => if D.mutL xs = false ∧ D.mutL ys = false ∧ xs.length + ys.length ≤ sizeLine then some (.tup (xs ++ ys)) else none
  | .Sub, .int i, .int j => some (.int (i - j))
  | .Mult, .int i, .int j => if CMul i j ∨ CMulW i j then some (.int (i * j)) else none
  | .FloorDiv, .int i, .int j => if CDivW i j then some (.int (i / j)) else none
  | .Mod, .int i, .int j => if 0 < j then some (.int (i % j)) else none
  | .Pow, .int i, .int j => if CPow i j then some (.int (i ^ j.toNat)) else none
  | .LShift, .int i, .int j => if CPow i j then some (.int (i * 2 ^ j.toNat)) else none
  | .RShift, .int i, .int j => if 0 ≤ j then some (.int (i / 2 ^ j.toNat)) else none
  | .BitAnd, .int i, .int j => some (.int (Builtin.bitAnd i j))
  | .BitOr, .int i, .int j => some (.int (Builtin.bitOr i j))
  | .BitXor, .int i, .int j => some (.int (Builtin.bitXor i j))
  | _, _, _ => none
/-- .. in place -/
def augD (o : Operator) (x y : D) : Option D := match o, x, y with
  | .Add, .int i, .int j => some (.int (i + j))
  | .Add, .str i, .str j => if i.length + j.length ≤ sizeLine then some (.str (i ++ j)) else none
  | .Sub, .int i, .int j => some (.int (i - j))
  | .Mult, .int i, .int j => if CMul i j then some (.int (i * j)) else none
  | .FloorDiv, .int i, .int j => if CDivW i j then some (.int (i / j)) else none
  | .Mod, .int i, .int j => if 0 < j then some (.int (i % j)) else none
  | .LShift, .int i, .int j => if CPow i j then some (.int (i * 2 ^ j.toNat)) else none
  | .RShift, .int i, .int j => if 0 ≤ j then some (.int (i / 2 ^ j.toNat)) else none
  | .BitAnd, .int i, .int j => some (.int (Builtin.bitAnd i j))
  | .BitOr, .int i, .int j => some (.int (Builtin.bitOr i j))
  | .BitXor, .int i, .int j => some (.int (Builtin.bitXor i j))
  | _, _, _ => none
def unD (o : UnaryOp) (x : D) : Option D := match o, x with
  | .USub, .int i => some (.int (-i))
  | .Invert, .int i => some (.int (Builtin.bitNot i))
  | _, _ => none
def inD (x y : D) : Option Bool := match y with
  | .lst ys => (D.flat x).bind fun v => (flats ys).bind fun vs => if flatV v = true ∧ vs.all flatV = true then some (inV v vs) else none
  | .clst ys => (D.flat x).bind fun v => (flats ys).bind fun vs => if flatV v = true ∧ vs.all flatV = true then some (inV v vs) else none
  | .tup ys => (D.flat x).bind fun v => (flats ys).bind fun vs => if flatV v = true ∧ vs.all flatV = true then some (inV v vs) else none
  | .str t => (match x with
    | .str s => some (!(Builtin.Str.occurrences t s 0 t.length 1).isEmpty)
    | _ => none)
  | .dK kvs => (D.key x).map fun k => (lookD kvs k).isSome
  | _ => none
def isNone : D → Bool
  | .non => true
  | _ => false
def cmpD (o : CmpOp) (x y : D) : Option Bool := match o with
  | .Eq => deq x y
  | .NotEq => (deq x y).map (!·)
  | .Lt => (match x, y with
    | .int i, .int j => some (decide (i < j))
    | _, _ => none)
  | .LtE => (match x, y with
    | .int i, .int j => some (decide (i ≤ j))
    | _, _ => none)
  | .Gt => (match x, y with
    | .int i, .int j => some (decide (j < i))
    | _, _ => none)
  | .GtE => (match x, y with
    | .int i, .int j => some (decide (j ≤ i))
    | _, _ => none)
  | .In => inD x y
  | .NotIn => (inD x y).map (!·)
  | .Is => if isNone y = true then some (isNone x) else (match x, y with
    | .bl a, .bl b => some (decide (a = b))
    | _, _ => none)
  | .IsNot => if isNone y = true then some (!isNone x) else (match x, y with
    | .bl a, .bl b => some (!decide (a = b))
    | _, _ => none)
def ixD (x y : D) : Option D := match x, y with
  | .lst xs, .int i => atI xs i
  | .tup xs, .int i => atI xs i
  | .clst xs, .int i => atI xs i
  | .str z, .int i => if z.length ≤ sizeLine then (atI z.cps.toList i).map fun c => .str ⟨#[c]⟩ else none
  | .dK kvs, k => (D.key k).bind fun k => lookD kvs k
  | _, _ => none
def cutD (xs : List D) (lo hi : Option Int) : List D := (xs.drop (HT.sIx xs.length 0 lo)).take (HT.sIx xs.length xs.length hi - HT.sIx xs.length 0 lo)
def slD (x : D) (lo hi : Option Int) : Option D := match x with
  | .lst xs => if D.mutL xs = false then some (.lst (cutD xs lo hi)) else none
  | .clst xs => if D.mutL xs = false then some (.lst (cutD xs lo hi)) else none
  | .str z => if z.length ≤ sizeLine then some (.str (cutS z lo hi)) else none
  | .tup xs => if D.mutL xs = false then some (.tup (cutD xs lo hi)) else none
  | _ => none
/-- the type's name -/
def D.ty : D → String
  | .non => "NoneType" | .bl _ => "bool" | .int _ => "int" | .str _ => "str" | .tup _ => "tuple" | .lst _ => "list" | .clst _ => "list" | .dK _ => "dict" | .dT _ => "dict"
def intsD : List D → Option (List Int)
  | [] => some []
  | .int i :: xs => (intsD xs).map fun b => i :: b
  | _ => none
def boolsD : List D → Option (List Bool)
  | [] => some []
  | .bl i :: xs => (boolsD xs).map fun b => i :: b
  | _ => none
/-- a dict's keys, all ints -/
def ikeysD : List (Key × D) → Option (List Int)
  | [] => some []
  | (.inl i, _) :: xs => (ikeysD xs).map fun b => i :: b
  | _ => none
def strsD : List D → Option (List Str)
  | [] => some []
  | .str i :: xs => (strsD xs).map fun b => i :: b
  | _ => none
/-- methods that only read -/
def mthD (m : Mt) (args : List D) : Option D := match m, args with
  | .bitlen, [.int i] => some (.int (Builtin.Int.intBits i : Nat))
  | .join, [.str a, .lst xs] => (strsD xs).bind fun ys => if (ys.map (·.length)).sum + ys.length * a.length ≤ 16777216 then some (.str (Txt.join a ys)) else none
  | .join, [.str a, .tup xs] => (strsD xs).bind fun ys => if (ys.map (·.length)).sum + ys.length * a.length ≤ 16777216 then some (.str (Txt.join a ys)) else none
  | _, _ => none
/-- a tree as data -/
def pyd (d : D) : PyData := (D.py d).getD .none
/-- the library's order of data -/
def leD (a b : D) : Bool := PySem.W.dataLe false pyd a b
def isTupP : PyData → Bool
  | .tuple (_ :: _) => true
  | _ => false
def otherP : PyData → Bool
  | .none => false
  | .tuple _ => false
  | _ => true
def sortOk (ps : List PyData) : Bool := (ps.all fun p => ps.all fun q => PySem.W.alike p q) && ((ps.all isTupP || ps.all otherP) && ps.all fun p => decide (p.depth ≤ 50))
/-- sorted of data -/
def sortX (xs : List D) : Option D := (D.pyL xs).bind fun ps => if sortOk ps = true ∧ D.mutL xs = false ∧ xs.length ≤ sizeLine then some (.lst (xs.mergeSort leD)) else none
/-- the place of a flat value -/
def ixofD (x y : D) : Option D := match x with
  | .lst ys => (D.flat y).bind fun v => (flats ys).bind fun vs => if flatV v = true ∧ vs.all flatV = true then (vs.findIdx? fun z => L2.eqV z v).map fun (j : Nat) => .int j else none
  | _ => none
/-- ints in order -/
def sortN (ns : List Int) : List Int := ns.mergeSort fun a b => decide (a ≤ b)
def sortI (ns : List Int) : List D := (sortN ns).map .int
def kD : Key → D
  | .inl i => .int i
  | .inr s => .str s
def bltD (b : Bi) (args : List D) : Option D := match b, args with
  | .len, [.lst xs] => some (.int xs.length)
  | .len, [.tup xs] => some (.int xs.length)
  | .len, [.clst xs] => some (.int xs.length)
  | .len, [.str z] => if z.length ≤ sizeLine then some (.int z.length) else none
  | .len, [.dK kvs] => some (.int kvs.length)
  | .abs, [.int i] => some (.int (if i < 0 then -i else i))
  | .int, [.int i] => some (.int i)
  | .int, [.bl k] => some (.int (if k then 1 else 0))
  | .max2, [.int i, .int j] => some (.int (if j > i then j else i))
  | .min2, [.int i, .int j] => some (.int (if j < i then j else i))
  | .list, [.lst xs] => if D.mutL xs = false then some (.lst xs) else none
  | .list, [.tup xs] => if D.mutL xs = false then some (.lst xs) else none
  | .list, [.clst xs] => if D.mutL xs = false then some (.lst xs) else none
  | .list, [.dK kvs] => some (.lst (kvs.map fun p => kD p.1))
  | .tuple, [.clst xs] => if D.mutL xs = false then some (.tup xs) else none
  | .tuple, [.lst xs] => if D.mutL xs = false then some (.tup xs) else none
  | .tuple, [.tup xs] => if D.mutL xs = false then some (.tup xs) else none
  | .sum, [.clst xs] => (intsD xs).map fun ns => .int ns.sum
  | .sum, [.lst xs] => (intsD xs).map fun ns => .int ns.sum
  | .sorted, [.lst xs] => sortX xs
  | .sorted, [.tup xs] => sortX xs
  | .sorted, [.dK kvs] => (ikeysD kvs).bind fun ns => if ns.length < 64 then some (.lst (sortI ns)) else none
  | .str, [.int i] => if i.natAbs.log2 < 1920 then some (.str (toString i)) else none
  | .str, [.str a] => some (.str a)
  | .maxD, [.lst xs, .int d] => (intsD xs).map fun ns => .int (maxDI d ns)
  | .minD, [.lst xs, .int d] => (intsD xs).map fun ns => .int (minDI d ns)
  | .max1, [.lst (.int n :: xs)] => (intsD xs).map fun ns => .int (maxI n ns)
  | .min1, [.lst (.int n :: xs)] => (intsD xs).map fun ns => .int (minI n ns)
  | .all, [.lst xs] => (boolsD xs).map fun bs => .bl (bs.all id)
  | .any, [.lst xs] => (boolsD xs).map fun bs => .bl (bs.any id)
  | .repr, [.tup xs] => (D.py (.tup xs)).bind fun p => if p.showable = true ∧ p.hasDict = false ∧ p.depth ≤ 50 ∧ p.shown.length ≤ sizeLine then some (.str p.shown) else none
  | .isT t, [x] => (match x with
    | .dT _ => none
    | x => (kitB x.ty t).map .bl)
  | _, _ => none
def intD : D → Option Int
  | .int i => some i
  | _ => none
/-- xs[::-1] -/
def revD (x : D) : Option D := match x with
  | .lst xs => if D.mutL xs = false then some (.lst xs.reverse) else none
  | _ => none
/-- list(range(n)) -/
def lrgD (x : D) : Option D := match x with
  | .int n => if 0 ≤ n ∧ n ≤ 100000 then some (.lst ((List.range (n - 0).toNat).map fun (k : Nat) => .int (0 + k))) else none
  | _ => none
/-- d.get(k) -/
def dgD (x y : D) : Option (Option D) := match x with
  | .dK kvs => (D.key y).map fun k => lookD kvs k
  | _ => none
def opD (o : OpK) (args : List FD) : Option FD := match o, args with
  | .bin o, [x, y] => (binD o x.d y.d).map fun d => ⟨.own, d⟩
  | .un o, [x] => (unD o x.d).map fun d => ⟨.own, d⟩
  | .cmp o, [x, y] => (cmpD o x.d y.d).map fun b => ⟨.own, .bl b⟩
  | .ix, [x, y] => (ixD x.d y.d).map fun d => nrm x.f d
  | .sl false false, [x] => (slD x.d none none).map fun d => ⟨.own, d⟩
  | .sl true false, [x, i] => (intD i.d).bind fun i => (slD x.d (some i) none).map fun d => ⟨.own, d⟩
  | .sl false true, [x, j] => (intD j.d).bind fun j => (slD x.d none (some j)).map fun d => ⟨.own, d⟩
  | .sl true true, [x, i, j] => (intD i.d).bind fun i => (intD j.d).bind fun j => (slD x.d (some i) (some j)).map fun d => ⟨.own, d⟩
  | .blt b, xs => (bltD b (xs.map (·.d))).map fun d => ⟨.own, d⟩
  | .mth m, xs => (mthD m (xs.map (·.d))).map fun d => ⟨.own, d⟩
  | .rev, [x] => (revD x.d).map fun d => ⟨.own, d⟩
  | .lrg, [x] => (lrgD x.d).map fun d => ⟨.own, d⟩
  | .ixof, [x, y] => (ixofD x.d y.d).map fun d => ⟨.own, d⟩
  | .dget, [x, y] => (dgD x.d y.d).map fun o => (match o with
    | some d => nrm x.f d
    | none => ⟨.own, .non⟩)
  | .dget, [x, y, z] => (dgD x.d y.d).map fun o => (match o with
    | some d => nrm x.f d
    | none => z)
  | _, _ => none
/-- truth of a tree -/
def truthD : D → Option Bool
  | .non => some false
  | .bl b => some b
  | .int i => some (i != 0)
  | .str z => if z.length ≤ sizeLine then some ((z.length : Int) != 0) else none
  | .lst xs => some (!xs.isEmpty)
  | .clst xs => some (!xs.isEmpty)
  | .tup xs => some (!xs.isEmpty)
  | _ => none
def fin (t : Bool) (x : FD) : Option FD := if t = true then (truthD x.d).map fun b => ⟨.own, .bl b⟩ else some x

/-! ### the world around: other defs, constants -/
structure Ctx where
  /-- a call by the slots of its arguments: the answer, what the parameters hold behind it -/
  call : Nat → List FD → Option (FD × Rho)
  /-- the parameters that a def changes -/
  io : Nat → List Nat
  /-- the module's constants -/
  glob : Nat → Option D
  /-- the module's constant dicts -/
  gdict : Nat → Option (List (Str × D))
  /-- own parameters that may be changed, so never be stored anew -/
  pin : List Nat
  /-- fuel of whiles -/
  fuel : Nat

/-- expressions that leave the frame and all that stood as they are -/
def E.quiet : E → Bool
  | .var _ => true
  | .cst _ => true
  | .glob _ => true
  | .op _ args => E.quietL args
  | .tup args => E.quietL args
  | .lst args => E.quietL args
  | .bool _ args => E.quietL args
  | .not_ e => E.quiet e
  | .ife c a b => E.quiet c && E.quiet a && E.quiet b
  | .chain _ _ a b c => E.quiet a && E.quiet b && E.quiet c
  | .kop _ _ args => E.quietL args
  | _ => false
where
  E.quietL : List E → Bool
  | [] => true
  | x :: xs => E.quiet x && E.quietL xs

/-- a local in a place that only reads it -/
def readV (ρ : Rho) (i : Nat) : Option FD := match ρ[i]? with
  | some (some s) => some (nrm (match s.f with
    | .shr => .shr
    | _ => .bor) s.d)
  | _ => none
/-- moved out of its local -/
def moveV (pin : List Nat) (ρ : Rho) (i : Nat) : Option (FD × Rho) := match ρ[i]? with
  | some (some s) => if s.d.mut = false then some (⟨.own, s.d⟩, ρ) else (match s.f with
    | .own => if i ∈ pin then none else some (s, ρ.set i none)
    | .shr => some (s, ρ)
    | .bor => none)
  | _ => none
/-- shared from now on -/
def freezeV (ρ : Rho) (i : Nat) : Option (FD × Rho) := match ρ[i]? with
  | some (some s) => if s.d.mut = false then some (⟨.own, s.d⟩, ρ) else (match s.f with
    | .bor => none
    | _ => some (⟨.shr, s.d⟩, ρ.set i (some ⟨.shr, s.d⟩)))
  | _ => none
/-- the slots of a call's arguments: what is borrowed is lent, or changed by the callee (io) -/
def argSl (io : List Nat) : Nat → List FD → List FD
  | _, [] => []
  | k, x :: xs => ⟨(match x.f with
    | .own => .own
    | .shr => .shr
    | .bor => if k ∈ io then .own else .shr), x.d⟩ :: argSl io (k + 1) xs
/-- the locals whose objects the callee changes: (parameter, local) -/
def ioVars (io : List Nat) : Nat → List E → List FD → Option (List (Nat × Nat))
  | _, [], _ => some []
  | _, _ :: _, [] => some []
  | k, e :: es, x :: xs => (ioVars io (k + 1) es xs).bind fun r => if x.f = .bor ∧ k ∈ io then (match e with
    | .var i => some ((k, i) :: r)
    | _ => none) else some r
/-- the locals that are lent; none: something else is -/
def leVars (io : List Nat) : Nat → List E → List FD → Option (List Nat)
  | _, [], _ => some []
  | _, _ :: _, [] => some []
  | k, e :: es, x :: xs => (leVars io (k + 1) es xs).bind fun r => if x.f = .bor ∧ ¬ k ∈ io then (match e with
    | .var i => some (i :: r)
    | _ => none) else some r
def lends (io : List Nat) : Nat → List FD → Bool
  | _, [] => false
  | k, x :: xs => (decide (x.f = .bor) && !decide (k ∈ io)) || lends io (k + 1) xs
/-- each io local is owned -/
def ownAt (ρ : Rho) (i : Nat) : Bool := match ρ[i]? with
  | some (some s) => decide (s.f = .own)
  | _ => false
def putBack (fn : Rho) : List (Nat × Nat) → Rho → Rho
  | [], ρ => ρ
  | (k, i) :: r, ρ => putBack fn r (ρ.set i ((fn[k]?).getD none))
def ownFin (fn : Rho) (k : Nat) : Bool := match fn[k]? with
  | some (some s) => decide (s.f = .own)
  | _ => true
def leOk (iv : List (Nat × Nat)) : Option (List Nat) → Bool
  | some lv => iv.all fun p => !lv.contains p.2
  | none => iv.isEmpty
def callD (C : Ctx) (f : Nat) (es : List E) (xs : List FD) (ρ : Rho) : Option (FD × Rho) :=
  (ioVars (C.io f) 0 es xs).bind fun iv =>
    if iv.all (fun p => ownAt ρ p.2) = true ∧ (iv.map (·.2)).Nodup ∧ leOk iv (leVars (C.io f) 0 es xs) = true then
      (C.call f (argSl (C.io f) 0 xs)).bind fun r =>
        if lends (C.io f) 0 xs = false ∨ (r.1.f = .own ∧ iv.all (fun p => ownFin r.2 p.1) = true) then some (r.1, putBack r.2 iv ρ) else none
    else none

/-! ### paths into a tree -/
def modP {α : Type} (g : D → Option (D × α)) : List D → D → Option (D × α)
  | [], d => g d
  | k :: ks, .lst xs => (intD k).bind fun i => (ixN xs.length i).bind fun j => (xs[j]?).bind fun c => (modP g ks c).map fun r => (.lst (xs.set j r.1), r.2)
  | k :: ks, .dK kvs => (D.key k).bind fun k => (lookD kvs k).bind fun c => (modP g ks c).map fun r => (.dK (putD kvs k r.1), r.2)
  | _ :: _, _ => none
def stepD (d k : D) : Option D := match d with
  | .lst xs => (intD k).bind fun i => (ixN xs.length i).bind fun j => xs[j]?
  | .dK kvs => (D.key k).bind fun k => lookD kvs k
  | _ => none
def getP : List D → D → Option D
  | [], d => some d
  | k :: ks, d => (stepD d k).bind (getP ks)
/-- what is stored into an owned tree: owned, or without changeable parts -/
def setD (ix v : D) : D → Option (D × Unit)
  | .lst xs => (intD ix).bind fun i => (ixN xs.length i).map fun j => (.lst (xs.set j v), ())
  | .dK kvs => (D.key ix).bind fun k => if kvs.length < sizeLine then some (.dK (putD kvs k v), ()) else none
  | _ => none
/-- a change in place: the new tree, the answer -/
def muD (m : MuK) (args : List D) (d : D) : Option (D × D) := match m, args, d with
  | .append, [v], .lst xs => if xs.length < sizeLine then some (.lst (xs ++ [v]), .non) else none
  | .extend, [.lst ys], .lst xs => if D.mutL ys = false ∧ xs.length + ys.length ≤ sizeLine then some (.lst (xs ++ ys), .non) else none
  | .extend, [.tup ys], .lst xs => if D.mutL ys = false ∧ xs.length + ys.length ≤ sizeLine then some (.lst (xs ++ ys), .non) else none
  | .pop, [], .lst xs => (xs[xs.length - 1]?).bind fun y => if y.mut = false then some (.lst xs.dropLast, y) else none
  | _, _, _ => none
/-- d.setdefault(k, []) -/
def sdfD (kvs : List (Key × D)) (k : Key) : List (Key × D) := match lookD kvs k with
  | some _ => kvs
  | none => putD kvs k (.lst [])
/-- the root of a path that is read -/
def rootE : E → Option Nat
  | .var i => some i
  | .op .ix (e :: _) => rootE e
  | _ => none
/-- the locals that are to be locked while what they hold is walked -/
def lockVs : List E → List FD → Option (List Nat)
  | [], _ => some []
  | _ :: _, [] => some []
  | e :: es, x :: xs => (lockVs es xs).bind fun r => if x.f = .bor then (rootE e).map fun i => i :: r else some r
def lock (is : List Nat) (ρ : Rho) : Rho := is.foldl (fun ρ i => match ρ[i]? with
  | some (some s) => if s.f = .own then ρ.set i (some ⟨.bor, s.d⟩) else ρ
  | _ => ρ) ρ
/-- .. unlocked: those that were owned -/
def unlock (is : List Nat) (ρ : Rho) : Rho := is.foldl (fun ρ i => match ρ[i]? with
  | some (some s) => if s.f = .bor then ρ.set i (some ⟨.own, s.d⟩) else ρ
  | _ => ρ) ρ
/-- .. only those that are owned now -/
def owned (is : List Nat) (ρ : Rho) : List Nat := (is.filter (ownAt ρ)).eraseDups

/-! ### what is walked -/
def signs (z : Str) : List D := z.cps.toList.map fun c => .str ⟨#[c]⟩
def enumD : Nat → List D → List D
  | _, [] => []
  | k, x :: xs => .tup [.int k, x] :: enumD (k + 1) xs
def zipD : List D → List D → List D
  | x :: xs, y :: ys => .tup [x, y] :: zipD xs ys
  | _, _ => []
def rngD (i j : Int) : List D := (List.range (j - i).toNat).map fun (k : Nat) => .int (i + k)
def itD (k : ItK) (xs : List FD) : Option (Fl × List D) := match k, xs.map FD.d with
  | .seq, [.lst ds] => some (((xs.head?).map (·.f)).getD .own, ds)
  | .seq, [.clst ds] => some (((xs.head?).map (·.f)).getD .own, ds)
  | .seq, [.tup ds] => some (((xs.head?).map (·.f)).getD .own, ds)
  | .seq, [.str z] => some (.own, signs z)
  | .rng1, [.int j] => if -(2 ^ 62) ≤ j ∧ j < 2 ^ 62 then some (.own, rngD 0 j) else none
  | .rng2, [.int i, .int j] => if -(2 ^ 62) ≤ i ∧ i < 2 ^ 62 ∧ -(2 ^ 62) ≤ j ∧ j < 2 ^ 62 then some (.own, rngD i j) else none
  | .enum, [.clst ds] => some (((xs.head?).map (·.f)).getD .own, enumD 0 ds)
  | .enum, [.lst ds] => some (((xs.head?).map (·.f)).getD .own, enumD 0 ds)
  | .enum, [.tup ds] => some (((xs.head?).map (·.f)).getD .own, enumD 0 ds)
  | .keys, [.dK kvs] => some (((xs.head?).map (·.f)).getD .own, kvs.map fun p => kD p.1)
  | .vals, [.dK kvs] => some (((xs.head?).map (·.f)).getD .own, kvs.map (·.2))
  | .items, [.dK kvs] => some (((xs.head?).map (·.f)).getD .own, kvs.map fun p => .tup [kD p.1, p.2])
  | .keysT, [.dK kvs] => if ((xs.head?).map (·.f)) = some .own then some (.shr, kvs.map fun p => kD p.1) else none
  | .valsT, [.dK kvs] => if ((xs.head?).map (·.f)) = some .own then some (.shr, kvs.map (·.2)) else none
  | .itemsT, [.dK kvs] => if ((xs.head?).map (·.f)) = some .own then some (.shr, kvs.map fun p => .tup [kD p.1, p.2]) else none
  | .zip, [.clst as, .clst bs] => if D.mutL as = false ∧ D.mutL bs = false then some (.own, zipD as bs) else none
  | .zip, [.clst as, .lst bs] => if D.mutL as = false ∧ D.mutL bs = false then some (.own, zipD as bs) else none
  | .zip, [.lst as, .clst bs] => if D.mutL as = false ∧ D.mutL bs = false then some (.own, zipD as bs) else none
  | .zip, [.lst as, .lst bs] => if D.mutL as = false ∧ D.mutL bs = false then some (.own, zipD as bs) else none
  | _, _ => none
/-- an item's flag in a target -/
def itemF : Fl → Fl
  | .shr => .shr
  | _ => .bor
def bindV (pin : List Nat) (x : FD) (i : Nat) (ρ : Rho) : Option Rho := if i ∈ pin then none else some (ρ.set i (some x))
def bindVs (pin : List Nat) (f : Fl) : List D → List Nat → Rho → Option Rho
  | [], [], ρ => some ρ
  | d :: ds, i :: is, ρ => (bindV pin (nrm f d) i ρ).bind fun ρ => bindVs pin f ds is ρ
  | _, _, _ => none
def bindT (pin : List Nat) (f : Fl) (tg : Tg) (d : D) (ρ : Rho) : Option Rho := match tg, d with
  | .nm i, d => bindV pin (nrm f d) i ρ
  | .tp is, .tup ds => bindVs pin f ds is ρ
  | _, _ => none
def Tg.slots : Tg → List Nat
  | .nm i => [i]
  | .tp is => is
/-- locked targets forgotten -/
def clearT (is : List Nat) (ρ : Rho) : Rho := is.foldl (fun ρ i => match ρ[i]? with
  | some (some s) => if s.f = .bor then ρ.set i none else ρ
  | _ => ρ) ρ
def wipeR (ρ : Rho) : List Nat → Rho
  | [] => ρ
  | i :: is => (wipeR ρ is).set i none
/-- the slots at is as they stood in ρ0 -/
def restR (ρ0 ρ : Rho) : List Nat → Rho
  | [] => ρ
  | i :: is => (restR ρ0 ρ is).set i ((ρ0[i]?).getD none)

/-- nothing that can change there -/
def pureAt (ρ : Rho) (i : Nat) : Bool := match ρ[i]? with
  | some (some s) => !s.d.mut
  | _ => true

/-! ### loops -/
def lcLoop (turn : D → Rho → Option (Option D × Rho)) : List D → Rho → Option (List D × Rho)
  | [], ρ => some ([], ρ)
  | x :: xs, ρ => (turn x ρ).bind fun r => (lcLoop turn xs r.2).map fun q => (match r.1 with
    | some y => y :: q.1
    | none => q.1, q.2)
def dcLoop (turn : D → Rho → Option (Option (Key × D) × Rho)) : List D → List (Key × D) → Rho → Option (List (Key × D) × Rho)
  | [], acc, ρ => some (acc, ρ)
  | x :: xs, acc, ρ => (turn x ρ).bind fun r => dcLoop turn xs (match r.1 with
    | some y => putD acc y.1 y.2
    | none => acc) r.2
inductive Flow where
  | nx (ρ : Rho) | rt (x : FD) (ρ : Rho) | bk (ρ : Rho) | ct (ρ : Rho)
def Flow.map (g : Rho → Rho) : Flow → Flow
  | .nx ρ => .nx (g ρ)
  | .rt x ρ => .rt x (g ρ)
  | .bk ρ => .bk (g ρ)
  | .ct ρ => .ct (g ρ)
def forLoop (bind : D → Rho → Option Rho) (clear : Rho → Rho) (body : Rho → Option Flow) : List D → Rho → Option Flow
  | [], ρ => some (.nx ρ)
  | x :: xs, ρ => (bind x ρ).bind fun ρ1 => (body ρ1).bind fun r => match r with
    | .nx ρ2 => forLoop bind clear body xs (clear ρ2)
    | .ct ρ2 => forLoop bind clear body xs (clear ρ2)
    | .bk ρ2 => some (.nx (clear ρ2))
    | .rt x ρ2 => some (.rt x (clear ρ2))
def whileLoop (test : Rho → Option (Bool × Rho)) (body : Rho → Option Flow) : Nat → Rho → Option Flow
  | 0, _ => none
  | n + 1, ρ => (test ρ).bind fun r => if r.1 = true then (body r.2).bind fun q => (match q with
      | .nx ρ2 => whileLoop test body n ρ2
      | .ct ρ2 => whileLoop test body n ρ2
      | .bk ρ2 => some (.nx ρ2)
      | .rt x ρ2 => some (.rt x ρ2))
    else some (.nx r.2)

/-! ### expressions -/
/-- the flag of a tuple, a list of such items; none: something borrowed -/
def packF : List FD → Option Fl
  | [] => some .own
  | x :: xs => (packF xs).bind fun f => match x.f with
    | .bor => none
    | .shr => some .shr
    | .own => some f
/-- the pairs of a display: keys and values by turns -/
def unz : List FD → Option (List (Key × FD))
  | [] => some []
  | [_] => none
  | k :: v :: r => (D.key k.d).bind fun key => (unz r).map fun q => (key, v) :: q
def dictF (isT : Bool) (xs : List FD) : Option FD := match isT with
  | false => (unz xs).bind fun ps => (packF (ps.map (·.2))).bind fun f => if (ps.map (·.1)).Nodup ∧ ps.length ≤ 15 then some ⟨f, .dK (ps.map fun p => (p.1, p.2.d))⟩ else none
  | true => if xs.isEmpty = true then some ⟨.own, .dT []⟩ else none
def boolD (x : FD) : Option Bool := match x.d with
  | .bl b => some b
  | _ => none
/-- what a change in place asks of its arguments -/
def muOk (m : MuK) (as : List FD) : Bool := match m with
  | .extend => true
  | _ => decide (packF as = some .own)
def borAt (ρ : Rho) (i : Nat) : Bool := match ρ[i]? with
  | some (some s) => decide (s.f = .bor)
  | _ => false
def nodeLst (s : Option (Option FD)) (ks : List D) : Bool := match s with
  | some (some s) => (match getP ks s.d with
    | some (.lst _) => true
    | _ => false)
  | _ => false
def mutR (root : Nat) (m : MuK) (ps as : List FD) (ρ : Rho) : Option (FD × Rho) := match ρ[root]? with
  | some (some s) => if s.f = .own ∧ muOk m as = true then (modP (muD m (as.map FD.d)) (ps.map FD.d) s.d).map fun r => (⟨.own, r.2⟩, ρ.set root (some ⟨.own, r.1⟩)) else none
  | _ => none

def kopD (m : KM) (kvs : List (Str × D)) (args : List D) : Option D := match m, args with
  | .ix, [.str z] => kvs.lookup z
  | .isin, [.str z] => some (.bl (kvs.lookup z).isSome)
  | .notin, [.str z] => some (.bl (!(kvs.lookup z).isSome))
  | .get1, [.str z] => some ((kvs.lookup z).getD .non)
  | .get2, [.str z, d] => if d.mut = false then some ((kvs.lookup z).getD d) else none
  | _, _ => none
mutual
/-- t: in a test's place -/
def ev (C : Ctx) (t : Bool) : E → Rho → Option (FD × Rho)
  | .var i, ρ => (readV ρ i).bind fun x => (fin t x).map fun y => (y, ρ)
  | .mv i, ρ => if t = true then none else moveV C.pin ρ i
  | .fr i, ρ => if t = true then none else freezeV ρ i
  | .cst c, ρ => (match c with
    | .tup _ => none
    | .lst _ => none
    | .clst _ => none
    | .dK _ => none
    | .dT _ => none
    | c => (fin t ⟨.own, c⟩).map fun y => (y, ρ))
  | .glob g, ρ => (C.glob g).bind fun d => (fin t (nrm .shr d)).map fun y => (y, ρ)
  | .op o args, ρ => (evL C args ρ).bind fun r => (opD o r.1).bind fun x => (fin t x).map fun y => (y, r.2)
  | .tup args, ρ => if t = true then none else (evL C args ρ).bind fun r => (packF r.1).bind fun f => if r.1.length ≤ sizeLine then some (⟨f, .tup (r.1.map (·.d))⟩, r.2) else none
  | .lst args, ρ => if t = true then none else (evL C args ρ).bind fun r => (packF r.1).bind fun f => if r.1.length ≤ sizeLine then some (⟨f, .lst (r.1.map (·.d))⟩, r.2) else none
  | .call f args, ρ => (evL C args ρ).bind fun r => (callD C f args r.1 r.2).bind fun q => (fin t q.1).map fun y => (y, q.2)
  | .bool isAnd args, ρ => evB C t isAnd args ρ
  | .not_ e, ρ => (ev C t e ρ).bind fun r => (if t = true then boolD r.1 else truthD r.1.d).map fun b => (⟨.own, .bl (!b)⟩, r.2)
  | .ife c a b, ρ => if t = true then none else (ev C true c ρ).bind fun r => (boolD r.1).bind fun k => if k = true then ev C false a r.2 else ev C false b r.2
  | .chain o1 o2 a b c, ρ => (ev C false a ρ).bind fun r1 => (intD r1.1.d).bind fun i => (ev C false b r1.2).bind fun r2 => (intD r2.1.d).bind fun j => (cmpD o1 (.int i) (.int j)).bind fun k =>
      if k = true then (ev C false c r2.2).bind fun r3 => (intD r3.1.d).bind fun l => (cmpD o2 (.int j) (.int l)).map fun k => (⟨.own, .bl k⟩, r3.2) else some (⟨.own, .bl false⟩, r2.2)
  | .mut root path m args, ρ => if t = true then none else
      if E.quiet.E.quietL path = true ∧ ownAt ρ root = true then
        (evL C path ρ).bind fun rp => if nodeLst ρ[root]? (rp.1.map FD.d) = true then
          if path.isEmpty = true then (evL C args ρ).bind fun ra => mutR root m rp.1 ra.1 ra.2
          else (evL C args (lock [root] ρ)).bind fun ra => if borAt ra.2 root = true then mutR root m rp.1 ra.1 (unlock [root] ra.2) else none
        else none
      else none
  | .lc own k its tg cond elt, ρ => if t = true then none else (evL C its ρ).bind fun r => (itD k r.1).bind fun it => (lockVs its r.1).bind fun ls =>
      if own.all (pureAt r.2) = true ∧ tg.slots.all (fun i => own.contains i) = true then
        (lcLoop (fun x ρ => (bindT [] (itemF it.1) tg x ρ).bind fun ρ => (evB C true true cond ρ).bind fun c => (boolD c.1).bind fun b =>
            if b = true then (ev C false elt c.2).bind fun y => if y.1.f = .own then some (some y.1.d, wipeR y.2 own) else none else some (none, wipeR c.2 own))
          it.2 (wipeR (lock (owned ls r.2) r.2) own)).bind fun q =>
        if q.1.length ≤ sizeLine then some (⟨.own, .lst q.1⟩, unlock (owned ls r.2) (restR (lock (owned ls r.2) r.2) q.2 own)) else none
      else none
  | .dc own k its tg cond key val, ρ => if t = true then none else (evL C its ρ).bind fun r => (itD k r.1).bind fun it => (lockVs its r.1).bind fun ls =>
      if (own.all (pureAt r.2) = true ∧ tg.slots.all (fun i => own.contains i) = true) ∧ it.2.length ≤ sizeLine then
        (dcLoop (fun x ρ => (bindT [] (itemF it.1) tg x ρ).bind fun ρ => (evB C true true cond ρ).bind fun c => (boolD c.1).bind fun b =>
            if b = true then (ev C false key c.2).bind fun kx => (D.key kx.1.d).bind fun kk => (ev C false val kx.2).bind fun y => if y.1.f = .own then some (some (kk, y.1.d), wipeR y.2 own) else none else some (none, wipeR c.2 own))
          it.2 [] (wipeR (lock (owned ls r.2) r.2) own)).bind fun q =>
        some (⟨.own, .dK q.1⟩, unlock (owned ls r.2) (restR (lock (owned ls r.2) r.2) q.2 own))
      else none
  | .dict kvs isT, ρ => if t = true then none else (evL C kvs ρ).bind fun r => (dictF isT r.1).map fun x => (x, r.2)
  | .kop m g args, ρ => (C.gdict g).bind fun kvs => (evL C args ρ).bind fun r => (kopD m kvs (r.1.map (·.d))).bind fun d => (fin t ⟨.own, d⟩).map fun y => (y, r.2)
/-- arguments from the left; a plain local is read when all is evaluated -/
def evL (C : Ctx) : List E → Rho → Option (List FD × Rho)
  | [], ρ => some ([], ρ)
  | .var i :: es, ρ => (readV ρ i).bind fun _ => (evL C es ρ).bind fun r => (readV r.2 i).map fun x => (x :: r.1, r.2)
  | e :: es, ρ => (ev C false e ρ).bind fun r => if r.1.f = .bor ∧ E.quiet.E.quietL es = false then none else (evL C es r.2).map fun q => (r.1 :: q.1, q.2)
/-- and, or; the empty one in a test: no condition -/
def evB (C : Ctx) (t isAnd : Bool) : List E → Rho → Option (FD × Rho)
  | [], ρ => if t = true ∧ isAnd = true then some (⟨.own, .bl true⟩, ρ) else none
  | [e], ρ => ev C t e ρ
  | e :: es, ρ => (ev C t e ρ).bind fun r => (boolD r.1).bind fun b => if b = isAnd then evB C t isAnd es r.2 else some (⟨.own, .bl b⟩, r.2)
end

/-! ### statements -/
def stV (pin : List Nat) (i : Nat) (x : FD) (ρ : Rho) : Option Rho := if x.f = .bor ∨ i ∈ pin then none else some (ρ.set i (some x))
/-- from now on shared -/
def shO : Fl → Fl
  | .own => .shr
  | f => f
mutual
def evS (C : Ctx) : S → Rho → Option Flow
  | .asg i e, ρ => (ev C false e ρ).bind fun r => (stV C.pin i r.1 r.2).map .nx
  | .asgS i e, ρ => (ev C false e ρ).bind fun r => (stV C.pin i ⟨shO r.1.f, r.1.d⟩ r.2).map .nx
  | .asgT is e, ρ => (ev C false e ρ).bind fun r => (match r.1.d with
    | .tup ds => if D.mutL ds = false then (bindVs C.pin .own ds is r.2).map .nx else none
    | _ => none)
  | .par i j a b, ρ => (evL C [a, b] ρ).bind fun r => (match r.1 with
    | [x, y] => (stV C.pin i x r.2).bind fun ρ => (stV C.pin j y ρ).map .nx
    | _ => none)
  | .put root path ix e, ρ => (ev C false e ρ).bind fun r => if r.1.f = .own ∧ E.quiet.E.quietL path = true ∧ (E.quiet ix = true ∨ (path.isEmpty = true ∧ ownAt r.2 root = true)) then
      (evL C path r.2).bind fun rp => (ev C false ix r.2).bind fun ri => (match ri.2[root]? with
        | some (some s) => if s.f = .own then (modP (setD ri.1.d r.1.d) (rp.1.map FD.d) s.d).map fun q => .nx (ri.2.set root (some ⟨.own, q.1⟩)) else none
        | _ => none) else none
  | .aug i o e, ρ => (readV ρ i).bind fun x => (ev C false e ρ).bind fun r => (augD o x.d r.1.d).bind fun d => (stV C.pin i ⟨.own, d⟩ r.2).map .nx
  | .expr e, ρ => (ev C false e ρ).map fun r => .nx r.2
  | .sda root k v, ρ => if E.quiet k = true ∧ E.quiet v = true then (ev C false k ρ).bind fun rk => (D.key rk.1.d).bind fun key => (match ρ[root]? with
    | some (some s) => (match s.d with
      | .dK kvs => if s.f = .own ∧ kvs.length < sizeLine then (evL C [v] (ρ.set root (some ⟨.own, .dK (sdfD kvs key)⟩))).bind fun rv => (mutR root .append [⟨.own, kD key⟩] rv.1 rv.2).map fun q => .nx q.2 else none
      | _ => none)
    | _ => none) else none
  | .ite c a b, ρ => (ev C true c ρ).bind fun r => (boolD r.1).bind fun k => if k = true then evSs C a r.2 else evSs C b r.2
  | .for_ tg k its body, ρ => (evL C its ρ).bind fun r => (itD k r.1).bind fun it => (lockVs its r.1).bind fun ls =>
      (forLoop (bindT C.pin (itemF it.1) tg) (clearT tg.slots) (evSs C body) it.2 (lock (owned ls r.2) r.2)).map (Flow.map (unlock (owned ls r.2)))
  | .while_ c body, ρ => whileLoop (fun ρ => (ev C true c ρ).bind fun r => (boolD r.1).map fun b => (b, r.2)) (evSs C body) C.fuel ρ
  | .ret e, ρ => (ev C false e ρ).bind fun r => if r.1.f = .bor then none else some (.rt r.1 r.2)
  | .retN, ρ => some (.rt ⟨.own, .non⟩ ρ)
  | .brk, ρ => some (.bk ρ)
  | .cnt, ρ => some (.ct ρ)
  | .pass, ρ => some (.nx ρ)
  | .doc, ρ => some (.nx ρ)
def evSs (C : Ctx) : List S → Rho → Option Flow
  | [], ρ => some (.nx ρ)
  | s :: ss, ρ => (evS C s ρ).bind fun r => match r with
    | .nx ρ1 => evSs C ss ρ1
    | r => some r
end

/-! ### defs -/
structure Def where
  np : Nat
  ns : Nat
  io : List Nat
  body : List S
def finsD (io : List Nat) (args : List FD) (ρ : Rho) : Nat → List FD → Rho
  | _, [] => []
  | k, x :: xs => (if k ∈ io then (ρ[k]?).getD none else if x.f = .own ∧ x.d.mut = true then none else some x) :: finsD io args ρ (k + 1) xs
def runD (C : Ctx) (df : Def) (args : List FD) : Option (FD × Rho) :=
  if args.length = df.np then (evSs { C with pin := df.io } df.body (args.map some ++ List.replicate (df.ns - df.np) none)).bind fun r => (match r with
    | .rt x ρ => some (x, finsD df.io args ρ 0 args)
    | .nx ρ => some (⟨.own, .non⟩, finsD df.io args ρ 0 args)
    | _ => none)
  else none
/-- a program: its defs, its constants -/
structure Pg where
  defs : List Def
  globs : List D
  dicts : List (List (Str × D)) := []
def ctxN (P : Pg) (fuel : Nat) : Nat → Ctx
  | 0 => { call := fun _ _ => none, io := fun f => (P.defs[f]?).elim [] (·.io), glob := fun g => P.globs[g]?, gdict := fun g => P.dicts[g]?, pin := [], fuel := fuel }
  | n + 1 => { call := fun f args => (P.defs[f]?).bind fun df => runD (ctxN P fuel n) df args, io := fun f => (P.defs[f]?).elim [] (·.io), glob := fun g => P.globs[g]?, gdict := fun g => P.dicts[g]?, pin := [], fuel := fuel }
end B
/-! BC: operators: what they ask of values follows from what they do on trees. -/
namespace B
open PySem PySem.Spec PyProof.Rows L2

section
variable {K : PySem.W.Frag} {H H' : Hp} {o : Bool} {F G : List Addr} {v : V} {vs : List V} {d : D} {ds : List D} {a : Addr}
theorem rep_int {i : Int} (h : Rep K H o F v (.int i)) : v = .int i ∧ F = [] := by cases h; exact ⟨rfl, rfl⟩
theorem rep_bl {b : Bool} (h : Rep K H o F v (.bl b)) : v = .bl b ∧ F = [] := by cases h; exact ⟨rfl, rfl⟩
theorem rep_str {z : Str} (h : Rep K H o F v (.str z)) : v = .str z ∧ F = [] := by cases h; exact ⟨rfl, rfl⟩
theorem rep_non (h : Rep K H o F v .non) : v = .non ∧ F = [] := by cases h; exact ⟨rfl, rfl⟩
theorem rep_tup (h : Rep K H o F v (.tup ds)) : ∃ a vs, v = .ref a ∧ SqT K H a vs ∧ Reps K H o F vs ds := by cases h; exact ⟨_, _, rfl, by assumption, by assumption⟩
theorem rep_clst (h : Rep K H o F v (.clst ds)) : ∃ a vs, v = .ref a ∧ CL K H a vs ∧ Reps K H o F vs ds := by cases h; exact ⟨_, _, rfl, by assumption, by assumption⟩
theorem rep_lst (h : Rep K H o F v (.lst ds)) : ∃ a vs G, v = .ref a ∧ Rd H a (.lst vs) ∧ Reps K H o G vs ds ∧ F = a :: G ∧ (o = true → H a = some (.lst vs)) := by
  cases h with
  | lst h r => exact ⟨_, _, _, rfl, h.rd, r, rfl, h.own⟩
theorem rep_dK {kds : List (Key × D)} (h : Rep K H o F v (.dK kds)) : ∃ a kvs G, v = .ref a ∧ Rd H a (.dK kvs) ∧ kvs.map (·.1) = kds.map (·.1) ∧ Reps K H o G (kvs.map (·.2)) (kds.map (·.2)) ∧ F = a :: G ∧ (o = true → H a = some (.dK kvs)) ∧ (kds.map (·.1)).Nodup := by
  cases h with
  | dK h e r => exact ⟨_, _, _, rfl, h.rd, e.1, r, rfl, h.own, e.2⟩
theorem SqL.same (s : Same H H') (h : SqL K H a vs) : SqL K H' a vs := s.seq h
theorem SqT.same (s : Same H H') (h : SqT K H a vs) : SqT K H' a vs := by
  rcases h with (h | ⟨q, h⟩) | h
  · exact .inl (.inl (s _ _ h))
  · exact .inl (.inr ⟨q, s _ _ h⟩)
  · exact .inr h
theorem same_kp (s : Same H H') : Kp H H' F := fun a u e _ => s a u e
theorem Rep.same (r : Rep K H o F v d) (s : Same H H') : Rep K H' o F v d := r.keep (same_kp s)
theorem Reps.same (r : Reps K H o F vs ds) (s : Same H H') : Reps K H' o F vs ds := r.keep (same_kp s)
theorem Reps.append : ∀ {F G : List Addr} {vs ws : List V} {ds es : List D}, Reps K H o F vs ds → Reps K H o G ws es → Reps K H o (F ++ G) (vs ++ ws) (ds ++ es)
  | _, _, _, _, _, _, .nil, s => s
  | _, _, _, _, _, _, .cons (F := F1) (G := G1) r t, s => by
    rw [List.append_assoc]
    exact .cons r (t.append s)
theorem Reps.pure' (r : Reps K H o F vs ds) (p : D.mutL ds = false) (o' : Bool) : Reps K H o' [] vs ds := by
  have e := r.pure p
  subst e
  exact r.up p o'
theorem Rep.pure' (r : Rep K H o F v d) (p : d.mut = false) (o' : Bool) : Rep K H o' [] v d := by
  have e := r.pure p
  subst e
  exact r.up p o'
theorem mutL_append {xs ys : List D} : D.mutL (xs ++ ys) = (D.mutL xs || D.mutL ys) := by
  induction xs with
  | nil => rfl
  | cons x xs ih => simp only [List.cons_append, D.mutL, ih, Bool.or_assoc]
theorem mutL_false {xs : List D} : D.mutL xs = false ↔ ∀ x ∈ xs, x.mut = false := by
  induction xs with
  | nil => simp [D.mutL]
  | cons x xs ih => simp [D.mutL, ih]
theorem Reps.of_ix {vs : List V} {ds : List D} (h : vs.length = ds.length) (q : ∀ (i : Nat) (v : V) (d : D), vs[i]? = some v → ds[i]? = some d → Rep K H o [] v d) : Reps K H o [] vs ds := by
  induction vs generalizing ds with
  | nil => cases ds with
    | nil => exact .nil
    | cons d ds => simp at h
  | cons v vs ih => cases ds with
    | nil => simp at h
    | cons d ds =>
      have := Reps.cons (q 0 v d rfl rfl) (ih (ds := ds) (by simpa using h) fun i v d h1 h2 => q (i + 1) v d (by simpa using h1) (by simpa using h2))
      simpa using this
theorem Reps.ix (r : Reps K H o [] vs ds) {i : Nat} {v : V} {d : D} (h1 : vs[i]? = some v) (h2 : ds[i]? = some d) : Rep K H o [] v d := by
  obtain ⟨w, G, h3, h4, h5⟩ := r.at_ h2
  rw [h1] at h3; cases h3
  cases List.sublist_nil.mp h5
  exact h4
theorem Reps.drop (r : Reps K H o [] vs ds) (n : Nat) : Reps K H o [] (vs.drop n) (ds.drop n) := .of_ix (by simp [r.length]) fun i v d h1 h2 => r.ix (i := n + i) (by simpa using h1) (by simpa using h2)
theorem Reps.take (r : Reps K H o [] vs ds) (n : Nat) : Reps K H o [] (vs.take n) (ds.take n) := .of_ix (by simp [r.length]) fun i v d h1 h2 => by
  rw [List.getElem?_take] at h1 h2
  split at h1
  · exact r.ix (i := i) h1 (by simpa [*] using h2)
  · cases h1

/-! ### the arguments -/
inductive ArgsR (K : PySem.W.Frag) (H : Hp) : List V → List FD → List (List Addr) → Prop
  | nil : ArgsR K H [] [] []
  | cons {v : V} {x : FD} {F : List Addr} {vs : List V} {xs : List FD} {Gs : List (List Addr)} : Rep K H x.o F v x.d → (x.f = Fl.own → F.Nodup) → ArgsR K H vs xs Gs → ArgsR K H (v :: vs) (x :: xs) (F :: Gs)
/-- how an operator's answer lies -/
structure OpE (H : Hp) (K : PySem.W.Frag) (xs : List FD) (Gs : List (List Addr)) (r : FD) (v : V) (H' : Hp) (F : List Addr) : Prop where
  same : Same H H'
  rep : Rep K H' r.o F v r.d
  how : (r.f = .own ∧ F.Nodup ∧ ∀ a ∈ F, H a = none) ∨ ∃ (k : Nat) (x : FD) (G : List Addr), xs[k]? = some x ∧ Gs[k]? = some G ∧ r.f = x.f ∧ F.Sublist G
/-- an answer without changeable parts, or a new object -/
structure New (H : Hp) (K : PySem.W.Frag) (d : D) (v : V) (H' : Hp) (F : List Addr) : Prop where
  same : Same H H'
  rep : Rep K H' true F v d
  nd : F.Nodup
  new : ∀ a ∈ F, H a = none
theorem New.op {xs : List FD} {Gs : List (List Addr)} (n : New H K d v H' F) : OpE H K xs Gs ⟨.own, d⟩ v H' F := ⟨n.same, n.rep, .inl ⟨rfl, n.nd, n.new⟩⟩
theorem New.flat (r : Rep K H true [] v d) : New H K d v H [] := ⟨Same.refl H, r, .nil, by simp⟩
theorem same_upd {p : Addr} {u : HO} (h : H p = none) : Same H (upd H p u) := fun b q e => by rw [upd_ne (ne_of_none e h)]; exact e
theorem New.lst {p : Addr} (hp : H p = none) (r : Reps K H true [] vs ds) : New H K (.lst ds) (.ref p) (upd H p (.lst vs)) [p] :=
  ⟨same_upd hp, .lst (show At true _ _ _ from by unfold At; rw [if_pos rfl]; exact upd_same) (r.same (same_upd hp)), by simp, fun a m => by simp at m; subst m; exact hp⟩
theorem New.tup {p : Addr} (hp : H p = none) (r : Reps K H true [] vs ds) : New H K (.tup ds) (.ref p) (upd H p (.tup vs)) [] :=
  ⟨same_upd hp, .tup (.inl (.inl upd_same)) (r.same (same_upd hp)), .nil, by simp⟩

/-! ### binary operators -/
theorem lstRd {X : Cx} {pins : List (Addr × Obj)} {σ : L2.St} {s : Shared} {xs : List V} {a : Addr} {H : Hp} (I : Inv X pins σ H s) (h : Rd H a (.lst xs)) :
    xs.length ≤ sizeLine ∧ ∃ its n, Vals xs its ∧ its.length = xs.length ∧ s.heap.get? a = some { cls := .type "list", data := .seq its.toArray n } := by
  obtain ⟨z, its, n, r, e⟩ := h.ok I.hok
  exact ⟨z, its, n, r, r.length.symm, e⟩
/-- two lists joined -/
def rCatL : R2 := fun x y H Q => ∃ l b xs zs, x = .ref l ∧ y = .ref b ∧ Rd H l (.lst xs) ∧ Rd H b (.lst zs) ∧ xs.length + zs.length ≤ sizeLine ∧ ∀ p, H p = none → Q (.ref p) (upd H p (.lst (xs ++ zs)))
theorem op_catL {X : Cx} : OpR X (binaryOp .Add) rCatL := by
  intro pins s σ H x y v u Q I rx ry h
  obtain ⟨l, b, xs, zs, rfl, rfl, hH, hB, hz, q⟩ := h
  cases rx
  cases ry
  obtain ⟨z, its, n, r, hl, e⟩ := lstRd I hH
  obtain ⟨z2, its2, n2, r2, hl2, e2⟩ := lstRd I hB
  refine PySem.P.add_list e e2 ?_ (by rw [List.size_toArray, List.size_toArray]; omega)
  have ea : its.toArray ++ its2.toArray = (its ++ its2).toArray := by simp
  rw [ea]
  exact ⟨.ref _, _, I.lnew (t' := s.toks) (r.append r2) (by rw [List.length_append]; omega), rfl, q _ I.fresh⟩
def rBin (K : PySem.W.Frag) : Operator → R2
  | .Add => fun x y H Q => rI0 (fun i j => .int (i + j)) x y H Q ∨ ((∃ i j, x = .str i ∧ y = .str j ∧ i.length + j.length ≤ sizeLine ∧ Q (.str (i ++ j)) H) ∨ (rCatL x y H Q ∨ rCatA K x y H Q))
  | .Sub => rI0 fun i j => .int (i - j)
  | .Mult => fun x y H Q => rI CMul (fun i j => .int (i * j)) x y H Q ∨ rI CMulW (fun i j => .int (i * j)) x y H Q
  | .FloorDiv => rI CDivW fun i j => .int (i / j)
  | .Mod => rI (fun _ j => 0 < j) fun i j => .int (i % j)
  | .Pow => rI CPow fun i j => .int (i ^ j.toNat)
  | .LShift => rI CPow fun i j => .int (i * 2 ^ j.toNat)
  | .RShift => rI (fun _ j => 0 ≤ j) fun i j => .int (i / 2 ^ j.toNat)
  | .BitAnd => rI0 fun i j => .int (Builtin.bitAnd i j)
  | .BitOr => rI0 fun i j => .int (Builtin.bitOr i j)
  | .BitXor => rI0 fun i j => .int (Builtin.bitXor i j)
  | _ => fun _ _ _ _ => False
theorem opr_bin {X : Cx} (o : Operator) : OpR X (binaryOp o) (rBin X.K o) := by
  cases o with
  | Add => exact op_add.or (op_add_str.or (op_catL.or op_catA))
  | Sub => exact op_sub
  | Mult => exact op_mul.or op_mulW
  | FloorDiv => exact op_fdivW
  | Mod => exact op_mod
  | Pow => exact op_pow
  | LShift => exact op_shl
  | RShift => exact op_shr
  | BitAnd => exact op_and
  | BitOr => exact op_or
  | BitXor => exact op_xor
  | _ => intro pins s σ H x y v u Q I rx ry h; exact h.elim
end

section
variable {K : PySem.W.Frag} {H : Hp} {o o' : Bool} {F G : List Addr} {x y : V} {dx dy d : D} {Q : VK}
theorem binS (op : Operator) (hx : Rep K H o F x dx) (hy : Rep K H o' G y dy) (h : binD op dx dy = some d) (k : ∀ v H' F, New H K d v H' F → Q v H') : rBin K op x y H Q := by
  unfold binD at h
  split at h
  all_goals (try (cases h; done))
  · cases h
    obtain ⟨rfl, _⟩ := rep_int hx; obtain ⟨rfl, _⟩ := rep_int hy
    exact .inl ⟨_, _, rfl, rfl, k _ _ _ (.flat .int)⟩
  · split at h
    · cases h
      obtain ⟨rfl, _⟩ := rep_str hx; obtain ⟨rfl, _⟩ := rep_str hy
      exact .inr (.inl ⟨_, _, rfl, rfl, by assumption, k _ _ _ (.flat .str)⟩)
    · cases h
  · split at h
    · rename_i q
      cases h
      obtain ⟨a, vs, G1, rfl, r1, s1, _⟩ := rep_lst hx
      obtain ⟨b, ws, G2, rfl, r2, s2, _⟩ := rep_lst hy
      obtain ⟨q1, q2, q3⟩ := q
      refine .inr (.inr (.inl ⟨a, b, vs, ws, rfl, rfl, r1, r2, by rw [s1.length, s2.length]; exact q3, fun p hp => k _ _ _ (.lst hp ?_)⟩))
      have := (s1.pure' q1 true).append (s2.pure' q2 true)
      simpa using this
    · cases h
  · split at h
    · rename_i xs ys q
      cases h
      obtain ⟨a, vs, rfl, r1, s1⟩ := rep_tup hx
      obtain ⟨b, ws, rfl, r2, s2⟩ := rep_tup hy
      obtain ⟨q1, q2, q3⟩ := q
      have app : Reps K H true [] (vs ++ ws) (xs ++ ys) := by
        have := (s1.pure' q1 true).append (s2.pure' q2 true)
        simpa using this
      refine .inr (.inr (.inr ⟨a, b, vs, ws, rfl, rfl, r1, r2, by rw [s1.length, s2.length]; exact q3, fun e => ?_, fun e e' => ?_, fun e e' p hp => k _ _ _ (.tup hp app)⟩))
      · subst e
        have e2 : xs = [] := by
          have := s1.length
          cases xs with
          | nil => rfl
          | cons _ _ => simp at this
        subst e2
        exact k _ _ _ (.flat (.tup r2 app))
      · subst e'
        have e2 : ys = [] := by
          have := s2.length
          cases ys with
          | nil => rfl
          | cons _ _ => simp at this
        subst e2
        rw [List.append_nil, List.append_nil] at app
        rw [List.append_nil] at k
        exact k _ _ _ (.flat (.tup r1 app))
    · cases h
  · cases h
    obtain ⟨rfl, _⟩ := rep_int hx; obtain ⟨rfl, _⟩ := rep_int hy
    exact ⟨_, _, rfl, rfl, k _ _ _ (.flat .int)⟩
  · split at h
    · rename_i q
      cases h
      obtain ⟨rfl, _⟩ := rep_int hx; obtain ⟨rfl, _⟩ := rep_int hy
      rcases q with q | q
      · exact .inl ⟨_, _, rfl, rfl, q, k _ _ _ (.flat .int)⟩
      · exact .inr ⟨_, _, rfl, rfl, q, k _ _ _ (.flat .int)⟩
    · cases h
  all_goals first
    | (split at h
       · cases h
         obtain ⟨rfl, _⟩ := rep_int hx; obtain ⟨rfl, _⟩ := rep_int hy
         exact ⟨_, _, rfl, rfl, by assumption, k _ _ _ (.flat .int)⟩
       · cases h)
    | (cases h
       obtain ⟨rfl, _⟩ := rep_int hx; obtain ⟨rfl, _⟩ := rep_int hy
       exact ⟨_, _, rfl, rfl, k _ _ _ (.flat .int)⟩)

/-! ### one-place operators -/
def rUn : UnaryOp → V → Hp → VK → Prop
  | .USub => rU fun i => .int (-i)
  | .Invert => rU fun i => .int (Builtin.bitNot i)
  | _ => fun _ _ _ => False
theorem opr_un {X : Cx} (o : UnaryOp) : UnR X (unaryOp o) (rUn o) := by
  cases o with
  | USub => exact un_neg
  | Invert => exact un_inv
  | _ => intro pins s σ H x v Q I rx h; exact h.elim
theorem unS (op : UnaryOp) (hx : Rep K H o F x dx) (h : unD op dx = some d) (k : ∀ v H' F, New H K d v H' F → Q v H') : rUn op x H Q := by
  unfold unD at h
  split at h
  · cases h
    obtain ⟨rfl, _⟩ := rep_int hx
    exact ⟨_, rfl, k _ _ _ (.flat .int)⟩
  · cases h
    obtain ⟨rfl, _⟩ := rep_int hx
    exact ⟨_, rfl, k _ _ _ (.flat .int)⟩
  · cases h

/-! ### comparisons -/
mutual
theorem Rep.dp : ∀ {F : List Addr} {v : V} {d : D}, Rep K H o F v d → ∀ {p : PyData}, D.py d = some p → Dp K H v p
  | _, _, _, .non, p, e => by simp only [D.py, Option.some.injEq] at e; subst e; exact .non
  | _, _, _, .bl, p, e => by simp only [D.py, Option.some.injEq] at e; subst e; exact .bl _
  | _, _, _, .int, p, e => by simp only [D.py, Option.some.injEq] at e; subst e; exact .int _
  | _, _, _, .str, p, e => by simp only [D.py, Option.some.injEq] at e; subst e; exact .str _
  | _, _, .tup ds, .tup h r, p, e => by
    simp only [D.py, Option.map_eq_some_iff] at e
    obtain ⟨ps, e1, rfl⟩ := e
    exact .tup h (r.dp e1)
  | _, _, .lst ds, .lst h r, p, e => by
    simp only [D.py, Option.map_eq_some_iff] at e
    obtain ⟨ps, e1, rfl⟩ := e
    exact .lst (.inl h.rd) (r.dp e1)
  | _, _, .clst ds, .clst h r, p, e => by
    simp only [D.py, Option.map_eq_some_iff] at e
    obtain ⟨ps, e1, rfl⟩ := e
    exact .lst h.sqL (r.dp e1)
  | _, _, _, .dK _ _ _, p, e => by simp [D.py] at e
  | _, _, _, .dT _ _ _, p, e => by simp [D.py] at e
theorem Reps.dp : ∀ {F : List Addr} {vs : List V} {ds : List D}, Reps K H o F vs ds → ∀ {ps : List PyData}, D.pyL ds = some ps → DpAll K H vs ps
  | _, _, _, .nil, p, e => by simp only [D.pyL, Option.some.injEq] at e; subst e; exact .nil
  | _, _, _ :: _, .cons r t, p, e => by
    simp only [D.pyL, Option.bind_eq_some_iff, Option.map_eq_some_iff] at e
    obtain ⟨a, e1, b, e2, rfl⟩ := e
    exact .cons (r.dp e1) (t.dp e2)
end
theorem flat_v {v : V} (r : Rep K H o F x dx) (e : dx.flat = some v) : x = v := by
  cases r <;> simp [D.flat] at e <;> exact e
theorem flats_v : ∀ {F : List Addr} {vs : List V} {ds : List D} {ws : List V}, Reps K H o F vs ds → flats ds = some ws → vs = ws
  | _, _, _, ws, .nil, e => by simp [flats] at e; exact e.symm
  | _, _, _, ws, .cons r t, e => by
    simp only [flats, Option.bind_eq_some_iff, Option.map_eq_some_iff] at e
    obtain ⟨a, e1, b, e2, rfl⟩ := e
    rw [flat_v r e1, flats_v t e2]
theorem key_v {k : Key} (r : Rep K H o F x dx) (e : dx.key = some k) : x = kV k := by
  cases r <;> simp [D.key] at e <;> subst e <;> rfl
/-- x in y -/
def rInX (K : PySem.W.Frag) (neg : Bool) : R2 := fun x y H Q => rIn K neg x y H Q ∨
  ((∃ i j, x = .str i ∧ y = .str j ∧ Q (.bl (if neg = true then !(!(Builtin.Str.occurrences j i 0 j.length 1).isEmpty) else !(Builtin.Str.occurrences j i 0 j.length 1).isEmpty)) H) ∨
   ∃ a o, y = .ref a ∧ DGet H a x o ∧ Q (.bl (if neg = true then !o.isSome else o.isSome)) H)
theorem opr_in {X : Cx} (hu : X.A.units + 1 < cLine) : OpR X (compareOp .In) (rInX X.K false) := by
  intro pins s σ H x y v u Q I rx ry h
  rcases h with h | h | ⟨a, o, rfl, g, q⟩
  · exact op_in_seq pins s σ H x y v u Q I rx ry h
  · exact op_in_str pins s σ H x y v u Q I rx ry h
  · cases ry
    exact d_in hu I g rx fun s' I' => ⟨.bl _, H, I', rfl, q⟩
theorem opr_notIn {X : Cx} (hu : X.A.units + 1 < cLine) : OpR X (compareOp .NotIn) (rInX X.K true) := by
  intro pins s σ H x y v u Q I rx ry h
  rcases h with h | h | ⟨a, o, rfl, g, q⟩
  · exact op_notIn_seq pins s σ H x y v u Q I rx ry h
  · exact op_notin_str pins s σ H x y v u Q I rx ry h
  · cases ry
    exact d_notIn hu I g rx fun s' I' => ⟨.bl _, H, I', rfl, q⟩

theorem lookD_map {κ : Type} [DecidableEq κ] : ∀ {kvs : List (κ × V)} {kds : List (κ × D)}, kvs.map (·.1) = kds.map (·.1) → ∀ (k : κ), (valV kvs k).isSome = (lookD kds k).isSome
  | [], [], _, k => rfl
  | [], _ :: _, e, k => by simp at e
  | _ :: _, [], e, k => by simp at e
  | p :: ps, q :: qs, e, k => by
    simp only [List.map_cons, List.cons.injEq] at e
    unfold valV lookD
    rw [List.find?_cons, List.find?_cons, e.1]
    cases h : decide (q.1 = k) with
    | true => rfl
    | false => exact lookD_map e.2 k
theorem lookD_at {κ : Type} [DecidableEq κ] {o : Bool} : ∀ {F : List Addr} {kvs : List (κ × V)} {kds : List (κ × D)}, kvs.map (·.1) = kds.map (·.1) → Reps K H o F (kvs.map (·.2)) (kds.map (·.2)) → ∀ {k : κ} {d : D}, lookD kds k = some d →
    ∃ v G, valV kvs k = some v ∧ Rep K H o G v d ∧ G.Sublist F
  | _, [], [], _, _, k, d, h => by simp [lookD] at h
  | _, [], _ :: _, e, _, k, d, h => by simp at e
  | _, _ :: _, [], e, _, k, d, h => by simp at e
  | _, p :: ps, q :: qs, e, .cons r t, k, d, h => by
    simp only [List.map_cons, List.cons.injEq] at e
    unfold lookD at h
    rw [List.find?_cons] at h
    by_cases z : q.1 = k
    · rw [decide_eq_true z] at h
      simp at h
      subst h
      exact ⟨_, _, by unfold valV; rw [List.find?_cons, e.1, decide_eq_true z]; rfl, r, List.sublist_append_left _ _⟩
    · rw [decide_eq_false z] at h
      obtain ⟨v, G, h1, h2, h3⟩ := lookD_at e.2 t (k := k) (d := d) h
      exact ⟨v, G, by unfold valV; rw [List.find?_cons, e.1, decide_eq_false z]; exact h1, h2, h3.trans (List.sublist_append_right _ _)⟩
theorem inS {b : Bool} (neg : Bool) (hx : Rep K H o F x dx) (hy : Rep K H o' G y dy) (h : inD dx dy = some b) (k : Q (.bl (if neg = true then !b else b)) H) : rInX K neg x y H Q := by
  unfold inD at h
  split at h
  · rename_i ys
    simp only [Option.bind_eq_some_iff] at h
    obtain ⟨v, e1, vs, e2, h⟩ := h
    split at h
    · rename_i q
      cases h
      obtain ⟨a, ws, G1, rfl, r1, s1, _⟩ := rep_lst hy
      rw [flat_v hx e1]
      rw [flats_v s1 e2] at r1
      exact .inl ⟨a, vs, rfl, .inl (.inl r1), q.1, q.2, k⟩
    · cases h
  · rename_i ys
    simp only [Option.bind_eq_some_iff] at h
    obtain ⟨v, e1, vs, e2, h⟩ := h
    split at h
    · rename_i q
      cases h
      obtain ⟨a, ws, rfl, r1, s1⟩ := rep_clst hy
      rw [flat_v hx e1]
      rw [flats_v s1 e2] at r1
      exact .inl ⟨a, vs, rfl, .inl r1.sqL, q.1, q.2, k⟩
    · cases h
  · rename_i ys
    simp only [Option.bind_eq_some_iff] at h
    obtain ⟨v, e1, vs, e2, h⟩ := h
    split at h
    · rename_i q
      cases h
      obtain ⟨a, ws, rfl, r1, s1⟩ := rep_tup hy
      rw [flat_v hx e1]
      rw [flats_v s1 e2] at r1
      exact .inl ⟨a, vs, rfl, .inr r1, q.1, q.2, k⟩
    · cases h
  · split at h
    · cases h
      obtain ⟨rfl, _⟩ := rep_str hx; obtain ⟨rfl, _⟩ := rep_str hy
      exact .inr (.inl ⟨_, _, rfl, rfl, k⟩)
    · cases h
  · rename_i kvs
    simp only [Option.map_eq_some_iff] at h
    obtain ⟨key, e1, rfl⟩ := h
    obtain ⟨a, ws, G1, rfl, r1, e2, s1, _⟩ := rep_dK hy
    refine .inr (.inr ⟨a, valV ws key, rfl, .inl ⟨ws, key, r1, key_v hx e1, rfl⟩, ?_⟩)
    rw [lookD_map e2]
    exact k
  · cases h
def rCmp (K : PySem.W.Frag) : CmpOp → R2
  | .Eq => rEqD K
  | .NotEq => rNeD K
  | .Lt => rI0 fun i j => .bl (decide (i < j))
  | .LtE => rI0 fun i j => .bl (decide (i ≤ j))
  | .Gt => rI0 fun i j => .bl (decide (j < i))
  | .GtE => rI0 fun i j => .bl (decide (j ≤ i))
  | .In => rInX K false
  | .NotIn => rInX K true
  | .Is => fun x y H Q => (y = .non ∧ Q (.bl (decide (x = .non))) H) ∨ rIsB x y H Q
  | .IsNot => fun x y H Q => (y = .non ∧ Q (.bl (!decide (x = .non))) H) ∨ rNotB x y H Q
theorem opr_cmp {X : Cx} (hu : X.A.units + 64 < cLine) (o : CmpOp) : OpR X (compareOp o) (rCmp X.K o) := by
  cases o with
  | Eq => exact op_eqD hu
  | NotEq => exact op_neD hu
  | Lt => exact op_lt
  | LtE => exact op_le
  | Gt => exact op_gt
  | GtE => exact op_ge
  | In => exact opr_in (by omega)
  | NotIn => exact opr_notIn (by omega)
  | Is => exact op_isN.or op_isBl
  | IsNot => exact op_notN.or op_notBl
theorem isNone_v (hx : Rep K H o F x dx) : decide (x = .non) = isNone dx := by
  cases hx <;> first | rfl | (exact decide_eq_false (by intro z; cases z))
theorem cmpS {b : Bool} (op : CmpOp) (hx : Rep K H o F x dx) (hy : Rep K H o' G y dy) (h : cmpD op dx dy = some b) (k : Q (.bl b) H) : rCmp K op x y H Q := by
  have eqs : ∀ {c : Bool}, deq dx dy = some c → ∃ p q, Dp K H x p ∧ Dp K H y q ∧ SeqAt.shaped p = true ∧ SeqAt.shaped q = true ∧ PyData.eqv p q = c := fun {c} e => by
    unfold deq at e
    split at e
    · rename_i p q e1 e2
      split at e
      · rename_i z
        exact ⟨p, q, hx.dp e1, hy.dp e2, z.1, z.2, Option.some.inj e⟩
      · cases e
    · cases e
  unfold cmpD at h
  cases op with
  | Eq =>
    obtain ⟨p, q, h1, h2, h3, h4, h5⟩ := eqs h
    exact ⟨p, q, h1, h2, h3, h4, by rw [h5]; exact k⟩
  | NotEq =>
    simp only [Option.map_eq_some_iff] at h
    obtain ⟨c, h, rfl⟩ := h
    obtain ⟨p, q, h1, h2, h3, h4, h5⟩ := eqs h
    exact ⟨p, q, h1, h2, h3, h4, by rw [h5]; exact k⟩
  | In => exact inS false hx hy h k
  | NotIn =>
    simp only [Option.map_eq_some_iff] at h
    obtain ⟨c, h, rfl⟩ := h
    exact inS true hx hy h k
  | Is =>
    simp only at h
    split at h
    · rename_i z
      cases h
      refine .inl ⟨?_, by rw [isNone_v hx]; exact k⟩
      have := isNone_v hy
      rw [z] at this
      exact of_decide_eq_true this
    · split at h
      · cases h
        obtain ⟨rfl, _⟩ := rep_bl hx; obtain ⟨rfl, _⟩ := rep_bl hy
        exact .inr ⟨_, _, rfl, rfl, k⟩
      · cases h
  | IsNot =>
    simp only at h
    split at h
    · rename_i z
      cases h
      refine .inl ⟨?_, by rw [isNone_v hx]; exact k⟩
      have := isNone_v hy
      rw [z] at this
      exact of_decide_eq_true this
    · split at h
      · cases h
        obtain ⟨rfl, _⟩ := rep_bl hx; obtain ⟨rfl, _⟩ := rep_bl hy
        exact .inr ⟨_, _, rfl, rfl, k⟩
      · cases h
  | _ =>
    simp only at h
    split at h
    · cases h
      obtain ⟨rfl, _⟩ := rep_int hx; obtain ⟨rfl, _⟩ := rep_int hy
      exact ⟨_, _, rfl, rfl, k⟩
    · cases h

/-! ### an item -/
def rIxX (K : PySem.W.Frag) : R2 := fun x y H Q => rIx K x y H Q ∨ ∃ a v, x = .ref a ∧ DGet H a y (some v) ∧ Q v H
theorem ixr_x {X : Cx} (hu : X.A.units + 1 < cLine) : IxR X (rIxX X.K) := by
  refine ix_seq.or ?_
  intro value slice pins s σ H x y v u Q I rx ry h hs
  obtain ⟨a, w', rfl, g, q⟩ := h
  cases rx
  exact PyProof.Rows.tail_any (dict_typeIs I g) PySem.F.slot_dict_getitem.lookup (d_getItem hu I g ry fun z s' I' r => ⟨_, H, I', r, q⟩) hs
theorem atI_rep {F : List Addr} {vs : List V} {ds : List D} {i : Int} (r : Reps K H o F vs ds) (h : atI ds i = some d) : ∃ v G, atI vs i = some v ∧ Rep K H o G v d ∧ G.Sublist F := by
  unfold atI at h ⊢
  rw [r.length]
  simp only [Option.bind_eq_some_iff] at h ⊢
  obtain ⟨j, e, h⟩ := h
  obtain ⟨v, G, h1, h2, h3⟩ := r.at_ h
  exact ⟨v, G, ⟨j, e, h1⟩, h2, h3⟩
/-- an item of x, by the way it lies there -/
theorem ixS (hx : Rep K H o F x dx) (hy : Rep K H o' G y dy) (h : ixD dx dy = some d) (k : ∀ v F', Rep K H o F' v d → F'.Sublist F → Q v H) : rIxX K x y H Q := by
  unfold ixD at h
  split at h
  · obtain ⟨rfl, _⟩ := rep_int hy
    obtain ⟨a, vs, G1, rfl, r1, s1, e, _⟩ := rep_lst hx
    obtain ⟨v, G2, h1, h2, h3⟩ := atI_rep s1 h
    exact .inl (.inl ⟨a, vs, _, v, rfl, rfl, .inl r1, h1, k v G2 h2 (e ▸ h3.trans (List.sublist_cons_self _ _))⟩)
  · obtain ⟨rfl, _⟩ := rep_int hy
    obtain ⟨a, vs, rfl, r1, s1⟩ := rep_tup hx
    obtain ⟨v, G2, h1, h2, h3⟩ := atI_rep s1 h
    exact .inl (.inr (.inl ⟨a, vs, _, v, rfl, rfl, r1, h1, k v G2 h2 h3⟩))
  · obtain ⟨rfl, _⟩ := rep_int hy
    obtain ⟨a, vs, rfl, r1, s1⟩ := rep_clst hx
    obtain ⟨v, G2, h1, h2, h3⟩ := atI_rep s1 h
    exact .inl (.inl ⟨a, vs, _, v, rfl, rfl, r1.sqL, h1, k v G2 h2 h3⟩)
  · split at h
    · rename_i z
      simp only [Option.map_eq_some_iff] at h
      obtain ⟨c, h, rfl⟩ := h
      obtain ⟨rfl, _⟩ := rep_int hy; obtain ⟨rfl, _⟩ := rep_str hx
      exact .inl (.inr (.inr ⟨_, _, c, rfl, rfl, z, h, k _ [] .str (List.nil_sublist _)⟩))
    · cases h
  · simp only [Option.bind_eq_some_iff] at h
    obtain ⟨key, e1, h⟩ := h
    obtain ⟨a, ws, G1, rfl, r1, e2, s1, e, _⟩ := rep_dK hx
    obtain ⟨v, G2, h1, h2, h3⟩ := lookD_at e2 s1 h
    refine .inr ⟨a, v, rfl, .inl ⟨ws, key, r1, key_v hy e1, h1.symm⟩, k v G2 h2 (e ▸ h3.trans (List.sublist_cons_self _ _))⟩
  · cases h

/-! ### a slice -/
def rSlX (K : PySem.W.Frag) : V → Option Int → Option Int → Hp → VK → Prop := fun x lo hi H Q => rSlL K x lo hi H Q ∨ (rSlA K x lo hi H Q ∨ rSlS x lo hi H Q)
theorem slr_x {X : Cx} : SlR X (rSlX X.K) := sl_list.or (sl_tupA.or sl_str)
theorem cut_rep {vs : List V} {ds : List D} (r : Reps K H o [] vs ds) (lo hi : Option Int) : Reps K H o [] (cutV vs lo hi) (cutD ds lo hi) := by
  unfold cutV cutD
  rw [r.length]
  exact (r.drop _).take _
theorem mutL_sub {xs ys : List D} (h : D.mutL xs = false) (q : ∀ x ∈ ys, x ∈ xs) : D.mutL ys = false := mutL_false.mpr fun x m => mutL_false.mp h x (q x m)
theorem slS (lo hi : Option Int) (hx : Rep K H o F x dx) (h : slD dx lo hi = some d) (k : ∀ v H' F, New H K d v H' F → Q v H') : rSlX K x lo hi H Q := by
  unfold slD at h
  split at h
  · split at h
    · rename_i q
      cases h
      obtain ⟨a, vs, G1, rfl, r1, s1, _⟩ := rep_lst hx
      exact .inl ⟨a, vs, rfl, .inl r1, fun p hp => k _ _ _ (.lst hp (cut_rep (s1.pure' q true) lo hi))⟩
    · cases h
  · split at h
    · rename_i q
      cases h
      obtain ⟨a, vs, rfl, r1, s1⟩ := rep_clst hx
      exact .inl ⟨a, vs, rfl, r1.sqL, fun p hp => k _ _ _ (.lst hp (cut_rep (s1.pure' q true) lo hi))⟩
    · cases h
  · split at h
    · cases h
      obtain ⟨rfl, _⟩ := rep_str hx
      exact .inr (.inr ⟨_, rfl, by assumption, k _ _ _ (.flat .str)⟩)
    · cases h
  · split at h
    · rename_i q
      cases h
      obtain ⟨a, vs, rfl, r1, s1⟩ := rep_tup hx
      have s2 := cut_rep (s1.pure' q true) lo hi
      refine .inr (.inl ⟨a, vs, rfl, r1, fun w => ?_, fun _ p hp => k _ _ _ (.tup hp s2)⟩)
      rw [s1.length] at w
      have e1 : ∀ ys : List D, (HT.sIx ys.length 0 lo = 0 ∧ HT.sIx ys.length ys.length hi = ys.length) → cutD ys lo hi = ys := fun ys w => by
        unfold cutD
        rw [w.1, w.2]
        simp
      rw [e1 _ w] at k
      exact k _ _ _ (.flat (.tup r1 (s1.pure' q true)))
    · cases h
  · cases h

/-! ### built-ins -/
theorem call_len_dict {X : Cx} : CallR X (.builtin "len") (fun xs H Q => ∃ a kvs, xs = [.ref a] ∧ Rd H a (.dK kvs) ∧ Q (.int kvs.length) H) := by
  intro pins s σ H xs us Q I r h
  obtain ⟨a, kvs, rfl, e, q⟩ := h
  obtain ⟨u, rfl, ru⟩ := vals1 r
  cases ru
  exact d_len I e fun t s' I' => ⟨.int _, H, I', ⟨_, rfl⟩, q⟩
/-- repr of a tuple of data -/
def rReprX (K : PySem.W.Frag) : List V → Hp → VK → Prop := fun vs H Q => ∃ (a : Addr) (p : PyData), vs = [V.ref a] ∧ Dp K H (.ref a) p ∧ p.showable = true ∧ p.hasDict = false ∧ p.depth ≤ 50 ∧ p.shown.length ≤ sizeLine ∧ Q (.str p.shown) H
theorem cr_reprX {X : Cx} (hg : X.A.guards = some []) (hu : X.A.units + 64 < cLine) : CallR X (.builtin "repr") (rReprX X.K) := by
  intro pins s σ H vs us Q I r h
  obtain ⟨a, p, rfl, dp, sh, nd, dl, sl, q⟩ := h
  obtain ⟨u, rfl, ru⟩ := vals1 r
  cases ru
  obtain ⟨as, rd⟩ := Dp.reads I p (.ref a) (.ref a) dp rfl
  refine repr_of_reads' rd sh (PyData.noDict_hsm nd) hg (by omega) (fun _ _ e => e) (fun h' u' tk hk => ?_) sl
  exact ⟨.str p.shown, H, I.kept (t' := tk) hk, ⟨_, rfl⟩, q⟩
def rBlt (K : PySem.W.Frag) : Bi → List V → Hp → VK → Prop
  | .len => fun xs H Q => (∃ p ys, xs = [.ref p] ∧ (SqL K H p ys ∨ SqT K H p ys) ∧ Q (.int ys.length) H) ∨ ((∃ z, xs = [.str z] ∧ z.length ≤ sizeLine ∧ Q (.int z.length) H) ∨ ∃ a kvs, xs = [.ref a] ∧ Rd H a (.dK kvs) ∧ Q (.int kvs.length) H)
  | .abs => fun xs H Q => ∃ i, xs = [.int i] ∧ Q (.int (if i < 0 then -i else i)) H
  | .int => fun xs H Q => (∃ i, xs = [.int i] ∧ Q (.int i) H) ∨ ∃ k, xs = [.bl k] ∧ Q (.int (if k then 1 else 0)) H
  | .max2 => fun xs H Q => ∃ i j, xs = [.int i, .int j] ∧ Q (.int (if j > i then j else i)) H
  | .min2 => fun xs H Q => ∃ i j, xs = [.int i, .int j] ∧ Q (.int (if j < i then j else i)) H
  | .list => fun xs H Q => (∃ p ys, xs = [.ref p] ∧ (SqL K H p ys ∨ SqT K H p ys) ∧ ∀ l, H l = none → Q (.ref l) (upd H l (.lst ys))) ∨ rListR xs H Q
  | .tuple => fun xs H Q => ∃ p ys, xs = [.ref p] ∧ ((SqL K H p ys ∧ ∀ l, H l = none → Q (.ref l) (upd H l (.tup ys))) ∨ (SqT K H p ys ∧ Q (.ref p) H))
  | .sum => rSum K
  | .sorted => fun vs H Q => rSortX K vs H Q ∨ ∃ (a : Addr) (kvs : List (Key × V)) (ks : List Int), vs = [.ref a] ∧ Rd H a (.dK kvs) ∧ kvs.map (·.1) = ks.map Sum.inl ∧ ks.length < 64 ∧
    ∀ (ys : List Int) (p : Addr), ys.Perm ks → ys.Pairwise (· ≤ ·) → H p = none → Q (.ref p) (upd H p (.lst (ys.map V.int)))
  | .all => rAll K
  | .any => rAny K
  | .str => fun xs H Q => (∃ i, xs = [.int i] ∧ i.natAbs.log2 < 1920 ∧ Q (.str (toString i)) H) ∨ ∃ a, xs = [.str a] ∧ Q (.str a) H
  | .max1 => rMax1 K maxI
  | .min1 => rMax1 K minI
  | .maxD => fun vs H Q => ∃ x y, vs = [x, y] ∧ rMaxDf K maxDI [x] [y] H Q
  | .minD => fun vs H Q => ∃ x y, vs = [x, y] ∧ rMaxDf K minDI [x] [y] H Q
  | .isT t => fun xs H Q => ∃ x, xs = [x] ∧ rIsi K [x, .ty t] H Q
  | .repr => rReprX K
  | _ => fun _ _ _ => False
def Bi.val : Bi → Value
  | .len => .builtin "len"
  | .abs => .builtin "abs"
  | .int => .type "int"
  | .max2 => .builtin "max"
  | .min2 => .builtin "min"
  | .list => .type "list"
  | .tuple => .type "tuple"
  | .sum => .builtin "sum"
  | .sorted => .builtin "sorted"
  | .all => .builtin "all"
  | .any => .builtin "any"
  | .str => .type "str"
  | .max1 => .builtin "max"
  | .min1 => .builtin "min"
  | .maxD => .builtin "max"
  | .minD => .builtin "min"
  | _ => .none
def Bi.plain : Bi → Bool
  | .len => true
  | .abs => true
  | .int => true
  | .max2 => true
  | .min2 => true
  | .list => true
  | .tuple => true
  | .sum => true
  | .sorted => true
  | .all => true
  | .any => true
  | .str => true
  | .max1 => true
  | .min1 => true
  | _ => false
theorem opr_blt {X : Cx} (hc : X.calm = true) (hu : X.A.units + 64 < cLine) (b : Bi) (hb : b.plain = true) : CallR X b.val (rBlt X.K b) := by
  cases b with
  | len => exact call_len_seq.or (call_len_str.or call_len_dict)
  | abs => exact call_abs
  | int => exact call_int1
  | max2 => exact call_max2 hc
  | min2 => exact call_min2 hc
  | list => exact call_list_of.or (cr_listR hc)
  | tuple => exact call_tuple_of
  | sum => exact cr_sum hc
  | sorted => exact (cr_sortX hu).or (call_sortedDI hc)
  | all => exact cr_all hc
  | any => exact cr_any hc
  | str => exact call_str_int.or SkE.call_str_str
  | max1 => exact cr_max1 hc (by omega)
  | min1 => exact cr_min1 hc (by omega)
  | _ => cases hb
theorem ints_v : ∀ {F : List Addr} {vs : List V} {ds : List D} {ns : List Int}, Reps K H o F vs ds → intsD ds = some ns → vs = ns.map V.int
  | _, _, _, ns, .nil, e => by simp [intsD] at e; subst e; rfl
  | _, _, d :: ds, ns, .cons r t, e => by
    cases d with
    | int i =>
      simp only [intsD, Option.map_eq_some_iff] at e
      obtain ⟨b, e2, rfl⟩ := e
      obtain ⟨rfl, _⟩ := rep_int r
      rw [ints_v t e2]
      rfl
    | _ => simp [intsD] at e
theorem bools_v : ∀ {F : List Addr} {vs : List V} {ds : List D} {ns : List Bool}, Reps K H o F vs ds → boolsD ds = some ns → vs = ns.map V.bl
  | _, _, _, ns, .nil, e => by simp [boolsD] at e; subst e; rfl
  | _, _, d :: ds, ns, .cons r t, e => by
    cases d with
    | bl i =>
      simp only [boolsD, Option.map_eq_some_iff] at e
      obtain ⟨b, e2, rfl⟩ := e
      obtain ⟨rfl, _⟩ := rep_bl r
      rw [bools_v t e2]
      rfl
    | _ => simp [boolsD] at e
theorem ikeys_v : ∀ {kds : List (Key × D)} {ns : List Int}, ikeysD kds = some ns → kds.map (·.1) = ns.map Sum.inl
  | [], ns, e => by simp [ikeysD] at e; subst e; rfl
  | (.inl i, d) :: r, ns, e => by
    simp only [ikeysD, Option.map_eq_some_iff] at e
    obtain ⟨b, e2, rfl⟩ := e
    rw [List.map_cons, ikeys_v e2]; rfl
  | (.inr i, d) :: r, ns, e => by simp [ikeysD] at e
theorem ty_v (r : Rep K H o F x dx) (n : ∀ kvs, dx ≠ .dT kvs) : TyX K H x (.type dx.ty) := by
  cases r with
  | non => exact .base .non
  | bl => exact .base (.bl _)
  | int => exact .base (.int _)
  | str => exact .base (.str _)
  | tup h _ =>
    rcases h with (h | ⟨ob, h⟩) | ⟨ob, its, n, h, c, _⟩
    · exact .base (.tup h)
    · exact .fTuple h
    · exact .kTuple h c
  | lst h _ =>
    rcases h.rd with h | ⟨ob, h⟩
    · exact .base (.lst h)
    · exact .base (.frz h)
  | clst h _ =>
    rcases h with ⟨ob, h⟩ | ⟨ob, its, n, h, c, _⟩
    · exact .base (.frz h)
    · exact .kList h c
  | dK h _ _ =>
    rcases h.rd with h | ⟨ob, h⟩
    · exact .base (.dK h)
    · exact .fDict h
  | dT _ _ _ => exact absurd rfl (n _)
theorem ints_flat : ∀ ns : List Int, Reps K H true [] (ns.map V.int) (ns.map D.int)
  | [] => .nil
  | n :: ns => .cons (F := []) (G := []) .int (ints_flat ns)
theorem keys_flat : ∀ ks : List Key, Reps K H true [] (ks.map kV) (ks.map kD)
  | [] => .nil
  | .inl i :: ks => .cons (F := []) (G := []) .int (keys_flat ks)
  | .inr s :: ks => .cons (F := []) (G := []) .str (keys_flat ks)
theorem sortN_uniq {ns ms : List Int} (h : ms.Perm ns) (p : ms.Pairwise (· ≤ ·)) : ms = sortN ns := by
  unfold sortN
  refine List.Perm.eq_of_pairwise (le := (· ≤ ·)) (fun a b _ _ h1 h2 => Int.le_antisymm h1 h2) p ?_ (h.trans (List.mergeSort_perm ns _).symm)
  have := List.pairwise_mergeSort (le := fun a b : Int => decide (a ≤ b)) (fun a b c h1 h2 => by simp at *; omega) (fun a b => by simp; omega) ns
  exact this.imp fun h => by simpa using h
theorem reps_zip : ∀ {ts : List (V × D)}, (∀ t ∈ ts, Rep K H true [] t.1 t.2) → Reps K H true [] (ts.map (·.1)) (ts.map (·.2))
  | [], _ => .nil
  | t :: ts, h => by
    have := Reps.cons (h t List.mem_cons_self) (reps_zip fun x m => h x (List.mem_cons_of_mem _ m))
    simpa using this
theorem zip_reps : ∀ {vs : List V} {ds : List D}, Reps K H true [] vs ds → ∀ t ∈ vs.zip ds, Rep K H true [] t.1 t.2
  | [], _, _, t, m => by simp at m
  | v :: vs, [], r, t, m => by simp at m
  | v :: vs, d :: ds, r, t, m => by
    generalize hF : ([] : List Addr) = F at r
    cases r with
    | @cons F1 F2 _ _ _ _ q1 q2 =>
      have := hF.symm
      rw [List.append_eq_nil_iff] at this
      obtain ⟨rfl, rfl⟩ := this
      rw [List.zip_cons_cons, List.mem_cons] at m
      rcases m with rfl | m
      · exact q1
      · exact zip_reps q2 t m
theorem pyL_map : ∀ {xs : List D} {ps : List PyData}, D.pyL xs = some ps → ps = xs.map pyd ∧ ∀ x ∈ xs, D.py x = some (pyd x)
  | [], ps, h => by cases h; exact ⟨rfl, fun x m => by cases m⟩
  | x :: xs, ps, h => by
    simp only [D.pyL, Option.bind_eq_some_iff, Option.map_eq_some_iff] at h
    obtain ⟨p, e1, qs, e2, rfl⟩ := h
    obtain ⟨rfl, h2⟩ := pyL_map e2
    have e : pyd x = p := by unfold pyd; rw [e1]; rfl
    refine ⟨by rw [List.map_cons, e], fun y m => ?_⟩
    rcases List.mem_cons.mp m with rfl | m
    · rw [e]; exact e1
    · exact h2 y m
theorem sortS {a : Addr} {xs : List D} {vs : List V} {G : List Addr} (hq : SqL K H a vs ∨ SqT K H a vs) (r : Reps K H o G vs xs) (h : sortX xs = some d) (k : ∀ v H' F, New H K d v H' F → Q v H') : rSortX K [.ref a] H Q := by
  unfold sortX at h
  simp only [Option.bind_eq_some_iff] at h
  obtain ⟨ps, e1, h⟩ := h
  split at h
  rotate_left
  · cases h
  rename_i c
  obtain ⟨so, mu, len⟩ := c
  cases h
  obtain ⟨rfl, hpy⟩ := pyL_map e1
  have r2 := r.pure' mu true
  have hl : vs.length = xs.length := r.length
  have z1 : (vs.zip xs).map (·.1) = vs := List.map_fst_zip (by omega)
  have z2 : (vs.zip xs).map (·.2) = xs := List.map_snd_zip (by omega)
  have zr := zip_reps r2
  have zm : ∀ t ∈ vs.zip xs, t.2 ∈ xs := fun t m => (List.of_mem_zip m).2
  have b1 : ((vs.zip xs).map fun t => (t.1, pyd t.2)).map (·.1) = vs := by rw [List.map_map]; exact z1
  have b2 : ((vs.zip xs).map fun t => (t.1, pyd t.2)).map (·.2) = xs.map pyd := by
    rw [List.map_map]
    conv => rhs; rw [← z2, List.map_map]
    rfl
  simp only [sortOk, Bool.and_eq_true, Bool.or_eq_true, List.all_eq_true, decide_eq_true_eq] at so
  obtain ⟨s1, s2, s3⟩ := so
  refine ⟨a, (vs.zip xs).map fun t => (t.1, pyd t.2), rfl, by rw [b1]; exact hq, fun b m => ?_, ?_, ?_, fun b m => ?_, ?_, fun p hp => ?_⟩
  · obtain ⟨t, mt, rfl⟩ := List.mem_map.mp m
    exact (zr t mt).dp (hpy _ (zm t mt))
  · rw [b2]
    exact fun p hp q hq => s1 p hp q hq
  · rw [b2]
    rcases s2 with s2 | s2
    · refine .inl fun p hp => ?_
      have := s2 p hp
      unfold isTupP at this
      split at this
      · exact ⟨_, _, rfl⟩
      · cases this
    · refine .inr fun p hp => ?_
      have := s2 p hp
      unfold otherP at this
      split at this
      · cases this
      · cases this
      · rename_i h1 h2
        exact ⟨h1, h2⟩
  · obtain ⟨t, mt, rfl⟩ := List.mem_map.mp m
    exact s3 _ (List.mem_map_of_mem (zm t mt))
  · rw [List.length_map, List.length_zip]; omega
  · have m1 : (((vs.zip xs).map fun t => (t.1, pyd t.2)).mergeSort (PySem.W.dataLe false (·.2))) = (((vs.zip xs).mergeSort fun t u => leD t.2 u.2).map fun t => (t.1, pyd t.2)) :=
      (List.map_mergeSort (f := fun t : V × D => (t.1, pyd t.2)) (r := fun t u => leD t.2 u.2) (s := PySem.W.dataLe false fun x : V × PyData => x.2) fun _ _ _ _ => rfl).symm
    have m2 : xs.mergeSort leD = ((vs.zip xs).mergeSort fun t u => leD t.2 u.2).map (·.2) := by
      rw [List.map_mergeSort (f := fun t : V × D => t.2) (r := fun t u => leD t.2 u.2) (s := leD) fun _ _ _ _ => rfl, z2]
    have m3 : ((((vs.zip xs).mergeSort fun t u => leD t.2 u.2).map fun t => (t.1, pyd t.2)).map (·.1)) = ((vs.zip xs).mergeSort fun t u => leD t.2 u.2).map (·.1) := by rw [List.map_map]; rfl
    refine k _ _ _ (New.lst hp ?_)
    rw [m1, m2, m3]
    exact reps_zip fun t m => zr t ((List.mergeSort_perm _ _).mem_iff.mp m)
theorem bltS (b : Bi) {vs : List V} {xs : List FD} {Gs : List (List Addr)} (A : ArgsR K H vs xs Gs) (h : bltD b (xs.map (·.d)) = some d) (k : ∀ v H' F, New H K d v H' F → Q v H') : rBlt K b vs H Q := by
  have one : ∀ {e : D}, xs.map (·.d) = [e] → ∃ v o F, vs = [v] ∧ Rep K H o F v e := fun {e} q => by
    cases A with
    | nil => simp at q
    | cons r _ t =>
      cases t with
      | nil =>
        simp at q; subst q
        exact ⟨_, _, _, rfl, r⟩
      | cons _ _ _ => simp at q
  have two : ∀ {e f : D}, xs.map (·.d) = [e, f] → ∃ v w o F o' F', vs = [v, w] ∧ Rep K H o F v e ∧ Rep K H o' F' w f := fun {e f} q => by
    cases A with
    | nil => simp at q
    | cons r _ t =>
      cases t with
      | nil => simp at q
      | cons r2 _ t =>
        cases t with
        | nil =>
          simp at q; obtain ⟨rfl, rfl⟩ := q
          exact ⟨_, _, _, _, _, _, rfl, r, r2⟩
        | cons _ _ _ => simp at q
  unfold bltD at h
  split at h
  · rename_i e
    cases h
    obtain ⟨v, o, F, rfl, r⟩ := one e
    obtain ⟨a, vs, G1, rfl, r1, s1, _⟩ := rep_lst r
    exact .inl ⟨a, vs, rfl, .inl (.inl r1), by rw [s1.length]; exact k _ _ _ (.flat .int)⟩
  · rename_i e
    cases h
    obtain ⟨v, o, F, rfl, r⟩ := one e
    obtain ⟨a, vs, rfl, r1, s1⟩ := rep_tup r
    exact .inl ⟨a, vs, rfl, .inr r1, by rw [s1.length]; exact k _ _ _ (.flat .int)⟩
  · rename_i e
    cases h
    obtain ⟨v, o, F, rfl, r⟩ := one e
    obtain ⟨a, vs, rfl, r1, s1⟩ := rep_clst r
    exact .inl ⟨a, vs, rfl, .inl r1.sqL, by rw [s1.length]; exact k _ _ _ (.flat .int)⟩
  · rename_i e
    split at h
    · cases h
      obtain ⟨v, o, F, rfl, r⟩ := one e
      obtain ⟨rfl, _⟩ := rep_str r
      exact .inr (.inl ⟨_, rfl, by assumption, k _ _ _ (.flat .int)⟩)
    · cases h
  · rename_i e
    cases h
    obtain ⟨v, o, F, rfl, r⟩ := one e
    obtain ⟨a, ws, G1, rfl, r1, e2, s1, _⟩ := rep_dK r
    refine .inr (.inr ⟨a, ws, rfl, r1, ?_⟩)
    have := congrArg List.length e2
    simp at this
    rw [this]
    exact k _ _ _ (.flat .int)
  · rename_i e
    cases h
    obtain ⟨v, o, F, rfl, r⟩ := one e
    obtain ⟨rfl, _⟩ := rep_int r
    exact ⟨_, rfl, k _ _ _ (.flat .int)⟩
  · rename_i e
    cases h
    obtain ⟨v, o, F, rfl, r⟩ := one e
    obtain ⟨rfl, _⟩ := rep_int r
    exact .inl ⟨_, rfl, k _ _ _ (.flat .int)⟩
  · rename_i e
    cases h
    obtain ⟨v, o, F, rfl, r⟩ := one e
    obtain ⟨rfl, _⟩ := rep_bl r
    exact .inr ⟨_, rfl, k _ _ _ (.flat .int)⟩
  · rename_i e
    cases h
    obtain ⟨v, w, o, F, o', F', rfl, r, r'⟩ := two e
    obtain ⟨rfl, _⟩ := rep_int r; obtain ⟨rfl, _⟩ := rep_int r'
    exact ⟨_, _, rfl, k _ _ _ (.flat .int)⟩
  · rename_i e
    cases h
    obtain ⟨v, w, o, F, o', F', rfl, r, r'⟩ := two e
    obtain ⟨rfl, _⟩ := rep_int r; obtain ⟨rfl, _⟩ := rep_int r'
    exact ⟨_, _, rfl, k _ _ _ (.flat .int)⟩
  · rename_i e
    split at h
    · rename_i q
      cases h
      obtain ⟨v, o, F, rfl, r⟩ := one e
      obtain ⟨a, vs, G1, rfl, r1, s1, _⟩ := rep_lst r
      exact .inl ⟨a, vs, rfl, .inl (.inl r1), fun p hp => k _ _ _ (.lst hp (s1.pure' q true))⟩
    · cases h
  · rename_i e
    split at h
    · rename_i q
      cases h
      obtain ⟨v, o, F, rfl, r⟩ := one e
      obtain ⟨a, vs, rfl, r1, s1⟩ := rep_tup r
      exact .inl ⟨a, vs, rfl, .inr r1, fun p hp => k _ _ _ (.lst hp (s1.pure' q true))⟩
    · cases h
  · rename_i e
    split at h
    · rename_i q
      cases h
      obtain ⟨v, o, F, rfl, r⟩ := one e
      obtain ⟨a, vs, rfl, r1, s1⟩ := rep_clst r
      exact .inl ⟨a, vs, rfl, .inl r1.sqL, fun p hp => k _ _ _ (.lst hp (s1.pure' q true))⟩
    · cases h
  · rename_i e
    cases h
    obtain ⟨v, o, F, rfl, r⟩ := one e
    obtain ⟨a, ws, G1, rfl, r1, e2, s1, _⟩ := rep_dK r
    refine .inr ⟨a, ws, rfl, r1, fun p hp => ?_⟩
    have e3 : (ws.map fun kv => kV kv.1) = (ws.map (·.1)).map kV := by rw [List.map_map]; rfl
    have e4 : ∀ kvs : List (Key × D), (kvs.map fun p => kD p.1) = (kvs.map (·.1)).map kD := fun kvs => by rw [List.map_map]; rfl
    rw [e3, e2]
    rw [e4] at k
    exact k _ _ _ (.lst hp (keys_flat _))
  · rename_i e
    split at h
    · rename_i q
      cases h
      obtain ⟨v, o, F, rfl, r⟩ := one e
      obtain ⟨a, vs, rfl, r1, s1⟩ := rep_clst r
      exact ⟨a, vs, rfl, .inl ⟨r1.sqL, fun p hp => k _ _ _ (.tup hp (s1.pure' q true))⟩⟩
    · cases h
  · rename_i e
    split at h
    · rename_i q
      cases h
      obtain ⟨v, o, F, rfl, r⟩ := one e
      obtain ⟨a, vs, G1, rfl, r1, s1, _⟩ := rep_lst r
      exact ⟨a, vs, rfl, .inl ⟨.inl r1, fun p hp => k _ _ _ (.tup hp (s1.pure' q true))⟩⟩
    · cases h
  · rename_i e
    split at h
    · rename_i q
      cases h
      obtain ⟨v, o, F, rfl, r⟩ := one e
      obtain ⟨a, vs, rfl, r1, s1⟩ := rep_tup r
      exact ⟨a, vs, rfl, .inr ⟨r1, k _ _ _ (.flat (.tup r1 (s1.pure' q true)))⟩⟩
    · cases h
  · rename_i e
    simp only [Option.map_eq_some_iff] at h
    obtain ⟨ns, e1, rfl⟩ := h
    obtain ⟨v, o, F, rfl, r⟩ := one e
    obtain ⟨a, vs, rfl, r1, s1⟩ := rep_clst r
    rw [ints_v s1 e1] at r1
    exact ⟨a, ns, rfl, r1.sqL, k _ _ _ (.flat .int)⟩
  · rename_i e
    simp only [Option.map_eq_some_iff] at h
    obtain ⟨ns, e1, rfl⟩ := h
    obtain ⟨v, o, F, rfl, r⟩ := one e
    obtain ⟨a, vs, G1, rfl, r1, s1, _⟩ := rep_lst r
    rw [ints_v s1 e1] at r1
    exact ⟨a, ns, rfl, .inl r1, k _ _ _ (.flat .int)⟩
  · rename_i e
    obtain ⟨v, o, F, rfl, r⟩ := one e
    obtain ⟨a, vs, G1, rfl, r1, s1, _⟩ := rep_lst r
    exact .inl (sortS (.inl (.inl r1)) s1 h k)
  · rename_i e
    obtain ⟨v, o, F, rfl, r⟩ := one e
    obtain ⟨a, vs, rfl, r1, s1⟩ := rep_tup r
    exact .inl (sortS (.inr r1) s1 h k)
  · rename_i e
    simp only [Option.bind_eq_some_iff] at h
    obtain ⟨ns, e1, h⟩ := h
    split at h
    · rename_i q
      cases h
      obtain ⟨v, o, F, rfl, r⟩ := one e
      obtain ⟨a, ws, G1, rfl, r1, e2, s1, _⟩ := rep_dK r
      exact .inr ⟨a, ws, ns, rfl, r1, e2.trans (ikeys_v e1), q, fun ns' p h1 h2 h3 => by
        rw [sortN_uniq h1 h2]
        exact k _ _ _ (.lst h3 (ints_flat _))⟩
    · cases h
  · rename_i e
    split at h
    · rename_i q
      cases h
      obtain ⟨v, o, F, rfl, r⟩ := one e
      obtain ⟨rfl, _⟩ := rep_int r
      exact .inl ⟨_, rfl, q, k _ _ _ (.flat .str)⟩
    · cases h
  · rename_i e
    cases h
    obtain ⟨v, o, F, rfl, r⟩ := one e
    obtain ⟨rfl, _⟩ := rep_str r
    exact .inr ⟨_, rfl, k _ _ _ (.flat .str)⟩
  · rename_i e
    simp only [Option.map_eq_some_iff] at h
    obtain ⟨ns, e1, rfl⟩ := h
    obtain ⟨v, w, o, F, o', F', rfl, r, r'⟩ := two e
    obtain ⟨a, vs, G1, rfl, r1, s1, _⟩ := rep_lst r
    obtain ⟨rfl, _⟩ := rep_int r'
    rw [ints_v s1 e1] at r1
    exact ⟨_, _, rfl, a, ns, _, rfl, rfl, .inl r1, k _ _ _ (.flat .int)⟩
  · rename_i e
    simp only [Option.map_eq_some_iff] at h
    obtain ⟨ns, e1, rfl⟩ := h
    obtain ⟨v, w, o, F, o', F', rfl, r, r'⟩ := two e
    obtain ⟨a, vs, G1, rfl, r1, s1, _⟩ := rep_lst r
    obtain ⟨rfl, _⟩ := rep_int r'
    rw [ints_v s1 e1] at r1
    exact ⟨_, _, rfl, a, ns, _, rfl, rfl, .inl r1, k _ _ _ (.flat .int)⟩
  · rename_i n xs' e
    simp only [Option.map_eq_some_iff] at h
    obtain ⟨ns, e1, rfl⟩ := h
    obtain ⟨v, o, F, rfl, r⟩ := one e
    obtain ⟨a, vs, G1, rfl, r1, s1, _⟩ := rep_lst r
    rw [ints_v (ns := n :: ns) s1 (by simp only [intsD, e1, Option.map_some])] at r1
    exact ⟨a, n, ns, rfl, .inl r1, k _ _ _ (.flat .int)⟩
  · rename_i n xs' e
    simp only [Option.map_eq_some_iff] at h
    obtain ⟨ns, e1, rfl⟩ := h
    obtain ⟨v, o, F, rfl, r⟩ := one e
    obtain ⟨a, vs, G1, rfl, r1, s1, _⟩ := rep_lst r
    rw [ints_v (ns := n :: ns) s1 (by simp only [intsD, e1, Option.map_some])] at r1
    exact ⟨a, n, ns, rfl, .inl r1, k _ _ _ (.flat .int)⟩
  · rename_i e
    simp only [Option.map_eq_some_iff] at h
    obtain ⟨ns, e1, rfl⟩ := h
    obtain ⟨v, o, F, rfl, r⟩ := one e
    obtain ⟨a, vs, G1, rfl, r1, s1, _⟩ := rep_lst r
    rw [bools_v s1 e1] at r1
    exact ⟨a, ns, rfl, .inl r1, k _ _ _ (.flat .bl)⟩
  · rename_i e
    simp only [Option.map_eq_some_iff] at h
    obtain ⟨ns, e1, rfl⟩ := h
    obtain ⟨v, o, F, rfl, r⟩ := one e
    obtain ⟨a, vs, G1, rfl, r1, s1, _⟩ := rep_lst r
    rw [bools_v s1 e1] at r1
    exact ⟨a, ns, rfl, .inl r1, k _ _ _ (.flat .bl)⟩
  · rename_i xs' e
    simp only [Option.bind_eq_some_iff] at h
    obtain ⟨p, e1, h⟩ := h
    split at h
    · rename_i q
      cases h
      obtain ⟨v, o, F, rfl, r⟩ := one e
      have dp := r.dp e1
      obtain ⟨a, vs, rfl, _⟩ := rep_tup r
      exact ⟨a, p, rfl, dp, q.1, q.2.1, q.2.2.1, q.2.2.2, k _ _ _ (.flat .str)⟩
    · cases h
  · rename_i t z e
    obtain ⟨v, o, F, rfl, r⟩ := one e
    have done : ∀ {c : Bool}, kitB z.ty t = some c → (∀ kvs, z ≠ .dT kvs) → d = .bl c → rBlt K (.isT t) [v] H Q := fun {c} e n q => by
      subst q
      exact ⟨v, rfl, v, .ty t, _, _, c, rfl, .ty t, ty_v r n, kit_ty e, k _ _ _ (.flat .bl)⟩
    split at h
    · cases h
    · simp only [Option.map_eq_some_iff] at h
      obtain ⟨c, e1, e2⟩ := h
      exact done e1 (by assumption) e2.symm
  · cases h
/-! ### methods that only read -/
def rMth (K : PySem.W.Frag) : Mt → List V → Hp → VK → Prop
  | .bitlen => fun vs H Q => ∃ i, vs = [.int i] ∧ Q (.int (Builtin.Int.intBits i : Nat)) H
  | .join => fun vs H Q => ∃ a p, ∃ ys : List Str, vs = [.str a, .ref p] ∧ (SqL K H p (ys.map V.str) ∨ SqT K H p (ys.map V.str)) ∧ (ys.map (·.length)).sum + ys.length * a.length ≤ 16777216 ∧ Q (.str (Txt.join a ys)) H
  | _ => fun _ _ _ => False
theorem strs_v : ∀ {F : List Addr} {vs : List V} {ds : List D} {ns : List Str}, Reps K H o F vs ds → strsD ds = some ns → vs = ns.map V.str
  | _, _, _, ns, .nil, e => by simp [strsD] at e; subst e; rfl
  | _, _, d :: ds, ns, .cons r t, e => by
    cases d with
    | str i =>
      simp only [strsD, Option.map_eq_some_iff] at e
      obtain ⟨b, e2, rfl⟩ := e
      obtain ⟨rfl, _⟩ := rep_str r
      rw [strs_v t e2]
      rfl
    | _ => simp [strsD] at e
theorem mthS (m : Mt) {vs : List V} {xs : List FD} {Gs : List (List Addr)} (A : ArgsR K H vs xs Gs) (h : mthD m (xs.map (·.d)) = some d) (k : ∀ v H' F, New H K d v H' F → Q v H') : rMth K m vs H Q := by
  have one : ∀ {e : D}, xs.map (·.d) = [e] → ∃ v o F, vs = [v] ∧ Rep K H o F v e := fun {e} q => by
    cases A with
    | nil => simp at q
    | cons r _ t =>
      cases t with
      | nil =>
        simp at q; subst q
        exact ⟨_, _, _, rfl, r⟩
      | cons _ _ _ => simp at q
  have two : ∀ {e f : D}, xs.map (·.d) = [e, f] → ∃ v w o F o' F', vs = [v, w] ∧ Rep K H o F v e ∧ Rep K H o' F' w f := fun {e f} q => by
    cases A with
    | nil => simp at q
    | cons r _ t =>
      cases t with
      | nil => simp at q
      | cons r2 _ t =>
        cases t with
        | nil =>
          simp at q; obtain ⟨rfl, rfl⟩ := q
          exact ⟨_, _, _, _, _, _, rfl, r, r2⟩
        | cons _ _ _ => simp at q
  unfold mthD at h
  split at h
  · rename_i e
    cases h
    obtain ⟨v, o, F, rfl, r⟩ := one e
    obtain ⟨rfl, _⟩ := rep_int r
    exact ⟨_, rfl, k _ _ _ (.flat .int)⟩
  · rename_i e
    simp only [Option.bind_eq_some_iff] at h
    obtain ⟨ys, e1, h⟩ := h
    split at h
    · rename_i q
      cases h
      obtain ⟨v, w, o, F, o', F', rfl, r, r'⟩ := two e
      obtain ⟨rfl, _⟩ := rep_str r
      obtain ⟨a, vs, G1, rfl, r1, s1, _⟩ := rep_lst r'
      rw [strs_v s1 e1] at r1
      exact ⟨_, a, ys, rfl, .inl (.inl r1), q, k _ _ _ (.flat .str)⟩
    · cases h
  · rename_i e
    simp only [Option.bind_eq_some_iff] at h
    obtain ⟨ys, e1, h⟩ := h
    split at h
    · rename_i q
      cases h
      obtain ⟨v, w, o, F, o', F', rfl, r, r'⟩ := two e
      obtain ⟨rfl, _⟩ := rep_str r
      obtain ⟨a, vs, rfl, r1, s1⟩ := rep_tup r'
      rw [strs_v s1 e1] at r1
      exact ⟨_, a, ys, rfl, .inr r1, q, k _ _ _ (.flat .str)⟩
    · cases h
  · cases h
end
end B
/-! BD: the readings of expressions by what they do on trees. -/
namespace B
open PySem PySem.Spec L2

section
variable {K : PySem.W.Frag} {H H' H1 H2 : Hp} {σ : L2.St} {ρ ρ' ρ1 ρ2 : Rho} {Fs Fs' Fs1 Fs2 : Nat → List Addr}
theorem FR.same (f : FR K H σ ρ Fs) (s : Same H H') : FR K H' σ ρ Fs := ⟨f.len, fun i x h => by
  obtain ⟨v, h1, r, n⟩ := f.rep i x h
  exact ⟨v, h1, r.same s, n⟩, f.sep⟩
theorem Stp.same (s : Same H H') : Stp ρ Fs H ρ Fs H' := ⟨fun a u e _ => s a u e, fun _ h => .inl h, fun _ h => .inl h, fun _ h => .inl h, fun _ _ h _ => ⟨h, rfl⟩⟩

/-- behind an expression -/
structure Aft (K : PySem.W.Frag) (σ : L2.St) (q : Bool) (r : Option Nat) (ρ : Rho) (Fs : Nat → List Addr) (H : Hp) (x : FD) (ρ' : Rho) (v : V) (H' : Hp) (Fs' : Nat → List Addr) (F : List Addr) : Prop where
  fr : FR K H' σ ρ' Fs'
  st : Stp ρ Fs H ρ' Fs' H'
  tm : Tm K ρ Fs H ρ' Fs' H' x v F
  qt : q = true → Same H H' ∧ ρ' = ρ ∧ Fs' = Fs
  rt : x.f = .bor → ∀ i, r = some i → ∃ s, ρ'[i]? = some (some s) ∧ s.f ≠ .shr ∧ ∀ a ∈ F, a ∈ Fs' i
/-- behind several -/
structure AftL (K : PySem.W.Frag) (σ : L2.St) (q : Bool) (ρ : Rho) (Fs : Nat → List Addr) (H : Hp) (es : List E) (xs : List FD) (ρ' : Rho) (vs : List V) (H' : Hp) (Fs' : Nat → List Addr) (Gs : List (List Addr)) : Prop where
  fr : FR K H' σ ρ' Fs'
  st : Stp ρ Fs H ρ' Fs' H'
  lv : vs.length = xs.length
  lg : Gs.length = xs.length
  le : es.length = xs.length
  tm : ∀ (k : Nat) (x : FD) (v : V) (G : List Addr), xs[k]? = some x → vs[k]? = some v → Gs[k]? = some G → Tm K ρ Fs H ρ' Fs' H' x v G
  sep : ∀ (j k : Nat) (x y : FD) (G G' : List Addr), j ≠ k → xs[j]? = some x → xs[k]? = some y → Gs[j]? = some G → Gs[k]? = some G' → x.f = .own → ∀ a ∈ G, a ∉ G'
  rt : ∀ (k i : Nat) (e : E) (x : FD) (G : List Addr), es[k]? = some e → rootE e = some i → xs[k]? = some x → x.f = .bor → Gs[k]? = some G → ∃ s, ρ'[i]? = some (some s) ∧ s.f ≠ .shr ∧ ∀ a ∈ G, a ∈ Fs' i
  var : ∀ (k i : Nat), es[k]? = some (.var i) → ∃ s v, ρ'[i]? = some (some s) ∧ readV ρ' i = xs[k]? ∧ σ[i]? = some (some v) ∧ vs[k]? = some v ∧ Gs[k]? = some (Fs' i)
  qt : q = true → Same H H' ∧ ρ' = ρ ∧ Fs' = Fs
end

def tE (K : PySem.W.Frag) (C : Ctx) (e : E) : TE := fun σ H Q => ∃ ρ Fs, FR K H σ ρ Fs ∧ ∃ x ρ', ev C false e ρ = some (x, ρ') ∧ ∀ v H' Fs' F, Aft K σ e.quiet (rootE e) ρ Fs H x ρ' v H' Fs' F → Q v H'
def tT (K : PySem.W.Frag) (C : Ctx) (e : E) : TT := fun σ H Q => ∃ ρ Fs, FR K H σ ρ Fs ∧ ∃ x b ρ', ev C true e ρ = some (x, ρ') ∧ x.d = .bl b ∧ ∀ H' Fs', FR K H' σ ρ' Fs' → Stp ρ Fs H ρ' Fs' H' → (e.quiet = true → Same H H' ∧ ρ' = ρ ∧ Fs' = Fs) → Q b H'
def tL (K : PySem.W.Frag) (C : Ctx) (es : List E) : TA := fun σ H Q => ∃ ρ Fs, FR K H σ ρ Fs ∧ ∃ xs ρ', evL C es ρ = some (xs, ρ') ∧ ∀ vs H' Fs' Gs, AftL K σ (E.quiet.E.quietL es) ρ Fs H es xs ρ' vs H' Fs' Gs → Q vs H'
/-- a plain local is read late -/
def tV (K : PySem.W.Frag) (C : Ctx) : E → TE
  | .var i => tVar i
  | e => tE K C e

section
variable {K : PySem.W.Frag} {C : Ctx} {H H' H1 H2 : Hp} {σ : L2.St} {ρ ρ' ρ1 ρ2 : Rho} {Fs Fs' Fs1 Fs2 : Nat → List Addr}
theorem nrm_pure {f : Fl} {d : D} (h : d.mut = false) : nrm f d = ⟨.own, d⟩ := by unfold nrm; rw [if_neg (by rw [h]; decide)]
theorem nrm_mut {f : Fl} {d : D} (h : d.mut = true) : nrm f d = ⟨f, d⟩ := by unfold nrm; rw [if_pos h]
theorem nrm_d {f : Fl} {d : D} : (nrm f d).d = d := by unfold nrm; split <;> rfl
theorem readV_some {x : FD} {i : Nat} (h : readV ρ i = some x) : ∃ s, ρ[i]? = some (some s) ∧ x = nrm (match s.f with | .shr => .shr | _ => .bor) s.d := by
  unfold readV at h
  split at h
  · rename_i s e
    exact ⟨s, e, (Option.some.inj h).symm⟩
  · cases h
/-- a local that is read -/
theorem read_tm (f : FR K H' σ ρ' Fs') (st : Stp ρ Fs H ρ' Fs' H') {x : FD} {i : Nat} (h : readV ρ' i = some x) : ∃ s v, ρ'[i]? = some (some s) ∧ σ[i]? = some (some v) ∧ Tm K ρ Fs H ρ' Fs' H' x v (Fs' i) := by
  obtain ⟨s, e, rfl⟩ := readV_some h
  obtain ⟨v, h1, r, n⟩ := f.rep i s e
  refine ⟨s, v, e, h1, ?_⟩
  cases p : s.d.mut with
  | false =>
    rw [nrm_pure p]
    exact .pure (x := ⟨.own, s.d⟩) (r.up p _) p
  | true =>
    rw [nrm_mut p]
    have all : ∀ a ∈ Fs' i, All ρ' Fs' a := fun a m => ⟨i, s, e, m⟩
    cases q : s.f with
    | shr =>
      refine ⟨?_, fun z => (nomatch z), fun _ a m => ⟨fun ⟨j, t, g1, h2, h3⟩ => ?_, st.shr a ⟨i, s, e, q, m⟩⟩, fun z => (nomatch z)⟩
      · have z : s.o = false := by unfold FD.o; rw [q]; rfl
        rw [z] at r
        exact r
      · by_cases hj : j = i
        · subst hj
          rw [e] at g1; cases g1
          exact h2 q
        · exact f.sep j i t s hj g1 e h2 (.inr (by rw [q]; decide)) a h3 m
    | own => exact ⟨r.low, fun z => (nomatch z), fun z => (nomatch z), fun _ => all⟩
    | bor => exact ⟨r.low, fun z => (nomatch z), fun z => (nomatch z), fun _ => all⟩
theorem tL_nil {Q : List V → Hp → Prop} (h : tL K C [] σ H Q) : Q [] H := by
  obtain ⟨ρ, Fs, f, xs, ρ', e, k⟩ := h
  simp only [evL, Option.some.injEq, Prod.mk.injEq] at e
  obtain ⟨rfl, rfl⟩ := e
  exact k [] H Fs [] ⟨f, .refl, rfl, rfl, rfl, fun k x v G h => by simp at h, fun j k x y G G' _ h => by simp at h, fun k i e x G h => by simp at h, fun k i h => by simp at h, fun _ => ⟨Same.refl H, rfl, rfl⟩⟩
theorem AftL.cons {e : E} {es : List E} {x : FD} {xs : List FD} {v : V} {vs : List V} {F : List Addr} {Gs : List (List Addr)} (nv : ∀ i, e ≠ .var i)
    (a : Aft K σ e.quiet (rootE e) ρ Fs H x ρ1 v H1 Fs1 F) (b : AftL K σ (E.quiet.E.quietL es) ρ1 Fs1 H1 es xs ρ2 vs H2 Fs2 Gs) (hb : x.f = .bor → E.quiet.E.quietL es = true) :
    AftL K σ (E.quiet.E.quietL (e :: es)) ρ Fs H (e :: es) (x :: xs) ρ2 (v :: vs) H2 Fs2 (F :: Gs) where
  fr := b.fr
  st := a.st.trans b.st
  lv := by simp [b.lv]
  lg := by simp [b.lg]
  le := by simp [b.le]
  tm := fun k x' v' G h1 h2 h3 => by
    cases k with
    | zero =>
      simp at h1 h2 h3; subst h1; subst h2; subst h3
      by_cases nb : x.f = .bor
      · obtain ⟨s, e1, e2⟩ := b.qt (hb nb)
        subst e1; subst e2
        exact ⟨a.tm.rep.same s, fun z => (by rw [nb] at z; cases z), fun z => (by rw [nb] at z; cases z), a.tm.bor⟩
      · exact a.tm.next a.fr b.st nb
    | succ k => exact (b.tm k x' v' G (by simpa using h1) (by simpa using h2) (by simpa using h3)).from a.st
  sep := fun j k x' y G G' hjk h1 h2 h3 h4 ho c m m' => by
    have later : ∀ {k : Nat} {y : FD} {v : V} {G' : List Addr}, xs[k]? = some y → vs[k]? = some v → Gs[k]? = some G' → ∀ c ∈ G', All ρ1 Fs1 c ∨ H1 c = none := fun {k y v G'} h1 h2 h3 c m => by
      have t := b.tm k y v G' h1 h2 h3
      cases z : y.f with
      | own => exact ((t.own z).2 c m).2.imp Own.all id
      | shr => exact (t.shr z c m).2.all
      | bor => exact b.st.all c (t.bor z c m)
    have vat : ∀ {k : Nat} {y : FD}, xs[k]? = some y → ∃ v, vs[k]? = some v := fun {k y} h => by
      have : k < vs.length := by rw [b.lv]; exact (List.getElem?_eq_some_iff.mp h).1
      exact ⟨vs[k], by simp [this]⟩
    cases j with
    | zero =>
      cases k with
      | zero => exact hjk rfl
      | succ k =>
        simp at h1 h3; subst h1; subst h3
        have h2 : xs[k]? = some y := by simpa using h2
        have h4 : Gs[k]? = some G' := by simpa using h4
        obtain ⟨w, h5⟩ := vat h2
        rcases later h2 h5 h4 c m' with z | z
        · exact ((a.tm.own ho).2 c m).1 z
        · exact a.tm.rep.trk c m z
    | succ j =>
      have h1 : xs[j]? = some x' := by simpa using h1
      have h3 : Gs[j]? = some G := by simpa using h3
      cases k with
      | zero =>
        simp at h2 h4; subst h2; subst h4
        obtain ⟨w, h5⟩ := vat h1
        have t := (b.tm j x' w G h1 h5 h3).own ho
        have tk := a.tm.rep.trk c m'
        cases z : x.f with
        | own =>
          rcases (t.2 c m).2 with q | q
          · exact ((a.tm.own z).2 c m').1 q.all
          · exact tk q
        | shr =>
          rcases (t.2 c m).2 with q | q
          · exact (a.tm.shr z c m').1 q.exc
          · exact tk q
        | bor =>
          obtain ⟨_, e1, e2⟩ := b.qt (hb z)
          subst e1; subst e2
          exact (t.2 c m).1 (a.tm.bor z c m')
      | succ k => exact b.sep j k x' y G G' (by omega) h1 (by simpa using h2) h3 (by simpa using h4) ho c m m'
  rt := fun k i e' x' G h1 h2 h3 h4 h5 => by
    cases k with
    | zero =>
      simp at h1 h3 h5; subst h1; subst h3; subst h5
      obtain ⟨_, e1, e2⟩ := b.qt (hb h4)
      subst e1; subst e2
      exact a.rt h4 i h2
    | succ k => exact b.rt k i e' x' G (by simpa using h1) h2 (by simpa using h3) h4 (by simpa using h5)
  var := fun k i h => by
    cases k with
    | zero => simp at h; exact absurd h (nv i)
    | succ k =>
      obtain ⟨s, w, z1, z2, z3, z4, z5⟩ := b.var k i (by simpa using h)
      exact ⟨s, w, z1, by simpa using z2, z3, by simpa using z4, by simpa using z5⟩
  qt := fun q => by
    simp only [E.quiet.E.quietL, Bool.and_eq_true] at q
    obtain ⟨s1, e1, e2⟩ := a.qt q.1
    obtain ⟨s2, e3, e4⟩ := b.qt q.2
    exact ⟨s1.trans s2, e3.trans e1, e4.trans e2⟩
theorem AftL.consV {i : Nat} {es : List E} {x : FD} {xs : List FD} {vs : List V} {Gs : List (List Addr)} {v : V} (b : AftL K σ (E.quiet.E.quietL es) ρ Fs H es xs ρ2 vs H2 Fs2 Gs) (h : readV ρ2 i = some x) (hv : σ[i]? = some (some v)) :
    AftL K σ (E.quiet.E.quietL (.var i :: es)) ρ Fs H (.var i :: es) (x :: xs) ρ2 (v :: vs) H2 Fs2 (Fs2 i :: Gs) := by
  obtain ⟨s, w, e1, e2, tm⟩ := read_tm b.fr b.st h
  rw [hv] at e2
  obtain rfl : v = w := by simpa using e2
  have pureF : x.f = .own → Fs2 i = [] := fun z => by
    obtain ⟨s', e', rfl⟩ := readV_some h
    cases p : s'.d.mut with
    | false => exact tm.rep.pure (by rw [nrm_d]; exact p)
    | true => rw [nrm_mut p] at z; cases q : s'.f <;> rw [q] at z <;> cases z
  refine ⟨b.fr, b.st, by simp [b.lv], by simp [b.lg], by simp [b.le], fun k x' v' G h1 h2 h3 => ?_, fun j k x' y G G' hjk h1 h2 h3 h4 ho c m m' => ?_, fun k j e' x' G h1 h2 h3 h4 h5 => ?_, fun k j hk => ?_, fun q => b.qt (by simpa [E.quiet.E.quietL, E.quiet] using q)⟩
  · cases k with
    | zero => simp at h1 h2 h3; subst h1; subst h2; subst h3; exact tm
    | succ k => exact b.tm k x' v' G (by simpa using h1) (by simpa using h2) (by simpa using h3)
  · cases j with
    | zero =>
      simp at h1 h3; subst h1; subst h3
      rw [pureF ho] at m; cases m
    | succ j =>
      cases k with
      | zero =>
        simp at h2 h4; subst h2; subst h4
        have h1 : xs[j]? = some x' := by simpa using h1
        have : j < vs.length := by rw [b.lv]; exact (List.getElem?_eq_some_iff.mp h1).1
        exact (((b.tm j x' vs[j] G h1 (by simp [this]) (by simpa using h3)).own ho).2 c m).1 ⟨i, s, e1, m'⟩
      | succ k => exact b.sep j k x' y G G' (by omega) (by simpa using h1) (by simpa using h2) (by simpa using h3) (by simpa using h4) ho c m m'
  · cases k with
    | zero =>
      simp at h1 h3 h5; subst h1; subst h3; subst h5
      simp only [rootE, Option.some.injEq] at h2
      subst h2
      refine ⟨s, e1, fun z => ?_, fun a m => m⟩
      obtain ⟨s', e', rfl⟩ := readV_some h
      rw [e1] at e'; cases e'
      cases p : s.d.mut with
      | false => rw [nrm_pure p] at h4; cases h4
      | true => rw [nrm_mut p, z] at h4; cases h4
    | succ k => exact b.rt k j e' x' G (by simpa using h1) h2 (by simpa using h3) h4 (by simpa using h5)
  · cases k with
    | zero =>
      simp at hk; subst hk
      exact ⟨s, v, e1, by simpa using h, hv, rfl, rfl⟩
    | succ k =>
      obtain ⟨s, w, z1, z2, z3, z4, z5⟩ := b.var k j (by simpa using hk)
      exact ⟨s, w, z1, by simpa using z2, z3, by simpa using z4, by simpa using z5⟩
theorem evL_cons {e : E} {es : List E} (nv : ∀ i, e ≠ .var i) : evL C (e :: es) ρ = (ev C false e ρ).bind fun r => if r.1.f = .bor ∧ E.quiet.E.quietL es = false then none else (evL C es r.2).map fun q => (r.1 :: q.1, q.2) := by
  cases e with
  | var i => exact absurd rfl (nv i)
  | _ => simp only [evL]
/-- arguments one after another -/
theorem tL_cons {e : E} {es : List E} {Q : List V → Hp → Prop} (h : tL K C (e :: es) σ H Q) : tV K C e σ H fun x H1 => tL K C es σ H1 fun xs H2 => Q (x :: xs) H2 := by
  obtain ⟨ρ, Fs, f, xs, ρ', h, k⟩ := h
  by_cases hv : ∃ i, e = .var i
  · obtain ⟨i, rfl⟩ := hv
    simp only [evL, Option.bind_eq_some_iff, Option.map_eq_some_iff] at h
    obtain ⟨x0, h0, ⟨ys, ρ2⟩, h1, x, h2, h3⟩ := h
    simp only [Prod.mk.injEq] at h3
    obtain ⟨rfl, rfl⟩ := h3
    obtain ⟨s, e1, _⟩ := readV_some h0
    obtain ⟨v, e2, _⟩ := f.rep i s e1
    refine ⟨v, e2, ρ, Fs, f, ys, ρ2, h1, fun vs H' Fs' Gs a => ?_⟩
    exact k _ _ _ _ (AftL.consV a h2 e2)
  · have nv : ∀ i, e ≠ .var i := fun i q => hv ⟨i, q⟩
    rw [evL_cons nv] at h
    simp only [Option.bind_eq_some_iff] at h
    obtain ⟨⟨x, ρ1⟩, h1, h⟩ := h
    split at h
    · cases h
    · rename_i hb
      simp only [Option.map_eq_some_iff] at h
      obtain ⟨⟨ys, ρ2⟩, h2, h3⟩ := h
      simp only [Prod.mk.injEq] at h3
      obtain ⟨rfl, rfl⟩ := h3
      have go : tE K C e σ H fun x H1 => tL K C es σ H1 fun xs H2 => Q (x :: xs) H2 := by
        refine ⟨ρ, Fs, f, x, ρ1, h1, fun v H1 Fs1 F a => ⟨ρ1, Fs1, a.fr, ys, ρ2, h2, fun vs H2 Fs2 Gs b => ?_⟩⟩
        exact k _ _ _ _ (AftL.cons nv a b fun z => by
          cases q : E.quiet.E.quietL es with
          | true => rfl
          | false => exact absurd ⟨z, q⟩ hb)
      cases e with
      | var i => exact absurd rfl (nv i)
      | _ => exact go
/-- two, one, three of them -/
theorem tL_one {e : E} {R : V → Hp → Prop} (h : tL K C [e] σ H fun vs H' => ∃ x, vs = [x] ∧ R x H') : tV K C e σ H R := by
  have mono : ∀ {e : E} {R R' : VK}, (∀ x H, R x H → R' x H) → tV K C e σ H R → tV K C e σ H R' := fun {e R R'} q h => by
    cases e with
    | var i => obtain ⟨v, h1, h2⟩ := h; exact ⟨v, h1, q _ _ h2⟩
    | _ => obtain ⟨ρ, Fs, f, x, ρ', h, k⟩ := h; exact ⟨ρ, Fs, f, x, ρ', h, fun v H' Fs' F a => q _ _ (k v H' Fs' F a)⟩
  refine mono (fun x H h => ?_) (tL_cons h)
  obtain ⟨y, e, r⟩ := tL_nil h
  cases e
  exact r
theorem tV_mono {e : E} {R R' : VK} (q : ∀ x H, R x H → R' x H) (h : tV K C e σ H R) : tV K C e σ H R' := by
  cases e with
  | var i => obtain ⟨v, h1, h2⟩ := h; exact ⟨v, h1, q _ _ h2⟩
  | _ => obtain ⟨ρ, Fs, f, x, ρ', h, k⟩ := h; exact ⟨ρ, Fs, f, x, ρ', h, fun v H' Fs' F a => q _ _ (k v H' Fs' F a)⟩
theorem tL_two {a b : E} {R : V → V → Hp → Prop} (h : tL K C [a, b] σ H fun vs H' => ∃ x y, vs = [x, y] ∧ R x y H') : tV K C a σ H fun x H1 => tV K C b σ H1 fun y H2 => R x y H2 := by
  refine tV_mono (fun x H h => ?_) (tL_cons h)
  refine tL_one ?_
  obtain ⟨ρ, Fs, f, xs, ρ', h, k⟩ := h
  refine ⟨ρ, Fs, f, xs, ρ', h, fun vs H' Fs' Gs a => ?_⟩
  obtain ⟨x', y, e, r⟩ := k vs H' Fs' Gs a
  simp at e
  obtain ⟨rfl, rfl⟩ := e
  exact ⟨y, rfl, r⟩
theorem tL_three {a b c : E} {R : V → V → V → Hp → Prop} (h : tL K C [a, b, c] σ H fun vs H' => ∃ x y z, vs = [x, y, z] ∧ R x y z H') : tV K C a σ H fun x H1 => tV K C b σ H1 fun y H2 => tV K C c σ H2 fun z H3 => R x y z H3 := by
  refine tV_mono (fun x H h => ?_) (tL_cons h)
  refine tL_two ?_
  obtain ⟨ρ, Fs, f, xs, ρ', h, k⟩ := h
  refine ⟨ρ, Fs, f, xs, ρ', h, fun vs H' Fs' Gs a => ?_⟩
  obtain ⟨x', y, z, e, r⟩ := k vs H' Fs' Gs a
  simp at e
  obtain ⟨rfl, rfl⟩ := e
  exact ⟨y, z, rfl, r⟩
theorem tL_mono {es : List E} {Q Q' : List V → Hp → Prop} (q : ∀ vs H, Q vs H → Q' vs H) (h : tL K C es σ H Q) : tL K C es σ H Q' := by
  obtain ⟨ρ, Fs, f, xs, ρ', h, k⟩ := h
  exact ⟨ρ, Fs, f, xs, ρ', h, fun vs H' Fs' Gs a => q _ _ (k vs H' Fs' Gs a)⟩
theorem AftL.args {q : Bool} {es : List E} {xs : List FD} {vs : List V} {Gs : List (List Addr)} (a : AftL K σ q ρ Fs H es xs ρ' vs H' Fs' Gs) : ArgsR K H' vs xs Gs := by
  have all : ∀ (xs : List FD) (vs : List V) (Gs : List (List Addr)), vs.length = xs.length → Gs.length = xs.length →
      (∀ (k : Nat) (x : FD) (v : V) (G : List Addr), xs[k]? = some x → vs[k]? = some v → Gs[k]? = some G → Rep K H' x.o G v x.d ∧ (x.f = .own → G.Nodup)) → ArgsR K H' vs xs Gs := by
    intro xs
    induction xs with
    | nil =>
      intro vs Gs h1 h2 _
      cases List.length_eq_zero_iff.mp h1
      cases List.length_eq_zero_iff.mp h2
      exact .nil
    | cons x xs ih =>
      intro vs Gs h1 h2 h
      cases vs with
      | nil => simp at h1
      | cons v vs =>
        cases Gs with
        | nil => simp at h2
        | cons G Gs =>
          obtain ⟨r, n⟩ := h 0 x v G rfl rfl rfl
          exact .cons r n (ih vs Gs (by simpa using h1) (by simpa using h2) fun k x v G z1 z2 z3 => h (k + 1) x v G (by simpa using z1) (by simpa using z2) (by simpa using z3))
  exact all xs vs Gs a.lv a.lg fun k x v G z1 z2 z3 => ⟨(a.tm k x v G z1 z2 z3).rep, fun z => ((a.tm k x v G z1 z2 z3).own z).1⟩
/-- an operator's answer behind its arguments -/
theorem AftL.op {q : Bool} {r0 : Option Nat} {es : List E} {xs : List FD} {vs : List V} {Gs : List (List Addr)} {x : FD} {v : V} {F : List Addr} (a : AftL K σ q ρ Fs H es xs ρ' vs H1 Fs' Gs) (o : OpE H1 K xs Gs x v H' F) (hr : x.f = .bor → ∀ i, r0 = some i → ∃ s, ρ'[i]? = some (some s) ∧ s.f ≠ .shr ∧ ∀ b ∈ F, b ∈ Fs' i) :
    Aft K σ q r0 ρ Fs H x ρ' v H' Fs' F where
  fr := a.fr.same o.same
  st := a.st.trans (.same o.same)
  tm := by
    rcases o.how with ⟨e, n, w⟩ | ⟨k, y, G, h1, h2, h3, h4⟩
    · exact ⟨o.rep, fun _ => ⟨n, fun b m => ⟨fun z => a.fr.all_trk z (w b m), a.st.back (w b m)⟩⟩, fun z => (by rw [e] at z; cases z), fun z => (by rw [e] at z; cases z)⟩
    · have hk : k < vs.length := by rw [a.lv]; exact (List.getElem?_eq_some_iff.mp h1).1
      have t := a.tm k y vs[k] G h1 (by simp [hk]) h2
      exact ⟨o.rep, fun z => ⟨(t.own (h3.symm.trans z)).1.sublist h4, fun b m => (t.own (h3.symm.trans z)).2 b (h4.subset m)⟩, fun z b m => t.shr (h3.symm.trans z) b (h4.subset m), fun z b m => t.bor (h3.symm.trans z) b (h4.subset m)⟩
  qt := fun z => by
    obtain ⟨s, e1, e2⟩ := a.qt z
    exact ⟨s.trans o.same, e1, e2⟩
  rt := hr
/-- rules may be weakened -/
theorem PE.weak {X : Cx} {e : Expr} {t t' : TE} (h : PE X e t) (w : ∀ σ H Q, t' σ H Q → t σ H Q) : PE X e t' := ⟨fun pins s σ H Q I q => h.run pins s σ H Q I (w σ H Q q)⟩
theorem PT.weak {X : Cx} {e : Expr} {t t' : TT} (h : PT X e t) (w : ∀ σ H Q, t' σ H Q → t σ H Q) : PT X e t' := ⟨fun pins s σ H Q I q => h.run pins s σ H Q I (w σ H Q q)⟩
theorem PS.weak {X : Cx} {e : Stmt} {t t' : TS} (h : PS X e t) (w : ∀ D σ H, t' D σ H → t D σ H) : PS X e t' := ⟨fun pins s σ H D I q => h.run pins s σ H D I (w D σ H q)⟩
theorem PSs.weak {X : Cx} {e : List Stmt} {t t' : TS} (h : PSs X e t) (w : ∀ D σ H, t' D σ H → t D σ H) : PSs X e t' := ⟨fun pins s σ H D I q => h.run pins s σ H D I (w D σ H q)⟩
theorem PA.weak {X : Cx} {e : List Expr} {t t' : TA} (h : PA X e t) (w : ∀ σ H Q, t' σ H Q → t σ H Q) : PA X e t' := ⟨fun pos pins s σ H Q I q => h.run pos pins s σ H Q I (w σ H Q q)⟩
end
end B
/-! BE: calls. -/
namespace B
open PySem PySem.Spec L2

/-- a def's promise: what it does on trees -/
def spD (K : PySem.W.Frag) (np : Nat) (run : List FD → Option (FD × Rho)) : Sp := fun vs H Q _ => vs.length = np ∧ ∃ xs Fs, FR K H (vs.map some) (xs.map some) Fs ∧ (∀ x ∈ xs, x.f ≠ .bor) ∧ ∃ x fn, run xs = some (x, fn) ∧
  ∀ v H' Fs' F, FR K H' (vs.map some) fn Fs' → Stp (xs.map some) Fs H fn Fs' H' → Tm K (xs.map some) Fs H fn Fs' H' x v F → x.f ≠ .bor → (∀ t ∈ fn, ∀ s, t = some s → s.f ≠ .bor) → Q v H'

def slF (io : List Nat) (k : Nat) (x : FD) : FD := ⟨(match x.f with
    | .own => .own
    | .shr => .shr
    | .bor => if k ∈ io then .own else .shr), x.d⟩
theorem argSl_at (io : List Nat) : ∀ (xs : List FD) (n k : Nat), (argSl io n xs)[k]? = (xs[k]?).map (slF io (n + k))
  | [], n, k => by simp [argSl]
  | x :: xs, n, 0 => by simp only [argSl, List.getElem?_cons_zero, Option.map_some, Nat.add_zero]; rfl
  | x :: xs, n, k + 1 => by
    simp only [argSl, List.getElem?_cons_succ]
    rw [argSl_at io xs (n + 1) k, Nat.add_right_comm n 1 k, Nat.add_assoc n k 1]
theorem argSl_len (io : List Nat) : ∀ (xs : List FD) (n : Nat), (argSl io n xs).length = xs.length
  | [], n => rfl
  | x :: xs, n => by simp [argSl, argSl_len io xs (n + 1)]
theorem ioVars_mem (io : List Nat) : ∀ (es : List E) (xs : List FD) (n : Nat) (iv : List (Nat × Nat)), ioVars io n es xs = some iv → es.length = xs.length →
    ∀ k i, (k, i) ∈ iv ↔ ∃ j x, k = n + j ∧ xs[j]? = some x ∧ x.f = .bor ∧ k ∈ io ∧ es[j]? = some (.var i)
  | [], xs, n, iv, h, hl, k, i => by
    simp only [ioVars, Option.some.injEq] at h
    subst h
    constructor
    · intro z; cases z
    · rintro ⟨j, x, _, _, _, _, z⟩; simp at z
  | e :: es, [], n, iv, h, hl, k, i => by simp at hl
  | e :: es, x :: xs, n, iv, h, hl, k, i => by
    simp only [ioVars, Option.bind_eq_some_iff] at h
    obtain ⟨r, h1, h2⟩ := h
    have ih := ioVars_mem io es xs (n + 1) r h1 (by simpa using hl) k i
    have up : (∃ j y, k = n + j ∧ (x :: xs)[j]? = some y ∧ y.f = .bor ∧ k ∈ io ∧ (e :: es)[j]? = some (.var i)) ↔ (k = n ∧ x.f = .bor ∧ k ∈ io ∧ e = .var i) ∨ (k, i) ∈ r := by
      rw [ih]
      constructor
      · rintro ⟨j, y, a, b, c, d, f⟩
        cases j with
        | zero => simp at b f; subst b; exact .inl ⟨by omega, c, d, f⟩
        | succ j => exact .inr ⟨j, y, by omega, by simpa using b, c, d, by simpa using f⟩
      · rintro (⟨a, b, c, d⟩ | ⟨j, y, a, b, c, d, f⟩)
        · exact ⟨0, x, by omega, rfl, b, c, by simp [d]⟩
        · exact ⟨j + 1, y, by omega, by simpa using b, c, d, by simpa using f⟩
    rw [up]
    split at h2
    · rename_i q
      split at h2
      · rename_i i'
        cases h2
        simp only [List.mem_cons, Prod.mk.injEq]
        constructor
        · rintro (⟨a, b⟩ | a)
          · exact .inl ⟨a, q.1, a ▸ q.2, by rw [b]⟩
          · exact .inr a
        · rintro (⟨a, _, _, b⟩ | a)
          · cases b; exact .inl ⟨a, rfl⟩
          · exact .inr a
      · cases h2
    · rename_i q
      cases h2
      constructor
      · exact .inr
      · rintro (⟨a, b, c, _⟩ | a)
        · exact absurd ⟨b, a ▸ c⟩ q
        · exact a
theorem ioVars_all (io : List Nat) : ∀ (es : List E) (xs : List FD) (n : Nat) (iv : List (Nat × Nat)), ioVars io n es xs = some iv → es.length = xs.length →
    ∀ j x, xs[j]? = some x → x.f = .bor → n + j ∈ io → ∃ i, es[j]? = some (.var i)
  | [], [], n, iv, h, hl, j, x, z, _, _ => by simp at z
  | [], _ :: _, n, iv, h, hl, j, x, z, _, _ => by simp at hl
  | e :: es, [], n, iv, h, hl, j, x, z, _, _ => by simp at hl
  | e :: es, y :: xs, n, iv, h, hl, j, x, z, b, m => by
    simp only [ioVars, Option.bind_eq_some_iff] at h
    obtain ⟨r, h1, h2⟩ := h
    cases j with
    | zero =>
      simp at z; subst z
      rw [if_pos ⟨b, by simpa using m⟩] at h2
      split at h2
      · exact ⟨_, rfl⟩
      · cases h2
    | succ j =>
      obtain ⟨i, q⟩ := ioVars_all io es xs (n + 1) r h1 (by simpa using hl) j x (by simpa using z) b (by rw [show n + 1 + j = n + (j + 1) by omega]; exact m)
      exact ⟨i, by simpa using q⟩
theorem leVars_mem (io : List Nat) : ∀ (es : List E) (xs : List FD) (n : Nat) (lv : List Nat), leVars io n es xs = some lv → es.length = xs.length →
    ∀ j x, xs[j]? = some x → x.f = .bor → n + j ∉ io → ∃ i, es[j]? = some (.var i) ∧ i ∈ lv
  | [], [], n, iv, h, hl, j, x, z, _, _ => by simp at z
  | [], _ :: _, n, iv, h, hl, j, x, z, _, _ => by simp at hl
  | e :: es, [], n, iv, h, hl, j, x, z, _, _ => by simp at hl
  | e :: es, y :: xs, n, lv, h, hl, j, x, z, b, m => by
    simp only [leVars, Option.bind_eq_some_iff] at h
    obtain ⟨r, h1, h2⟩ := h
    cases j with
    | zero =>
      simp at z; subst z
      rw [if_pos ⟨b, by simpa using m⟩] at h2
      split at h2
      · cases h2; exact ⟨_, rfl, List.mem_cons_self⟩
      · cases h2
    | succ j =>
      obtain ⟨i, q, w⟩ := leVars_mem io es xs (n + 1) r h1 (by simpa using hl) j x (by simpa using z) b (by rw [show n + 1 + j = n + (j + 1) by omega]; exact m)
      refine ⟨i, by simpa using q, ?_⟩
      split at h2
      · split at h2
        · cases h2; exact List.mem_cons_of_mem _ w
        · cases h2
      · cases h2; exact w
theorem lends_no (io : List Nat) : ∀ (xs : List FD) (n : Nat), lends io n xs = false → ∀ j x, xs[j]? = some x → x.f = .bor → n + j ∈ io
  | [], n, h, j, x, z, _ => by simp at z
  | y :: xs, n, h, j, x, z, b => by
    simp only [lends, Bool.or_eq_false_iff, Bool.and_eq_false_iff] at h
    cases j with
    | zero =>
      simp at z; subst z
      rcases h.1 with q | q
      · exact absurd b (by simpa using q)
      · simpa using q
    | succ j =>
      have := lends_no io xs (n + 1) h.2 j x (by simpa using z) b
      rw [show n + (j + 1) = n + 1 + j by omega]
      exact this
theorem putBack_at (fn : Rho) : ∀ (iv : List (Nat × Nat)) (ρ : Rho), (iv.map (·.2)).Nodup → ∀ i,
    ((∀ k, (k, i) ∉ iv) → (putBack fn iv ρ)[i]? = ρ[i]?) ∧ (∀ k, (k, i) ∈ iv → i < ρ.length → (putBack fn iv ρ)[i]? = some ((fn[k]?).getD none))
  | [], ρ, _, i => ⟨fun _ => rfl, fun k h => by cases h⟩
  | (k0, i0) :: iv, ρ, nd, i => by
    rw [List.map_cons, List.nodup_cons] at nd
    obtain ⟨h1, h2⟩ := putBack_at fn iv (ρ.set i0 ((fn[k0]?).getD none)) nd.2 i
    simp only [putBack]
    refine ⟨fun n => ?_, fun k m hi => ?_⟩
    · rw [h1 fun k z => n k (List.mem_cons_of_mem _ z)]
      have : i0 ≠ i := fun e => n k0 (by rw [e]; exact List.mem_cons_self)
      rw [List.getElem?_set_ne this]
    · rcases List.mem_cons.mp m with e | m
      · cases e
        rw [h1 fun k z => nd.1 (List.mem_map.mpr ⟨_, z, rfl⟩)]
        rw [List.getElem?_set_self hi]
      · exact h2 k m (by simpa using hi)
theorem putBack_len (fn : Rho) : ∀ (iv : List (Nat × Nat)) (ρ : Rho), (putBack fn iv ρ).length = ρ.length
  | [], ρ => rfl
  | (k0, i0) :: iv, ρ => by simp [putBack, putBack_len fn iv]

section
variable {K : PySem.W.Frag} {C : Ctx} {H H' H1 H2 : Hp} {σ : L2.St} {ρ ρ' ρ1 ρ2 : Rho} {Fs Fs' Fs1 Fs2 : Nat → List Addr}
theorem call_end {f : Nat} {es : List E} {xs : List FD} {vs : List V} {Gs : List (List Addr)} {x : FD} {q : Bool} (a : AftL K σ q ρ Fs H es xs ρ1 vs H1 Fs1 Gs) (h : callD C f es xs ρ1 = some (x, ρ2)) {np : Nat} (hn : vs.length = np)
    {Q : VK} {E0 : XK} (k : ∀ v H' Fs' F, Aft K σ false none ρ Fs H x ρ2 v H' Fs' F → Q v H') : spD K np (C.call f) vs H1 Q E0 := by
  unfold callD at h
  simp only [Option.bind_eq_some_iff] at h
  obtain ⟨iv, hiv, h⟩ := h
  split at h
  rotate_left
  · cases h
  rename_i cond
  obtain ⟨c1, c2, c3⟩ := cond
  simp only [Option.bind_eq_some_iff] at h
  obtain ⟨⟨y, fn⟩, hc, h⟩ := h
  split at h
  rotate_left
  · cases h
  rename_i cl
  simp only [Option.some.injEq, Prod.mk.injEq] at h
  obtain ⟨rfl, rfl⟩ := h
  have lim := ioVars_mem (C.io f) es xs 0 iv hiv a.le
  have vat : ∀ {k : Nat} {y : FD}, xs[k]? = some y → ∃ v, vs[k]? = some v := fun {k y} h => by
    have : k < vs.length := by rw [a.lv]; exact (List.getElem?_eq_some_iff.mp h).1
    exact ⟨vs[k], by simp [this]⟩
  have gat : ∀ {k : Nat} {y : FD}, xs[k]? = some y → ∃ G, Gs[k]? = some G := fun {k y} h => by
    have : k < Gs.length := by rw [a.lg]; exact (List.getElem?_eq_some_iff.mp h).1
    exact ⟨Gs[k], by simp [this]⟩
  -- a parameter that is changed: its local is owned
  have ioF : ∀ {k i : Nat}, (k, i) ∈ iv → ∃ s v, ρ1[i]? = some (some s) ∧ s.f = .own ∧ σ[i]? = some (some v) ∧ vs[k]? = some v ∧ Gs[k]? = some (Fs1 i) ∧ ∃ x, xs[k]? = some x ∧ x.d = s.d ∧ x.f = .bor := fun {k i} m => by
    obtain ⟨j, x, e1, e2, e3, e4, e5⟩ := (lim k i).mp m
    have e1 : k = j := by omega
    subst e1
    obtain ⟨s, v, z1, z2, z3, z4, z5⟩ := a.var _ i e5
    have o := List.all_eq_true.mp c1 _ m
    unfold ownAt at o
    rw [z1] at o
    refine ⟨s, v, z1, by simpa using o, z3, z4, z5, x, e2, ?_, e3⟩
    rw [e2] at z2
    obtain ⟨s', y1, y2⟩ := readV_some z2
    rw [z1] at y1; cases y1
    rw [y2, nrm_d]
  -- the callee's slots
  let Fc : Nat → List Addr := fun k => (Gs[k]?).getD []
  have slat : ∀ {k : Nat} {s : FD}, ((argSl (C.io f) 0 xs).map some)[k]? = some (some s) → ∃ x, xs[k]? = some x ∧ s = slF (C.io f) k x := fun {k s} h => by
    rw [List.getElem?_map, argSl_at] at h
    cases e : xs[k]? with
    | none => rw [e] at h; simp at h
    | some x => rw [e] at h; simp at h; exact ⟨x, rfl, h.symm⟩
  -- kinds of arguments
  have kinds : ∀ {k : Nat} {x : FD} {G : List Addr}, xs[k]? = some x → Gs[k]? = some G →
      (x.f = .own ∧ (slF (C.io f) k x).f = .own ∧ G.Nodup ∧ ∀ b ∈ G, ¬ All ρ1 Fs1 b ∧ (Own ρ Fs b ∨ H b = none)) ∨ (x.f = .shr ∧ (slF (C.io f) k x).f = .shr ∧ ∀ b ∈ G, ¬ Exc ρ1 Fs1 b ∧ ShO ρ Fs H b) ∨
      (∃ i, (k, i) ∈ iv ∧ (slF (C.io f) k x).f = .own ∧ G = Fs1 i) ∨ (x.f = .bor ∧ k ∉ C.io f ∧ (slF (C.io f) k x).f = .shr ∧ ∀ b ∈ G, All ρ1 Fs1 b) := fun {k x G} h1 h2 => by
    obtain ⟨v, h3⟩ := vat h1
    have t := a.tm k x v G h1 h3 h2
    cases e : x.f with
    | own => exact .inl ⟨rfl, by unfold slF; rw [e], t.own e⟩
    | shr => exact .inr (.inl ⟨rfl, by unfold slF; rw [e], t.shr e⟩)
    | bor =>
      by_cases m : k ∈ C.io f
      · obtain ⟨i, z⟩ := ioVars_all (C.io f) es xs 0 iv hiv a.le k x h1 e (by simpa using m)
        have mm : (k, i) ∈ iv := (lim k i).mpr ⟨k, x, by omega, h1, e, m, z⟩
        obtain ⟨_, _, _, _, _, _, g, _⟩ := ioF mm
        rw [h2] at g
        refine .inr (.inr (.inl ⟨i, mm, ?_, Option.some.inj g⟩))
        unfold slF; rw [e]; simp [m]
      · refine .inr (.inr (.inr ⟨rfl, m, ?_, t.bor e⟩))
        unfold slF; rw [e]; simp [m]
  have fc : FR K H1 (vs.map some) ((argSl (C.io f) 0 xs).map some) Fc := by
    refine ⟨by rw [List.length_map, List.length_map, argSl_len, a.lv], fun k s h => ?_, fun j k s t hjk h1 h2 h3 _ b m m' => ?_⟩
    · obtain ⟨x, e1, rfl⟩ := slat h
      obtain ⟨v, e2⟩ := vat e1
      obtain ⟨G, e3⟩ := gat e1
      have tm := a.tm k x v G e1 e2 e3
      have eF : Fc k = G := by show (Gs[k]?).getD [] = G; rw [e3]; rfl
      refine ⟨v, by rw [List.getElem?_map, e2]; rfl, ?_⟩
      rw [eF]
      rcases kinds e1 e3 with ⟨z, w, n, _⟩ | ⟨z, w, _⟩ | ⟨i, m, w, g⟩ | ⟨z, _, w, _⟩
      · refine ⟨?_, fun _ => n⟩
        have : (slF (C.io f) k x).o = x.o := by unfold FD.o; rw [z, w]
        rw [this]; exact tm.rep
      · refine ⟨?_, fun q => (by rw [w] at q; cases q)⟩
        have : (slF (C.io f) k x).o = x.o := by unfold FD.o; rw [z, w]
        rw [this]; exact tm.rep
      · obtain ⟨s, v', g1, g2, g3, g4, _, x', g6, g7, _⟩ := ioF m
        rw [e2] at g4; cases g4
        rw [e1] at g6; cases g6
        obtain ⟨v'', q1, q2, q3⟩ := a.fr.rep i s g1
        rw [g3] at q1; cases q1
        subst g
        refine ⟨?_, fun _ => q3 g2⟩
        have e4 : (slF (C.io f) k x).o = s.o := by unfold FD.o; rw [g2, w]
        rw [e4]
        show Rep K H1 s.o (Fs1 i) v x.d
        rw [g7]; exact q2
      · refine ⟨?_, fun q => (by rw [w] at q; cases q)⟩
        have : (slF (C.io f) k x).o = x.o := by unfold FD.o; rw [z, w]; rfl
        rw [this]; exact tm.rep
    · obtain ⟨x, e1, rfl⟩ := slat h1
      obtain ⟨y, e2, rfl⟩ := slat h2
      obtain ⟨G, e3⟩ := gat e1
      obtain ⟨G', e4⟩ := gat e2
      have eF : Fc j = G := by show (Gs[j]?).getD [] = G; rw [e3]; rfl
      have eF' : Fc k = G' := by show (Gs[k]?).getD [] = G'; rw [e4]; rfl
      rw [eF] at m; rw [eF'] at m'
      rcases kinds e1 e3 with ⟨z, w, n, _⟩ | ⟨z, w, _⟩ | ⟨i, mi, w, g⟩ | ⟨z, _, w, _⟩
      · exact a.sep j k x y G G' hjk e1 e2 e3 e4 z b m m'
      · exact h3 w
      · obtain ⟨s, v', g1, g2, g3, g4, _, x', g6, g7, g8⟩ := ioF mi
        subst g
        rcases kinds e2 e4 with ⟨z, w', n, p⟩ | ⟨z, w', p⟩ | ⟨i', mi', w', g'⟩ | ⟨z, nk, w', p⟩
        · exact (p b m').1 ⟨i, s, g1, m⟩
        · exact (p b m').1 ⟨i, s, g1, by rw [g2]; decide, m⟩
        · obtain ⟨s', _, y1, y2, _, _, _, _⟩ := ioF mi'
          subst g'
          have hne : i ≠ i' := by
            intro e
            subst e
            have nd := c2
            obtain ⟨p1, hp1, q1⟩ := List.getElem_of_mem mi
            obtain ⟨p2, hp2, q2⟩ := List.getElem_of_mem mi'
            have : p1 = p2 := by
              have l1 : p1 < (iv.map (·.2)).length := by simpa using hp1
              have l2 : p2 < (iv.map (·.2)).length := by simpa using hp2
              refine (List.getElem_inj (h₀ := l1) (h₁ := l2) nd).mp ?_
              simp [q1, q2]
            subst this
            rw [q1] at q2
            cases q2
            exact hjk rfl
          exact a.fr.sep i i' s s' hne g1 y1 (by rw [g2]; decide) (.inl g2) b m m'
        · unfold leOk at c3
          cases el : leVars (C.io f) 0 es xs with
          | none =>
            rw [el] at c3
            have : iv = [] := by simpa using c3
            rw [this] at mi; cases mi
          | some lv =>
            rw [el] at c3
            obtain ⟨i', q1, q2⟩ := leVars_mem (C.io f) es xs 0 lv el a.le k y e2 z (by simpa using nk)
            have hne : i ≠ i' := by
              intro e
              subst e
              have := List.all_eq_true.mp c3 _ mi
              simp at this
              exact this q2
            obtain ⟨s', v2, y1, y2, y3, y4, y5⟩ := a.var k i' q1
            rw [e4] at y5; cases y5
            exact a.fr.sep i i' s s' hne g1 y1 (by rw [g2]; decide) (.inl g2) b m m'
      · exact h3 w
  have nbor : ∀ x ∈ argSl (C.io f) 0 xs, x.f ≠ .bor := fun x m => by
    obtain ⟨k, hk, e⟩ := List.getElem_of_mem m
    have h : (argSl (C.io f) 0 xs)[k]? = some x := by rw [List.getElem?_eq_getElem hk, e]
    rw [argSl_at] at h
    cases e2 : xs[k]? with
    | none => rw [e2] at h; simp at h
    | some y =>
      rw [e2] at h; simp at h
      subst h
      obtain ⟨G, e3⟩ := gat e2
      rcases kinds e2 e3 with ⟨_, w, _⟩ | ⟨_, w, _⟩ | ⟨_, _, w, _⟩ | ⟨_, _, w, _⟩ <;> (rw [w]; decide)
  -- what the callee owns, holds
  have ownC : ∀ b, Own ((argSl (C.io f) 0 xs).map some) Fc b → (¬ All ρ1 Fs1 b ∧ (Own ρ Fs b ∨ H b = none)) ∨ ∃ k i, (k, i) ∈ iv ∧ b ∈ Fs1 i := fun b ⟨k, s, h1, h2, h3⟩ => by
    obtain ⟨x, e1, rfl⟩ := slat h1
    obtain ⟨G, e3⟩ := gat e1
    have eF : Fc k = G := by show (Gs[k]?).getD [] = G; rw [e3]; rfl
    rw [eF] at h3
    rcases kinds e1 e3 with ⟨z, w, n, p⟩ | ⟨z, w, _⟩ | ⟨i, mi, w, g⟩ | ⟨z, _, w, _⟩
    · exact .inl (p b h3)
    · rw [w] at h2; cases h2
    · exact .inr ⟨k, i, mi, g ▸ h3⟩
    · rw [w] at h2; cases h2
  have allC : ∀ b, All ((argSl (C.io f) 0 xs).map some) Fc b → (¬ All ρ1 Fs1 b ∧ (Own ρ Fs b ∨ H b = none)) ∨ (∃ k i, (k, i) ∈ iv ∧ b ∈ Fs1 i) ∨ (¬ Exc ρ1 Fs1 b ∧ ShO ρ Fs H b) ∨ (lends (C.io f) 0 xs = true ∧ All ρ1 Fs1 b) := fun b ⟨k, s, h1, h3⟩ => by
    obtain ⟨x, e1, rfl⟩ := slat h1
    obtain ⟨G, e3⟩ := gat e1
    have eF : Fc k = G := by show (Gs[k]?).getD [] = G; rw [e3]; rfl
    rw [eF] at h3
    rcases kinds e1 e3 with ⟨z, w, n, p⟩ | ⟨z, w, p⟩ | ⟨i, mi, w, g⟩ | ⟨z, nk, w, p⟩
    · exact .inl (p b h3)
    · exact .inr (.inr (.inl (p b h3)))
    · exact .inr (.inl ⟨k, i, mi, g ▸ h3⟩)
    · refine .inr (.inr (.inr ⟨?_, p b h3⟩))
      cases q : lends (C.io f) 0 xs with
      | true => rfl
      | false => exact absurd (by simpa using lends_no (C.io f) xs 0 q k x e1 z) nk
  have shrC : lends (C.io f) 0 xs = false → ∀ b, Shr ((argSl (C.io f) 0 xs).map some) Fc b → ShO ρ Fs H b := fun nl b ⟨k, s, h1, h2, h3⟩ => by
    obtain ⟨x, e1, rfl⟩ := slat h1
    obtain ⟨G, e3⟩ := gat e1
    have eF : Fc k = G := by show (Gs[k]?).getD [] = G; rw [e3]; rfl
    rw [eF] at h3
    rcases kinds e1 e3 with ⟨z, w, n, p⟩ | ⟨z, w, p⟩ | ⟨i, mi, w, g⟩ | ⟨z, nk, w, p⟩
    · rw [w] at h2; cases h2
    · exact (p b h3).2
    · rw [w] at h2; cases h2
    · exact absurd (by simpa using lends_no (C.io f) xs 0 nl k x e1 z) nk
  have ioOwn : ∀ {k i : Nat} {b : Addr}, (k, i) ∈ iv → b ∈ Fs1 i → Own ρ1 Fs1 b := fun {k i b} m h => by
    obtain ⟨s, v, z1, z2, _⟩ := ioF m
    exact ⟨i, s, z1, z2, h⟩
  have ownS : ∀ b, Own ((argSl (C.io f) 0 xs).map some) Fc b → Own ρ Fs b ∨ H b = none := fun b h => by
    rcases ownC b h with z | ⟨k, i, m, z⟩
    · exact z.2
    · exact a.st.own b (ioOwn m z)
  have backS : ∀ b, H1 b = none → Own ρ Fs b ∨ H b = none := fun b h => a.st.back h
  refine ⟨hn, _, Fc, fc, nbor, y, fn, hc, fun v H' Fs' F g st tm xb fb => ?_⟩
  have fat : ∀ {k i : Nat}, (k, i) ∈ iv → k < fn.length := fun {k i} m => by
    obtain ⟨s, v, _, _, _, z, _⟩ := ioF m
    have := g.len
    rw [List.length_map] at this
    rw [← this]
    exact (List.getElem?_eq_some_iff.mp z).1
  have isIo : ∀ i, (∃ k, (k, i) ∈ iv) ∨ ∀ k, (k, i) ∉ iv := fun i => by
    by_cases h : ∃ k, (k, i) ∈ iv
    · exact .inl h
    · exact .inr fun k z => h ⟨k, z⟩
  have uniq : ∀ {k k' i : Nat}, (k, i) ∈ iv → (k', i) ∈ iv → k = k' := fun {k k' i} mi mi' => by
    obtain ⟨p1, hp1, q1⟩ := List.getElem_of_mem mi
    obtain ⟨p2, hp2, q2⟩ := List.getElem_of_mem mi'
    have : p1 = p2 := by
      have l1 : p1 < (iv.map (·.2)).length := by simpa using hp1
      have l2 : p2 < (iv.map (·.2)).length := by simpa using hp2
      refine (List.getElem_inj (h₀ := l1) (h₁ := l2) c2).mp ?_
      simp [q1, q2]
    subst this
    rw [q1] at q2
    cases q2
    rfl
  have eSame : ∀ {k i j : Nat}, (k, i) ∈ iv → (k, j) ∈ iv → i = j := fun {k i j} m m' => by
    obtain ⟨ja, xa, ka, _, _, _, ea⟩ := (lim k i).mp m
    obtain ⟨jb, xb, kb, _, _, _, eb⟩ := (lim k j).mp m'
    have e : ja = jb := by omega
    subst e
    rw [ea] at eb
    injection eb with eb
    injection eb
  let F2 : Nat → List Addr := fun i => match iv.find? (fun p => decide (p.2 = i)) with
    | some p => Fs' p.1
    | none => Fs1 i
  have F2io : ∀ {k i : Nat}, (k, i) ∈ iv → F2 i = Fs' k := fun {k i} m => by
    show (match iv.find? (fun p => decide (p.2 = i)) with | some p => Fs' p.1 | none => Fs1 i) = Fs' k
    cases e : iv.find? (fun p => decide (p.2 = i)) with
    | none =>
      have := List.find?_eq_none.mp e _ m
      simp at this
    | some p =>
      have h1 := List.find?_some e
      have h2 := List.mem_of_find?_eq_some e
      obtain ⟨pk, pi⟩ := p
      simp at h1
      subst h1
      rw [uniq h2 m]
  have F2no : ∀ {i : Nat}, (∀ k, (k, i) ∉ iv) → F2 i = Fs1 i := fun {i} n => by
    show (match iv.find? (fun p => decide (p.2 = i)) with | some p => Fs' p.1 | none => Fs1 i) = Fs1 i
    cases e : iv.find? (fun p => decide (p.2 = i)) with
    | none => rfl
    | some p =>
      have h1 := List.find?_some e
      have h2 := List.mem_of_find?_eq_some e
      obtain ⟨pk, pi⟩ := p
      simp at h1
      subst h1
      exact absurd h2 (n _)
  have ilt : ∀ {k i : Nat}, (k, i) ∈ iv → i < ρ1.length := fun {k i} m => by
    obtain ⟨s, v, z, _⟩ := ioF m
    exact (List.getElem?_eq_some_iff.mp z).1
  have r2io : ∀ {k i : Nat}, (k, i) ∈ iv → (putBack fn iv ρ1)[i]? = fn[k]? := fun {k i} m => by
    rw [(putBack_at fn iv ρ1 c2 i).2 k m (ilt m)]
    have := fat m
    rw [List.getElem?_eq_getElem this]
    rfl
  have r2no : ∀ {i : Nat}, (∀ k, (k, i) ∉ iv) → (putBack fn iv ρ1)[i]? = ρ1[i]? := fun {i} n => (putBack_at fn iv ρ1 c2 i).1 n
  -- what the caller held beside
  have apart : ∀ {i : Nat} {s : FD} {b : Addr}, (∀ k, (k, i) ∉ iv) → ρ1[i]? = some (some s) → b ∈ Fs1 i → ¬ Own ((argSl (C.io f) 0 xs).map some) Fc b := fun {i s b} n e m o => by
    rcases ownC b o with z | ⟨k, j, mj, z⟩
    · exact z.1 ⟨i, s, e, m⟩
    · obtain ⟨t, v, z1, z2, _⟩ := ioF mj
      have hne : j ≠ i := fun q => n k (q ▸ mj)
      exact a.fr.sep j i t s hne z1 e (by rw [z2]; decide) (.inl z2) b z m
  have apartX : ∀ {i : Nat} {s : FD} {b : Addr}, (∀ k, (k, i) ∉ iv) → ρ1[i]? = some (some s) → s.f ≠ .shr → b ∈ Fs1 i → lends (C.io f) 0 xs = false → ¬ All ((argSl (C.io f) 0 xs).map some) Fc b := fun {i s b} n e hs m nl o => by
    rcases allC b o with z | ⟨k, j, mj, z⟩ | z | z
    · exact z.1 ⟨i, s, e, m⟩
    · obtain ⟨t, v, z1, z2, _⟩ := ioF mj
      have hne : j ≠ i := fun q => n k (q ▸ mj)
      exact a.fr.sep j i t s hne z1 e (by rw [z2]; decide) (.inl z2) b z m
    · exact z.1 ⟨i, s, e, hs, m⟩
    · rw [nl] at z; cases z.1
  have trk1 : ∀ {i : Nat} {s : FD} {b : Addr}, ρ1[i]? = some (some s) → b ∈ Fs1 i → H1 b ≠ none := fun {i s b} e m => a.fr.all_trk ⟨i, s, e, m⟩
  have finO : ∀ {k i : Nat} {t : FD}, (k, i) ∈ iv → fn[k]? = some (some t) → lends (C.io f) 0 xs = true → t.f = .own := fun {k i t} m e l => by
    rcases cl with z | z
    · rw [l] at z; cases z
    · have := List.all_eq_true.mp z.2 _ m
      unfold ownFin at this
      simp only [e] at this
      simpa using this
  have nb : ∀ {k : Nat} {t : FD}, fn[k]? = some (some t) → t.f ≠ .bor := fun {k t} e => fb _ (List.mem_of_getElem? e) t rfl
  have Fr2 : FR K H' σ (putBack fn iv ρ1) F2 := by
    refine ⟨by rw [putBack_len]; exact a.fr.len, fun i s h => ?_, fun i j s t hij h1 h2 h3 h4 b m m' => ?_⟩
    · rcases isIo i with ⟨k, mk⟩ | n
      · rw [r2io mk] at h
        obtain ⟨v', q1, q2, q3⟩ := g.rep k s h
        obtain ⟨_, w, _, _, z3, z4, _⟩ := ioF mk
        rw [List.getElem?_map, z4] at q1
        simp at q1; subst q1
        exact ⟨w, z3, by rw [F2io mk]; exact q2, by rw [F2io mk]; exact q3⟩
      · rw [r2no n] at h
        obtain ⟨v', q1, q2, q3⟩ := a.fr.rep i s h
        rw [F2no n]
        exact ⟨v', q1, q2.keep (st.kp fc fun b m => apart n h m), q3⟩
    · rcases isIo i with ⟨k, mk⟩ | n
      · rw [r2io mk] at h1
        rw [F2io mk] at m
        have so : s.f = .own := by
          cases e : s.f with
          | own => rfl
          | shr => exact absurd e h3
          | bor => exact absurd e (nb h1)
        rcases isIo j with ⟨k', mk'⟩ | n'
        · rw [r2io mk'] at h2
          rw [F2io mk'] at m'
          have hkk : k ≠ k' := by
            intro e
            subst e
            exact hij (eSame mk mk')
          exact g.sep k k' s t hkk h1 h2 h3 (.inl so) b m m'
        · rw [r2no n'] at h2
          rw [F2no n'] at m'
          rcases st.own b ⟨k, s, h1, so, m⟩ with z | z
          · exact apart n' h2 m' z
          · exact trk1 h2 m' z
      · rw [r2no n] at h1
        rw [F2no n] at m
        rcases isIo j with ⟨k', mk'⟩ | n'
        · rw [r2io mk'] at h2
          rw [F2io mk'] at m'
          cases e : t.f with
          | own =>
            rcases st.own b ⟨k', t, h2, e, m'⟩ with z | z
            · exact apart n h1 m z
            · exact trk1 h1 m z
          | shr =>
            have nl : lends (C.io f) 0 xs = false := by
              cases q : lends (C.io f) 0 xs with
              | false => rfl
              | true => have := finO mk' h2 q; rw [e] at this; cases this
            rcases st.all b ⟨k', t, h2, m'⟩ with z | z
            · exact apartX n h1 h3 m nl z
            · exact trk1 h1 m z
          | bor => exact nb h2 e
        · rw [r2no n'] at h2
          rw [F2no n'] at m'
          exact a.fr.sep i j s t hij h1 h2 h3 h4 b m m'
  have shoC : lends (C.io f) 0 xs = false → ∀ b, ShO ((argSl (C.io f) 0 xs).map some) Fc H1 b → ShO ρ Fs H b := fun nl b z => by
    rcases z with z | z | z
    · exact shrC nl b z
    · exact .inr (ownS b z)
    · exact .inr (backS b z)
  refine k v H' F2 F ⟨Fr2, ⟨fun b u e no => ?_, fun b ⟨i, s, h1, h2, h3⟩ => ?_, fun b ⟨i, s, h1, h3⟩ => ?_, fun b ⟨i, s, h1, h2, h3⟩ => ?_, fun i s h1 h2 => ?_⟩, ⟨tm.rep, fun e => ⟨(tm.own e).1, fun b m => ⟨fun ⟨i, s, h1, h3⟩ => ?_, ?_⟩⟩, fun e b m => ⟨fun ⟨i, s, h1, h2, h3⟩ => ?_, ?_⟩, fun e => absurd e xb⟩, (fun z => (nomatch z)), (fun _ _ z => (nomatch z))⟩
  · refine st.keep b u (a.st.keep b u e no) fun o => ?_
    rcases ownS b o with z | z
    · exact no z
    · rw [z] at e; cases e
  · rcases isIo i with ⟨k, mk⟩ | n
    · rw [r2io mk] at h1
      rw [F2io mk] at h3
      rcases st.own b ⟨k, s, h1, h2, h3⟩ with z | z
      · exact ownS b z
      · exact backS b z
    · rw [r2no n] at h1
      rw [F2no n] at h3
      exact a.st.own b ⟨i, s, h1, h2, h3⟩
  · rcases isIo i with ⟨k, mk⟩ | n
    · rw [r2io mk] at h1
      rw [F2io mk] at h3
      rcases st.all b ⟨k, s, h1, h3⟩ with z | z
      · rcases allC b z with z | ⟨k, j, mj, z⟩ | z | z
        · exact z.2.imp Own.all id
        · exact (a.st.own b (ioOwn mj z)).imp Own.all id
        · exact z.2.all
        · exact a.st.all b z.2
      · exact (backS b z).imp Own.all id
    · rw [r2no n] at h1
      rw [F2no n] at h3
      exact a.st.all b ⟨i, s, h1, h3⟩
  · rcases isIo i with ⟨k, mk⟩ | n
    · rw [r2io mk] at h1
      rw [F2io mk] at h3
      have nl : lends (C.io f) 0 xs = false := by
        cases q : lends (C.io f) 0 xs with
        | false => rfl
        | true => have := finO mk h1 q; rw [h2] at this; cases this
      exact shoC nl b (st.shr b ⟨k, s, h1, h2, h3⟩)
    · rw [r2no n] at h1
      rw [F2no n] at h3
      exact a.st.shr b ⟨i, s, h1, h2, h3⟩
  · rcases isIo i with ⟨k, mk⟩ | n
    · rw [r2io mk] at h1
      exact absurd h2 (nb h1)
    · rw [r2no n] at h1
      rw [F2no n]
      exact a.st.lk i s h1 h2
  · rcases isIo i with ⟨k, mk⟩ | n
    · rw [r2io mk] at h1
      rw [F2io mk] at h3
      exact ((tm.own e).2 b m).1 ⟨k, s, h1, h3⟩
    · rw [r2no n] at h1
      rw [F2no n] at h3
      rcases ((tm.own e).2 b m).2 with z | z
      · exact apart n h1 h3 z
      · exact trk1 h1 h3 z
  · rcases ((tm.own e).2 b m).2 with z | z
    · exact ownS b z
    · exact backS b z
  · have nl : lends (C.io f) 0 xs = false := by
      rcases cl with z | z
      · exact z
      · rw [e] at z; cases z.1
    rcases isIo i with ⟨k, mk⟩ | n
    · rw [r2io mk] at h1
      rw [F2io mk] at h3
      exact (tm.shr e b m).1 ⟨k, s, h1, h2, h3⟩
    · rw [r2no n] at h1
      rw [F2no n] at h3
      rcases (tm.shr e b m).2.all with z | z
      · exact apartX n h1 h2 h3 nl z
      · exact trk1 h1 h3 z
  · have nl : lends (C.io f) 0 xs = false := by
      rcases cl with z | z
      · exact z
      · rw [e] at z; cases z.1
    exact shoC nl b (tm.shr e b m).2
end
end B
/-! BF: locks, paths, changes in place. -/
namespace B
open PySem PySem.Spec L2

/-! ### quiet expressions -/
section
variable {C : Ctx}
mutual
theorem quiet_ev : ∀ (e : E) (t : Bool) (ρ : Rho) (x : FD) (ρ' : Rho), e.quiet = true → ev C t e ρ = some (x, ρ') → ρ' = ρ
  | .var i, t, ρ, x, ρ', _, h => by
    simp only [ev, Option.bind_eq_some_iff, Option.map_eq_some_iff, Prod.mk.injEq] at h
    obtain ⟨_, _, _, _, _, h⟩ := h
    exact h.symm
  | .mv i, t, ρ, x, ρ', q, h => by cases q
  | .fr i, t, ρ, x, ρ', q, h => by cases q
  | .cst c, t, ρ, x, ρ', _, h => by
    simp only [ev] at h
    split at h <;> first | (cases h; done) | skip
    simp only [Option.map_eq_some_iff, Prod.mk.injEq] at h
    obtain ⟨_, _, _, h⟩ := h
    exact h.symm
  | .glob g, t, ρ, x, ρ', _, h => by
    simp only [ev, Option.bind_eq_some_iff, Option.map_eq_some_iff, Prod.mk.injEq] at h
    obtain ⟨_, _, _, _, _, h⟩ := h
    exact h.symm
  | .op o args, t, ρ, x, ρ', q, h => by
    simp only [ev, Option.bind_eq_some_iff, Option.map_eq_some_iff, Prod.mk.injEq] at h
    obtain ⟨⟨xs, ρ1⟩, h1, _, _, _, _, _, h⟩ := h
    exact h ▸ quiet_evL args ρ xs ρ1 q h1
  | .tup args, t, ρ, x, ρ', q, h => by
    simp only [ev] at h
    split at h
    · cases h
    · simp only [Option.bind_eq_some_iff] at h
      obtain ⟨⟨xs, ρ1⟩, h1, f, _, h⟩ := h
      split at h
      · simp only [Option.some.injEq, Prod.mk.injEq] at h
        exact h.2 ▸ quiet_evL args ρ xs ρ1 q h1
      · cases h
  | .lst args, t, ρ, x, ρ', q, h => by
    simp only [ev] at h
    split at h
    · cases h
    · simp only [Option.bind_eq_some_iff] at h
      obtain ⟨⟨xs, ρ1⟩, h1, f, _, h⟩ := h
      split at h
      · simp only [Option.some.injEq, Prod.mk.injEq] at h
        exact h.2 ▸ quiet_evL args ρ xs ρ1 q h1
      · cases h
  | .call f args, t, ρ, x, ρ', q, h => by cases q
  | .dc own k its tg cond key val, t, ρ, x, ρ', q, h => by cases q
  | .bool a args, t, ρ, x, ρ', q, h => by
    simp only [ev] at h
    exact quiet_evB args t a ρ x ρ' q h
  | .not_ e, t, ρ, x, ρ', q, h => by
    simp only [ev, Option.bind_eq_some_iff, Option.map_eq_some_iff, Prod.mk.injEq] at h
    obtain ⟨⟨y, ρ1⟩, h1, _, _, _, h⟩ := h
    exact h ▸ quiet_ev e t ρ y ρ1 q h1
  | .ife c a b, t, ρ, x, ρ', q, h => by
    simp only [E.quiet, Bool.and_eq_true] at q
    simp only [ev] at h
    split at h
    · cases h
    · simp only [Option.bind_eq_some_iff] at h
      obtain ⟨⟨y, ρ1⟩, h1, k, _, h⟩ := h
      have e1 := quiet_ev c true ρ y ρ1 q.1.1 h1
      subst e1
      split at h
      · exact quiet_ev a false _ x ρ' q.1.2 h
      · exact quiet_ev b false _ x ρ' q.2 h
  | .chain o1 o2 a b c, t, ρ, x, ρ', q, h => by
    simp only [E.quiet, Bool.and_eq_true] at q
    simp only [ev, Option.bind_eq_some_iff] at h
    obtain ⟨⟨y, ρ1⟩, h1, _, _, ⟨z, ρ2⟩, h2, _, _, _, _, h⟩ := h
    have e1 := quiet_ev a false ρ y ρ1 q.1.1 h1
    have e2 := quiet_ev b false ρ1 z ρ2 q.1.2 h2
    subst e1
    subst e2
    split at h
    · simp only [Option.bind_eq_some_iff, Option.map_eq_some_iff, Prod.mk.injEq] at h
      obtain ⟨⟨w, ρ3⟩, h3, _, _, _, _, _, h⟩ := h
      exact h ▸ quiet_ev c false _ w ρ3 q.2 h3
    · simp only [Option.some.injEq, Prod.mk.injEq] at h
      exact h.2.symm
  | .mut _ _ _ _, t, ρ, x, ρ', q, h => by cases q
  | .lc _ _ _ _ _ _, t, ρ, x, ρ', q, h => by cases q
  | .dict _ _, t, ρ, x, ρ', q, h => by cases q
  | .kop m g args, t, ρ, x, ρ', q, h => by
    simp only [ev, Option.bind_eq_some_iff, Option.map_eq_some_iff, Prod.mk.injEq] at h
    obtain ⟨_, _, ⟨xs, ρ1⟩, h1, _, _, _, _, _, h⟩ := h
    exact h ▸ quiet_evL args ρ xs ρ1 q h1
theorem quiet_evL : ∀ (es : List E) (ρ : Rho) (xs : List FD) (ρ' : Rho), E.quiet.E.quietL es = true → evL C es ρ = some (xs, ρ') → ρ' = ρ
  | [], ρ, xs, ρ', _, h => by
    simp only [evL, Option.some.injEq, Prod.mk.injEq] at h
    exact h.2.symm
  | e :: es, ρ, xs, ρ', q, h => by
    simp only [E.quiet.E.quietL, Bool.and_eq_true] at q
    by_cases hv : ∃ i, e = .var i
    · obtain ⟨i, rfl⟩ := hv
      simp only [evL, Option.bind_eq_some_iff, Option.map_eq_some_iff, Prod.mk.injEq] at h
      obtain ⟨_, _, ⟨ys, ρ1⟩, h1, _, _, _, h⟩ := h
      exact h ▸ quiet_evL es ρ ys ρ1 q.2 h1
    · rw [evL_cons fun i z => hv ⟨i, z⟩] at h
      simp only [Option.bind_eq_some_iff] at h
      obtain ⟨⟨y, ρ1⟩, h1, h⟩ := h
      have e1 := quiet_ev e false ρ y ρ1 q.1 h1
      subst e1
      split at h
      · cases h
      · simp only [Option.map_eq_some_iff, Prod.mk.injEq] at h
        obtain ⟨⟨ys, ρ2⟩, h2, _, h⟩ := h
        exact h ▸ quiet_evL es _ ys ρ2 q.2 h2
theorem quiet_evB : ∀ (es : List E) (t a : Bool) (ρ : Rho) (x : FD) (ρ' : Rho), E.quiet.E.quietL es = true → evB C t a es ρ = some (x, ρ') → ρ' = ρ
  | [], t, a, ρ, x, ρ', q, h => by
    simp only [evB] at h
    split at h
    · simp only [Option.some.injEq, Prod.mk.injEq] at h
      exact h.2.symm
    · cases h
  | [e], t, a, ρ, x, ρ', q, h => by
    simp only [E.quiet.E.quietL, Bool.and_eq_true] at q
    simp only [evB] at h
    exact quiet_ev e t ρ x ρ' q.1 h
  | e :: e2 :: es, t, a, ρ, x, ρ', q, h => by
    simp only [E.quiet.E.quietL, Bool.and_eq_true] at q
    simp only [evB, Option.bind_eq_some_iff] at h
    obtain ⟨⟨y, ρ1⟩, h1, b, _, h⟩ := h
    have e1 := quiet_ev e t ρ y ρ1 q.1 h1
    subst e1
    split at h
    · exact quiet_evB (e2 :: es) t a _ x ρ' (by simp only [E.quiet.E.quietL, Bool.and_eq_true]; exact q.2) h
    · simp only [Option.some.injEq, Prod.mk.injEq] at h
      exact h.2.symm
end
theorem evL_one {e : E} {es : List E} {ρ : Rho} {xs : List FD} {ρ' : Rho} (q : E.quiet.E.quietL (e :: es) = true) (h : evL C (e :: es) ρ = some (xs, ρ')) :
    ∃ x ys, xs = x :: ys ∧ evL C [e] ρ = some ([x], ρ) ∧ evL C es ρ = some (ys, ρ) ∧ ρ' = ρ := by
  have e0 := quiet_evL (e :: es) ρ xs ρ' q h
  simp only [E.quiet.E.quietL, Bool.and_eq_true] at q
  by_cases hv : ∃ i, e = .var i
  · obtain ⟨i, rfl⟩ := hv
    simp only [evL, Option.bind_eq_some_iff, Option.map_eq_some_iff, Prod.mk.injEq] at h
    obtain ⟨x0, g0, ⟨ys, ρ1⟩, h1, x, h2, h3, h4⟩ := h
    have e1 := quiet_evL es ρ ys ρ1 q.2 h1
    subst e1
    refine ⟨x, ys, h3.symm, ?_, h1, e0⟩
    simp only [evL, Option.bind_some, g0, Option.map_some]
    rw [g0] at h2
    cases h2
    rfl
  · rw [evL_cons fun i z => hv ⟨i, z⟩] at h
    simp only [Option.bind_eq_some_iff] at h
    obtain ⟨⟨y, ρ1⟩, h1, h⟩ := h
    have e1 := quiet_ev e false ρ y ρ1 q.1 h1
    subst e1
    split at h
    · cases h
    · simp only [Option.map_eq_some_iff, Prod.mk.injEq] at h
      obtain ⟨⟨ys, ρ2⟩, h2, h3, h4⟩ := h
      have e2 := quiet_evL es _ ys ρ2 q.2 h2
      subst e2
      refine ⟨y, ys, h3.symm, ?_, h2, e0⟩
      rw [evL_cons fun i z => hv ⟨i, z⟩, h1]
      show (if y.f = .bor ∧ E.quiet.E.quietL [] = false then none else (evL C [] _).map fun q => (y :: q.1, q.2)) = _
      rw [if_neg (by simp [E.quiet.E.quietL])]
      simp only [evL, Option.map_some]
end

/-! ### locks -/
section
variable {K : PySem.W.Frag} {H H' H1 H2 H3 : Hp} {σ : L2.St} {ρ ρ' ρ0 ρ1 ρ2 : Rho} {Fs Fs' Fs1 Fs2 : Nat → List Addr}
theorem ownAt_some {i : Nat} (h : ownAt ρ i = true) : ∃ s, ρ[i]? = some (some s) ∧ s.f = .own := by
  unfold ownAt at h
  split at h
  · rename_i s e
    exact ⟨s, e, by simpa using h⟩
  · cases h
theorem owned_own {is : List Nat} {i : Nat} (h : i ∈ owned is ρ) : ownAt ρ i = true := by
  unfold owned at h
  have h2 : i ∈ is.filter (ownAt ρ) := List.mem_eraseDups.mp h
  exact (List.mem_filter.mp h2).2
theorem lock_at : ∀ (is : List Nat) (ρ : Rho) (i : Nat), (lock is ρ)[i]? = match ρ[i]? with
    | some (some s) => if i ∈ is ∧ s.f = .own then some (some ⟨.bor, s.d⟩) else some (some s)
    | r => r
  | [], ρ, i => by
    show ρ[i]? = _
    split
    · rename_i s e; simp [e]
    · rfl
  | j :: is, ρ, i => by
    have ih := lock_at is (match ρ[j]? with
      | some (some s) => if s.f = .own then ρ.set j (some ⟨.bor, s.d⟩) else ρ
      | _ => ρ) i
    show (lock is (match ρ[j]? with
      | some (some s) => if s.f = .own then ρ.set j (some ⟨.bor, s.d⟩) else ρ
      | _ => ρ))[i]? = _
    rw [ih]
    cases ej : ρ[j]? with
    | none =>
      simp only
      cases ei : ρ[i]? with
      | none => rfl
      | some r =>
        cases r with
        | none => rfl
        | some s =>
          have : i ≠ j := fun z => by rw [z, ej] at ei; cases ei
          simp [this]
    | some r =>
      cases r with
      | none =>
        simp only
        cases ei : ρ[i]? with
        | none => rfl
        | some r =>
          cases r with
          | none => rfl
          | some s =>
            have : i ≠ j := fun z => by rw [z, ej] at ei; cases ei
            simp [this]
      | some t =>
        simp only
        by_cases ho : t.f = .own
        · rw [if_pos ho]
          by_cases hij : i = j
          · subst hij
            have hl : i < ρ.length := (List.getElem?_eq_some_iff.mp ej).1
            rw [List.getElem?_set_self hl, ej]
            simp [ho]
          · rw [List.getElem?_set_ne (Ne.symm hij)]
            cases ei : ρ[i]? with
            | none => rfl
            | some r =>
              cases r with
              | none => rfl
              | some s => simp [hij]
        · rw [if_neg ho]
          cases ei : ρ[i]? with
          | none => rfl
          | some r =>
            cases r with
            | none => rfl
            | some s =>
              by_cases hij : i = j
              · subst hij
                rw [ej] at ei; cases ei
                simp [ho]
              · simp [hij]
theorem unlock_at : ∀ (is : List Nat) (ρ : Rho) (i : Nat), (unlock is ρ)[i]? = match ρ[i]? with
    | some (some s) => if i ∈ is ∧ s.f = .bor then some (some ⟨.own, s.d⟩) else some (some s)
    | r => r
  | [], ρ, i => by
    show ρ[i]? = _
    split
    · rename_i s e; simp [e]
    · rfl
  | j :: is, ρ, i => by
    have ih := unlock_at is (match ρ[j]? with
      | some (some s) => if s.f = .bor then ρ.set j (some ⟨.own, s.d⟩) else ρ
      | _ => ρ) i
    show (unlock is (match ρ[j]? with
      | some (some s) => if s.f = .bor then ρ.set j (some ⟨.own, s.d⟩) else ρ
      | _ => ρ))[i]? = _
    rw [ih]
    cases ej : ρ[j]? with
    | none =>
      simp only
      cases ei : ρ[i]? with
      | none => rfl
      | some r =>
        cases r with
        | none => rfl
        | some s =>
          have : i ≠ j := fun z => by rw [z, ej] at ei; cases ei
          simp [this]
    | some r =>
      cases r with
      | none =>
        simp only
        cases ei : ρ[i]? with
        | none => rfl
        | some r =>
          cases r with
          | none => rfl
          | some s =>
            have : i ≠ j := fun z => by rw [z, ej] at ei; cases ei
            simp [this]
      | some t =>
        simp only
        by_cases ho : t.f = .bor
        · rw [if_pos ho]
          by_cases hij : i = j
          · subst hij
            have hl : i < ρ.length := (List.getElem?_eq_some_iff.mp ej).1
            rw [List.getElem?_set_self hl, ej]
            simp [ho]
          · rw [List.getElem?_set_ne (Ne.symm hij)]
            cases ei : ρ[i]? with
            | none => rfl
            | some r =>
              cases r with
              | none => rfl
              | some s => simp [hij]
        · rw [if_neg ho]
          cases ei : ρ[i]? with
          | none => rfl
          | some r =>
            cases r with
            | none => rfl
            | some s =>
              by_cases hij : i = j
              · subst hij
                rw [ej] at ei; cases ei
                simp [ho]
              · simp [hij]
theorem lock_len : ∀ (is : List Nat) (ρ : Rho), (lock is ρ).length = ρ.length
  | [], ρ => rfl
  | j :: is, ρ => by
    show (lock is _).length = _
    rw [lock_len is]
    dsimp only
    split
    · split
      · simp
      · rfl
    · rfl
theorem unlock_len : ∀ (is : List Nat) (ρ : Rho), (unlock is ρ).length = ρ.length
  | [], ρ => rfl
  | j :: is, ρ => by
    show (unlock is _).length = _
    rw [unlock_len is]
    dsimp only
    split
    · split
      · simp
      · rfl
    · rfl
/-- a slot of a locked frame -/
theorem lock_slot {is : List Nat} {i : Nat} {s : FD} (h : (lock is ρ)[i]? = some (some s)) : ∃ t, ρ[i]? = some (some t) ∧ s.d = t.d ∧ ((i ∈ is ∧ t.f = .own ∧ s.f = .bor) ∨ (s = t ∧ ¬ (i ∈ is ∧ t.f = .own))) := by
  rw [lock_at] at h
  split at h
  · rename_i t e
    split at h
    · rename_i q
      simp at h
      subst h
      exact ⟨t, e, rfl, .inl ⟨q.1, q.2, rfl⟩⟩
    · rename_i q
      simp at h
      subst h
      exact ⟨t, e, rfl, .inr ⟨rfl, q⟩⟩
  · rename_i n
    exact absurd h (n s)
theorem unlock_slot {is : List Nat} {i : Nat} {s : FD} (h : (unlock is ρ)[i]? = some (some s)) : ∃ t, ρ[i]? = some (some t) ∧ s.d = t.d ∧ ((i ∈ is ∧ t.f = .bor ∧ s.f = .own) ∨ (s = t ∧ ¬ (i ∈ is ∧ t.f = .bor))) := by
  rw [unlock_at] at h
  split at h
  · rename_i t e
    split at h
    · rename_i q
      simp at h
      subst h
      exact ⟨t, e, rfl, .inl ⟨q.1, q.2, rfl⟩⟩
    · rename_i q
      simp at h
      subst h
      exact ⟨t, e, rfl, .inr ⟨rfl, q⟩⟩
  · rename_i n
    exact absurd h (n s)
theorem FR.lock (f : FR K H σ ρ Fs) (is : List Nat) : FR K H σ (lock is ρ) Fs := by
  refine ⟨by rw [lock_len]; exact f.len, fun i s h => ?_, fun i j s t hij h1 h2 h3 h4 b m => ?_⟩
  · obtain ⟨t, e, d, q⟩ := lock_slot h
    obtain ⟨v, h1, r, n⟩ := f.rep i t e
    refine ⟨v, h1, ?_⟩
    rcases q with ⟨_, o, z⟩ | ⟨z, _⟩
    · have e1 : s.o = false := by unfold FD.o; rw [z]; rfl
      rw [e1, d]
      exact ⟨r.low, fun y => by rw [z] at y; cases y⟩
    · subst z
      exact ⟨r, n⟩
  · obtain ⟨s', e1, d1, q1⟩ := lock_slot h1
    obtain ⟨t', e2, d2, q2⟩ := lock_slot h2
    rcases q1 with ⟨_, o, z⟩ | ⟨z, _⟩
    · exact f.sep i j s' t' hij e1 e2 (by rw [o]; decide) (.inl o) b m
    · subst z
      rcases h4 with h4 | h4
      · exact f.sep i j _ t' hij e1 e2 h3 (.inl h4) b m
      · rcases q2 with ⟨_, o2, z2⟩ | ⟨z2, _⟩
        · exact absurd z2 h4
        · subst z2
          exact f.sep i j _ _ hij e1 e2 h3 (.inr h4) b m
theorem lock_own {is : List Nat} {b : Addr} (h : Own (lock is ρ) Fs b) : Own ρ Fs b := by
  obtain ⟨i, s, h1, h2, h3⟩ := h
  obtain ⟨t, e, d, q⟩ := lock_slot h1
  rcases q with ⟨_, o, z⟩ | ⟨z, _⟩
  · rw [z] at h2; cases h2
  · subst z; exact ⟨i, _, e, h2, h3⟩
theorem lock_all {is : List Nat} {b : Addr} (h : All (lock is ρ) Fs b) : All ρ Fs b := by
  obtain ⟨i, s, h1, h3⟩ := h
  obtain ⟨t, e, d, q⟩ := lock_slot h1
  exact ⟨i, t, e, h3⟩
/-- what is locked is kept -/
theorem lock_kp (f : FR K H σ ρ Fs) {is : List Nat} (st : Stp (lock is ρ) Fs H ρ' Fs' H') {i : Nat} {s : FD} (hi : i ∈ is) (e : ρ[i]? = some (some s)) (o : s.f = .own) : Kp H H' (Fs i) :=
  st.kp (f.lock is) fun b m ⟨j, t, h1, h2, h3⟩ => by
    obtain ⟨t', e', d, q⟩ := lock_slot h1
    rcases q with ⟨_, _, z⟩ | ⟨z, n⟩
    · rw [z] at h2; cases h2
    · subst z
      have hij : i ≠ j := fun z => n ⟨z ▸ hi, h2⟩
      exact f.sep i j s _ hij e e' (by rw [o]; decide) (.inl o) b m h3
theorem FR.unlock (f0 : FR K H σ ρ Fs) {is : List Nat} (ow : ∀ i ∈ is, ownAt ρ i = true) (lk : ∀ i s, ρ'[i]? = some (some s) → s.f = .bor → (B.lock is ρ)[i]? = some (some s) ∧ Fs' i = Fs i)
    (kp : ∀ i ∈ is, Kp H H' (Fs i)) (f : FR K H' σ' ρ' Fs') (hσ : ∀ i ∈ is, ∀ s, ρ'[i]? = some (some s) → s.f = .bor → σ'[i]? = σ[i]?) : FR K H' σ' (unlock is ρ') Fs' := by
  have back : ∀ {i : Nat} {t : FD}, i ∈ is → ρ'[i]? = some (some t) → t.f = .bor → ∃ s, ρ[i]? = some (some s) ∧ s.f = .own ∧ s.d = t.d ∧ Fs' i = Fs i := fun {i t} hi e hb => by
    obtain ⟨e1, e2⟩ := lk i t e hb
    obtain ⟨s, z1, z2⟩ := ownAt_some (ow i hi)
    obtain ⟨s', y1, y2, y3⟩ := lock_slot e1
    rw [z1] at y1; cases y1
    exact ⟨s, z1, z2, y2.symm, e2⟩
  have bor : ∀ {j : Nat} {t : FD}, ρ'[j]? = some (some t) → t.f = .bor → ∃ s, ρ[j]? = some (some s) ∧ Fs' j = Fs j := fun {j t} e hb => by
    obtain ⟨e1, e2⟩ := lk j t e hb
    obtain ⟨s', y1, y2, y3⟩ := lock_slot e1
    exact ⟨s', y1, e2⟩
  refine ⟨by rw [unlock_len]; exact f.len, fun i s h => ?_, fun i j s t hij h1 h2 h3 h4 b m m' => ?_⟩
  · obtain ⟨t, e, d, q⟩ := unlock_slot h
    rcases q with ⟨hi, hb, z⟩ | ⟨z, _⟩
    · obtain ⟨s0, z1, z2, z3, z4⟩ := back hi e hb
      obtain ⟨v, h1, r, n⟩ := f0.rep i s0 z1
      refine ⟨v, by rw [hσ i hi t e hb]; exact h1, ?_, fun _ => by rw [z4]; exact n z2⟩
      rw [z4, d, ← z3]
      have e1 : s.o = s0.o := by unfold FD.o; rw [z, z2]
      rw [e1]
      exact r.keep (kp i hi)
    · subst z
      exact f.rep i _ e
  · obtain ⟨s', e1, d1, q1⟩ := unlock_slot h1
    obtain ⟨t', e2, d2, q2⟩ := unlock_slot h2
    rcases q1 with ⟨hi, hb, z⟩ | ⟨z, n1⟩
    · obtain ⟨s0, z1, z2, z3, z4⟩ := back hi e1 hb
      cases ht : t'.f with
      | own => exact f.sep j i t' s' (Ne.symm hij) e2 e1 (by rw [ht]; decide) (.inl ht) b m' m
      | shr => exact f.sep i j s' t' hij e1 e2 (by rw [hb]; decide) (.inr (by rw [ht]; decide)) b m m'
      | bor =>
        obtain ⟨t0, y1, y2⟩ := bor e2 ht
        rw [z4] at m; rw [y2] at m'
        exact f0.sep i j s0 t0 hij z1 y1 (by rw [z2]; decide) (.inl z2) b m m'
    · subst z
      rcases q2 with ⟨hj, hb, z⟩ | ⟨z, n2⟩
      · obtain ⟨t0, z1, z2, z3, z4⟩ := back hj e2 hb
        cases hs : s.f with
        | own => exact f.sep i j s t' hij e1 e2 (by rw [hs]; decide) (.inl hs) b m m'
        | shr => exact h3 hs
        | bor =>
          obtain ⟨s0, y1, y2⟩ := bor e1 hs
          rw [z4] at m'; rw [y2] at m
          exact f0.sep j i t0 s0 (Ne.symm hij) z1 y1 (by rw [z2]; decide) (.inl z2) b m' m
      · subst z
        exact f.sep i j _ _ hij e1 e2 h3 h4 b m m'
theorem lock_shr {is : List Nat} {b : Addr} (h : Shr (B.lock is ρ) Fs b) : Shr ρ Fs b := by
  obtain ⟨i, s, h1, h2, h3⟩ := h
  obtain ⟨t, e, d, q⟩ := lock_slot h1
  rcases q with ⟨_, o, z⟩ | ⟨z, _⟩
  · rw [z] at h2; cases h2
  · subst z; exact ⟨i, _, e, h2, h3⟩
theorem Stp.unlock {is : List Nat} (ow : ∀ i ∈ is, ownAt ρ i = true) (st : Stp (B.lock is ρ) Fs H ρ' Fs' H') : Stp ρ Fs H (unlock is ρ') Fs' H' := by
  refine ⟨fun a u e n => st.keep a u e fun o => n (lock_own o), fun a ⟨i, s, h1, h2, h3⟩ => ?_, fun a ⟨i, s, h1, h3⟩ => ?_, fun a ⟨i, s, h1, h2, h3⟩ => ?_, fun i s h1 h2 => ?_⟩
  · obtain ⟨t, e, d, q⟩ := unlock_slot h1
    rcases q with ⟨hi, hb, z⟩ | ⟨z, _⟩
    · obtain ⟨e1, e2⟩ := st.lk i t e hb
      obtain ⟨s0, z1, z2⟩ := ownAt_some (ow i hi)
      rw [e2] at h3
      exact .inl ⟨i, s0, z1, z2, h3⟩
    · subst z
      exact (st.own a ⟨i, _, e, h2, h3⟩).imp lock_own id
  · obtain ⟨t, e, d, q⟩ := unlock_slot h1
    exact (st.all a ⟨i, t, e, h3⟩).imp lock_all id
  · obtain ⟨t, e, d, q⟩ := unlock_slot h1
    rcases q with ⟨hi, hb, z⟩ | ⟨z, _⟩
    · rw [z] at h2; cases h2
    · subst z
      rcases st.shr a ⟨i, _, e, h2, h3⟩ with z | z | z
      · exact .inl (lock_shr z)
      · exact .inr (.inl (lock_own z))
      · exact .inr (.inr z)
  · obtain ⟨t, e, d, q⟩ := unlock_slot h1
    rcases q with ⟨hi, hb, z⟩ | ⟨z, n⟩
    · rw [z] at h2; cases h2
    · subst z
      obtain ⟨e1, e2⟩ := st.lk i _ e h2
      refine ⟨?_, e2⟩
      obtain ⟨s', y1, y2, y3⟩ := lock_slot e1
      rcases y3 with ⟨y3, _⟩ | ⟨y3, _⟩
      · exact absurd ⟨y3, h2⟩ n
      · subst y3; exact y1

/-! ### a tree with a part exchanged -/
theorem Reps.split {o : Bool} : ∀ {F : List Addr} {vs : List V} {ds : List D}, Reps K H o F vs ds → ∀ {j : Nat} {d : D}, ds[j]? = some d → ∃ A G B v, F = A ++ (G ++ B) ∧ vs[j]? = some v ∧ Rep K H o G v d ∧
    ∀ H2 G' w c', Kp H H2 (A ++ B) → Rep K H2 o G' w c' → Reps K H2 o (A ++ (G' ++ B)) (vs.set j w) (ds.set j c')
  | _, _, _, .nil, j, d, h => by simp at h
  | _, _, _, .cons (F := F) (G := G) r t, 0, d, h => by
    simp at h; subst h
    refine ⟨[], F, G, _, rfl, rfl, r, fun H2 G' w c' k q => ?_⟩
    show Reps K H2 o (G' ++ G) _ _
    exact .cons q (t.keep (k.mono fun a m => by simpa using m))
  | _, _, _, .cons (F := F) (G := G) r t, j + 1, d, h => by
    obtain ⟨A, Gc, B, v, e, h1, h2, h3⟩ := Reps.split t (j := j) (d := d) (by simpa using h)
    subst e
    refine ⟨F ++ A, Gc, B, v, by rw [List.append_assoc], by simpa using h1, h2, fun H2 G' w c' k q => ?_⟩
    rw [List.append_assoc]
    exact .cons (r.keep (k.mono fun a m => by simp [m])) (h3 H2 G' w c' (k.mono fun a m => by
      rcases List.mem_append.mp m with m | m <;> simp [m]) q)
theorem find_split {κ : Type} [DecidableEq κ] : ∀ {kds : List (κ × D)} {k : κ} {d : D}, lookD kds k = some d → ∃ (j : Nat), kds[j]? = some (k, d)
  | [], k, d, h => by simp [lookD] at h
  | q :: qs, k, d, h => by
    unfold lookD at h
    rw [List.find?_cons] at h
    by_cases z : q.1 = k
    · rw [decide_eq_true z] at h
      simp at h; subst h; subst z
      exact ⟨0, rfl⟩
    · rw [decide_eq_false z] at h
      obtain ⟨j, e⟩ := find_split (kds := qs) (k := k) (d := d) h
      exact ⟨j + 1, by simpa using e⟩
theorem map_if_set {κ β : Type} [DecidableEq κ] : ∀ {kds : List (κ × β)} {k : κ} {d w : β} {j : Nat}, (kds.map (·.1)).Nodup → kds[j]? = some (k, d) → (kds.map fun kv => if kv.1 = k then (kv.1, w) else kv) = kds.set j (k, w)
  | [], k, d, w, j, _, h => by simp at h
  | q :: qs, k, d, w, 0, nd, h => by
    simp at h; subst h
    rw [List.map_cons, List.nodup_cons] at nd
    rw [List.map_cons, if_pos rfl, List.set_cons_zero]
    congr 1
    have : ∀ x ∈ qs, (if x.1 = k then (x.1, w) else x) = x := fun x m => if_neg fun e => nd.1 (List.mem_map.mpr ⟨x, m, e⟩)
    calc qs.map (fun kv => if kv.1 = k then (kv.1, w) else kv) = qs.map id := List.map_congr_left this
      _ = qs := List.map_id qs
  | q :: qs, k, d, w, j + 1, nd, h => by
    rw [List.map_cons, List.nodup_cons] at nd
    have h' : qs[j]? = some (k, d) := by simpa using h
    rw [List.map_cons, List.set_cons_succ, map_if_set nd.2 h']
    congr 1
    refine if_neg fun e => nd.1 ?_
    rw [e]
    exact List.mem_map.mpr ⟨_, List.mem_of_getElem? h', rfl⟩
theorem any_of_at {κ β : Type} [DecidableEq κ] {kds : List (κ × β)} {k : κ} {d : β} {j : Nat} (h : kds[j]? = some (k, d)) : (kds.any fun kv => decide (kv.1 = k)) = true :=
  List.any_eq_true.mpr ⟨_, List.mem_of_getElem? h, by simp⟩
theorem set_keys {κ β : Type} {kds : List (κ × β)} {k : κ} {d w : β} {j : Nat} (h : kds[j]? = some (k, d)) : (kds.set j (k, w)).map (·.1) = kds.map (·.1) := by
  rw [List.map_set]
  apply List.ext_getElem? fun i => ?_
  rw [List.getElem?_set]
  split
  · rename_i e
    subst e
    rw [List.getElem?_map, h]
    have hl : j < kds.length := (List.getElem?_eq_some_iff.mp h).1
    simp [hl]
  · rfl
theorem set_same {α : Type} {l : List α} {j : Nat} {v : α} (h : l[j]? = some v) : l.set j v = l := by
  obtain ⟨hl, e⟩ := List.getElem?_eq_some_iff.mp h
  subst e
  exact List.set_getElem_self hl

/-! ### the way along a path -/
def stepV (H : Hp) (v : V) (k : D) : Option V := match v with
  | .ref a => (match H a with
    | some (.lst vs) => (intD k).bind fun i => (ixN vs.length i).bind fun j => vs[j]?
    | some (.dK kvs) => (D.key k).bind fun k => valV kvs k
    | _ => none)
  | _ => none
def leadV (H : Hp) : List D → V → Option V
  | [], v => some v
  | k :: ks, v => (stepV H v k).bind (leadV H ks)
theorem leadV_snoc : ∀ (ks : List D) (k : D) (v : V), leadV H (ks ++ [k]) v = (leadV H ks v).bind fun w => stepV H w k
  | [], k, v => by
    simp only [List.nil_append, leadV, Option.bind_some]
    cases stepV H v k <;> rfl
  | k0 :: ks, k, v => by
    simp only [List.cons_append, leadV, Option.bind_assoc]
    congr 1
    funext w
    exact leadV_snoc ks k w
theorem getP_snoc : ∀ (ks : List D) (k : D) (d : D), getP (ks ++ [k]) d = (getP ks d).bind fun c => stepD c k
  | [], k, d => by
    simp only [List.nil_append, getP, Option.bind_some]
    cases stepD d k <;> rfl
  | k0 :: ks, k, d => by
    simp only [List.cons_append, getP, Option.bind_assoc]
    congr 1
    funext w
    exact getP_snoc ks k w
theorem step_rep {F : List Addr} {v : V} {d k c : D} (r : Rep K H true F v d) (h : stepD d k = some c) : ∃ w G, stepV H v k = some w ∧ Rep K H true G w c ∧ G.Sublist F := by
  unfold stepD at h
  split at h
  · simp only [Option.bind_eq_some_iff] at h
    obtain ⟨i, e1, j, e2, h⟩ := h
    obtain ⟨a, vs, G1, rfl, _, s1, e, o⟩ := rep_lst r
    obtain ⟨w, G, z1, z2, z3⟩ := s1.at_ h
    refine ⟨w, G, ?_, z2, e ▸ z3.trans (List.sublist_cons_self _ _)⟩
    simp only [stepV, o rfl, e1, Option.bind_some, s1.length, e2]
    exact z1
  · simp only [Option.bind_eq_some_iff] at h
    obtain ⟨key, e1, h⟩ := h
    obtain ⟨a, ws, G1, rfl, _, e2, s1, e, o, _⟩ := rep_dK r
    obtain ⟨w, G, z1, z2, z3⟩ := lookD_at e2 s1 h
    refine ⟨w, G, ?_, z2, e ▸ z3.trans (List.sublist_cons_self _ _)⟩
    simp only [stepV, o rfl, e1, Option.bind_some]
    exact z1
  · cases h
theorem lead_rep : ∀ (ks : List D) {F : List Addr} {v : V} {d c : D}, Rep K H true F v d → getP ks d = some c → ∃ w G, leadV H ks v = some w ∧ Rep K H true G w c ∧ G.Sublist F
  | [], F, v, d, c, r, h => by
    simp only [getP, Option.some.injEq] at h
    subst h
    exact ⟨v, F, rfl, r, List.Sublist.refl _⟩
  | k :: ks, F, v, d, c, r, h => by
    simp only [getP, Option.bind_eq_some_iff] at h
    obtain ⟨c1, h1, h2⟩ := h
    obtain ⟨w1, G1, e1, r1, s1⟩ := step_rep r h1
    obtain ⟨w, G, e2, r2, s2⟩ := lead_rep ks r1 h2
    exact ⟨w, G, by simp only [leadV, e1, Option.bind_some]; exact e2, r2, s2.trans s1⟩
/-- a changed part, seen from the root -/
theorem modP_rep {α : Type} {g : D → Option (D × α)} : ∀ (ks : List D) {F : List Addr} {v : V} {d d' : D} {r : α}, Rep K H true F v d → modP g ks d = some (d', r) →
    ∃ c c' w A Gc B, getP ks d = some c ∧ g c = some (c', r) ∧ leadV H ks v = some w ∧ F = A ++ (Gc ++ B) ∧ Rep K H true Gc w c ∧ ∀ H2 G', Kp H H2 (A ++ B) → Rep K H2 true G' w c' → Rep K H2 true (A ++ (G' ++ B)) v d'
  | [], F, v, d, d', r, h, m => by
    simp only [modP] at m
    exact ⟨d, d', v, [], F, [], rfl, m, rfl, by simp, h, fun H2 G' _ q => by simpa using q⟩
  | k :: ks, F, v, d, d', r, h, m => by
    unfold modP at m
    split at m
    · rename_i heq
      cases heq
    · rename_i k' ks' xs heq
      cases heq
      simp only [Option.bind_eq_some_iff, Option.map_eq_some_iff] at m
      obtain ⟨i, e1, j, e2, c1, e3, ⟨c1', r'⟩, e4, e5⟩ := m
      simp only [Prod.mk.injEq] at e5
      obtain ⟨rfl, rfl⟩ := e5
      obtain ⟨a, vs, G1, rfl, _, s1, e, o⟩ := rep_lst h
      obtain ⟨A1, Gj, B1, w1, f1, f2, f3, f4⟩ := s1.split e3
      obtain ⟨c, c', w, A, Gc, B, h1, h2, h3, h4, h5, h6⟩ := modP_rep ks f3 e4
      subst e f1 h4
      refine ⟨c, c', w, a :: (A1 ++ A), Gc, B ++ B1, ?_, h2, ?_, by simp, h5, fun H2 G' kp q => ?_⟩
      · simp only [getP, stepD, e1, e2, Option.bind_some, e3]
        exact h1
      · simp only [leadV, stepV, o rfl, e1, Option.bind_some, s1.length, e2, f2]
        exact h3
      · have r1 := h6 H2 G' (kp.mono fun b mb => by
          rcases List.mem_append.mp mb with mb | mb <;> simp [mb]) q
        have r2 := f4 H2 _ w1 c1' (kp.mono fun b mb => by
          rcases List.mem_append.mp mb with mb | mb <;> simp [mb]) r1
        rw [set_same f2] at r2
        have r3 : Rep K H2 true (a :: (A1 ++ ((A ++ (G' ++ B)) ++ B1))) (.ref a) (.lst (xs.set j c1')) := .lst (by
          unfold At; rw [if_pos rfl]; exact kp a _ (o rfl) (.inl (by simp))) r2
        simpa using r3
    · rename_i k' ks' kvs heq
      cases heq
      simp only [Option.bind_eq_some_iff, Option.map_eq_some_iff] at m
      obtain ⟨key, e1, c1, e3, ⟨c1', r'⟩, e4, e5⟩ := m
      simp only [Prod.mk.injEq] at e5
      obtain ⟨rfl, rfl⟩ := e5
      obtain ⟨a, ws, G1, rfl, _, e2, s1, e, o, nd⟩ := rep_dK h
      obtain ⟨j, ej⟩ := find_split e3
      obtain ⟨A1, Gj, B1, w1, f1, f2, f3, f4⟩ := s1.split (j := j) (d := c1) (by rw [List.getElem?_map, ej]; rfl)
      obtain ⟨wl, Gl, z1, z2, z3⟩ := lookD_at e2 s1 e3
      have hw : ws[j]? = some (key, w1) := by
        have k1 : (ws.map (·.1))[j]? = some key := by rw [e2, List.getElem?_map, ej]; rfl
        rw [List.getElem?_map] at k1 f2
        cases q : ws[j]? with
        | none => rw [q] at k1; cases k1
        | some p =>
          rw [q] at k1 f2
          obtain ⟨p1, p2⟩ := p
          simp at k1 f2
          rw [k1, f2]
      have nw : (ws.map (·.1)).Nodup := by rw [e2]; exact nd
      have hv : valV ws key = some w1 := by
        have all : ∀ {l : List (Key × V)} {j : Nat}, (l.map (·.1)).Nodup → l[j]? = some (key, w1) → valV l key = some w1 := by
          intro l
          induction l with
          | nil => intro j _ h; simp at h
          | cons p l ih =>
            intro j nd h
            rw [List.map_cons, List.nodup_cons] at nd
            cases j with
            | zero => simp at h; subst h; exact valV_pos rfl
            | succ j =>
              have h' : l[j]? = some (key, w1) := by simpa using h
              rw [valV_neg fun e => nd.1 (by rw [e]; exact List.mem_map.mpr ⟨_, List.mem_of_getElem? h', rfl⟩)]
              exact ih nd.2 h'
        exact all nw hw
      obtain ⟨c, c', w, A, Gc, B, h1, h2, h3, h4, h5, h6⟩ := modP_rep ks f3 e4
      subst e f1 h4
      refine ⟨c, c', w, a :: (A1 ++ A), Gc, B ++ B1, ?_, h2, ?_, by simp, h5, fun H2 G' kp q => ?_⟩
      · simp only [getP, stepD, e1, Option.bind_some, e3]
        exact h1
      · simp only [leadV, stepV, o rfl, e1, Option.bind_some, hv]
        exact h3
      · have r1 := h6 H2 G' (kp.mono fun b mb => by
          rcases List.mem_append.mp mb with mb | mb <;> simp [mb]) q
        have r2 := f4 H2 _ w1 c1' (kp.mono fun b mb => by
          rcases List.mem_append.mp mb with mb | mb <;> simp [mb]) r1
        rw [set_same f2] at r2
        have ep : putD kvs key c1' = kvs.set j (key, c1') := by
          unfold putD
          rw [if_pos (any_of_at ej)]
          exact map_if_set nd ej
        have r3 : Rep K H2 true (a :: (A1 ++ ((A ++ (G' ++ B)) ++ B1))) (.ref a) (.dK (putD kvs key c1')) := by
          refine .dK (by unfold At; rw [if_pos rfl]; exact kp a _ (o rfl) (.inl (by simp))) ?_ ?_
          · rw [ep, set_keys ej]; exact ⟨e2, nd⟩
          · rw [ep, List.map_set]; exact r2
        simpa using r3
    · cases m
end
end B
/-! BG: changes in place. -/
namespace B
open PySem PySem.Spec L2

section
variable {K : PySem.W.Frag} {H H' H1 H2 H3 : Hp} {σ : L2.St} {ρ ρ' ρ0 ρ1 ρ2 : Rho} {Fs Fs' Fs1 Fs2 : Nat → List Addr}
/-- a part has changed: the object at l alone -/
structure Chg (K : PySem.W.Frag) (H : Hp) (w : V) (Gc : List Addr) (T : Addr → Prop) (c' : D) (H3 : Hp) (G' : List Addr) : Prop where
  at_ : ∃ l u, w = .ref l ∧ l ∈ Gc ∧ H3 = upd H l u
  rep : Rep K H3 true G' w c'
  nd : G'.Nodup
  sub : ∀ a ∈ G', a ∈ Gc ∨ T a
theorem upd_kp {l : Addr} {u u0 : HO} {F : List Addr} (h : H l = some u0) (i : imm u0 = false) (n : l ∉ F) : Kp H (upd H l u) F := fun a x e m => by
  have hne : a ≠ l := by
    rintro rfl
    rcases m with m | m
    · exact n m
    · rw [h] at e; cases e; rw [i] at m; cases m
  rw [upd_ne hne]; exact e
/-- the frame behind a change -/
theorem chg_frame {α : Type} {g : D → Option (D × α)} {root : Nat} {s : FD} {ks : List D} {d' : D} {r : α} {T : Addr → Prop} {v0 : V} (fr : FR K H2 σ ρ2 Fs2) (hr : ρ2[root]? = some (some s)) (ho : s.f = .own) (hv : σ[root]? = some (some v0))
    (m : modP g ks s.d = some (d', r)) (hT : ∀ a, T a → ¬ All ρ2 Fs2 a) :
    ∃ c c' w Gc, getP ks s.d = some c ∧ g c = some (c', r) ∧ leadV H2 ks v0 = some w ∧ Rep K H2 true Gc w c ∧ Gc.Nodup ∧ (∀ a ∈ Gc, a ∈ Fs2 root) ∧ ∀ H3 G', Chg K H2 w Gc T c' H3 G' →
      ∃ Fs3, FR K H3 σ (ρ2.set root (some ⟨.own, d'⟩)) Fs3 ∧ (∀ a, All (ρ2.set root (some ⟨.own, d'⟩)) Fs3 a → All ρ2 Fs2 a ∨ T a) ∧
        ∀ {ρ Fs H}, Stp ρ Fs H ρ2 Fs2 H2 → (∀ a, T a → Own ρ Fs a ∨ H a = none) → Stp ρ Fs H (ρ2.set root (some ⟨.own, d'⟩)) Fs3 H3 := by
  obtain ⟨v, h1, rep, nd⟩ := fr.rep root s hr
  rw [hv] at h1
  obtain rfl : v0 = v := by simpa using h1
  have nd := nd ho
  have o1 : s.o = true := toO_iff.mpr ho
  rw [o1] at rep
  obtain ⟨c, c', w, A, Gc, B, e1, e2, e3, e4, e5, e6⟩ := modP_rep ks rep m
  have ndF := nd
  rw [e4, List.nodup_append] at nd
  obtain ⟨ndA, ndGB, dA⟩ := nd
  rw [List.nodup_append] at ndGB
  obtain ⟨ndG, ndB, dG⟩ := ndGB
  refine ⟨c, c', w, Gc, e1, e2, e3, e5, ndG, fun a ha => by rw [e4]; simp [ha], fun H3 G' q => ?_⟩
  obtain ⟨l, u, hw, hl, eH⟩ := q.at_
  obtain ⟨u0, hu0, iu0⟩ := e5.mutN rfl l hl
  have nAB : l ∉ A ++ B := fun z => by
    rcases List.mem_append.mp z with z | z
    · exact dA l z l (by simp [hl]) rfl
    · exact dG l hl l z rfl
  have kpl : ∀ F : List Addr, l ∉ F → Kp H2 H3 F := fun F n => by rw [eH]; exact upd_kp hu0 iu0 n
  have rep3 := e6 H3 G' (kpl _ nAB) q.rep
  have lroot : l ∈ Fs2 root := by rw [e4]; simp [hl]
  have lroot2 : All ρ2 Fs2 l := ⟨root, s, hr, lroot⟩
  have sub3 : ∀ a ∈ A ++ (G' ++ B), a ∈ Fs2 root ∨ T a := fun a ha => by
    rcases List.mem_append.mp ha with ha | ha
    · exact .inl (by rw [e4]; simp [ha])
    · rcases List.mem_append.mp ha with ha | ha
      · exact (q.sub a ha).imp (fun z => by rw [e4]; simp [z]) id
      · exact .inl (by rw [e4]; simp [ha])
  have nd3 : (A ++ (G' ++ B)).Nodup := by
    have sp : ∀ a ∈ G', ∀ b, (b ∈ A ∨ b ∈ B) → a ≠ b := fun a ha b hb e => by
      subst e
      rcases q.sub a ha with z | z
      · rcases hb with hb | hb
        · exact dA a hb a (by simp [z]) rfl
        · exact dG a z a hb rfl
      · exact hT a z ⟨root, s, hr, by rw [e4]; rcases hb with hb | hb <;> simp [hb]⟩
    rw [List.nodup_append]
    refine ⟨ndA, ?_, fun a ha b hb => ?_⟩
    · rw [List.nodup_append]
      exact ⟨q.nd, ndB, fun a ha b hb => sp a ha b (.inr hb)⟩
    · rcases List.mem_append.mp hb with hb | hb
      · exact fun e => sp b hb a (.inl ha) e.symm
      · exact dA a ha b (by simp [hb])
  have hlen : root < ρ2.length := (List.getElem?_eq_some_iff.mp hr).1
  have slot : ∀ {i : Nat} {t : FD}, (ρ2.set root (some ⟨.own, d'⟩))[i]? = some (some t) → (i = root ∧ t = ⟨.own, d'⟩) ∨ (i ≠ root ∧ ρ2[i]? = some (some t)) := fun {i t} h => by
    by_cases e : i = root
    · subst e
      rw [List.getElem?_set_self hlen] at h
      simp at h
      exact .inl ⟨rfl, h.symm⟩
    · rw [List.getElem?_set_ne (Ne.symm e)] at h
      exact .inr ⟨e, h⟩
  refine ⟨fun i => if i = root then A ++ (G' ++ B) else Fs2 i, ⟨by rw [List.length_set]; exact fr.len, fun i t h => ?_, fun i j t t' hij g1 g2 g3 g4 b mb mb' => ?_⟩, fun a ⟨i, t, g1, g3⟩ => ?_, fun {ρ Fs H} st hT2 => ⟨fun a x e n => ?_, fun a ⟨i, t, g1, g2, g3⟩ => ?_, fun a ⟨i, t, g1, g3⟩ => ?_, fun a ⟨i, t, g1, g2, g3⟩ => ?_, fun i t g1 g2 => ?_⟩⟩
  · rcases slot h with ⟨rfl, rfl⟩ | ⟨hne, h⟩
    · refine ⟨v0, hv, ?_, fun _ => by simpa using nd3⟩
      simp only [if_true]
      exact rep3
    · obtain ⟨v', z1, z2, z3⟩ := fr.rep i t h
      simp only [if_neg hne]
      refine ⟨v', z1, z2.keep (kpl _ fun z => ?_), z3⟩
      exact fr.sep root i s t (Ne.symm hne) hr h (by rw [ho]; decide) (.inl ho) l lroot z
  · rcases slot g1 with ⟨e1, e2⟩ | ⟨hne, g1'⟩
    · subst e1; subst e2
      rcases slot g2 with ⟨rfl, rfl⟩ | ⟨hne2, g2⟩
      · exact hij rfl
      · simp only [if_true] at mb
        simp only [if_neg hne2] at mb'
        rcases sub3 b mb with z | z
        · exact fr.sep _ j s t' hij hr g2 (by rw [ho]; decide) (.inl ho) b z mb'
        · exact hT b z ⟨j, t', g2, mb'⟩
    · simp only [if_neg hne] at mb
      rcases slot g2 with ⟨e1, e2⟩ | ⟨hne2, g2⟩
      · subst e1
        simp only [if_true] at mb'
        rcases sub3 b mb' with z | z
        · exact fr.sep _ i s t (Ne.symm hij) hr g1' (by rw [ho]; decide) (.inl ho) b z mb
        · exact hT b z ⟨i, t, g1', mb⟩
      · simp only [if_neg hne2] at mb'
        exact fr.sep i j t t' hij g1' g2 g3 g4 b mb mb'
  · rcases slot g1 with ⟨rfl, rfl⟩ | ⟨hne, g1⟩
    · simp only [if_true] at g3
      exact (sub3 a g3).imp (fun z => ⟨_, s, hr, z⟩) id
    · simp only [if_neg hne] at g3
      exact .inl ⟨i, t, g1, g3⟩
  · have e2 := st.keep a x e n
    have hne : a ≠ l := by
      rintro rfl
      rcases st.own a ⟨root, s, hr, ho, lroot⟩ with z | z
      · exact n z
      · rw [z] at e; cases e
    rw [eH, upd_ne hne]; exact e2
  · rcases slot g1 with ⟨rfl, rfl⟩ | ⟨hne, g1⟩
    · simp only [if_true] at g3
      rcases sub3 a g3 with z | z
      · exact st.own a ⟨_, s, hr, ho, z⟩
      · exact hT2 a z
    · simp only [if_neg hne] at g3
      exact st.own a ⟨i, t, g1, g2, g3⟩
  · rcases slot g1 with ⟨rfl, rfl⟩ | ⟨hne, g1⟩
    · simp only [if_true] at g3
      rcases sub3 a g3 with z | z
      · exact (st.own a ⟨_, s, hr, ho, z⟩).imp Own.all id
      · exact (hT2 a z).imp Own.all id
    · simp only [if_neg hne] at g3
      exact st.all a ⟨i, t, g1, g3⟩
  · rcases slot g1 with ⟨rfl, rfl⟩ | ⟨hne, g1⟩
    · cases g2
    · simp only [if_neg hne] at g3
      exact st.shr a ⟨i, t, g1, g2, g3⟩
  · rcases slot g1 with ⟨rfl, rfl⟩ | ⟨hne, g1⟩
    · cases g2
    · show _ ∧ (if i = root then _ else Fs2 i) = Fs i
      rw [if_neg hne]
      exact st.lk i t g1 g2

/-! ### storing an item -/
def rSetX : TSet := fun o i v H Q => rSetL o i v H Q ∨ ∃ a H', o = .ref a ∧ DPut H a i v H' ∧ Q H'
theorem set_x {X : Cx} (hu : X.A.units + 1 < cLine) : PSet X rSetX := by
  intro pins s σ H o i v ov iv u Q I ro ri rv h
  rcases h with h | ⟨a, H', rfl, g, q⟩
  · exact set_list pins s σ H o i v ov iv u Q I ro ri rv h
  · cases ro
    exact d_setItem hu I g ri rv fun s' I' => ⟨H', I', q⟩
theorem Reps.snoc {o : Bool} {F G : List Addr} {vs : List V} {ds : List D} {v : V} {d : D} (r : Reps K H o F vs ds) (q : Rep K H o G v d) : Reps K H o (F ++ G) (vs ++ [v]) (ds ++ [d]) := by
  have := r.append (.cons q .nil)
  simpa using this
theorem setS {Gc Fv : List Addr} {w i v : V} {c c' ix dv : D} {oi : Bool} {Fi : List Addr} {Q : Hp → Prop} (rc : Rep K H true Gc w c) (nd : Gc.Nodup) (ri : Rep K H oi Fi i ix) (rv : Rep K H true Fv v dv) (nv : Fv.Nodup) (sp : ∀ a ∈ Fv, a ∉ Gc)
    (h : setD ix dv c = some (c', ())) (k : ∀ H3 G', Chg K H w Gc (fun a => a ∈ Fv) c' H3 G' → Q H3) : rSetX w i v H Q := by
  unfold setD at h
  split at h
  · simp only [Option.bind_eq_some_iff, Option.map_eq_some_iff, Prod.mk.injEq] at h
    rename_i xs
    obtain ⟨n, e1, j, e2, e3, _⟩ := h
    subst e3
    obtain ⟨a, vs, G1, rfl, _, s1, e, o⟩ := rep_lst rc
    have ha := o rfl
    subst e
    rw [List.nodup_cons] at nd
    have hj : j < xs.length := (L2.ixN_seq e2).2.1
    obtain ⟨A, Gj, B, w1, f1, f2, f3, f4⟩ := s1.split (j := j) (d := xs[j]) (by simp [hj])
    subst f1
    have ei : i = .int n := by
      cases ix <;> simp [intD] at e1
      subst e1
      exact (rep_int ri).1
    subst ei
    have nv1 : a ∉ Fv := fun m => sp a m (by simp)
    have kpl : ∀ F : List Addr, a ∉ F → Kp H (upd H a (.lst (vs.set j v))) F := fun F n => upd_kp ha rfl n
    refine .inl ⟨a, vs, n, j, rfl, rfl, ha, by rw [s1.length]; exact e2, k _ (a :: (A ++ (Fv ++ B))) ⟨⟨a, _, rfl, by simp, rfl⟩, ?_, ?_, fun b m => ?_⟩⟩
    · refine .lst (by unfold At; rw [if_pos rfl]; exact upd_same) (f4 _ _ _ _ (kpl _ fun m => nd.1 ?_) (rv.keep (kpl _ nv1)))
      rcases List.mem_append.mp m with m | m <;> simp [m]
    · have sp' : ∀ b ∈ Fv, b ∉ A ∧ b ∉ B := fun b m => ⟨fun z => sp b m (by simp [z]), fun z => sp b m (by simp [z])⟩
      obtain ⟨n1, n2⟩ := nd
      rw [List.nodup_append] at n2
      obtain ⟨nA, nGB, dA⟩ := n2
      rw [List.nodup_append] at nGB
      rw [List.nodup_cons, List.nodup_append, List.nodup_append]
      refine ⟨fun m => ?_, nA, ⟨nv, nGB.2.1, fun x hx y hy e => (sp' x hx).2 (e ▸ hy)⟩, fun x hx y hy e => ?_⟩
      · rcases List.mem_append.mp m with m | m
        · exact n1 (by simp [m])
        · rcases List.mem_append.mp m with m | m
          · exact nv1 m
          · exact n1 (by simp [m])
      · rcases List.mem_append.mp hy with hy | hy
        · exact (sp' y hy).1 (e ▸ hx)
        · exact dA x hx y (by simp [hy]) e
    · rcases List.mem_cons.mp m with m | m
      · exact .inl (by simp [m])
      · rcases List.mem_append.mp m with m | m
        · exact .inl (by simp [m])
        · rcases List.mem_append.mp m with m | m
          · exact .inr m
          · exact .inl (by simp [m])
  · rename_i kvs
    simp only [Option.bind_eq_some_iff] at h
    obtain ⟨key, e1, h⟩ := h
    split at h
    rotate_left
    · cases h
    rename_i hz
    simp only [Option.some.injEq, Prod.mk.injEq, and_true] at h
    subst h
    obtain ⟨a, ws, G1, rfl, _, e2, s1, e, o, ndk⟩ := rep_dK rc
    have ha := o rfl
    subst e
    rw [List.nodup_cons] at nd
    have ei : i = kV key := key_v ri e1
    subst ei
    have lw : ws.length = kvs.length := by simpa using congrArg List.length e2
    have nv1 : a ∉ Fv := fun m => sp a m (by simp)
    have kpl : ∀ F : List Addr, a ∉ F → Kp H (upd H a (.dK (putK ws key v))) F := fun F n => upd_kp ha rfl n
    refine .inr ⟨a, _, rfl, DPut.k ha (by rw [lw]; exact hz), ?_⟩
    cases el : lookD kvs key with
    | some c1 =>
      obtain ⟨j, ej⟩ := find_split el
      obtain ⟨A, Gj, B, w1, f1, f2, f3, f4⟩ := s1.split (j := j) (d := c1) (by rw [List.getElem?_map, ej]; rfl)
      subst f1
      have hw : ws[j]? = some (key, w1) := by
        have k1 : (ws.map (·.1))[j]? = some key := by rw [e2, List.getElem?_map, ej]; rfl
        rw [List.getElem?_map] at k1 f2
        cases q : ws[j]? with
        | none => rw [q] at k1; cases k1
        | some p =>
          rw [q] at k1 f2
          obtain ⟨p1, p2⟩ := p
          simp at k1 f2
          rw [k1, f2]
      have nw : (ws.map (·.1)).Nodup := by rw [e2]; exact ndk
      have ep : putD kvs key dv = kvs.set j (key, dv) := by
        unfold putD
        rw [if_pos (any_of_at ej)]
        exact map_if_set ndk ej
      have epw : putK ws key v = ws.set j (key, v) := by
        unfold putK
        rw [if_pos (any_of_at hw)]
        exact map_if_set nw hw
      refine k _ (a :: (A ++ (Fv ++ B))) ⟨⟨a, _, rfl, by simp, rfl⟩, ?_, ?_, fun b m => ?_⟩
      · refine .dK (by unfold At; rw [if_pos rfl]; exact upd_same) ?_ ?_
        · rw [ep, epw, set_keys ej, set_keys hw]; exact ⟨e2, ndk⟩
        · have kq := kpl (A ++ B) fun m => nd.1 (by rcases List.mem_append.mp m with m | m <;> simp [m])
          have kv := rv.keep (kpl Fv nv1)
          rw [ep, List.map_set]
          have e3 : (putK ws key v).map (·.2) = (ws.map (·.2)).set j v := by rw [epw, List.map_set]
          rw [e3]
          exact f4 _ _ _ _ kq kv
      · have sp' : ∀ b ∈ Fv, b ∉ A ∧ b ∉ B := fun b m => ⟨fun z => sp b m (by simp [z]), fun z => sp b m (by simp [z])⟩
        obtain ⟨n1, n2⟩ := nd
        rw [List.nodup_append] at n2
        obtain ⟨nA, nGB, dA⟩ := n2
        rw [List.nodup_append] at nGB
        rw [List.nodup_cons, List.nodup_append, List.nodup_append]
        refine ⟨fun m => ?_, nA, ⟨nv, nGB.2.1, fun x hx y hy e => (sp' x hx).2 (e ▸ hy)⟩, fun x hx y hy e => ?_⟩
        · rcases List.mem_append.mp m with m | m
          · exact n1 (by simp [m])
          · rcases List.mem_append.mp m with m | m
            · exact nv1 m
            · exact n1 (by simp [m])
        · rcases List.mem_append.mp hy with hy | hy
          · exact (sp' y hy).1 (e ▸ hx)
          · exact dA x hx y (by simp [hy]) e
      · rcases List.mem_cons.mp m with m | m
        · exact .inl (by simp [m])
        · rcases List.mem_append.mp m with m | m
          · exact .inl (by simp [m])
          · rcases List.mem_append.mp m with m | m
            · exact .inr m
            · exact .inl (by simp [m])
    | none =>
      have na : (kvs.any fun kv => decide (kv.1 = key)) = false := by
        cases q : kvs.any fun kv => decide (kv.1 = key) with
        | false => rfl
        | true =>
          unfold lookD at el
          have : (kvs.find? fun kv => decide (kv.1 = key)) = none := by simpa using el
          rw [List.find?_eq_none] at this
          obtain ⟨x, hx, hp⟩ := List.any_eq_true.mp q
          exact absurd hp (this x hx)
      have naw : (ws.any fun kv => decide (kv.1 = key)) = false := by
        rw [valV_any, lookD_map e2, el]
        rfl
      have ep : putD kvs key dv = kvs ++ [(key, dv)] := by unfold putD; rw [na]; rfl
      have epw : putK ws key v = ws ++ [(key, v)] := by unfold putK; rw [naw]; rfl
      refine k _ (a :: (G1 ++ Fv)) ⟨⟨a, _, rfl, by simp, rfl⟩, ?_, ?_, fun b m => ?_⟩
      · refine .dK (by unfold At; rw [if_pos rfl]; exact upd_same) ?_ ?_
        · rw [ep, epw, List.map_append, List.map_append, e2]
          refine ⟨rfl, ?_⟩
          rw [List.nodup_append]
          refine ⟨ndk, by simp, fun x hx y hy e => ?_⟩
          simp at hy
          subst hy; subst e
          obtain ⟨p, hp, rfl⟩ := List.mem_map.mp hx
          have := List.any_eq_false.mp na p hp
          simp at this
        · have e3 : (putK ws key v).map (·.2) = ws.map (·.2) ++ [v] := by rw [epw, List.map_append]; rfl
          have e4 : (putD kvs key dv).map (·.2) = kvs.map (·.2) ++ [dv] := by rw [ep, List.map_append]; rfl
          rw [e3, e4]
          exact (s1.keep (kpl _ nd.1)).snoc (rv.keep (kpl _ nv1))
      · rw [List.nodup_cons, List.nodup_append]
        refine ⟨fun m => ?_, nd.2, nv, fun x hx y hy e => sp y hy (by simp [e ▸ hx])⟩
        rcases List.mem_append.mp m with m | m
        · exact nd.1 m
        · exact nv1 m
      · rcases List.mem_cons.mp m with m | m
        · exact .inl (by simp [m])
        · rcases List.mem_append.mp m with m | m
          · exact .inl (by simp [m])
          · exact .inr m
  · cases h
end
end B
/-! BH: changes in place, as expressions. -/
namespace B
open PySem PySem.Spec L2

set_option maxRecDepth 8000 in
theorem ext_tup (l : Addr) (items : Array Value) (n : Nat) (b : Addr) (o : Obj) (items2 : Array Value) (n2 : Nat) (oc : o.cls = .type "tuple") (od : o.data = .seq items2 n2) (hs0 : ¬(!items.isEmpty && Builtin.List.listTooLong (items.size + items2.size)) = true) (hs1 : items.size ≤ sizeLine) (hs2 : items.size + items2.size ≤ sizeLine + 1) :
    Meets (Builtin.«list.extend» ⟨[.ref l, .ref b], []⟩) (fun _ R s => s.heap.get? l = some { cls := .type "list", dict := none, data := .seq items n, slots := #[] } ∧ s.heap.get? b = some o ∧ R (.ok (.ret Value.none)) { s with heap := s.heap.update l (Obj.mapSeq fun x => x ++ items2), toks := s.toks }) :=
  .of_wp fun prog w A R s h => by
    obtain ⟨hp, g, d, tk, os⟩ := s; obtain ⟨hl, hb, h⟩ := h
    obtain ⟨c0, d0, s0, t0⟩ := o
    cases oc
    cases od
    have f1 := AutoSeq1.idx_int; have f2 := AutoSeq1.sub_tuple_tuple; have f3 := AutoSeq1.sub_list_list; have f4 := AutoSeq1.sub_tuple_list; have f5 := AutoSeq1.sub_list_tuple
    have hz' : (items ++ items2).size ≤ sizeLine + 1 := by rw [Array.size_append]; exact hs2
    wp_walk using (wpAny_updateSeq hl rfl (hz := hs1) (_hz' := hz')), AutoSeq1.wpAny_loadPart' hl, AutoSeq1.wpAny_loadPart' hb
    exact ⟨_, rfl, h⟩
def rExtendR (K : PySem.W.Frag) : V → List V → Hp → VK → Prop := fun x vs H Q => ∃ l b xs zs, x = .ref l ∧ vs = [.ref b] ∧ H l = some (.lst xs) ∧ (Rd H b (.lst zs) ∨ SqT K H b zs) ∧ xs.length + zs.length ≤ sizeLine ∧ Q .non (upd H l (.lst (xs ++ zs)))
theorem mt_extendR {X : Cx} : MtM X "list.extend" (rExtendR X.K) := by
  intro pins s σ H x vs v us Q I rx rv h
  obtain ⟨l, b, xs, zs, rfl, rfl, hH, hB, hz, q⟩ := h
  cases rx
  obtain ⟨u, rfl, ru⟩ := rv.one
  cases ru
  obtain ⟨z, its, n, r, hl, e⟩ := I.lstM hH
  rcases hB with hB | hB
  · obtain ⟨z2, its2, n2, r2, hl2, e2⟩ := lstRd I hB
    have hsz : its.toArray.size + its2.toArray.size ≤ sizeLine := by rw [List.size_toArray, List.size_toArray]; omega
    have hlong : ¬ (!its.toArray.isEmpty && Builtin.List.listTooLong (its.toArray.size + its2.toArray.size)) = true := by
      rw [notLongL hsz, Bool.and_false]
      exact Bool.false_ne_true
    refine call_meets F.slot_list_extend ⟨_, e, rfl⟩ F.entry_list_extend (F.args_list_extend_2 _ _)
      (AutoSeq1.list_extend_list_list_0 l its.toArray n b its2.toArray n2 hlong (by rw [List.size_toArray]; omega) (by omega)) ⟨e, e2, ?_⟩
    refine ⟨.non, _, I.lset (its' := its ++ its2) hH e (by simp) (r.append r2) ?_, rfl, q⟩
    rw [List.length_append]
    omega
  · obtain ⟨its2, r2, ⟨o, eo, oc, n2, od⟩, z2⟩ := I.tuple hB
    have hl2 := r2.length
    have hsz : its.toArray.size + its2.toArray.size ≤ sizeLine := by rw [List.size_toArray, List.size_toArray]; omega
    have hlong : ¬ (!its.toArray.isEmpty && Builtin.List.listTooLong (its.toArray.size + its2.toArray.size)) = true := by
      rw [notLongL hsz, Bool.and_false]
      exact Bool.false_ne_true
    refine call_meets F.slot_list_extend ⟨_, e, rfl⟩ F.entry_list_extend (F.args_list_extend_2 _ _)
      (ext_tup l its.toArray n b o its2.toArray n2 oc od hlong (by rw [List.size_toArray]; omega) (by omega)) ⟨e, eo, ?_⟩
    refine ⟨.non, _, I.lset (its' := its ++ its2) hH e (by simp) (r.append r2) ?_, rfl, q⟩
    rw [List.length_append]
    omega
def rMu (K : PySem.W.Frag) : MuK → V → List V → Hp → VK → Prop
  | .append => rAppend
  | .extend => rExtendR K
  | .pop => rPop
  | _ => fun _ _ _ _ => False

section
variable {K : PySem.W.Frag} {C : Ctx} {H H' H1 H2 H3 : Hp} {σ : L2.St} {ρ ρ' ρ0 ρ1 ρ2 : Rho} {Fs Fs' Fs1 Fs2 : Nat → List Addr}
theorem Reps.takeN {o : Bool} : ∀ (n : Nat) {F : List Addr} {vs : List V} {ds : List D}, Reps K H o F vs ds → ∃ G, Reps K H o G (vs.take n) (ds.take n) ∧ G.Sublist F
  | 0, _, _, _, _ => ⟨[], .nil, List.nil_sublist _⟩
  | n + 1, _, _, _, .nil => ⟨[], .nil, List.nil_sublist _⟩
  | n + 1, _, _, _, .cons (F := F) r t => by
    obtain ⟨G1, h1, h2⟩ := Reps.takeN n t
    exact ⟨F ++ G1, .cons r h1, List.Sublist.append (List.Sublist.refl _) h2⟩
theorem Reps.dropLast {o : Bool} {F : List Addr} {vs : List V} {ds : List D} (r : Reps K H o F vs ds) : ∃ G, Reps K H o G vs.dropLast ds.dropLast ∧ G.Sublist F := by
  rw [List.dropLast_eq_take, List.dropLast_eq_take, r.length]
  exact r.takeN _
theorem packF_one {x : FD} (h : packF [x] = some .own) : x.f = .own := by
  obtain ⟨f, d⟩ := x
  cases f <;> simp [packF] at h <;> rfl
theorem muS {m : MuK} {Gc : List Addr} {w : V} {c c' r : D} {vs : List V} {xs : List FD} {Gs : List (List Addr)} {Q : VK} (rc : Rep K H true Gc w c) (nd : Gc.Nodup) (A : ArgsR K H vs xs Gs) (ok : muOk m xs = true)
    (sp : ∀ (k : Nat) (x : FD) (G : List Addr), xs[k]? = some x → Gs[k]? = some G → x.f = .own → ∀ a ∈ G, a ∉ Gc) (h : muD m (xs.map FD.d) c = some (c', r))
    (k : ∀ wv H3 G', Chg K H w Gc (fun a => ∃ (k : Nat) (x : FD) (G : List Addr), xs[k]? = some x ∧ Gs[k]? = some G ∧ x.f = .own ∧ a ∈ G) c' H3 G' → Rep K H3 true [] wv r → Q wv H3) : rMu K m w vs H Q ∧ tyV K "list" w H := by
  unfold muD at h
  split at h
  · rename_i v xs0 e
    split at h
    rotate_left
    · cases h
    rename_i hz
    simp only [Option.some.injEq, Prod.mk.injEq] at h
    obtain ⟨rfl, rfl⟩ := h
    obtain ⟨a, ws, G1, rfl, rd, s1, e1, o⟩ := rep_lst rc
    have ha := o rfl
    subst e1
    rw [List.nodup_cons] at nd
    cases A with
    | nil => simp at e
    | @cons y x F vs' xs' Gs' ry ny t =>
      cases t with
      | cons _ _ _ => simp at e
      | nil =>
        simp at e
        subst e
        have fo : x.f = .own := packF_one (of_decide_eq_true (p := packF [x] = some .own) ok)
        have sF := sp 0 x F rfl rfl fo
        have aF : a ∉ F := fun z => sF a z (by simp)
        have kpl : ∀ F : List Addr, a ∉ F → Kp H (upd H a (.lst (ws ++ [y]))) F := fun F n => upd_kp ha rfl n
        have ro : x.o = true := toO_iff.mpr fo
        rw [ro] at ry
        refine ⟨⟨a, ws, y, rfl, rfl, ha, by rw [s1.length]; exact hz, k _ _ (a :: (G1 ++ F)) ⟨⟨a, _, rfl, by simp, rfl⟩, ?_, ?_, fun b m => ?_⟩ .non⟩, .inl ⟨rfl, ws, .inl rd⟩⟩
        · exact .lst (by unfold At; rw [if_pos rfl]; exact upd_same) ((s1.keep (kpl _ nd.1)).snoc (ry.keep (kpl _ aF)))
        · rw [List.nodup_cons, List.nodup_append]
          refine ⟨fun m => ?_, nd.2, ny fo, fun p hp q hq e => sF q hq (by simp [e ▸ hp])⟩
          rcases List.mem_append.mp m with m | m
          · exact nd.1 m
          · exact aF m
        · rcases List.mem_cons.mp m with m | m
          · exact .inl (by simp [m])
          · rcases List.mem_append.mp m with m | m
            · exact .inl (by simp [m])
            · exact .inr ⟨0, x, F, rfl, rfl, fo, m⟩
  · rename_i ys xs0 e
    split at h
    rotate_left
    · cases h
    rename_i hz
    simp only [Option.some.injEq, Prod.mk.injEq] at h
    obtain ⟨rfl, rfl⟩ := h
    obtain ⟨a, ws, G1, rfl, rd, s1, e1, o⟩ := rep_lst rc
    have ha := o rfl
    subst e1
    rw [List.nodup_cons] at nd
    cases A with
    | nil => simp at e
    | @cons y x F vs' xs' Gs' ry ny t =>
      cases t with
      | cons _ _ _ => simp at e
      | nil =>
        simp at e
        rw [e] at ry
        obtain ⟨b, zs, G2, rfl, rd2, s2, e2, _⟩ := rep_lst ry
        have kpl : ∀ F : List Addr, a ∉ F → Kp H (upd H a (.lst (ws ++ zs))) F := fun F n => upd_kp ha rfl n
        refine ⟨⟨a, b, ws, zs, rfl, rfl, ha, .inl rd2, by rw [s1.length, s2.length]; exact hz.2, k _ _ (a :: G1) ⟨⟨a, _, rfl, by simp, rfl⟩, ?_, ?_, fun b m => .inl m⟩ .non⟩, .inl ⟨rfl, ws, .inl rd⟩⟩
        · have := (s1.keep (kpl _ nd.1)).append ((s2.pure' hz.1 true).keep (kpl _ (by simp)))
          rw [List.append_nil] at this
          exact .lst (by unfold At; rw [if_pos rfl]; exact upd_same) this
        · rw [List.nodup_cons]; exact nd
  · rename_i ys xs0 e
    split at h
    rotate_left
    · cases h
    rename_i hz
    simp only [Option.some.injEq, Prod.mk.injEq] at h
    obtain ⟨rfl, rfl⟩ := h
    obtain ⟨a, ws, G1, rfl, rd, s1, e1, o⟩ := rep_lst rc
    have ha := o rfl
    subst e1
    rw [List.nodup_cons] at nd
    cases A with
    | nil => simp at e
    | @cons y x F vs' xs' Gs' ry ny t =>
      cases t with
      | cons _ _ _ => simp at e
      | nil =>
        simp at e
        rw [e] at ry
        obtain ⟨b, zs, rfl, rd2, s2⟩ := rep_tup ry
        have kpl : ∀ F : List Addr, a ∉ F → Kp H (upd H a (.lst (ws ++ zs))) F := fun F n => upd_kp ha rfl n
        refine ⟨⟨a, b, ws, zs, rfl, rfl, ha, .inr rd2, by rw [s1.length, s2.length]; exact hz.2, k _ _ (a :: G1) ⟨⟨a, _, rfl, by simp, rfl⟩, ?_, ?_, fun b m => .inl m⟩ .non⟩, .inl ⟨rfl, ws, .inl rd⟩⟩
        · have := (s1.keep (kpl _ nd.1)).append ((s2.pure' hz.1 true).keep (kpl _ (by simp)))
          rw [List.append_nil] at this
          exact .lst (by unfold At; rw [if_pos rfl]; exact upd_same) this
        · rw [List.nodup_cons]; exact nd
  · rename_i xs0 e
    simp only [Option.bind_eq_some_iff] at h
    obtain ⟨y, hy, h⟩ := h
    split at h
    rotate_left
    · cases h
    rename_i hp
    simp only [Option.some.injEq, Prod.mk.injEq] at h
    obtain ⟨rfl, rfl⟩ := h
    obtain ⟨a, ws, G1, rfl, rd, s1, e1, o⟩ := rep_lst rc
    have ha := o rfl
    subst e1
    rw [List.nodup_cons] at nd
    cases A with
    | cons _ _ _ => simp at e
    | nil =>
      obtain ⟨v, G, h1, h2, h3⟩ := s1.at_ hy
      have kpl : ∀ F : List Addr, a ∉ F → Kp H (upd H a (.lst ws.dropLast)) F := fun F n => upd_kp ha rfl n
      obtain ⟨G2, s2, s3⟩ := s1.dropLast
      have nG2 : a ∉ G2 := fun m => nd.1 (s3.subset m)
      refine ⟨⟨a, ws, v, rfl, rfl, ha, by rw [s1.length]; exact h1, k _ _ (a :: G2) ⟨⟨a, _, rfl, by simp, rfl⟩, ?_, ?_, fun b m => .inl ?_⟩ ?_⟩, .inl ⟨rfl, ws, .inl rd⟩⟩
      · exact .lst (by unfold At; rw [if_pos rfl]; exact upd_same) (s2.keep (kpl _ nG2))
      · rw [List.nodup_cons]; exact ⟨nG2, nd.2.sublist s3⟩
      · rcases List.mem_cons.mp m with m | m
        · simp [m]
        · simp [s3.subset m]
      · exact (h2.pure' hp true).keep (kpl _ (by simp))
  · cases h

/-! ### the way to the part -/
/-- a path's end: the part there -/
def tP (K : PySem.W.Frag) (C : Ctx) (root : Nat) (path : List E) : TE := fun σ H Q => ∃ ρ Fs, FR K H σ ρ Fs ∧ E.quiet.E.quietL path = true ∧ ∃ rp s v0 c, evL C path ρ = some (rp, ρ) ∧ ρ[root]? = some (some s) ∧ s.f = .own ∧ σ[root]? = some (some v0) ∧
  getP (rp.map FD.d) s.d = some c ∧ ∀ v H', Same H H' → leadV H' (rp.map FD.d) v0 = some v → Q v H'
theorem tP_nil {root : Nat} {Q : VK} (h : tP K C root [] σ H Q) : tVar root σ H Q := by
  obtain ⟨ρ, Fs, f, _, rp, s, v0, c, e, h1, h2, h3, h4, k⟩ := h
  simp only [evL, Option.some.injEq, Prod.mk.injEq] at e
  obtain ⟨rfl, _⟩ := e
  exact ⟨v0, h3, k v0 H (Same.refl H) rfl⟩
theorem evL_snoc {k : E} : ∀ {path : List E} {ρ : Rho} {xs : List FD}, E.quiet.E.quietL (path ++ [k]) = true → evL C (path ++ [k]) ρ = some (xs, ρ) → ∃ rp x, xs = rp ++ [x] ∧ evL C path ρ = some (rp, ρ) ∧ evL C [k] ρ = some ([x], ρ) ∧ E.quiet.E.quietL path = true
  | [], ρ, xs, q, h => by
    obtain ⟨x, ys, e1, e2, e3, _⟩ := evL_one q h
    simp only [evL, Option.some.injEq, Prod.mk.injEq] at e3
    obtain ⟨rfl, _⟩ := e3
    exact ⟨[], x, e1, by simp [evL], e2, rfl⟩
  | e :: path, ρ, xs, q, h => by
    obtain ⟨x, ys, e1, e2, e3, _⟩ := evL_one q h
    have q' := q
    simp only [List.cons_append, E.quiet.E.quietL, Bool.and_eq_true] at q
    obtain ⟨rp, y, f1, f2, f3, f4⟩ := evL_snoc q.2 e3
    subst e1 f1
    refine ⟨x :: rp, y, rfl, ?_, f3, by simp only [E.quiet.E.quietL, Bool.and_eq_true]; exact ⟨q.1, f4⟩⟩
    by_cases hv : ∃ i, e = .var i
    · obtain ⟨i, rfl⟩ := hv
      simp only [evL, Option.bind_eq_some_iff, Option.bind_some, Option.map_eq_some_iff, Prod.mk.injEq] at e2 ⊢
      obtain ⟨x0, g0, y0, g1, g2, _⟩ := e2
      refine ⟨x0, g0, (rp, ρ), f2, y0, ?_, ?_, rfl⟩
      · simpa using g1
      · simpa using g2
    · have nv : ∀ i, e ≠ .var i := fun i z => hv ⟨i, z⟩
      rw [evL_cons nv] at e2 ⊢
      simp only [Option.bind_eq_some_iff] at e2 ⊢
      obtain ⟨⟨y0, ρ0⟩, g0, g1⟩ := e2
      have := quiet_ev e false ρ y0 ρ0 q.1 g0
      subst this
      refine ⟨(y0, ρ0), g0, ?_⟩
      have g2 : (if y0.f = .bor ∧ E.quiet.E.quietL [] = false then none else (evL C [] ρ0).map fun q => (y0 :: q.1, q.2)) = some ([x], ρ0) := g1
      rw [if_neg (by simp [E.quiet.E.quietL])] at g2
      simp only [evL, Option.map_some, Option.some.injEq, Prod.mk.injEq, List.cons.injEq, and_true] at g2
      show (if y0.f = .bor ∧ E.quiet.E.quietL path = false then none else (evL C path ρ0).map fun q => (y0 :: q.1, q.2)) = some (x :: rp, ρ0)
      rw [if_neg (by rw [f4]; simp), f2]
      simp [g2]
theorem step_ix {F : List Addr} {v y : V} {c kd ch : D} {o : Bool} {Fy : List Addr} {Q : VK} (r : Rep K H true F v c) (ry : Rep K H o Fy y kd) (h : stepD c kd = some ch) (k : ∀ v', stepV H v kd = some v' → Q v' H) : rIxX K v y H Q := by
  obtain ⟨w, G, e, _, _⟩ := step_rep r h
  have q := k w e
  unfold stepD at h
  split at h
  · simp only [Option.bind_eq_some_iff] at h
    obtain ⟨i, e1, j, e2, h⟩ := h
    obtain ⟨a, vs, G1, rfl, _, s1, _, o⟩ := rep_lst r
    have ha := o rfl
    have ey : y = .int i := by
      cases kd <;> simp [intD] at e1
      subst e1
      exact (rep_int ry).1
    subst ey
    simp only [stepV, ha, e1, Option.bind_some, s1.length, e2] at e
    refine .inl (.inl ⟨a, vs, i, w, rfl, rfl, .inl (.inl ha), ?_, q⟩)
    unfold atI
    rw [s1.length, e2]
    exact e
  · simp only [Option.bind_eq_some_iff] at h
    obtain ⟨key, e1, h⟩ := h
    obtain ⟨a, ws, G1, rfl, _, e2, s1, _, o, _⟩ := rep_dK r
    have ha := o rfl
    simp only [stepV, ha, e1, Option.bind_some] at e
    exact .inr ⟨a, w, rfl, .inl ⟨ws, key, .inl ha, key_v ry e1, e.symm⟩, q⟩
  · cases h
theorem tP_snoc {root : Nat} {path : List E} {k : E} {Q : VK} (h : tP K C root (path ++ [k]) σ H Q) : tP K C root path σ H fun x H1 => tV K C k σ H1 fun y H2 => rIxX K x y H2 Q := by
  obtain ⟨ρ, Fs, f, q, rp, s, v0, c, e, h1, h2, h3, h4, kk⟩ := h
  obtain ⟨rp', x, rfl, e1, e2, q'⟩ := evL_snoc q e
  rw [List.map_append] at h4 kk
  rw [show List.map FD.d [x] = [x.d] from rfl] at h4 kk
  rw [getP_snoc, Option.bind_eq_some_iff] at h4
  obtain ⟨c1, g1, g2⟩ := h4
  refine ⟨ρ, Fs, f, q', rp', s, v0, c1, e1, h1, h2, h3, g1, fun v H1 sm lv => tL_one ⟨ρ, Fs, f.same sm, [x], ρ, e2, fun vs H2 Fs2 Gs a => ?_⟩⟩
  have qk : E.quiet.E.quietL [k] = true := by
    have all : ∀ (path : List E), E.quiet.E.quietL (path ++ [k]) = true → E.quiet.E.quietL [k] = true := by
      intro path
      induction path with
      | nil => exact id
      | cons e path ih => intro z; simp only [List.cons_append, E.quiet.E.quietL, Bool.and_eq_true] at z; exact ih z.2
    exact all path q
  obtain ⟨sm2, _, _⟩ := a.qt qk
  have A := a.args
  cases A with
  | @cons y _ F vs' xs' Gs' ry _ t =>
    cases t
    refine ⟨y, rfl, ?_⟩
    obtain ⟨v0', z1, rep, _⟩ := f.rep root s h1
    rw [h3] at z1
    obtain rfl : v0 = v0' := by simpa using z1
    have ro : s.o = true := toO_iff.mpr h2
    rw [ro] at rep
    obtain ⟨w1, G1, l1, r1, _⟩ := lead_rep _ (rep.same sm) g1
    rw [lv] at l1
    obtain rfl : v = w1 := by simpa using l1
    obtain ⟨w2, G2, l2, r2, _⟩ := lead_rep _ (rep.same (sm.trans sm2)) g1
    have lk : ∀ (ks : List D) {F : List Addr} {v d c : _}, Rep K H1 true F v d → getP ks d = some c → leadV H1 ks v = leadV H2 ks v := by
      intro ks
      induction ks with
      | nil => intro F v d c _ _; rfl
      | cons kd ks ih =>
        intro F v d c r g
        simp only [getP, Option.bind_eq_some_iff] at g
        obtain ⟨c2, g3, g4⟩ := g
        obtain ⟨w, G, e3, r3, _⟩ := step_rep r g3
        have e4 : stepV H2 v kd = some w := by
          have r' := r.same sm2
          unfold stepV at e3 ⊢
          split at e3
          · rename_i a
            split at e3
            · rename_i vs hh; rw [sm2 _ _ hh]; exact e3
            · rename_i kvs hh; rw [sm2 _ _ hh]; exact e3
            · cases e3
          · cases e3
        simp only [leadV, e3, e4, Option.bind_some]
        exact ih r3 g4
    have : leadV H2 (rp'.map FD.d) v0 = some v := by rw [← lk _ (rep.same sm) g1]; exact lv
    rw [this] at l2
    obtain rfl : v = w2 := by simpa using l2
    refine step_ix r2 ry g2 fun v' e5 => kk v' H2 (sm.trans sm2) ?_
    rw [leadV_snoc, this]
    exact e5
end
end B
/-! BI: each expression's reading from its parts' readings. -/
namespace B
open PySem PySem.Spec L2

section
variable {K : PySem.W.Frag} {C : Ctx} {H H' H1 H2 H3 : Hp} {σ : L2.St} {ρ ρ' ρ0 ρ1 ρ2 : Rho} {Fs Fs' Fs1 Fs2 : Nat → List Addr} {Q : VK}
theorem tE_tV {e : E} (h : tE K C e σ H Q) : tV K C e σ H Q := by
  cases e with
  | var i =>
    obtain ⟨ρ, Fs, f, x, ρ', h, k⟩ := h
    simp only [ev, Option.bind_eq_some_iff, Option.map_eq_some_iff, Prod.mk.injEq] at h
    obtain ⟨y, h1, z, h2, h3, h4⟩ := h
    subst h3 h4
    simp only [fin, if_neg Bool.false_ne_true, Option.some.injEq] at h2
    subst h2
    obtain ⟨s, v, e1, e2, tm⟩ := read_tm f (Stp.refl) h1
    refine ⟨v, e2, k v H Fs (Fs i) ⟨f, .refl, tm, fun _ => ⟨Same.refl H, rfl, rfl⟩, fun z j e => ?_⟩⟩
    simp only [rootE, Option.some.injEq] at e
    subst e
    refine ⟨s, e1, fun y => ?_, fun a m => m⟩
    obtain ⟨s', e', rfl⟩ := readV_some h1
    rw [e1] at e'; cases e'
    cases p : s.d.mut with
    | false => rw [nrm_pure p] at z; cases z
    | true => rw [nrm_mut p, y] at z; cases z
  | _ => exact h
/-- an operator -/
theorem tE_op {o : OpK} {args : List E} (h : tE K C (.op o args) σ H Q) :
    tL K C args σ H fun vs H1 => ∃ xs Gs r, ArgsR K H1 vs xs Gs ∧ opD o xs = some r ∧ ∀ v H' F, OpE H1 K xs Gs r v H' F → (r.f ≠ .bor ∨ ∃ x G, o = .ix ∧ xs[0]? = some x ∧ Gs[0]? = some G ∧ x.f = .bor ∧ F.Sublist G) → Q v H' := by
  obtain ⟨ρ, Fs, f, x, ρ', h, k⟩ := h
  simp only [ev, Option.bind_eq_some_iff, Option.map_eq_some_iff, Prod.mk.injEq] at h
  obtain ⟨⟨xs, ρ1⟩, h1, r, h2, y, h3, h4, h5⟩ := h
  subst h4 h5
  simp only [fin, if_neg Bool.false_ne_true, Option.some.injEq] at h3
  subst h3
  refine ⟨ρ, Fs, f, xs, ρ1, h1, fun vs H1 Fs1 Gs a => ⟨xs, Gs, r, a.args, h2, fun v H' F q w => k v H' Fs1 F (a.op q fun z i e => ?_)⟩⟩
  rcases w with w | ⟨x0, G0, w1, w2, w3, w4, w5⟩
  · exact absurd z w
  · subst w1
    have : ∃ e0 es, args = e0 :: es := by
      cases args with
      | nil =>
        have := a.le
        cases xs with
        | nil => simp at w2
        | cons _ _ => simp at this
      | cons e0 es => exact ⟨e0, es, rfl⟩
    obtain ⟨e0, es, rfl⟩ := this
    obtain ⟨s, y1, y2, y3⟩ := a.rt 0 i e0 x0 G0 rfl (by simpa only [rootE] using e) w2 w4 w3
    exact ⟨s, y1, y2, fun b m => y3 b (w5.subset m)⟩
theorem tT_op {o : OpK} {args : List E} {Q : Bool → Hp → Prop} (h : tT K C (.op o args) σ H Q) :
    tL K C args σ H fun vs H1 => ∃ xs Gs r b, ArgsR K H1 vs xs Gs ∧ opD o xs = some r ∧ truthD r.d = some b ∧ ∀ v H' F, OpE H1 K xs Gs r v H' F → Q b H' := by
  obtain ⟨ρ, Fs, f, x, b, ρ', h, hb, k⟩ := h
  simp only [ev, Option.bind_eq_some_iff, Option.map_eq_some_iff, Prod.mk.injEq] at h
  obtain ⟨⟨xs, ρ1⟩, h1, r, h2, y, h3, h4, h5⟩ := h
  subst h4 h5
  simp only [fin, if_true, Option.map_eq_some_iff] at h3
  obtain ⟨b', h6, h7⟩ := h3
  subst h7
  simp only [D.bl.injEq] at hb
  subst hb
  refine ⟨ρ, Fs, f, xs, ρ1, h1, fun vs H1 Fs1 Gs a => ⟨xs, Gs, r, b', a.args, h2, h6, fun v H' F q => ?_⟩⟩
  have z := a.op (r0 := none) q fun _ _ z => nomatch z
  exact k H' Fs1 z.fr z.st z.qt
theorem args2 {vs : List V} {xs : List FD} {Gs : List (List Addr)} {x y : FD} (A : ArgsR K H vs xs Gs) (e : xs = [x, y]) : ∃ v w F G, vs = [v, w] ∧ Rep K H x.o F v x.d ∧ Rep K H y.o G w y.d ∧ Gs = [F, G] := by
  subst e
  cases A with
  | cons r _ t => cases t with
    | cons r2 _ t => cases t; exact ⟨_, _, _, _, rfl, r, r2, rfl⟩
theorem args1 {vs : List V} {xs : List FD} {Gs : List (List Addr)} {x : FD} (A : ArgsR K H vs xs Gs) (e : xs = [x]) : ∃ v F, vs = [v] ∧ Rep K H x.o F v x.d ∧ Gs = [F] := by
  subst e
  cases A with
  | cons r _ t => cases t; exact ⟨_, _, rfl, r, rfl⟩
theorem args3 {vs : List V} {xs : List FD} {Gs : List (List Addr)} {x y z : FD} (A : ArgsR K H vs xs Gs) (e : xs = [x, y, z]) : ∃ v w u F G J, vs = [v, w, u] ∧ Rep K H x.o F v x.d ∧ Rep K H y.o G w y.d ∧ Rep K H z.o J u z.d ∧ Gs = [F, G, J] := by
  subst e
  cases A with
  | cons r _ t => cases t with
    | cons r2 _ t => cases t with
      | cons r3 _ t => cases t; exact ⟨_, _, _, _, _, _, rfl, r, r2, r3, rfl⟩
theorem args_len {vs : List V} {xs : List FD} {Gs : List (List Addr)} (A : ArgsR K H vs xs Gs) : vs.length = xs.length := by
  induction A with
  | nil => rfl
  | cons _ _ _ ih => simp [ih]
theorem new_nrm {xs : List FD} {Gs : List (List Addr)} {d : D} {v : V} {F : List Addr} (n : New H K d v H' F) : OpE H K xs Gs ⟨.own, d⟩ v H' F := n.op
theorem tE_bin {o : Operator} {a b : E} (h : tE K C (.op (.bin o) [a, b]) σ H Q) : tL K C [a, b] σ H fun vs H1 => ∃ x y, vs = [x, y] ∧ rBin K o x y H1 Q := by
  refine tL_mono (fun vs H1 ⟨xs, Gs, r, A, e, k⟩ => ?_) (tE_op h)
  unfold opD at e
  split at e <;> first | (rename_i q; cases q; done) | skip
  all_goals first
    | (rename_i o' x y q1
       cases q1
       simp only [Option.map_eq_some_iff] at e
       obtain ⟨d, e1, e2⟩ := e
       obtain ⟨v, w, F, G, rfl, r1, r2, _⟩ := args2 A rfl
       subst e2
       exact ⟨v, w, rfl, binS o r1 r2 e1 fun v' H' F' n => k v' H' F' n.op (.inl (fun z => nomatch z))⟩)
    | (cases e; done)
theorem tE_un {o : UnaryOp} {a : E} (h : tE K C (.op (.un o) [a]) σ H Q) : tL K C [a] σ H fun vs H1 => ∃ x, vs = [x] ∧ rUn o x H1 Q := by
  refine tL_mono (fun vs H1 ⟨xs, Gs, r, A, e, k⟩ => ?_) (tE_op h)
  unfold opD at e
  split at e <;> first | (rename_i q; cases q; done) | skip
  all_goals first
    | (rename_i o' x q1
       cases q1
       simp only [Option.map_eq_some_iff] at e
       obtain ⟨d, e1, e2⟩ := e
       obtain ⟨v, F, rfl, r1, _⟩ := args1 A rfl
       subst e2
       exact ⟨v, rfl, unS o r1 e1 fun v' H' F' n => k v' H' F' n.op (.inl (fun z => nomatch z))⟩)
    | (cases e; done)
theorem cmp_at {o : CmpOp} {xs : List FD} {r : FD} (e : opD (.cmp o) xs = some r) : ∃ x y b, xs = [x, y] ∧ cmpD o x.d y.d = some b ∧ r = ⟨.own, .bl b⟩ := by
  unfold opD at e
  split at e <;> first | (rename_i q; cases q; done) | skip
  all_goals first
    | (rename_i o' x y q1
       cases q1
       simp only [Option.map_eq_some_iff] at e
       obtain ⟨b, e1, e2⟩ := e
       exact ⟨x, y, b, rfl, e1, e2.symm⟩)
    | (cases e; done)
theorem tE_cmp {o : CmpOp} {a b : E} (h : tE K C (.op (.cmp o) [a, b]) σ H Q) : tL K C [a, b] σ H fun vs H1 => ∃ x y, vs = [x, y] ∧ rCmp K o x y H1 Q := by
  refine tL_mono (fun vs H1 ⟨xs, Gs, r, A, e, k⟩ => ?_) (tE_op h)
  obtain ⟨x, y, b, rfl, e1, rfl⟩ := cmp_at e
  obtain ⟨v, w, F, G, rfl, r1, r2, _⟩ := args2 A rfl
  exact ⟨v, w, rfl, cmpS o r1 r2 e1 (k _ _ [] (New.flat .bl).op (.inl (fun z => nomatch z)))⟩
theorem tT_cmp {o : CmpOp} {a b : E} {Q : Bool → Hp → Prop} (h : tT K C (.op (.cmp o) [a, b]) σ H Q) : tL K C [a, b] σ H fun vs H1 => ∃ x y, vs = [x, y] ∧ rCmp K o x y H1 fun z H' => ∃ k, z = .bl k ∧ Q k H' := by
  refine tL_mono (fun vs H1 ⟨xs, Gs, r, b, A, e, t, k⟩ => ?_) (tT_op h)
  obtain ⟨x, y, b', rfl, e1, rfl⟩ := cmp_at e
  obtain ⟨v, w, F, G, rfl, r1, r2, _⟩ := args2 A rfl
  simp only [truthD, Option.some.injEq] at t
  subst t
  exact ⟨v, w, rfl, cmpS o r1 r2 e1 ⟨b', rfl, k _ _ [] (New.flat .bl).op⟩⟩
theorem tE_ix {a b : E} (h : tE K C (.op .ix [a, b]) σ H Q) : tL K C [a, b] σ H fun vs H1 => ∃ x y, vs = [x, y] ∧ rIxX K x y H1 Q := by
  refine tL_mono (fun vs H1 ⟨xs, Gs, r, A, e, k⟩ => ?_) (tE_op h)
  unfold opD at e
  split at e <;> first | (rename_i q; cases q; done) | skip
  all_goals first
    | (rename_i x y q1
       simp only [Option.map_eq_some_iff] at e
       obtain ⟨d, e1, e2⟩ := e
       obtain ⟨v, w, F, G, rfl, r1, r2, rfl⟩ := args2 A rfl
       subst e2
       refine ⟨v, w, rfl, ixS r1 r2 e1 fun v' F' q1 q2 => ?_⟩
       cases p : d.mut with
       | false =>
         refine k v' H1 [] ⟨Same.refl _, ?_, .inl ⟨by rw [nrm_pure p], .nil, by simp⟩⟩ (.inl (by rw [nrm_pure p]; exact fun z => nomatch z))
         rw [nrm_pure p]
         exact q1.pure' p _
       | true =>
         refine k v' H1 F' ⟨Same.refl _, ?_, .inr ⟨0, x, F, rfl, rfl, by rw [nrm_mut p], q2⟩⟩ (by
           by_cases z : x.f = .bor
           · exact .inr ⟨x, F, rfl, rfl, rfl, z, q2⟩
           · exact .inl (by rw [nrm_mut p]; exact z))
         rw [nrm_mut p]
         exact q1)
    | (cases e; done)
theorem int_v {o : Bool} {F : List Addr} {v : V} {d : D} {i : Int} (r : Rep K H o F v d) (e : intD d = some i) : v = .int i := by
  cases d <;> simp [intD] at e
  subst e
  exact (rep_int r).1
theorem tE_sl0 {a : E} (h : tE K C (.op (.sl false false) [a]) σ H Q) : tL K C [a] σ H fun vs H1 => ∃ x, vs = [x] ∧ rSlX K x none none H1 Q := by
  refine tL_mono (fun vs H1 ⟨xs, Gs, r, A, e, k⟩ => ?_) (tE_op h)
  unfold opD at e
  split at e <;> first | (rename_i q; cases q; done) | skip
  all_goals first
    | (rename_i x q1
       simp only [Option.map_eq_some_iff] at e
       obtain ⟨d, e1, e2⟩ := e
       obtain ⟨v, F, rfl, r1, _⟩ := args1 A rfl
       subst e2
       exact ⟨v, rfl, slS none none r1 e1 fun v' H' F' n => k v' H' F' n.op (.inl (fun z => nomatch z))⟩)
    | (cases e; done)
theorem tE_sl1 {a b : E} (h : tE K C (.op (.sl true false) [a, b]) σ H Q) : tL K C [a, b] σ H fun vs H1 => ∃ x y, vs = [x, y] ∧ ∃ i, y = .int i ∧ rSlX K x (some i) none H1 Q := by
  refine tL_mono (fun vs H1 ⟨xs, Gs, r, A, e, k⟩ => ?_) (tE_op h)
  unfold opD at e
  split at e <;> first | (rename_i q; cases q; done) | skip
  all_goals first
    | (rename_i x y q1
       simp only [Option.bind_eq_some_iff, Option.map_eq_some_iff] at e
       obtain ⟨i, e0, d, e1, e2⟩ := e
       obtain ⟨v, w, F, G, rfl, r1, r2, _⟩ := args2 A rfl
       subst e2
       exact ⟨v, w, rfl, i, int_v r2 e0, slS (some i) none r1 e1 fun v' H' F' n => k v' H' F' n.op (.inl (fun z => nomatch z))⟩)
    | (cases e; done)
theorem tE_sl2 {a b : E} (h : tE K C (.op (.sl false true) [a, b]) σ H Q) : tL K C [a, b] σ H fun vs H1 => ∃ x y, vs = [x, y] ∧ ∃ i, y = .int i ∧ rSlX K x none (some i) H1 Q := by
  refine tL_mono (fun vs H1 ⟨xs, Gs, r, A, e, k⟩ => ?_) (tE_op h)
  unfold opD at e
  split at e <;> first | (rename_i q; cases q; done) | skip
  all_goals first
    | (rename_i x y q1
       simp only [Option.bind_eq_some_iff, Option.map_eq_some_iff] at e
       obtain ⟨i, e0, d, e1, e2⟩ := e
       obtain ⟨v, w, F, G, rfl, r1, r2, _⟩ := args2 A rfl
       subst e2
       exact ⟨v, w, rfl, i, int_v r2 e0, slS none (some i) r1 e1 fun v' H' F' n => k v' H' F' n.op (.inl (fun z => nomatch z))⟩)
    | (cases e; done)
theorem tE_sl3 {a b c : E} (h : tE K C (.op (.sl true true) [a, b, c]) σ H Q) : tL K C [a, b, c] σ H fun vs H1 => ∃ x y z, vs = [x, y, z] ∧ ∃ i j, y = .int i ∧ z = .int j ∧ rSlX K x (some i) (some j) H1 Q := by
  refine tL_mono (fun vs H1 ⟨xs, Gs, r, A, e, k⟩ => ?_) (tE_op h)
  unfold opD at e
  split at e <;> first | (rename_i q; cases q; done) | skip
  all_goals first
    | (rename_i x y z q1
       simp only [Option.bind_eq_some_iff, Option.map_eq_some_iff] at e
       obtain ⟨i, e0, j, e00, d, e1, e2⟩ := e
       obtain ⟨v, w, u, F, G, J, rfl, r1, r2, r3, _⟩ := args3 A rfl
       subst e2
       exact ⟨v, w, u, rfl, i, j, int_v r2 e0, int_v r3 e00, slS (some i) (some j) r1 e1 fun v' H' F' n => k v' H' F' n.op (.inl (fun z => nomatch z))⟩)
    | (cases e; done)
theorem tE_blt {b : Bi} {args : List E} (h : tE K C (.op (.blt b) args) σ H Q) : tL K C args σ H fun vs H1 => rBlt K b vs H1 Q := by
  refine tL_mono (fun vs H1 ⟨xs, Gs, r, A, e, k⟩ => ?_) (tE_op h)
  have e : (bltD b (xs.map (·.d))).map (fun d => (⟨.own, d⟩ : FD)) = some r := by
    simpa only [opD] using e
  simp only [Option.map_eq_some_iff] at e
  obtain ⟨d, e1, e2⟩ := e
  subst e2
  exact bltS b A e1 fun v' H' F' n => k v' H' F' n.op (.inl (fun z => nomatch z))

theorem tL_len {K : PySem.W.Frag} {es : List E} {σ : L2.St} {H : Hp} {R : List V → Hp → Prop} (h : tL K C es σ H R) : tL K C es σ H fun vs H' => vs.length = es.length ∧ R vs H' := by
  obtain ⟨ρ, Fs, f, xs, ρ', e, k⟩ := h
  refine ⟨ρ, Fs, f, xs, ρ', e, fun vs H' Fs' Gs a => ⟨?_, k vs H' Fs' Gs a⟩⟩
  rw [a.lv, a.le]
/-- an operator whose answer has no root -/
theorem tE_opN {o : OpK} {args : List E} (hr : rootE (.op o args) = none) (h : tE K C (.op o args) σ H Q) :
    tL K C args σ H fun vs H1 => ∃ xs Gs r, ArgsR K H1 vs xs Gs ∧ opD o xs = some r ∧ ∀ v H' F, OpE H1 K xs Gs r v H' F → Q v H' := by
  obtain ⟨ρ, Fs, f, x, ρ', h, k⟩ := h
  simp only [ev, Option.bind_eq_some_iff, Option.map_eq_some_iff, Prod.mk.injEq] at h
  obtain ⟨⟨xs, ρ1⟩, h1, r, h2, y, h3, h4, h5⟩ := h
  subst h4 h5
  simp only [fin, if_neg Bool.false_ne_true, Option.some.injEq] at h3
  subst h3
  refine ⟨ρ, Fs, f, xs, ρ1, h1, fun vs H1 Fs1 Gs a => ⟨xs, Gs, r, a.args, h2, fun v H' F q => k v H' Fs1 F (a.op q fun z i e => ?_)⟩⟩
  rw [hr] at e; cases e
theorem tE_rev {a : E} (h : tE K C (.op .rev [a]) σ H Q) : tL K C [a] σ H fun vs H1 => ∃ x, vs = [x] ∧ ∃ p ys, x = .ref p ∧ SqL K H1 p ys ∧ ∀ l, H1 l = none → Q (.ref l) (upd H1 l (.lst ys.reverse)) := by
  refine tL_mono (fun vs H1 ⟨xs, Gs, r, A, e, k⟩ => ?_) (tE_op h)
  unfold opD at e
  split at e <;> first | (rename_i q; cases q; done) | skip
  all_goals first
    | (rename_i x q1
       simp only [Option.map_eq_some_iff] at e
       obtain ⟨d, e1, e2⟩ := e
       obtain ⟨v, F, rfl, r1, _⟩ := args1 A rfl
       subst e2
       unfold revD at e1
       split at e1
       · rename_i ds hd
         split at e1
         · rename_i p
           cases e1
           rw [hd] at r1
           obtain ⟨b, vs, G1, rfl, rd, s1, _⟩ := rep_lst r1
           refine ⟨_, rfl, b, vs, rfl, .inl rd, fun l hl => k _ _ _ (New.lst hl ?_).op (.inl fun z => nomatch z)⟩
           have rs := s1.pure' p true
           have ln : vs.reverse.length = ds.reverse.length := by simp [s1.length]
           refine Reps.of_ix ln fun i v d h1 h2 => ?_
           have hi := (List.getElem?_eq_some_iff.mp h1).1
           rw [List.length_reverse] at hi
           rw [List.getElem?_reverse hi] at h1
           rw [List.getElem?_reverse (by rw [← s1.length]; exact hi), ← s1.length] at h2
           exact rs.ix h1 h2
         · cases e1
       · cases e1)
    | (cases e; done)
theorem tE_lrg {a : E} (h : tE K C (.op .lrg [a]) σ H Q) : tL K C [a] σ H fun vs H1 => ∃ x, vs = [x] ∧ ∃ n, x = .int n ∧ (L2.RgOk 0 n ∧ ∀ l, H1 l = none → Q (.ref l) (upd H1 l (.lst (L2.rgV 0 n)))) := by
  refine tL_mono (fun vs H1 ⟨xs, Gs, r, A, e, k⟩ => ?_) (tE_op h)
  unfold opD at e
  split at e <;> first | (rename_i q; cases q; done) | skip
  all_goals first
    | (rename_i x q1
       simp only [Option.map_eq_some_iff] at e
       obtain ⟨d, e1, e2⟩ := e
       obtain ⟨v, F, rfl, r1, _⟩ := args1 A rfl
       subst e2
       unfold lrgD at e1
       split at e1
       · rename_i n hd
         split at e1
         · rename_i p
           cases e1
           rw [hd] at r1
           cases r1
           refine ⟨_, rfl, n, rfl, L2.RgOk.of_le (by omega) (by omega) (by omega) (by omega), fun l hl => k _ _ _ (New.lst hl ?_).op (.inl fun z => nomatch z)⟩
           refine Reps.of_ix (by simp [L2.rgV]) fun i v d h1 h2 => ?_
           simp only [L2.rgV, List.getElem?_map, Option.map_eq_some_iff] at h1 h2
           obtain ⟨j, q1, rfl⟩ := h1
           obtain ⟨j2, q2, rfl⟩ := h2
           obtain rfl : j = j2 := Option.some.inj (q1.symm.trans q2)
           exact .int
         · cases e1
       · cases e1)
    | (cases e; done)
theorem opD_dget {xs : List FD} {r : FD} (h : opD .dget xs = some r) : ∃ x y kvs key, x.d = .dK kvs ∧ D.key y.d = some key ∧
    ((xs = [x, y] ∧ r = (match lookD kvs key with | some d => nrm x.f d | none => ⟨.own, .non⟩)) ∨ ∃ z, xs = [x, y, z] ∧ r = (match lookD kvs key with | some d => nrm x.f d | none => z)) := by
  have go : ∀ {x y : FD} {o : Option D}, dgD x.d y.d = some o → ∃ kvs key, x.d = .dK kvs ∧ D.key y.d = some key ∧ o = lookD kvs key := fun {x y o} e => by
    unfold dgD at e
    split at e
    · rename_i kvs e3
      simp only [Option.map_eq_some_iff] at e
      obtain ⟨key, e4, rfl⟩ := e
      exact ⟨kvs, key, e3, e4, rfl⟩
    · cases e
  match xs, h with
  | [x, y], h =>
    have h : (dgD x.d y.d).map _ = some r := h
    simp only [Option.map_eq_some_iff] at h
    obtain ⟨o, e1, e2⟩ := h
    obtain ⟨kvs, key, q1, q2, rfl⟩ := go e1
    exact ⟨x, y, kvs, key, q1, q2, .inl ⟨rfl, e2.symm⟩⟩
  | [x, y, z], h =>
    have h : (dgD x.d y.d).map _ = some r := h
    simp only [Option.map_eq_some_iff] at h
    obtain ⟨o, e1, e2⟩ := h
    obtain ⟨kvs, key, q1, q2, rfl⟩ := go e1
    exact ⟨x, y, kvs, key, q1, q2, .inr ⟨z, rfl, e2.symm⟩⟩
  | [], h => cases h
  | [_], h => cases h
  | _ :: _ :: _ :: _ :: _, h => cases h
theorem dget_R {x y : FD} {kvs : List (Key × D)} {key : Key} {v w : V} {F G : List Addr} (r1 : Rep K H x.o F v x.d) (r2 : Rep K H y.o G w y.d) (hx : x.d = .dK kvs) (hk : D.key y.d = some key) :
    ∃ a, v = .ref a ∧ ((lookD kvs key = none ∧ DGet H a w none) ∨ ∃ d u F', lookD kvs key = some d ∧ DGet H a w (some u) ∧ Rep K H x.o F' u d ∧ F'.Sublist F) := by
  rw [hx] at r1
  obtain ⟨a, ws, G1, rfl, rd, e2, s1, e, _⟩ := rep_dK r1
  refine ⟨a, rfl, ?_⟩
  cases el : lookD kvs key with
  | none =>
    have : valV ws key = none := by
      have := lookD_map e2 (k := key)
      rw [el] at this
      cases q : valV ws key with
      | none => rfl
      | some p => rw [q] at this; cases this
    exact .inl ⟨rfl, .inl ⟨ws, key, rd, key_v r2 hk, this.symm⟩⟩
  | some d =>
    obtain ⟨u, G2, h1, h2, h3⟩ := lookD_at e2 s1 el
    exact .inr ⟨d, u, G2, rfl, .inl ⟨ws, key, rd, key_v r2 hk, h1.symm⟩, h2, e ▸ h3.trans (List.sublist_cons_self _ _)⟩
theorem nrm_OpE {xs : List FD} {Gs : List (List Addr)} {x : FD} {F F' : List Addr} {d : D} {u : V} (hx : xs[0]? = some x) (hG : Gs[0]? = some F) (r : Rep K H x.o F' u d) (s : F'.Sublist F) : ∃ F2, OpE H K xs Gs (nrm x.f d) u H F2 := by
  cases p : d.mut with
  | false =>
    refine ⟨[], ⟨Same.refl _, ?_, .inl ⟨by rw [nrm_pure p], .nil, by simp⟩⟩⟩
    rw [nrm_pure p]
    have e := r.pure p
    subst e
    exact r.up p _
  | true =>
    refine ⟨F', ⟨Same.refl _, ?_, .inr ⟨0, x, F, hx, hG, by rw [nrm_mut p], s⟩⟩⟩
    rw [nrm_mut p]
    exact r
/-- the local's dict at the start -/
theorem dget_at {i : Nat} {es : List E} {ρ' : Rho} {xs : List FD} (fr : FR K H σ ρ Fs) (q : E.quiet.E.quietL (.var i :: es) = true) (h1 : evL C (.var i :: es) ρ = some (xs, ρ')) {kvs : List (Key × D)} (hx : ∀ x, xs[0]? = some x → x.d = .dK kvs) :
    ∃ a, σ[i]? = some (some (.ref a)) ∧ IsD H a := by
  obtain ⟨x, ys, rfl, g1, _, _⟩ := evL_one q h1
  simp only [evL, Option.bind_eq_some_iff, Option.some.injEq, Option.map_eq_some_iff, Prod.mk.injEq] at g1
  obtain ⟨_, _, _, rfl, y, hy, e1, _⟩ := g1
  cases e1
  obtain ⟨s, e, ex⟩ := readV_some hy
  obtain ⟨v, h2, r, _⟩ := fr.rep i s e
  have hd := hx _ rfl
  rw [ex, nrm_d] at hd
  rw [hd] at r
  obtain ⟨a, ws, G, rfl, rd, _⟩ := rep_dK r
  exact ⟨a, h2, .inl ⟨ws, rd⟩⟩
theorem dget_st {i : Nat} {es : List E} (q : E.quiet.E.quietL es = true) (h : tE K C (.op .dget (.var i :: es)) σ H Q) : ∃ a, σ[i]? = some (some (.ref a)) ∧ IsD H a := by
  obtain ⟨ρ, Fs, fr, x, ρ', h, kk⟩ := h
  simp only [ev, Option.bind_eq_some_iff, Option.map_eq_some_iff, Prod.mk.injEq] at h
  obtain ⟨⟨xs, ρ1⟩, h1, r, h2, y, h3, h4, h5⟩ := h
  obtain ⟨x, y, kvs, key, q1, q2, q3⟩ := opD_dget h2
  refine dget_at (kvs := kvs) fr (by simp only [E.quiet.E.quietL, E.quiet, q, Bool.and_self]) h1 fun z hz => ?_
  rcases q3 with ⟨rfl, _⟩ | ⟨_, rfl, _⟩ <;> (cases hz; exact q1)
theorem tE_dget1 {i : Nat} {k : E} (qk : E.quiet k = true) (h : tE K C (.op .dget [.var i, k]) σ H Q) : tDGet1 (tVar i) (tV K C k) σ H Q := by
  obtain ⟨a, hσ, isd⟩ := dget_st (by simp only [E.quiet.E.quietL, qk, Bool.and_self]) h
  refine ⟨_, hσ, a, rfl, isd, ?_⟩
  obtain ⟨v, e1, w⟩ := tL_cons (tE_opN (by rfl) h)
  rw [hσ] at e1; cases e1
  refine tL_one (tL_mono (fun vs H1 ⟨ln, xs, Gs, r, A, e, k⟩ => ?_) (tL_len w))
  obtain ⟨x, y, kvs, key, q1, q2, ⟨rfl, q3⟩ | ⟨z, rfl, q3⟩⟩ := opD_dget e
  · obtain ⟨v, w, F, G, ev, r1, r2, rfl⟩ := args2 A rfl
    simp only [List.cons.injEq] at ev
    obtain ⟨rfl, rfl⟩ := ev
    obtain ⟨a', ea, z⟩ := dget_R r1 r2 q1 q2
    cases ea
    refine ⟨w, rfl, ?_⟩
    rcases z with ⟨z1, z2⟩ | ⟨d, u, F', z1, z2, z3, z4⟩
    · rw [z1] at q3
      subst q3
      exact ⟨none, z2, k _ _ [] (New.flat .non).op⟩
    · rw [z1] at q3
      subst q3
      obtain ⟨F2, q⟩ := nrm_OpE (xs := [x, y]) (Gs := [F, G]) rfl rfl z3 z4
      exact ⟨some u, z2, k _ _ F2 q⟩
  · have := args_len A
    simp at this ln
    omega
theorem tE_dget2 {i : Nat} {k c : E} (qk : E.quiet k = true) (qc : E.quiet c = true) (h : tE K C (.op .dget [.var i, k, c]) σ H Q) : tDGet2 (tVar i) (tV K C k) (tV K C c) σ H Q := by
  obtain ⟨a, hσ, isd⟩ := dget_st (by simp only [E.quiet.E.quietL, qk, qc, Bool.and_self]) h
  refine ⟨_, hσ, a, rfl, isd, ?_⟩
  obtain ⟨v, e1, w⟩ := tL_cons (tE_opN (by rfl) h)
  rw [hσ] at e1; cases e1
  refine tL_two (R := fun y z H2 => ∃ o, DGet H2 a y o ∧ Q (o.getD z) H2) (tL_mono (fun vs H1 ⟨ln, xs, Gs, r, A, e, k⟩ => ?_) (tL_len w))
  obtain ⟨x, y, kvs, key, q1, q2, ⟨rfl, q3⟩ | ⟨z, rfl, q3⟩⟩ := opD_dget e
  · have := args_len A
    simp at this ln
    omega
  · obtain ⟨v, w, u0, F, G, J, ev, r1, r2, r3, rfl⟩ := args3 A rfl
    simp only [List.cons.injEq] at ev
    obtain ⟨rfl, rfl⟩ := ev
    obtain ⟨a', ea, zz⟩ := dget_R r1 r2 q1 q2
    cases ea
    refine ⟨w, u0, rfl, ?_⟩
    rcases zz with ⟨z1, z2⟩ | ⟨d, u, F', z1, z2, z3, z4⟩
    · rw [z1] at q3
      subst q3
      exact ⟨none, z2, k _ _ J ⟨Same.refl _, r3, .inr ⟨2, r, J, rfl, rfl, rfl, List.Sublist.refl _⟩⟩⟩
    · rw [z1] at q3
      subst q3
      obtain ⟨F2, q⟩ := nrm_OpE (xs := [x, y, z]) (Gs := [F, G, J]) rfl rfl z3 z4
      exact ⟨some u, z2, k _ _ F2 q⟩
theorem tE_mth {b : Mt} {args : List E} (h : tE K C (.op (.mth b) args) σ H Q) : tL K C args σ H fun vs H1 => rMth K b vs H1 Q := by
  refine tL_mono (fun vs H1 ⟨xs, Gs, r, A, e, k⟩ => ?_) (tE_op h)
  have e : (mthD b (xs.map (·.d))).map (fun d => (⟨.own, d⟩ : FD)) = some r := by
    simpa only [opD] using e
  simp only [Option.map_eq_some_iff] at e
  obtain ⟨d, e1, e2⟩ := e
  subst e2
  exact mthS b A e1 fun v' H' F' n => k v' H' F' n.op (.inl (fun z => nomatch z))
theorem tV_strC {z : Str} {R : VK} (h : tV K C (.cst (.str z)) σ H R) : tV K C (.cst (.str z)) σ H fun x H1 => (∃ a, x = .str a) ∧ R x H1 := by
  obtain ⟨ρ, Fs, f, x, ρ', h1, k⟩ := h
  refine ⟨ρ, Fs, f, x, ρ', h1, fun v H' Fs' F a => ⟨?_, k v H' Fs' F a⟩⟩
  simp only [ev, fin, if_neg Bool.false_ne_true, Option.map_some, Option.some.injEq, Prod.mk.injEq] at h1
  obtain ⟨rfl, rfl⟩ := h1
  have r := a.tm.rep
  obtain ⟨e, _⟩ := rep_str r
  exact ⟨z, e⟩
theorem tE_kop {m : KM} {g : Nat} {args : List E} (h : tE K C (.kop m g args) σ H Q) :
    ∃ kvs, C.gdict g = some kvs ∧ tL K C args σ H fun vs H1 => ∃ xs Gs d, ArgsR K H1 vs xs Gs ∧ kopD m kvs (xs.map (·.d)) = some d ∧ ∀ v H' F, New H1 K d v H' F → Q v H' := by
  obtain ⟨ρ, Fs, f, x, ρ', h, k⟩ := h
  simp only [ev, Option.bind_eq_some_iff, Option.map_eq_some_iff, Prod.mk.injEq] at h
  obtain ⟨kvs, h0, ⟨xs, ρ1⟩, h1, d, h2, y, h3, h4, h5⟩ := h
  subst h4 h5
  simp only [fin, if_neg Bool.false_ne_true, Option.some.injEq] at h3
  subst h3
  refine ⟨kvs, h0, ρ, Fs, f, xs, ρ1, h1, fun vs H1 Fs1 Gs a => ⟨xs, Gs, d, a.args, h2, fun v H' F q => k v H' Fs1 F ?_⟩⟩
  exact a.op (r0 := none) q.op fun _ _ z => nomatch z

/-! ### truth -/
theorem truth_v {o : Bool} {F : List Addr} {v : V} {d : D} {b : Bool} (r : Rep K H o F v d) (e : truthD d = some b) : TruV K v H b := by
  cases r with
  | non => simp [truthD] at e; exact e
  | bl => simp [truthD] at e; exact e.symm
  | int => simp [truthD] at e; exact e.symm
  | str =>
    simp only [truthD] at e
    split at e
    · rename_i q
      simp only [Option.some.injEq] at e
      exact ⟨q, e.symm⟩
    · cases e
  | tup h r =>
    simp only [truthD, Option.some.injEq] at e
    subst e
    refine .inr (.inl ⟨_, h, ?_⟩)
    have := r.length
    cases r <;> simp
  | lst h r =>
    simp only [truthD, Option.some.injEq] at e
    subst e
    refine .inl ⟨_, .inl h.rd, ?_⟩
    cases r <;> simp
  | clst h r =>
    simp only [truthD, Option.some.injEq] at e
    subst e
    refine .inl ⟨_, h.sqL, ?_⟩
    cases r <;> simp
  | dK _ _ _ => simp [truthD] at e
  | dT _ _ _ => simp [truthD] at e
/-- a test by the value's truth -/
def truP : E → Bool
  | .var _ => true
  | .cst _ => true
  | .glob _ => true
  | .op _ _ => true
  | .call _ _ => true
  | .kop _ _ _ => true
  | _ => false
theorem ev_true {e : E} (p : truP e = true) : ev C true e ρ = (ev C false e ρ).bind fun r => (fin true r.1).map fun y => (y, r.2) := by
  cases e with
  | var i => simp only [ev, Option.bind_assoc, fin, if_neg Bool.false_ne_true, Option.map_some, Option.bind_some]
  | cst c =>
    simp only [ev]
    split <;> simp [fin]
  | glob g => simp only [ev, Option.bind_assoc, fin, if_neg Bool.false_ne_true, Option.map_some, Option.bind_some]
  | op o args => simp only [ev, Option.bind_assoc, fin, if_neg Bool.false_ne_true, Option.map_some, Option.bind_some]
  | call f args => simp only [ev, Option.bind_assoc, fin, if_neg Bool.false_ne_true, Option.map_some, Option.bind_some]
  | kop m g args => simp only [ev, Option.bind_assoc, fin, if_neg Bool.false_ne_true, Option.map_some, Option.bind_some]
  | _ => cases p
theorem tT_tru {e : E} {Q : Bool → Hp → Prop} (p : truP e = true) (h : tT K C e σ H Q) : tV K C e σ H fun x H' => ∃ k, TruV K x H' k ∧ Q k H' := by
  refine tE_tV ?_
  obtain ⟨ρ, Fs, f, x, b, ρ', h, hb, k⟩ := h
  rw [ev_true p] at h
  simp only [Option.bind_eq_some_iff, Option.map_eq_some_iff, Prod.mk.injEq] at h
  obtain ⟨⟨y, ρ1⟩, h1, z, h2, h3, h4⟩ := h
  subst h3 h4
  simp only [fin, if_true, Option.map_eq_some_iff] at h2
  obtain ⟨b', h5, h6⟩ := h2
  subst h6
  simp only [D.bl.injEq] at hb
  subst hb
  exact ⟨ρ, Fs, f, y, ρ1, h1, fun v H' Fs' F a => ⟨b', truth_v a.tm.rep h5, k H' Fs' a.fr a.st a.qt⟩⟩
end
end B
/-! BJ: displays, calls, moves, and, or, not, changes in place. -/
namespace B
open PySem PySem.Spec L2

section
variable {K : PySem.W.Frag} {C : Ctx} {H H' H1 H2 H3 : Hp} {σ : L2.St} {ρ ρ' ρ0 ρ1 ρ2 : Rho} {Fs Fs' Fs1 Fs2 : Nat → List Addr} {Q : VK}
theorem pack_ok (ρ0 ρ : Rho) (Fs0 Fs : Nat → List Addr) (H0 H : Hp) : ∀ (xs : List FD) (vs : List V) (Gs : List (List Addr)), vs.length = xs.length → Gs.length = xs.length →
    (∀ (k : Nat) (x : FD) (v : V) (G : List Addr), xs[k]? = some x → vs[k]? = some v → Gs[k]? = some G → Tm K ρ0 Fs0 H0 ρ Fs H x v G) →
    (∀ (j k : Nat) (x y : FD) (G G' : List Addr), j ≠ k → xs[j]? = some x → xs[k]? = some y → Gs[j]? = some G → Gs[k]? = some G' → x.f = .own → ∀ a ∈ G, a ∉ G') →
    ∀ f, packF xs = some f → f ≠ .bor ∧ Reps K H (toO f) Gs.flatten vs (xs.map FD.d) ∧ (f = .own → Gs.flatten.Nodup ∧ ∀ a ∈ Gs.flatten, ¬ All ρ Fs a ∧ (Own ρ0 Fs0 a ∨ H0 a = none)) ∧ (∀ a ∈ Gs.flatten, ¬ Exc ρ Fs a ∧ ShO ρ0 Fs0 H0 a) ∧ (f = .own → ∀ x ∈ xs, x.f = .own)
  | [], [], [], _, _, _, _, f, h => by
    simp only [packF, Option.some.injEq] at h
    subst h
    exact ⟨by decide, .nil, fun _ => ⟨.nil, by simp⟩, by simp, by simp⟩
  | [], [], _ :: _, _, h, _, _, _, _ => by simp at h
  | [], _ :: _, _, h, _, _, _, _, _ => by simp at h
  | x :: xs, [], _, h, _, _, _, _, _ => by simp at h
  | x :: xs, v :: vs, [], _, h, _, _, _, _ => by simp at h
  | x :: xs, v :: vs, G :: Gs, h1, h2, tm, sp, f, h => by
    simp only [packF, Option.bind_eq_some_iff] at h
    obtain ⟨f0, e0, h⟩ := h
    obtain ⟨nb, r, o, s, al⟩ := pack_ok ρ0 ρ Fs0 Fs H0 H xs vs Gs (by simpa using h1) (by simpa using h2) (fun k x v G z1 z2 z3 => tm (k + 1) x v G (by simpa using z1) (by simpa using z2) (by simpa using z3))
      (fun j k x y G G' hjk z1 z2 z3 z4 => sp (j + 1) (k + 1) x y G G' (by omega) (by simpa using z1) (by simpa using z2) (by simpa using z3) (by simpa using z4)) f0 e0
    have t := tm 0 x v G rfl rfl rfl
    rw [List.flatten_cons]
    have shrG : ∀ a ∈ G, x.f ≠ .bor → ¬ Exc ρ Fs a ∧ ShO ρ0 Fs0 H0 a := fun a m nb => by
      cases e : x.f with
      | own => exact ⟨fun z => ((t.own e).2 a m).1 z.all, .inr ((t.own e).2 a m).2⟩
      | shr => exact t.shr e a m
      | bor => exact absurd e nb
    cases e : x.f with
    | bor => rw [e] at h; cases h
    | shr =>
      rw [e] at h
      cases h
      refine ⟨by decide, .cons t.rep.low r.low, (fun z => nomatch z), fun a m => ?_, (fun z => nomatch z)⟩
      rcases List.mem_append.mp m with m | m
      · exact shrG a m (by rw [e]; decide)
      · exact s a m
    | own =>
      rw [e] at h
      cases h
      have xo : x.o = true := toO_iff.mpr e
      refine ⟨nb, .cons ?_ r, fun z => ⟨?_, fun a m => ?_⟩, fun a m => ?_, fun z y m => ?_⟩
      · have r0 := t.rep
        rw [xo] at r0
        cases q : toO f with
        | true => exact r0
        | false => exact r0.low
      · rw [List.nodup_append]
        refine ⟨(t.own e).1, (o z).1, fun a ha b hb hab => ?_⟩
        subst hab
        obtain ⟨G', hG', hm⟩ := List.mem_flatten.mp hb
        obtain ⟨k, hk, ek⟩ := List.getElem_of_mem hG'
        have hkx : k < xs.length := by have : Gs.length = xs.length := by simpa using h2
                                       omega
        exact sp 0 (k + 1) x xs[k] G G' (by omega) rfl (by simp [hkx]) rfl (by simp [hk, ek]) e a ha hm
      · rcases List.mem_append.mp m with m | m
        · exact (t.own e).2 a m
        · exact (o z).2 a m
      · rcases List.mem_append.mp m with m | m
        · exact shrG a m (by rw [e]; decide)
        · exact s a m
      · rcases List.mem_cons.mp m with m | m
        · rw [m]; exact e
        · exact al z y m
theorem pack_own : ∀ {xs : List FD}, packF xs = some .own → ∀ x ∈ xs, x.f = .own
  | [], _, x, m => by cases m
  | y :: ys, h, x, m => by
    simp only [packF, Option.bind_eq_some_iff] at h
    obtain ⟨f0, e0, h⟩ := h
    cases e : y.f with
    | bor => rw [e] at h; cases h
    | shr => rw [e] at h; cases h
    | own =>
      rw [e] at h
      cases h
      rcases List.mem_cons.mp m with m | m
      · rw [m]; exact e
      · exact pack_own e0 x m
theorem tE_tup {args : List E} (h : tE K C (.tup args) σ H Q) : tTup (tL K C args) σ H Q := by
  obtain ⟨ρ, Fs, f, x, ρ', h, k⟩ := h
  simp only [ev, if_neg Bool.false_ne_true, Option.bind_eq_some_iff] at h
  obtain ⟨⟨xs, ρ1⟩, h1, fl, h2, h⟩ := h
  split at h
  rotate_left
  · cases h
  rename_i hz
  simp only [Option.some.injEq, Prod.mk.injEq] at h
  obtain ⟨rfl, rfl⟩ := h
  refine ⟨ρ, Fs, f, xs, ρ1, h1, fun vs H1 Fs1 Gs a => ⟨by rw [a.lv]; exact hz, fun p hp => ?_⟩⟩
  obtain ⟨nb, r, o, s, _⟩ := pack_ok ρ ρ1 Fs Fs1 H H1 xs vs Gs a.lv a.lg a.tm a.sep fl h2
  have sm : Same H1 (upd H1 p (.tup vs)) := same_upd hp
  refine k (.ref p) _ Fs1 Gs.flatten ⟨a.fr.same sm, a.st.trans (.same sm), ⟨.tup (.inl (.inl upd_same)) (r.same sm), o, fun z => ?_, fun z => absurd z nb⟩, fun z => ?_, fun z => absurd z nb⟩
  · exact s
  · obtain ⟨s1, e1, e2⟩ := a.qt z
    exact ⟨s1.trans sm, e1, e2⟩
theorem tE_lst {args : List E} (h : tE K C (.lst args) σ H Q) : tLst (tL K C args) σ H Q := by
  obtain ⟨ρ, Fs, f, x, ρ', h, k⟩ := h
  simp only [ev, if_neg Bool.false_ne_true, Option.bind_eq_some_iff] at h
  obtain ⟨⟨xs, ρ1⟩, h1, fl, h2, h⟩ := h
  split at h
  rotate_left
  · cases h
  rename_i hz
  simp only [Option.some.injEq, Prod.mk.injEq] at h
  obtain ⟨rfl, rfl⟩ := h
  refine ⟨ρ, Fs, f, xs, ρ1, h1, fun vs H1 Fs1 Gs a => ⟨by rw [a.lv]; exact hz, fun p hp => ?_⟩⟩
  obtain ⟨nb, r, o, s, _⟩ := pack_ok ρ ρ1 Fs Fs1 H H1 xs vs Gs a.lv a.lg a.tm a.sep fl h2
  have sm : Same H1 (upd H1 p (.lst vs)) := same_upd hp
  have na : ¬ All ρ1 Fs1 p := fun z => a.fr.all_trk z hp
  have atp : At (toO fl) (upd H1 p (.lst vs)) p (.lst vs) := by
    unfold At
    split
    · exact upd_same
    · exact .inl upd_same
  refine k (.ref p) _ Fs1 (p :: Gs.flatten) ⟨a.fr.same sm, a.st.trans (.same sm), ⟨.lst atp (r.same sm), fun z => ?_, fun z b m => ?_, fun z => absurd z nb⟩, fun z => ?_, fun z => absurd z nb⟩
  · obtain ⟨n, q⟩ := o z
    refine ⟨List.nodup_cons.mpr ⟨fun m => r.trk p m hp, n⟩, fun b m => ?_⟩
    rcases List.mem_cons.mp m with m | m
    · subst m; exact ⟨na, a.st.back hp⟩
    · exact q b m
  · rcases List.mem_cons.mp m with m | m
    · subst m; exact ⟨fun z => na z.all, .inr (a.st.back hp)⟩
    · exact s b m
  · obtain ⟨s1, e1, e2⟩ := a.qt z
    exact ⟨s1.trans sm, e1, e2⟩
/-! ### dict displays -/
def odds {α : Type} : List α → List α
  | _ :: b :: r => b :: odds r
  | _ => []
theorem odds_at {α : Type} : ∀ (l : List α) (k : Nat), (odds l)[k]? = l[2 * k + 1]?
  | [], k => by simp [odds]
  | [_], k => by
    simp only [odds, List.getElem?_nil]
    rw [List.getElem?_eq_none (by simp)]
  | a :: b :: r, 0 => rfl
  | a :: b :: r, k + 1 => by
    simp only [odds, List.getElem?_cons_succ]
    rw [odds_at r k]
    have : 2 * (k + 1) = 2 * k + 1 + 1 := by omega
    rw [this, List.getElem?_cons_succ]
theorem unz_odds : ∀ {xs : List FD} {ps : List (Key × FD)}, unz xs = some ps → ps.map (·.2) = odds xs
  | [], ps, h => by simp only [unz, Option.some.injEq] at h; subst h; rfl
  | [_], ps, h => by simp [unz] at h
  | k :: v :: r, ps, h => by
    simp only [unz, Option.bind_eq_some_iff, Option.map_eq_some_iff] at h
    obtain ⟨key, h1, q, h2, rfl⟩ := h
    simp only [List.map_cons, odds, unz_odds h2]
/-- the values' pairs -/
def pairV : List V → List (V × V)
  | a :: b :: r => (a, b) :: pairV r
  | _ => []
def pairTr (K : PySem.W.Frag) (C : Ctx) : List E → List (TE × TE)
  | a :: b :: r => (tV K C a, tV K C b) :: pairTr K C r
  | _ => []
theorem tL_pairs : ∀ {es : List E} {σ : L2.St} {H : Hp} {R : List (V × V) → Hp → Prop}, es.length % 2 = 0 → tL K C es σ H (fun vs H' => R (pairV vs) H') → tPairs (pairTr K C es) σ H R
  | [], σ, H, R, _, h => tL_nil h
  | [_], σ, H, R, p, h => by simp at p
  | a :: b :: es, σ, H, R, p, h => by
    refine tV_mono (fun x H1 h1 => tV_mono (fun y H2 h2 => ?_) (tL_cons h1)) (tL_cons h)
    exact tL_pairs (R := fun ps H3 => R ((x, y) :: ps) H3) (by simp at p; omega) h2
theorem unz_vals {o : List FD} {Gs : List (List Addr)} : ∀ {xs : List FD} {vs : List V} {Gs : List (List Addr)} {ps : List (Key × FD)}, ArgsR K H vs xs Gs → unz xs = some ps → pairV vs = ((ps.map (·.1)).zip (odds vs)).map (fun kv => (kV kv.1, kv.2)) ∧ (odds vs).length = ps.length
  | [], [], _, ps, .nil, h => by simp only [unz, Option.some.injEq] at h; subst h; exact ⟨rfl, rfl⟩
  | [_], _, _, ps, _, h => by simp [unz] at h
  | k :: v :: r, _, _, ps, .cons r1 _ (.cons r2 _ t), h => by
    simp only [unz, Option.bind_eq_some_iff, Option.map_eq_some_iff] at h
    obtain ⟨key, h1, q, h2, rfl⟩ := h
    obtain ⟨e1, e2⟩ := unz_vals (o := o) (Gs := Gs) t h2
    have ek := key_v r1 h1
    subst ek
    exact ⟨by simp only [pairV, odds, List.map_cons, List.zip_cons_cons, e1], by simp only [odds, List.length_cons, e2]⟩
theorem mergeK_nodup : ∀ {more acc : List (Key × V)}, (acc.map (·.1) ++ more.map (·.1)).Nodup → mergeK acc more = acc ++ more
  | [], acc, _ => by simp [mergeK]
  | p :: r, acc, h => by
    have hp : (acc.any fun kv => decide (kv.1 = p.1)) = false := by
      rw [List.any_eq_false]
      intro q hq
      rw [List.nodup_append] at h
      have := h.2.2 q.1 (List.mem_map.mpr ⟨q, hq, rfl⟩) p.1 (by simp)
      simpa using this
    have e : putK acc p.1 p.2 = acc ++ [p] := by
      unfold putK
      rw [if_neg (by rw [hp]; decide)]
    show mergeK (putK acc p.1 p.2) r = _
    rw [e, mergeK_nodup (by simpa using h)]
    simp
theorem tE_dict {kvs : List E} (h : tE K C (.dict kvs false) σ H Q) : ∀ p, H p = none → tPairs (pairTr K C kvs) σ (upd H p (.dK [])) fun ps H2 => H2 p = some (.dK []) ∧ ∃ kvs : List (Key × V), ps = kvs.map (fun kv => (kV kv.1, kv.2)) ∧ kvs.length ≤ 15 ∧ Q (.ref p) (upd H2 p (.dK (mergeK [] kvs))) := by
  obtain ⟨ρ, Fs, f, x, ρ', h, k⟩ := h
  simp only [ev, if_neg Bool.false_ne_true, Option.bind_eq_some_iff, Option.map_eq_some_iff, Prod.mk.injEq, dictF] at h
  obtain ⟨⟨xs, ρ1⟩, h1, y, ⟨ps, h2, fl, h3, h4⟩, h5, h6⟩ := h
  subst h5 h6
  split at h4
  rotate_left
  · cases h4
  rename_i cnd
  simp only [Option.some.injEq] at h4
  subst h4
  intro p hp
  have sm : Same H (upd H p (.dK [])) := same_upd hp
  have ev2 : ∀ {xs : List FD} {ps : List (Key × FD)}, unz xs = some ps → xs.length % 2 = 0 := by
    intro xs
    induction xs using unz.induct with
    | case1 => intro ps _; rfl
    | case2 _ => intro ps h; simp [unz] at h
    | case3 k v r ih =>
      intro ps h
      simp only [unz, Option.bind_eq_some_iff, Option.map_eq_some_iff] at h
      obtain ⟨key, _, q, h2, _⟩ := h
      have := ih h2
      simp only [List.length_cons]
      omega
  have hlen : kvs.length = xs.length := by
    have : ∀ {es : List E} {ρ : Rho} {xs : List FD} {ρ' : Rho}, evL C es ρ = some (xs, ρ') → es.length = xs.length := by
      intro es
      induction es with
      | nil => intro ρ xs ρ' h; simp only [evL, Option.some.injEq, Prod.mk.injEq] at h; rw [← h.1]; rfl
      | cons e es ih =>
        intro ρ xs ρ' h
        by_cases hv : ∃ i, e = .var i
        · obtain ⟨i, rfl⟩ := hv
          simp only [evL, Option.bind_eq_some_iff, Option.map_eq_some_iff, Prod.mk.injEq] at h
          obtain ⟨_, _, ⟨ys, ρ1⟩, h1, _, _, h3, _⟩ := h
          rw [← h3]
          simp [ih h1]
        · rw [evL_cons fun i z => hv ⟨i, z⟩] at h
          simp only [Option.bind_eq_some_iff] at h
          obtain ⟨⟨y, ρ1⟩, _, h⟩ := h
          split at h
          · cases h
          · simp only [Option.map_eq_some_iff, Prod.mk.injEq] at h
            obtain ⟨⟨ys, ρ2⟩, h2, h3, _⟩ := h
            rw [← h3]
            simp [ih h2]
    exact this h1
  refine tL_pairs (by rw [hlen]; exact ev2 h2) ⟨ρ, Fs, f.same sm, xs, ρ1, h1, fun vs H1 Fs1 Gs a => ?_⟩
  have st := (Stp.same (ρ := ρ) (Fs := Fs) sm).trans a.st
  have na0 : ¬ All ρ Fs p := fun z => f.all_trk z hp
  have kp : H1 p = some (.dK []) := a.st.keep p _ upd_same fun z => na0 z.all
  have na1 : ¬ All ρ1 Fs1 p := fun z => by
    rcases a.st.all p z with z | z
    · exact na0 z
    · rw [upd_same] at z; cases z
  obtain ⟨e1, e2⟩ := unz_vals (o := []) (Gs := []) a.args h2
  obtain ⟨nb, r, o, s, _⟩ := pack_ok (K := K) ρ ρ1 Fs Fs1 H H1 (odds xs) (odds vs) (odds Gs) (by rw [e2, ← unz_odds h2]; simp) (by
      have l1 : ∀ {α β : Type} (l : List α) (m : List β), l.length = m.length → (odds l).length = (odds m).length := fun {α β} l m e => by
        refine Nat.le_antisymm (Nat.le_of_not_lt fun z => ?_) (Nat.le_of_not_lt fun z => ?_)
        · have a1 := odds_at l (odds m).length
          have a2 := odds_at m (odds m).length
          rw [List.getElem?_eq_getElem z] at a1
          rw [List.getElem?_eq_none (Nat.le_refl _)] at a2
          have b1 := (List.getElem?_eq_some_iff.mp a1.symm).1
          have b2 := List.getElem?_eq_none_iff.mp a2.symm
          omega
        · have a1 := odds_at m (odds l).length
          have a2 := odds_at l (odds l).length
          rw [List.getElem?_eq_getElem z] at a1
          rw [List.getElem?_eq_none (Nat.le_refl _)] at a2
          have b1 := (List.getElem?_eq_some_iff.mp a1.symm).1
          have b2 := List.getElem?_eq_none_iff.mp a2.symm
          omega
      exact l1 Gs xs a.lg)
    (fun k x v G z1 z2 z3 => (a.tm (2 * k + 1) x v G (by rw [← odds_at]; exact z1) (by rw [← odds_at]; exact z2) (by rw [← odds_at]; exact z3)).from (.same sm))
    (fun j k x y G G' hjk z1 z2 z3 z4 => a.sep (2 * j + 1) (2 * k + 1) x y G G' (by omega) (by rw [← odds_at]; exact z1) (by rw [← odds_at]; exact z2) (by rw [← odds_at]; exact z3) (by rw [← odds_at]; exact z4)) fl (by rw [← unz_odds h2]; exact h3)
  have zk : ((ps.map (·.1)).zip (odds vs)).map (·.1) = ps.map (·.1) := List.map_fst_zip (by simp [e2])
  have zv : ((ps.map (·.1)).zip (odds vs)).map (·.2) = odds vs := List.map_snd_zip (by simp [e2])
  refine ⟨kp, (ps.map (·.1)).zip (odds vs), e1, by simp [e2]; exact cnd.2, ?_⟩
  rw [mergeK_nodup (by simpa [zk] using cnd.1), List.nil_append]
  have pnb : ∀ {xs : List FD} {f : Fl}, packF xs = some f → ∀ x ∈ xs, x.f ≠ .bor := by
    intro xs
    induction xs with
    | nil => intro f _ x m; cases m
    | cons y ys ih =>
      intro f h x m
      simp only [packF, Option.bind_eq_some_iff] at h
      obtain ⟨f0, e0, h⟩ := h
      rcases List.mem_cons.mp m with m | m
      · intro z
        rw [m] at z
        rw [z] at h
        cases h
      · exact ih e0 x m
  have np : p ∉ (odds Gs).flatten := fun m => by
    obtain ⟨G, hG, hm⟩ := List.mem_flatten.mp m
    obtain ⟨j, hj⟩ := List.getElem?_of_mem hG
    have hj2 := hj
    rw [odds_at] at hj2
    have hlt : 2 * j + 1 < xs.length := by rw [← a.lg]; exact (List.getElem?_eq_some_iff.mp hj2).1
    have hltv : 2 * j + 1 < vs.length := by rw [a.lv]; exact hlt
    have t := a.tm (2 * j + 1) xs[2 * j + 1] vs[2 * j + 1] G (by simp [hlt]) (by simp [hltv]) hj2
    have mem : xs[2 * j + 1] ∈ ps.map (·.2) := by
      rw [unz_odds h2]
      refine List.mem_of_getElem? (i := j) ?_
      rw [odds_at]
      simp [hlt]
    cases q : (xs[2 * j + 1]).f with
    | own =>
      rcases ((t.own q).2 p hm).2 with z | z
      · exact na0 z.all
      · rw [upd_same] at z; cases z
    | shr =>
      rcases (t.shr q p hm).2.all with z | z
      · exact na0 z
      · rw [upd_same] at z; cases z
    | bor => exact pnb h3 _ mem q
  have kpF : ∀ {u : HO} (F : List Addr), p ∉ F → Kp H1 (upd H1 p u) F := fun F n => upd_kp kp rfl n
  have fr3 : ∀ {u : HO}, FR K (upd H1 p u) σ ρ1 Fs1 := fun {u} => ⟨a.fr.len, fun i s h => by
    obtain ⟨v, e, r, n⟩ := a.fr.rep i s h
    exact ⟨v, e, r.keep (kpF _ fun m => na1 ⟨i, s, h, m⟩), n⟩, a.fr.sep⟩
  have st3 : ∀ {u : HO}, Stp ρ Fs H ρ1 Fs1 (upd H1 p u) := fun {u} => ⟨fun b w e n => by
    have hne : b ≠ p := fun z => by rw [z, hp] at e; cases e
    rw [upd_ne hne]
    exact st.keep b w e n, st.own, st.all, st.shr, st.lk⟩
  have atp : ∀ {o : Bool} {u : HO}, At o (upd H1 p u) p u := fun {o u} => by
    unfold At
    split
    · exact upd_same
    · exact .inl upd_same
  refine k (.ref p) _ Fs1 (p :: (odds Gs).flatten) ⟨fr3, st3, ⟨?_, fun z => ?_, fun z b m => ?_, fun z => absurd z nb⟩, (fun z => nomatch z), fun z => absurd z nb⟩
  · refine .dK atp ⟨by rw [zk, List.map_map]; rfl, by rw [List.map_map]; exact cnd.1⟩ ?_
    rw [zv]
    have e4 : (ps.map fun p => (p.1, p.2.d)).map (·.2) = (odds xs).map FD.d := by rw [← unz_odds h2]; simp
    rw [e4]
    exact r.keep (kpF _ np)
  · obtain ⟨n, q⟩ := o z
    refine ⟨List.nodup_cons.mpr ⟨np, n⟩, fun b m => ?_⟩
    rcases List.mem_cons.mp m with m | m
    · rw [m]; exact ⟨na1, .inr hp⟩
    · exact q b m
  · rcases List.mem_cons.mp m with m | m
    · rw [m]; exact ⟨fun y => na1 y.all, .inr (.inr hp)⟩
    · exact s b m
theorem tE_call {f : Nat} {args : List E} {np : Nat} (hn : args.length = np) (h : tE K C (.call f args) σ H Q) {E0 : XK} : tL K C args σ H fun vs H1 => spD K np (C.call f) vs H1 Q E0 := by
  obtain ⟨ρ, Fs, fr, x, ρ', h, k⟩ := h
  simp only [ev, Option.bind_eq_some_iff, Option.map_eq_some_iff, Prod.mk.injEq] at h
  obtain ⟨⟨xs, ρ1⟩, h1, ⟨y, ρ2⟩, h2, z, h3, h4, h5⟩ := h
  subst h4 h5
  simp only [fin, if_neg Bool.false_ne_true, Option.some.injEq] at h3
  subst h3
  exact ⟨ρ, Fs, fr, xs, ρ1, h1, fun vs H1 Fs1 Gs a => call_end a h2 (by rw [a.lv, ← a.le, hn]) fun v H' Fs' F b => k v H' Fs' F b⟩
/-! ### moves -/
theorem FR.drop {i : Nat} (f : FR K H σ ρ Fs) : FR K H σ (ρ.set i none) Fs := by
  have sl : ∀ {j : Nat} {s : FD}, (ρ.set i none)[j]? = some (some s) → ρ[j]? = some (some s) ∧ j ≠ i := fun {j s} h => by
    by_cases e : i = j
    · subst e
      by_cases hl : i < ρ.length
      · rw [List.getElem?_set_self hl] at h; cases h
      · rw [List.getElem?_eq_none (by simpa using hl)] at h; cases h
    · rw [List.getElem?_set_ne e] at h
      exact ⟨h, fun z => e z.symm⟩
  exact ⟨by rw [List.length_set]; exact f.len, fun j s h => f.rep j s (sl h).1, fun j k s t hjk h1 h2 => f.sep j k s t hjk (sl h1).1 (sl h2).1⟩
theorem drop_slot {i j : Nat} {s : FD} (h : (ρ.set i none)[j]? = some (some s)) : ρ[j]? = some (some s) ∧ j ≠ i := by
  by_cases e : i = j
  · subst e
    by_cases hl : i < ρ.length
    · rw [List.getElem?_set_self hl] at h; cases h
    · rw [List.getElem?_eq_none (by simpa using hl)] at h; cases h
  · rw [List.getElem?_set_ne e] at h
    exact ⟨h, fun z => e z.symm⟩
theorem Stp.drop {i : Nat} (st : Stp ρ Fs H ρ' Fs' H') : Stp ρ Fs H (ρ'.set i none) Fs' H' :=
  ⟨st.keep, fun a ⟨j, s, h1, h2, h3⟩ => st.own a ⟨j, s, (drop_slot h1).1, h2, h3⟩, fun a ⟨j, s, h1, h3⟩ => st.all a ⟨j, s, (drop_slot h1).1, h3⟩, fun a ⟨j, s, h1, h2, h3⟩ => st.shr a ⟨j, s, (drop_slot h1).1, h2, h3⟩, fun j s h1 h2 => st.lk j s (drop_slot h1).1 h2⟩
theorem tE_mv {i : Nat} (h : tE K C (.mv i) σ H Q) : tVar i σ H Q := by
  obtain ⟨ρ, Fs, f, x, ρ', h, k⟩ := h
  simp only [ev, if_neg Bool.false_ne_true] at h
  unfold moveV at h
  split at h
  rotate_left
  · cases h
  rename_i s e
  obtain ⟨v, h1, r, n⟩ := f.rep i s e
  split at h
  · rename_i p
    simp only [Option.some.injEq, Prod.mk.injEq] at h
    obtain ⟨rfl, rfl⟩ := h
    exact ⟨v, h1, k v H Fs _ ⟨f, .refl, .pure (x := ⟨.own, s.d⟩) (r.up p _) p, (fun z => nomatch z), (fun z => nomatch z)⟩⟩
  · cases q : s.f with
    | own =>
      rw [q] at h
      simp only at h
      split at h
      · cases h
      · simp only [Option.some.injEq, Prod.mk.injEq] at h
        obtain ⟨rfl, rfl⟩ := h
        refine ⟨v, h1, k v H Fs (Fs i) ⟨f.drop, Stp.refl.drop, ⟨r, fun _ => ⟨n q, fun a m => ⟨fun ⟨j, t, g1, g3⟩ => ?_, .inl ⟨i, s, e, q, m⟩⟩⟩, fun z => (by rw [q] at z; cases z), fun z => (by rw [q] at z; cases z)⟩, (fun z => nomatch z), fun z => (by rw [q] at z; cases z)⟩⟩
        obtain ⟨g1, hne⟩ := drop_slot g1
        exact f.sep i j s t (Ne.symm hne) e g1 (by rw [q]; decide) (.inl q) a m g3
    | shr =>
      rw [q] at h
      simp only [Option.some.injEq, Prod.mk.injEq] at h
      obtain ⟨rfl, rfl⟩ := h
      refine ⟨v, h1, k v H Fs (Fs i) ⟨f, .refl, ⟨r, fun z => (by rw [q] at z; cases z), fun _ a m => ⟨fun ⟨j, t, g1, g2, g3⟩ => ?_, .inl ⟨i, s, e, q, m⟩⟩, fun z => (by rw [q] at z; cases z)⟩, (fun z => nomatch z), fun z => (by rw [q] at z; cases z)⟩⟩
      by_cases hj : j = i
      · subst hj; rw [e] at g1; cases g1; exact g2 q
      · exact f.sep j i t s hj g1 e g2 (.inr (by rw [q]; decide)) a g3 m
    | bor => rw [q] at h; cases h
theorem tE_fr {i : Nat} (h : tE K C (.fr i) σ H Q) : tVar i σ H Q := by
  obtain ⟨ρ, Fs, f, x, ρ', h, k⟩ := h
  simp only [ev, if_neg Bool.false_ne_true] at h
  unfold freezeV at h
  split at h
  rotate_left
  · cases h
  rename_i s e
  obtain ⟨v, h1, r, n⟩ := f.rep i s e
  split at h
  · rename_i p
    simp only [Option.some.injEq, Prod.mk.injEq] at h
    obtain ⟨rfl, rfl⟩ := h
    exact ⟨v, h1, k v H Fs _ ⟨f, .refl, .pure (x := ⟨.own, s.d⟩) (r.up p _) p, (fun z => nomatch z), (fun z => nomatch z)⟩⟩
  · have go : s.f ≠ .bor → some ((⟨.shr, s.d⟩ : FD), ρ.set i (some ⟨.shr, s.d⟩)) = some (x, ρ') → tVar i σ H Q := fun nb h => by
      simp only [Option.some.injEq, Prod.mk.injEq] at h
      obtain ⟨rfl, rfl⟩ := h
      have hl : i < ρ.length := (List.getElem?_eq_some_iff.mp e).1
      have sl : ∀ {j : Nat} {t : FD}, (ρ.set i (some ⟨.shr, s.d⟩))[j]? = some (some t) → (j = i ∧ t = ⟨.shr, s.d⟩) ∨ (j ≠ i ∧ ρ[j]? = some (some t)) := fun {j t} h => by
        by_cases z : j = i
        · subst z
          rw [List.getElem?_set_self hl] at h
          simp at h
          exact .inl ⟨rfl, h.symm⟩
        · rw [List.getElem?_set_ne (Ne.symm z)] at h
          exact .inr ⟨z, h⟩
      -- i against the others
      have apart : ∀ {j : Nat} {t : FD} {a : Addr}, j ≠ i → ρ[j]? = some (some t) → t.f ≠ .shr → a ∈ Fs j → a ∉ Fs i := fun {j t a} hj g1 g2 g3 g4 => by
        cases q : s.f with
        | own => exact f.sep i j s t (Ne.symm hj) e g1 (by rw [q]; decide) (.inl q) a g4 g3
        | shr => exact f.sep j i t s hj g1 e g2 (.inr (by rw [q]; decide)) a g3 g4
        | bor => exact nb q
      have isho : ∀ {a : Addr}, a ∈ Fs i → ShO ρ Fs H a := fun {a} m => by
        cases q : s.f with
        | own => exact .inr (.inl ⟨i, s, e, q, m⟩)
        | shr => exact .inl ⟨i, s, e, q, m⟩
        | bor => exact absurd q nb
      refine ⟨v, h1, k v H Fs (Fs i) ⟨⟨by rw [List.length_set]; exact f.len, fun j t g => ?_, fun j l t t' hjl g1 g2 g3 g4 a m m' => ?_⟩, ⟨fun _ _ z _ => z, fun a ⟨j, t, g1, g2, g3⟩ => ?_, fun a ⟨j, t, g1, g3⟩ => ?_, fun a ⟨j, t, g1, g2, g3⟩ => ?_, fun j t g1 g2 => ?_⟩,
        ⟨r.low, fun z => (nomatch z), fun _ a m => ⟨fun ⟨j, t, g1, g2, g3⟩ => ?_, isho m⟩, fun z => (nomatch z)⟩, (fun z => nomatch z), (fun z => nomatch z)⟩⟩
      · rcases sl g with ⟨rfl, rfl⟩ | ⟨hne, g⟩
        · exact ⟨v, h1, r.low, fun z => nomatch z⟩
        · exact f.rep j t g
      · rcases sl g1 with ⟨rfl, rfl⟩ | ⟨hne, g1'⟩
        · exact g3 rfl
        · rcases sl g2 with ⟨z1, z2⟩ | ⟨hne2, g2'⟩
          · subst z1
            exact apart hne g1' g3 m m'
          · exact f.sep j l t t' hjl g1' g2' g3 g4 a m m'
      · rcases sl g1 with ⟨rfl, rfl⟩ | ⟨hne, g1⟩
        · cases g2
        · exact .inl ⟨j, t, g1, g2, g3⟩
      · rcases sl g1 with ⟨rfl, rfl⟩ | ⟨hne, g1⟩
        · exact .inl ⟨_, s, e, g3⟩
        · exact .inl ⟨j, t, g1, g3⟩
      · rcases sl g1 with ⟨rfl, rfl⟩ | ⟨hne, g1⟩
        · exact isho g3
        · exact .inl ⟨j, t, g1, g2, g3⟩
      · rcases sl g1 with ⟨rfl, rfl⟩ | ⟨hne, g1⟩
        · cases g2
        · exact ⟨g1, rfl⟩
      · rcases sl g1 with ⟨rfl, rfl⟩ | ⟨hne, g1⟩
        · exact g2 rfl
        · exact apart hne g1 g2 g3 m
    cases q : s.f with
    | own => rw [q] at h; exact go (by rw [q]; decide) h
    | shr => rw [q] at h; exact go (by rw [q]; decide) h
    | bor => rw [q] at h; cases h
/-! ### and, or, not, if -/
def tBV (K : PySem.W.Frag) (C : Ctx) (a : Bool) (es : List E) : TE := fun σ H Q => ∃ ρ Fs, FR K H σ ρ Fs ∧ ∃ x ρ', evB C false a es ρ = some (x, ρ') ∧ ∀ v H' Fs' F, Aft K σ (E.quiet.E.quietL es) none ρ Fs H x ρ' v H' Fs' F → Q v H'
def tBT (K : PySem.W.Frag) (C : Ctx) (a : Bool) (es : List E) : TT := fun σ H Q => ∃ ρ Fs, FR K H σ ρ Fs ∧ ∃ x b ρ', evB C true a es ρ = some (x, ρ') ∧ x.d = .bl b ∧ ∀ H' Fs', FR K H' σ ρ' Fs' → Stp ρ Fs H ρ' Fs' H' → (E.quiet.E.quietL es = true → Same H H' ∧ ρ' = ρ ∧ Fs' = Fs) → Q b H'
theorem tE_bool {a : Bool} {es : List E} (h : tE K C (.bool a es) σ H Q) : tBV K C a es σ H Q := by
  obtain ⟨ρ, Fs, f, x, ρ', h, k⟩ := h
  exact ⟨ρ, Fs, f, x, ρ', by simpa only [ev] using h, k⟩
theorem tT_bool {a : Bool} {es : List E} {Q : Bool → Hp → Prop} (h : tT K C (.bool a es) σ H Q) : tBT K C a es σ H Q := by
  obtain ⟨ρ, Fs, f, x, b, ρ', h, k⟩ := h
  exact ⟨ρ, Fs, f, x, b, ρ', by simpa only [ev] using h, k⟩
theorem tBV_one {a : Bool} {e : E} (h : tBV K C a [e] σ H Q) : tV K C e σ H Q := by
  refine tE_tV ?_
  obtain ⟨ρ, Fs, f, x, ρ', h, k⟩ := h
  exact ⟨ρ, Fs, f, x, ρ', by simpa only [evB] using h, fun v H' Fs' F z => k v H' Fs' F ⟨z.fr, z.st, z.tm, (fun q => z.qt (by simpa [E.quiet.E.quietL] using q)), (fun _ _ z => nomatch z)⟩⟩
theorem tBT_one {a : Bool} {e : E} {Q : Bool → Hp → Prop} (h : tBT K C a [e] σ H Q) : tT K C e σ H Q := by
  obtain ⟨ρ, Fs, f, x, b, ρ', h, hb, k⟩ := h
  exact ⟨ρ, Fs, f, x, b, ρ', by simpa only [evB] using h, hb, fun H' Fs' fr st q => k H' Fs' fr st fun z => q (by simpa [E.quiet.E.quietL] using z)⟩
theorem boolD_bl {x : FD} {b : Bool} (h : boolD x = some b) : x.d = .bl b := by
  obtain ⟨f, d⟩ := x
  cases d <;> simp [boolD] at h
  subst h
  rfl
theorem tBV_cons {a : Bool} {e e2 : E} {es : List E} (h : tBV K C a (e :: e2 :: es) σ H Q) : tV K C e σ H fun x H1 => ∃ c, x = .bl c ∧ if c = a then tBV K C a (e2 :: es) σ H1 Q else Q (.bl c) H1 := by
  refine tE_tV ?_
  obtain ⟨ρ, Fs, f, x, ρ', h, k⟩ := h
  simp only [evB, Option.bind_eq_some_iff] at h
  obtain ⟨⟨y, ρ1⟩, h1, b, h2, h3⟩ := h
  refine ⟨ρ, Fs, f, y, ρ1, h1, fun v H1 Fs1 F z => ?_⟩
  have hb := boolD_bl h2
  have r := z.tm.rep
  rw [hb] at r
  obtain ⟨rfl, _⟩ := rep_bl r
  refine ⟨b, rfl, ?_⟩
  split at h3
  · rename_i e0
    rw [if_pos e0]
    refine ⟨ρ1, Fs1, z.fr, x, ρ', h3, fun v H' Fs' F' w => k v H' Fs' F' ⟨w.fr, z.st.trans w.st, w.tm.from z.st, (fun q => ?_), (fun _ _ z => nomatch z)⟩⟩
    simp only [E.quiet.E.quietL, Bool.and_eq_true] at q
    obtain ⟨s1, e1, e2⟩ := z.qt q.1
    obtain ⟨s2, e3, e4⟩ := w.qt (by simp only [E.quiet.E.quietL, Bool.and_eq_true]; exact q.2)
    exact ⟨s1.trans s2, e3.trans e1, e4.trans e2⟩
  · rename_i e0
    rw [if_neg e0]
    simp only [Option.some.injEq, Prod.mk.injEq] at h3
    obtain ⟨rfl, rfl⟩ := h3
    refine k _ H1 Fs1 [] ⟨z.fr, z.st, .pure (x := ⟨.own, .bl b⟩) .bl rfl, (fun q => ?_), (fun z => nomatch z)⟩
    simp only [E.quiet.E.quietL, Bool.and_eq_true] at q
    exact z.qt q.1
theorem tBT_cons {a : Bool} {e e2 : E} {es : List E} {Q : Bool → Hp → Prop} (h : tBT K C a (e :: e2 :: es) σ H Q) : tT K C e σ H fun c H1 => if c = a then tBT K C a (e2 :: es) σ H1 Q else Q c H1 := by
  obtain ⟨ρ, Fs, f, x, b0, ρ', h, hb0, k⟩ := h
  simp only [evB, Option.bind_eq_some_iff] at h
  obtain ⟨⟨y, ρ1⟩, h1, b, h2, h3⟩ := h
  refine ⟨ρ, Fs, f, y, b, ρ1, h1, boolD_bl h2, fun H1 Fs1 fr st qt => ?_⟩
  split at h3
  · rename_i e0
    rw [if_pos e0]
    refine ⟨ρ1, Fs1, fr, x, b0, ρ', h3, hb0, fun H' Fs' fr' st' qt' => k H' Fs' fr' (st.trans st') fun q => ?_⟩
    simp only [E.quiet.E.quietL, Bool.and_eq_true] at q
    obtain ⟨s1, e1, e2⟩ := qt q.1
    obtain ⟨s2, e3, e4⟩ := qt' (by simp only [E.quiet.E.quietL, Bool.and_eq_true]; exact q.2)
    exact ⟨s1.trans s2, e3.trans e1, e4.trans e2⟩
  · rename_i e0
    rw [if_neg e0]
    simp only [Option.some.injEq, Prod.mk.injEq] at h3
    obtain ⟨rfl, rfl⟩ := h3
    simp only [D.bl.injEq] at hb0
    subst hb0
    refine k H1 Fs1 fr st fun q => ?_
    simp only [E.quiet.E.quietL, Bool.and_eq_true] at q
    exact qt q.1
theorem tE_not {e : E} (h : tE K C (.not_ e) σ H Q) : tV K C e σ H fun x H1 => ∃ c, TruV K x H1 c ∧ Q (.bl (!c)) H1 := by
  refine tE_tV ?_
  obtain ⟨ρ, Fs, f, x, ρ', h, k⟩ := h
  simp only [ev, if_neg Bool.false_ne_true, Option.bind_eq_some_iff, Option.map_eq_some_iff, Prod.mk.injEq] at h
  obtain ⟨⟨y, ρ1⟩, h1, b, h2, h3, h4⟩ := h
  subst h3 h4
  exact ⟨ρ, Fs, f, y, ρ1, h1, fun v H1 Fs1 F a => ⟨b, truth_v a.tm.rep h2, k _ H1 Fs1 [] ⟨a.fr, a.st, .pure (x := ⟨.own, .bl (!b)⟩) .bl rfl, a.qt, (fun z => nomatch z)⟩⟩⟩
theorem tT_not {e : E} {Q : Bool → Hp → Prop} (h : tT K C (.not_ e) σ H Q) : tT K C e σ H fun c H1 => Q (!c) H1 := by
  obtain ⟨ρ, Fs, f, x, b0, ρ', h, hb, k⟩ := h
  simp only [ev, if_true, Option.bind_eq_some_iff, Option.map_eq_some_iff, Prod.mk.injEq] at h
  obtain ⟨⟨y, ρ1⟩, h1, b, h2, h3, h4⟩ := h
  subst h3 h4
  simp only [D.bl.injEq] at hb
  subst hb
  exact ⟨ρ, Fs, f, y, b, ρ1, h1, boolD_bl h2, fun H1 Fs1 fr st qt => k H1 Fs1 fr st qt⟩
theorem tE_ife {c a b : E} (h : tE K C (.ife c a b) σ H Q) : tT K C c σ H fun k H1 => if k = true then tV K C a σ H1 Q else tV K C b σ H1 Q := by
  obtain ⟨ρ, Fs, f, x, ρ', h, k⟩ := h
  simp only [ev, if_neg Bool.false_ne_true, Option.bind_eq_some_iff] at h
  obtain ⟨⟨y, ρ1⟩, h1, b0, h2, h3⟩ := h
  refine ⟨ρ, Fs, f, y, b0, ρ1, h1, boolD_bl h2, fun H1 Fs1 fr st qt => ?_⟩
  split at h3
  · rename_i e0
    rw [if_pos e0]
    refine tE_tV ⟨ρ1, Fs1, fr, x, ρ', h3, fun v H' Fs' F' w => k v H' Fs' F' ⟨w.fr, st.trans w.st, w.tm.from st, (fun q => ?_), (fun _ _ z => nomatch z)⟩⟩
    simp only [E.quiet, Bool.and_eq_true] at q
    obtain ⟨s1, e1, e2⟩ := qt q.1.1
    obtain ⟨s2, e3, e4⟩ := w.qt q.1.2
    exact ⟨s1.trans s2, e3.trans e1, e4.trans e2⟩
  · rename_i e0
    rw [if_neg e0]
    refine tE_tV ⟨ρ1, Fs1, fr, x, ρ', h3, fun v H' Fs' F' w => k v H' Fs' F' ⟨w.fr, st.trans w.st, w.tm.from st, (fun q => ?_), (fun _ _ z => nomatch z)⟩⟩
    simp only [E.quiet, Bool.and_eq_true] at q
    obtain ⟨s1, e1, e2⟩ := qt q.1.1
    obtain ⟨s2, e3, e4⟩ := w.qt q.2
    exact ⟨s1.trans s2, e3.trans e1, e4.trans e2⟩
theorem tE_chain {o1 o2 : CmpOp} {a b c : E} (h : tE K C (.chain o1 o2 a b c) σ H Q) : tChain (rCmp K o1) (rCmp K o2) (tV K C a) (tV K C b) (tV K C c) σ H Q := by
  obtain ⟨ρ, Fs, f, x, ρ', h, k⟩ := h
  simp only [ev, Option.bind_eq_some_iff] at h
  obtain ⟨⟨y, ρ1⟩, h1, i, hi, ⟨z, ρ2⟩, h2, j, hj, k1, h3, h⟩ := h
  refine tE_tV ⟨ρ, Fs, f, y, ρ1, h1, fun v H1 Fs1 F1 w1 => tE_tV ⟨ρ1, Fs1, w1.fr, z, ρ2, h2, fun u H2 Fs2 F2 w2 => ?_⟩⟩
  obtain rfl := int_v w1.tm.rep hi
  obtain rfl := int_v w2.tm.rep hj
  refine cmpS (o := true) (o' := true) (F := []) (G := []) o1 .int .int h3 ⟨k1, rfl, ?_⟩
  split at h
  · rename_i e0
    rw [if_pos e0]
    simp only [Option.bind_eq_some_iff, Option.map_eq_some_iff, Prod.mk.injEq] at h
    obtain ⟨⟨y3, ρ3⟩, h4, l, hl, k2, h5, h6, h7⟩ := h
    subst h6 h7
    refine tE_tV ⟨ρ2, Fs2, w2.fr, y3, ρ3, h4, fun v3 H3 Fs3 F3 w3 => ?_⟩
    obtain rfl := int_v w3.tm.rep hl
    refine cmpS (o := true) (o' := true) (F := []) (G := []) o2 .int .int h5 (k _ H3 Fs3 [] ⟨w3.fr, (w1.st.trans w2.st).trans w3.st, .pure (x := ⟨.own, .bl k2⟩) .bl rfl, (fun q => ?_), (fun z => nomatch z)⟩)
    simp only [E.quiet, Bool.and_eq_true] at q
    obtain ⟨s1, e1, e2⟩ := w1.qt q.1.1
    obtain ⟨s2, e3, e4⟩ := w2.qt q.1.2
    obtain ⟨s3, e5, e6⟩ := w3.qt q.2
    exact ⟨(s1.trans s2).trans s3, e5.trans (e3.trans e1), e6.trans (e4.trans e2)⟩
  · rename_i e0
    rw [if_neg e0]
    simp only [Option.some.injEq, Prod.mk.injEq] at h
    obtain ⟨rfl, rfl⟩ := h
    refine k _ H2 Fs2 [] ⟨w2.fr, w1.st.trans w2.st, .pure (x := ⟨.own, .bl false⟩) .bl rfl, (fun q => ?_), (fun z => nomatch z)⟩
    simp only [E.quiet, Bool.and_eq_true] at q
    obtain ⟨s1, e1, e2⟩ := w1.qt q.1.1
    obtain ⟨s2, e3, e4⟩ := w2.qt q.1.2
    exact ⟨s1.trans s2, e3.trans e1, e4.trans e2⟩
/-! ### a change in place -/
theorem lead_kp : ∀ (ks : List D) {F : List Addr} {v : V} {d c : D}, Rep K H1 true F v d → getP ks d = some c → Kp H1 H2 F → leadV H1 ks v = leadV H2 ks v
  | [], F, v, d, c, _, _, _ => rfl
  | kd :: ks, F, v, d, c, r, g, kp => by
    simp only [getP, Option.bind_eq_some_iff] at g
    obtain ⟨c2, g3, g4⟩ := g
    obtain ⟨w, G, e3, r3, sb⟩ := step_rep r g3
    obtain ⟨w', G', e4, _, _⟩ := step_rep (r.keep kp) g3
    have e5 : stepV H1 v kd = stepV H2 v kd := by
      unfold stepD at g3
      split at g3
      · obtain ⟨a, vs, G1, rfl, _, _, eF, o⟩ := rep_lst r
        have h1 := o rfl
        have h2 := kp a _ h1 (.inl (by rw [eF]; simp))
        simp only [stepV, h1, h2]
      · obtain ⟨a, ws, G1, rfl, _, _, _, eF, o, _⟩ := rep_dK r
        have h1 := o rfl
        have h2 := kp a _ h1 (.inl (by rw [eF]; simp))
        simp only [stepV, h1, h2]
      · cases g3
    simp only [leadV]
    rw [← e5, e3]
    exact lead_kp (F := G) (v := w) (c := c) (d := c2) ks r3 g4 (kp.mono fun a m => sb.subset m)
theorem mut_end {root : Nat} {m : MuK} {rp xs : List FD} {x : FD} {vs : List V} {Gs : List (List Addr)} {v v0 : V} {ρ3 : Rho} (fr : FR K H1 σ ρ1 Fs1) (st : Stp ρ Fs H ρ1 Fs1 H1)
    (lv : vs.length = xs.length) (lg : Gs.length = xs.length) (args : ArgsR K H1 vs xs Gs)
    (tm : ∀ (k : Nat) (x : FD) (G : List Addr), xs[k]? = some x → Gs[k]? = some G → x.f = .own → ∀ a ∈ G, ¬ All ρ1 Fs1 a ∧ (Own ρ Fs a ∨ H a = none))
    (h : mutR root m rp xs ρ1 = some (x, ρ3)) (hv : σ[root]? = some (some v0)) (hl : ∀ s, ρ1[root]? = some (some s) → s.f = .own → ∀ c, getP (rp.map FD.d) s.d = some c → leadV H1 (rp.map FD.d) v0 = some v)
    (k : ∀ v H' Fs' F, Aft K σ false none ρ Fs H x ρ3 v H' Fs' F → Q v H') : rMu K m v vs H1 Q ∧ tyV K "list" v H1 := by
  unfold mutR at h
  split at h
  rotate_left
  · cases h
  rename_i s e
  split at h
  rotate_left
  · cases h
  rename_i ok
  simp only [Option.map_eq_some_iff, Prod.mk.injEq] at h
  obtain ⟨⟨d', r⟩, h1, rfl, rfl⟩ := h
  obtain ⟨c, c', w, Gc, e1, e2, e3, rc, nd, sub, go⟩ := chg_frame (T := fun a => ∃ (k : Nat) (x : FD) (G : List Addr), xs[k]? = some x ∧ Gs[k]? = some G ∧ x.f = .own ∧ a ∈ G) fr e ok.1 hv h1
    (fun a ⟨k, x, G, z1, z2, z3, z4⟩ => (tm k x G z1 z2 z3 a z4).1)
  have := hl s e ok.1 c e1
  rw [this] at e3
  obtain rfl : v = w := by simpa using e3
  refine muS rc nd args ok.2 (fun k x G z1 z2 z3 a m m' => (tm k x G z1 z2 z3 a m).1 ⟨root, s, e, sub a m'⟩) e2 fun wv H3 G' ch rv => ?_
  obtain ⟨Fs3, f3, a3, s3⟩ := go H3 G' ch
  exact k wv H3 Fs3 [] ⟨f3, s3 st fun a ⟨k, x, G, z1, z2, z3, z4⟩ => (tm k x G z1 z2 z3 a z4).2, ⟨rv, fun _ => ⟨.nil, by simp⟩, fun _ => by simp, fun _ => by simp⟩, (fun z => nomatch z), (fun z => nomatch z)⟩
theorem tE_mut {root : Nat} {path : List E} {m : MuK} {args : List E} (h : tE K C (.mut root path m args) σ H Q) :
    tP K C root path σ H fun v H1 => tyV K "list" v H1 ∧ tL K C args σ H1 fun vs H2 => rMu K m v vs H2 Q := by
  obtain ⟨ρ, Fs, f, x, ρ', h, k⟩ := h
  simp only [ev, if_neg Bool.false_ne_true] at h
  split at h
  rotate_left
  · cases h
  rename_i cnd
  obtain ⟨qp, ow⟩ := cnd
  simp only [Option.bind_eq_some_iff] at h
  obtain ⟨⟨rp, ρp⟩, h1, h⟩ := h
  have ep := quiet_evL path ρ rp ρp qp h1
  subst ep
  obtain ⟨s, es, eo⟩ := ownAt_some ow
  obtain ⟨v0, hv0, rep0, nd0⟩ := f.rep root s es
  have so : s.o = true := toO_iff.mpr eo
  rw [so] at rep0
  split at h
  rotate_left
  · cases h
  rename_i hn
  obtain ⟨ds, hc⟩ : ∃ ds, getP (rp.map FD.d) s.d = some (.lst ds) := by
    unfold nodeLst at hn
    rw [es] at hn
    simp only at hn
    split at hn
    · rename_i ds e; exact ⟨ds, e⟩
    · cases hn
  refine ⟨ρp, Fs, f, qp, rp, s, v0, _, h1, es, eo, hv0, hc, fun v H1 sm lv => ?_⟩
  have f1 : FR K H1 σ ρp Fs := f.same sm
  have ty : tyV K "list" v H1 := by
    obtain ⟨w, G, e1, r1, _⟩ := lead_rep _ (rep0.same sm) hc
    rw [lv] at e1
    obtain rfl : v = w := by simpa using e1
    obtain ⟨a, ws, _, rfl, rd, _⟩ := rep_lst r1
    exact .inl ⟨rfl, ws, .inl rd⟩
  refine ⟨ty, ?_⟩
  split at h
  · rename_i pe
    have : path = [] := by cases path with
      | nil => rfl
      | cons _ _ => simp at pe
    subst this
    simp only [evL, Option.some.injEq, Prod.mk.injEq] at h1
    obtain ⟨rfl, _⟩ := h1
    simp only [Option.bind_eq_some_iff] at h
    obtain ⟨⟨xs, ρ1⟩, h2, h3⟩ := h
    simp only [List.map_nil, leadV, Option.some.injEq] at lv
    subst lv
    refine ⟨ρp, Fs, f1, xs, ρ1, h2, fun vs H2 Fs2 Gs a => ?_⟩
    have st2 := (Stp.same (ρ := ρp) (Fs := Fs) sm).trans a.st
    refine (mut_end (v := v0) a.fr st2 a.lv a.lg a.args (fun k x G z1 z2 z3 b m => ?_) h3 hv0 (fun _ _ _ _ _ => rfl) fun v H' Fs' F w => k v H' Fs' F w).1
    have hk : k < vs.length := by rw [a.lv]; exact (List.getElem?_eq_some_iff.mp z1).1
    have t := ((a.tm k x vs[k] G z1 (by simp [hk]) z2).own z3).2 b m
    refine ⟨t.1, ?_⟩
    rcases t.2 with z | z
    · exact .inl z
    · exact (Stp.same (ρ := ρp) (Fs := Fs) sm).back z
  · simp only [Option.bind_eq_some_iff] at h
    obtain ⟨⟨xs, ρ1⟩, h2, h3⟩ := h
    split at h3
    rotate_left
    · cases h3
    rename_i hb
    refine ⟨lock [root] ρp, Fs, f1.lock [root], xs, ρ1, h2, fun vs H2 Fs2 Gs a => ?_⟩
    have ow1 : ∀ i ∈ [root], ownAt ρp i = true := fun i m => by
      rw [List.mem_singleton.mp m]; exact ow
    have fr2 := FR.unlock f1 ow1 a.st.lk (fun i hi => by
      have e := List.mem_singleton.mp hi
      subst e
      exact lock_kp f1 a.st hi es eo) a.fr fun _ _ _ _ _ => rfl
    have st2 := (Stp.same (ρ := ρp) (Fs := Fs) sm).trans (Stp.unlock ow1 a.st)
    refine (mut_end (v := v) fr2 st2 a.lv a.lg a.args (fun k x G z1 z2 z3 b m => ?_) h3 hv0 (fun s' g1 g2 c g3 => ?_) fun v H' Fs' F w => k v H' Fs' F w).1
    · have hk : k < vs.length := by rw [a.lv]; exact (List.getElem?_eq_some_iff.mp z1).1
      have t := ((a.tm k x vs[k] G z1 (by simp [hk]) z2).own z3).2 b m
      refine ⟨fun ⟨i, s, y1, y2⟩ => ?_, ?_⟩
      · obtain ⟨s', y3, _⟩ := unlock_slot y1
        exact t.1 ⟨i, s', y3, y2⟩
      · rcases t.2 with z | z
        · exact .inl (lock_own z)
        · exact (Stp.same (ρ := ρp) (Fs := Fs) sm).back z
    · obtain ⟨t, y1, y2, y3⟩ := unlock_slot g1
      have tb : t.f = .bor := by
        unfold borAt at hb
        simp only [y1] at hb
        simpa using hb
      obtain ⟨y4, y5⟩ := a.st.lk root t y1 tb
      obtain ⟨t', y6, y7, _⟩ := lock_slot y4
      rw [es] at y6; cases y6
      rw [y2, y7] at g3
      rw [← lead_kp _ (rep0.same sm) g3 (lock_kp f1 a.st (by simp) es eo)]
      exact lv
end
end B
/-! BK: what is walked, targets, the invariant of loops. -/
namespace B
open PySem PySem.Spec L2

section
variable {K : PySem.W.Frag} {C : Ctx} {H H' H1 H2 H3 HL H0 : Hp} {σ σ' σ1 σ2 σL : L2.St} {ρ ρ' ρ0 ρ1 ρ2 ρ3 ρL : Rho} {Fs Fs' Fs0 Fs1 Fs2 FsL : Nat → List Addr} {Q : VK}
/-- an iterator over the trees ds -/
structure ItOk (K : PySem.W.Frag) (J : It) (ds : List D) (P G : List Addr) (H0 : Hp) : Prop where
  stop : ∀ H, Kp H0 H P → ∀ i, ds.length ≤ i → J.stop i H
  go : ∀ H, Kp H0 H P → ∀ i d, ds[i]? = some d → J.go i H ∧ ∀ x H', J.yld i H x H' → Same H H' ∧ ∃ F, Rep K H' false F x d ∧ ∀ a ∈ F, a ∈ G
theorem ItOk.mono {J : It} {ds : List D} {P P' G : List Addr} (h : ItOk K J ds P G H0) (q : ∀ a ∈ P, a ∈ P') : ItOk K J ds P' G H0 := ⟨fun H k => h.stop H (k.mono q), fun H k => h.go H (k.mono q)⟩
def seqOf : D → Option (List D)
  | .lst ds => some ds
  | .clst ds => some ds
  | _ => none
theorem rep_seq {o : Bool} {F : List Addr} {v : V} {d : D} {ds : List D} (r : Rep K H o F v d) (h : seqOf d = some ds) : ∃ a vs G, v = .ref a ∧ SqL K H a vs ∧ Reps K H o G vs ds ∧ ∀ b ∈ G, b ∈ F := by
  unfold seqOf at h
  split at h
  · cases h
    obtain ⟨a, vs, G, rfl, rd, rs, eF, _⟩ := rep_lst r
    exact ⟨a, vs, G, rfl, .inl rd, rs, fun b m => by rw [eF]; exact List.mem_cons_of_mem _ m⟩
  · cases h
    obtain ⟨a, vs, rfl, c, rs⟩ := rep_clst r
    exact ⟨a, vs, F, rfl, c.sqL, rs, fun b m => m⟩
  · cases h
theorem ItOk.list {o : Bool} {F : List Addr} {a : Addr} {d0 : D} {ds : List D} (r : Rep K H0 o F (.ref a) d0) (h0 : seqOf d0 = some ds) : ItOk K (Itl K a) ds F F H0 := by
  have at_ : ∀ H, Kp H0 H F → ∃ vs G, SqL K H a vs ∧ Reps K H o G vs ds ∧ ∀ b ∈ G, b ∈ F := fun H k => by
    obtain ⟨b, vs, G, e, rd, rs, sub⟩ := rep_seq (r.keep k) h0
    cases e
    exact ⟨vs, G, rd, rs, sub⟩
  refine ⟨fun H k i hi => ?_, fun H k i d hd => ?_⟩
  · obtain ⟨vs, G, q, rs, _⟩ := at_ H k
    exact ⟨vs, q, by rw [rs.length]; exact hi⟩
  · obtain ⟨vs, G, q, rs, sub⟩ := at_ H k
    obtain ⟨v, F', hv, rv, sb⟩ := rs.at_ hd
    refine ⟨⟨vs, v, q, hv⟩, fun x H' y => ?_⟩
    obtain ⟨rfl, y⟩ := y
    have := y vs q
    rw [hv] at this
    cases this
    exact ⟨Same.refl _, F', rv.low, fun b m => sub b (sb.subset m)⟩
theorem ItOk.tup {o : Bool} {F : List Addr} {a : Addr} {ds : List D} (r : Rep K H0 o F (.ref a) (.tup ds)) : ItOk K (Itt K a) ds F F H0 := by
  have at_ : ∀ H, Kp H0 H F → ∃ vs, SqT K H a vs ∧ Reps K H o F vs ds := fun H k => by
    obtain ⟨b, vs, e, rd, rs⟩ := rep_tup (r.keep k)
    cases e
    exact ⟨vs, rd, rs⟩
  refine ⟨fun H k i hi => ?_, fun H k i d hd => ?_⟩
  · obtain ⟨vs, q, rs⟩ := at_ H k
    exact ⟨vs, q, by rw [rs.length]; exact hi⟩
  · obtain ⟨vs, q, rs⟩ := at_ H k
    obtain ⟨v, F', hv, rv, sb⟩ := rs.at_ hd
    refine ⟨⟨vs, v, q, hv⟩, fun x H' y => ?_⟩
    obtain ⟨rfl, y⟩ := y
    have := y vs q
    rw [hv] at this
    cases this
    exact ⟨Same.refl _, F', rv.low, fun b m => sb.subset m⟩
theorem ItOk.str {z : Str} : ItOk K (Its z) (signs z) [] [] H0 := by
  refine ⟨fun H k i hi => ?_, fun H k i d hd => ?_⟩
  · show z.cps.size ≤ i
    simpa [signs] using hi
  · simp only [signs, List.getElem?_map, Option.map_eq_some_iff] at hd
    obtain ⟨c, hc, rfl⟩ := hd
    have hc' : z.cps[i]? = some c := by simpa using hc
    refine ⟨(Array.getElem?_eq_some_iff.mp hc').1, fun x H' y => ?_⟩
    obtain ⟨rfl, c', h1, rfl⟩ := y
    rw [hc'] at h1
    cases h1
    exact ⟨Same.refl _, [], .str, by simp⟩
theorem ItOk.rng {i j : Int} : ItOk K (Itr i (j - i).toNat) (rngD i j) [] [] H0 := by
  refine ⟨fun H k n hi => ?_, fun H k n d hd => ?_⟩
  · show (j - i).toNat ≤ n
    simpa [rngD] using hi
  · simp only [rngD, List.getElem?_map, Option.map_eq_some_iff] at hd
    obtain ⟨m, hm, rfl⟩ := hd
    obtain ⟨h1, h2⟩ := List.getElem?_eq_some_iff.mp hm
    simp only [List.length_range, List.getElem_range] at h1 h2
    subst h2
    refine ⟨h1, fun x H' y => ?_⟩
    obtain ⟨rfl, rfl⟩ := y
    exact ⟨Same.refl _, [], .int, by simp⟩
theorem enumD_at : ∀ (ds : List D) (k i : Nat), (enumD k ds)[i]? = (ds[i]?).map fun d => .tup [.int ((k + i : Nat) : Int), d]
  | [], k, i => by simp [enumD]
  | d :: ds, k, 0 => by simp [enumD]
  | d :: ds, k, i + 1 => by
    simp only [enumD, List.getElem?_cons_succ]
    rw [enumD_at ds (k + 1) i, Nat.add_right_comm, Nat.add_assoc]
theorem enumD_len : ∀ (ds : List D) (k : Nat), (enumD k ds).length = ds.length
  | [], k => rfl
  | d :: ds, k => by simp [enumD, enumD_len ds (k + 1)]
theorem ItOk.enum {o : Bool} {F : List Addr} {a : Addr} {d0 : D} {ds : List D} (r : Rep K H0 o F (.ref a) d0) (h0 : seqOf d0 = some ds) : ItOk K (Ite K a) (enumD 0 ds) F F H0 := by
  have at_ : ∀ H, Kp H0 H F → ∃ vs G, SqL K H a vs ∧ Reps K H o G vs ds ∧ ∀ b ∈ G, b ∈ F := fun H k => by
    obtain ⟨b, vs, G, e, rd, rs, sub⟩ := rep_seq (r.keep k) h0
    cases e
    exact ⟨vs, G, rd, rs, sub⟩
  refine ⟨fun H k i hi => ?_, fun H k i d hd => ?_⟩
  · obtain ⟨vs, G, q, rs, _⟩ := at_ H k
    rw [enumD_len] at hi
    exact ⟨vs, q, by rw [rs.length]; exact hi⟩
  · obtain ⟨vs, G, q, rs, sub⟩ := at_ H k
    rw [enumD_at] at hd
    simp only [Option.map_eq_some_iff, Nat.zero_add] at hd
    obtain ⟨d0, hd, rfl⟩ := hd
    obtain ⟨v, F', hv, rv, sb⟩ := rs.at_ hd
    refine ⟨⟨vs, v, q, hv⟩, fun x H' y => ?_⟩
    obtain ⟨T, x0, rfl, hT, rfl, y⟩ := y
    have := y vs q
    rw [hv] at this
    cases this
    have sm := same_upd (u := .tup [.int (i : Nat), v]) hT
    refine ⟨sm, F', ?_, fun b m => sub b (sb.subset m)⟩
    have := Reps.cons (F := []) (.int (i := (i : Nat))) (Reps.cons (rv.low.same sm) .nil)
    simp only [List.nil_append, List.append_nil] at this
    exact .tup (.inl (.inl upd_same)) this
theorem ItOk.enumT {o : Bool} {F : List Addr} {a : Addr} {ds : List D} (r : Rep K H0 o F (.ref a) (.tup ds)) : ItOk K (IteT K a) (enumD 0 ds) F F H0 := by
  have at_ : ∀ H, Kp H0 H F → ∃ vs, SqT K H a vs ∧ Reps K H o F vs ds := fun H k => by
    obtain ⟨b, vs, e, rd, rs⟩ := rep_tup (r.keep k)
    cases e
    exact ⟨vs, rd, rs⟩
  refine ⟨fun H k i hi => ?_, fun H k i d hd => ?_⟩
  · obtain ⟨vs, q, rs⟩ := at_ H k
    rw [enumD_len] at hi
    exact ⟨vs, q, by rw [rs.length]; exact hi⟩
  · obtain ⟨vs, q, rs⟩ := at_ H k
    rw [enumD_at] at hd
    simp only [Option.map_eq_some_iff, Nat.zero_add] at hd
    obtain ⟨d0, hd, rfl⟩ := hd
    obtain ⟨v, F', hv, rv, sb⟩ := rs.at_ hd
    refine ⟨⟨vs, v, q, hv⟩, fun x H' y => ?_⟩
    obtain ⟨T, x0, rfl, hT, rfl, y⟩ := y
    have := y vs q
    rw [hv] at this
    cases this
    have sm := same_upd (u := .tup [.int (i : Nat), v]) hT
    refine ⟨sm, F', ?_, fun b m => sb.subset m⟩
    have := Reps.cons (F := []) (.int (i := (i : Nat))) (Reps.cons (rv.low.same sm) .nil)
    simp only [List.nil_append, List.append_nil] at this
    exact .tup (.inl (.inl upd_same)) this
theorem zipD_at : ∀ (as bs : List D) (i : Nat) (d : D), (zipD as bs)[i]? = some d → ∃ x y, as[i]? = some x ∧ bs[i]? = some y ∧ d = .tup [x, y]
  | [], bs, i, d, h => by simp [zipD] at h
  | a :: as, [], i, d, h => by simp [zipD] at h
  | a :: as, b :: bs, 0, d, h => by
    simp [zipD] at h
    exact ⟨a, b, rfl, rfl, h.symm⟩
  | a :: as, b :: bs, i + 1, d, h => by
    simp only [zipD, List.getElem?_cons_succ] at h
    simpa using zipD_at as bs i d h
theorem zipD_len : ∀ (as bs : List D), (zipD as bs).length = min as.length bs.length
  | [], bs => by simp [zipD]
  | a :: as, [] => by simp [zipD]
  | a :: as, b :: bs => by simp [zipD, zipD_len as bs, Nat.succ_min_succ]
theorem ItOk.zip {o o' : Bool} {F F' : List Addr} {a b : Addr} {d1 d2 : D} {ds es : List D} (r : Rep K H0 o F (.ref a) d1) (r' : Rep K H0 o' F' (.ref b) d2) (e1 : seqOf d1 = some ds) (e2 : seqOf d2 = some es) (p1 : D.mutL ds = false) (p2 : D.mutL es = false) :
    ItOk K (Itz K a b) (zipD ds es) (F ++ F') [] H0 := by
  have at_ : ∀ {o : Bool} {F : List Addr} {a : Addr} {d0 : D} {ds : List D}, Rep K H0 o F (.ref a) d0 → seqOf d0 = some ds → D.mutL ds = false → ∀ H, Kp H0 H F → ∃ vs, SqL K H a vs ∧ Reps K H false [] vs ds := fun {o F a d0 ds} r h0 p H k => by
    obtain ⟨b, vs, G, e, rd, rs, sub⟩ := rep_seq (r.keep k) h0
    cases e
    exact ⟨vs, rd, rs.pure' p _⟩
  refine ⟨fun H k i hi => ?_, fun H k i d hd => ?_⟩
  · obtain ⟨vs, q, rs⟩ := at_ r e1 p1 H (k.mono fun _ m => List.mem_append_left _ m)
    obtain ⟨ws, q2, rs2⟩ := at_ r' e2 p2 H (k.mono fun _ m => List.mem_append_right _ m)
    rw [zipD_len] at hi
    refine ⟨vs, ws, q, q2, ?_⟩
    rw [rs.length, rs2.length]
    omega
  · obtain ⟨vs, q, rs⟩ := at_ r e1 p1 H (k.mono fun _ m => List.mem_append_left _ m)
    obtain ⟨ws, q2, rs2⟩ := at_ r' e2 p2 H (k.mono fun _ m => List.mem_append_right _ m)
    obtain ⟨d1, d2, h1, h2, rfl⟩ := zipD_at _ _ _ _ hd
    obtain ⟨v, F1, hv, rv, sb⟩ := rs.at_ h1
    obtain ⟨w, F2, hw, rw', sb2⟩ := rs2.at_ h2
    have z1 : F1 = [] := List.sublist_nil.mp sb
    have z2 : F2 = [] := List.sublist_nil.mp sb2
    subst z1 z2
    refine ⟨⟨vs, ws, v, w, q, q2, hv, hw⟩, fun x H' y => ?_⟩
    obtain ⟨T, x0, y0, rfl, hT, rfl, y1, y2⟩ := y
    have t1 := y1 vs q
    have t2 := y2 ws q2
    rw [hv] at t1
    rw [hw] at t2
    cases t1
    cases t2
    have sm := same_upd (u := .tup [v, w]) hT
    refine ⟨sm, [], ?_, by simp⟩
    exact .tup (.inl (.inl upd_same)) (Reps.cons (F := []) (rv.same sm) (Reps.cons (F := []) (rw'.same sm) .nil))

/-! ### targets -/
/-- what the walked items may hold, against the frame -/
structure Gp (f : Fl) (G : List Addr) (ρ : Rho) (Fs : Nat → List Addr) : Prop where
  ap : ∀ a ∈ G, ¬ Own ρ Fs a
  gb : f ≠ .shr → ∀ a ∈ G, ¬ Shr ρ Fs a
  gs : f = .shr → ∀ a ∈ G, ¬ Exc ρ Fs a
/-- a frame with targets bound -/
structure Bd (f : Fl) (is : List Nat) (G : List Addr) (ρ : Rho) (Fs : Nat → List Addr) (ρ1 : Rho) (Fs1 : Nat → List Addr) : Prop where
  at_ : ∀ j s, ρ1[j]? = some (some s) → (ρ[j]? = some (some s) ∧ Fs1 j = Fs j) ∨ (j ∈ is ∧ (∀ a ∈ Fs1 j, a ∈ G) ∧ ((s.f = .own ∧ Fs1 j = []) ∨ s.f = itemF f))
  len : ρ1.length = ρ.length
theorem Bd.refl {f : Fl} {is : List Nat} {G : List Addr} : Bd f is G ρ Fs ρ Fs := ⟨fun j s h => .inl ⟨h, rfl⟩, rfl⟩
theorem Bd.trans {f : Fl} {is js : List Nat} {G : List Addr} (a : Bd f is G ρ Fs ρ1 Fs1) (b : Bd f js G ρ1 Fs1 ρ2 Fs2) : Bd f (is ++ js) G ρ Fs ρ2 Fs2 :=
  ⟨fun j s h => by
    rcases b.at_ j s h with ⟨q, e⟩ | ⟨m, q⟩
    · rcases a.at_ j s q with ⟨q2, e2⟩ | ⟨m, q2⟩
      · exact .inl ⟨q2, e.trans e2⟩
      · exact .inr ⟨List.mem_append_left _ m, by rw [e]; exact q2⟩
    · exact .inr ⟨List.mem_append_right _ m, q⟩, b.len.trans a.len⟩
theorem itemF_own {f : Fl} : itemF f ≠ .own := by cases f <;> simp [itemF]
theorem itemF_shr {f : Fl} : itemF f = .shr ↔ f = .shr := by cases f <;> simp [itemF]
theorem Bd.own {f : Fl} {is : List Nat} {G : List Addr} (b : Bd f is G ρ Fs ρ1 Fs1) {a : Addr} (h : Own ρ1 Fs1 a) : Own ρ Fs a := by
  obtain ⟨j, s, h1, h2, h3⟩ := h
  rcases b.at_ j s h1 with ⟨q, e⟩ | ⟨m, _, q⟩
  · exact ⟨j, s, q, h2, e ▸ h3⟩
  · rcases q with ⟨_, q⟩ | q
    · rw [q] at h3; cases h3
    · exact absurd (q.symm.trans h2) itemF_own
theorem Bd.exc {f : Fl} {is : List Nat} {G : List Addr} (b : Bd f is G ρ Fs ρ1 Fs1) (hf : f = .shr) {a : Addr} (h : Exc ρ1 Fs1 a) : Exc ρ Fs a := by
  obtain ⟨j, s, h1, h2, h3⟩ := h
  rcases b.at_ j s h1 with ⟨q, e⟩ | ⟨m, _, q⟩
  · exact ⟨j, s, q, h2, e ▸ h3⟩
  · rcases q with ⟨_, q⟩ | q
    · rw [q] at h3; cases h3
    · exact absurd (q.trans (itemF_shr.mpr hf)) h2
theorem Bd.shr {f : Fl} {is : List Nat} {G : List Addr} (b : Bd f is G ρ Fs ρ1 Fs1) {a : Addr} (h : Shr ρ1 Fs1 a) : Shr ρ Fs a ∨ (f = .shr ∧ a ∈ G) := by
  obtain ⟨j, s, h1, h2, h3⟩ := h
  rcases b.at_ j s h1 with ⟨q, e⟩ | ⟨m, g, q⟩
  · exact .inl ⟨j, s, q, h2, e ▸ h3⟩
  · rcases q with ⟨_, q⟩ | q
    · rw [q] at h3; cases h3
    · exact .inr ⟨itemF_shr.mp (q.symm.trans h2), g a h3⟩
theorem Gp.bd {f : Fl} {is : List Nat} {G : List Addr} (g : Gp f G ρ Fs) (b : Bd f is G ρ Fs ρ1 Fs1) : Gp f G ρ1 Fs1 :=
  ⟨fun a m h => g.ap a m (b.own h), fun hf a m h => (b.shr h).elim (g.gb hf a m) fun z => hf z.1, fun hf a m h => g.gs hf a m (b.exc hf h)⟩
/-- one target -/
theorem bind_one {f : Fl} {G F : List Addr} {i : Nat} {pin : List Nat} {x : V} {d : D} (fr : FR K H σ ρ Fs) (g : Gp f G ρ Fs) (r : Rep K H false F x d) (sub : ∀ a ∈ F, a ∈ G) (h : bindV pin (nrm (itemF f) d) i ρ = some ρ1) :
    ∃ Fs1, FR K H (σ.set i (some x)) ρ1 Fs1 ∧ Bd f [i] G ρ Fs ρ1 Fs1 ∧ i ∉ pin := by
  unfold bindV at h
  split at h
  · cases h
  rename_i np
  simp only [Option.some.injEq] at h
  subst h
  have sl : ∀ {j : Nat} {s : FD}, (ρ.set i (some (nrm (itemF f) d)))[j]? = some (some s) → (j = i ∧ s = nrm (itemF f) d ∧ i < ρ.length) ∨ (j ≠ i ∧ ρ[j]? = some (some s)) := fun {j s} h => by
    by_cases e : i = j
    · subst e
      by_cases hl : i < ρ.length
      · rw [List.getElem?_set_self hl] at h
        simp at h
        exact .inl ⟨rfl, h.symm, hl⟩
      · rw [List.getElem?_eq_none (by simpa using hl)] at h; cases h
    · rw [List.getElem?_set_ne e] at h
      exact .inr ⟨fun z => e z.symm, h⟩
  have nf : (nrm (itemF f) d).f = .own → F = [] := fun z => by
    cases p : d.mut with
    | false => exact r.pure p
    | true => rw [nrm_mut p] at z; exact absurd z itemF_own
  have nf2 : (nrm (itemF f) d).f ≠ .own → (nrm (itemF f) d).f = itemF f := fun z => by
    cases p : d.mut with
    | false => rw [nrm_pure p] at z; exact absurd rfl z
    | true => rw [nrm_mut p]
  refine ⟨fun j => if j = i then F else Fs j, ⟨by simp [fr.len], fun j s h => ?_, fun j k s t hjk h1 h2 h3 h4 a m m' => ?_⟩, ⟨fun j s h => ?_, by simp⟩, np⟩
  · rcases sl h with ⟨rfl, rfl, hl⟩ | ⟨hne, h⟩
    · refine ⟨x, by rw [List.getElem?_set_self (by rw [fr.len]; exact hl)], ?_, fun z => ?_⟩
      · simp only [if_true, nrm_d]
        cases p : d.mut with
        | false => exact r.up p _
        | true =>
          rw [nrm_mut p]
          have : FD.o ⟨itemF f, d⟩ = false := by
            unfold FD.o
            cases e : itemF f with
            | own => exact absurd e itemF_own
            | shr => rfl
            | bor => rfl
          rw [this]
          exact r
      · simp only [if_true]
        rw [nf z]
        exact .nil
    · obtain ⟨v, q1, q2, q3⟩ := fr.rep j s h
      refine ⟨v, by rw [List.getElem?_set_ne (Ne.symm hne)]; exact q1, ?_⟩
      simp only [if_neg hne]
      exact ⟨q2, q3⟩
  · rcases sl h1 with ⟨rfl, rfl, hl⟩ | ⟨hne, hj1⟩
    · rcases sl h2 with ⟨rfl, rfl, _⟩ | ⟨hne2, h2⟩
      · exact hjk rfl
      · simp only [if_true] at m
        simp only [if_neg hne2] at m'
        by_cases o : (nrm (itemF f) d).f = .own
        · rw [nf o] at m; cases m
        · have e := nf2 o
          have nsf : f ≠ .shr := fun z => h3 (e.trans (itemF_shr.mpr z))
          rcases h4 with h4 | h4
          · exact o h4
          · cases q : t.f with
            | own => exact g.ap a (sub a m) ⟨k, t, h2, q, m'⟩
            | shr => exact g.gb nsf a (sub a m) ⟨k, t, h2, q, m'⟩
            | bor => exact h4 q
    · simp only [if_neg hne] at m
      rcases sl h2 with ⟨e0, e1, _⟩ | ⟨hne2, h2⟩
      · subst e1
        simp only [if_pos e0] at m'
        by_cases o : (nrm (itemF f) d).f = .own
        · rw [nf o] at m'; cases m'
        · have e := nf2 o
          rcases h4 with h4 | h4
          · exact g.ap a (sub a m') ⟨j, s, hj1, h4, m⟩
          · have sf : f = .shr := by
              rw [e] at h4
              cases f <;> simp [itemF] at h4 ⊢
            exact g.gs sf a (sub a m') ⟨j, s, hj1, h3, m⟩
      · simp only [if_neg hne2] at m'
        exact fr.sep j k s t hjk hj1 h2 h3 h4 a m m'
  · rcases sl h with ⟨rfl, rfl, hl⟩ | ⟨hne, h⟩
    · refine .inr ⟨List.mem_singleton.mpr rfl, fun a m => sub a (by simpa using m), ?_⟩
      by_cases o : (nrm (itemF f) d).f = .own
      · exact .inl ⟨o, by simp [nf o]⟩
      · exact .inr (nf2 o)
    · exact .inl ⟨h, by simp only [if_neg hne]⟩
/-- several -/
def gAll : List Nat → TGs
  | [] => gNil
  | i :: is => gCons (gName i) (gAll is)
theorem bind_all {f : Fl} {G : List Addr} {pin : List Nat} : ∀ {is : List Nat} {σ : L2.St} {ρ : Rho} {Fs : Nat → List Addr} {F : List Addr} {xs : List V} {ds : List D}, FR K H σ ρ Fs → Gp f G ρ Fs → Reps K H false F xs ds → (∀ a ∈ F, a ∈ G) →
    bindVs pin (itemF f) ds is ρ = some ρ1 → ∃ σ1 Fs1, FR K H σ1 ρ1 Fs1 ∧ Bd f is G ρ Fs ρ1 Fs1 ∧ (∀ i ∈ is, i ∉ pin) ∧ (∀ j, j ∉ is → σ1[j]? = σ[j]?) ∧ xs.length = is.length ∧ ∀ Q, Q σ1 H → gAll is xs σ H Q := by
  intro is
  induction is with
  | nil =>
    intro σ ρ Fs F xs ds fr g r sub h
    cases r with
    | nil =>
      simp only [bindVs, Option.some.injEq] at h
      subst h
      exact ⟨σ, Fs, fr, .refl, by simp, fun _ _ => rfl, rfl, fun Q q => ⟨rfl, q⟩⟩
    | cons _ _ => simp [bindVs] at h
  | cons i is ih =>
    intro σ ρ Fs F xs ds fr g r sub h
    cases r with
    | nil => simp [bindVs] at h
    | cons r0 rs =>
      simp only [bindVs, Option.bind_eq_some_iff] at h
      obtain ⟨ρm, h1, h2⟩ := h
      obtain ⟨Fs1, fr1, b1, np⟩ := bind_one fr g r0 (fun a m => sub a (List.mem_append_left _ m)) h1
      obtain ⟨σ2, Fs2, fr2, b2, np2, s2, l2, q2⟩ := ih fr1 (g.bd b1) rs (fun a m => sub a (List.mem_append_right _ m)) h2
      refine ⟨σ2, Fs2, fr2, b1.trans b2, fun j m => ?_, fun j nj => ?_, by simp [l2], fun Q q => ⟨_, _, rfl, q2 Q q⟩⟩
      · rcases List.mem_cons.mp m with e | m
        · rw [e]; exact np
        · exact np2 j m
      · rw [s2 j fun z => nj (List.mem_cons_of_mem _ z), List.getElem?_set_ne fun z => nj (by rw [z]; exact List.mem_cons_self)]
/-- a target's reading -/
def gT (K : PySem.W.Frag) : Tg → TG
  | .nm i => gName i
  | .tp is => gTup K is.length (gAll is)
theorem bind_tg {f : Fl} {G F : List Addr} {pin : List Nat} {tg : Tg} {x : V} {d : D} (fr : FR K H σ ρ Fs) (g : Gp f G ρ Fs) (r : Rep K H false F x d) (sub : ∀ a ∈ F, a ∈ G) (h : bindT pin (itemF f) tg d ρ = some ρ1) :
    ∃ σ1 Fs1, FR K H σ1 ρ1 Fs1 ∧ Bd f tg.slots G ρ Fs ρ1 Fs1 ∧ (∀ i ∈ tg.slots, i ∉ pin) ∧ (∀ j, j ∉ tg.slots → σ1[j]? = σ[j]?) ∧ ∀ Q, Q σ1 H → gT K tg x σ H Q := by
  cases tg with
  | nm i =>
    obtain ⟨Fs1, f1, b1, np⟩ := bind_one fr g r sub (by simpa only [bindT] using h)
    exact ⟨_, Fs1, f1, b1, fun j m => (by rw [List.mem_singleton.mp m]; exact np), fun j nj => List.getElem?_set_ne fun z => nj (by rw [z]; exact List.mem_singleton.mpr rfl), fun Q q => q⟩
  | tp is =>
    cases d with
    | tup ds =>
      obtain ⟨a, vs, rfl, sq, rs⟩ := rep_tup r
      obtain ⟨σ2, Fs2, fr2, b2, np2, s2, l2, q2⟩ := bind_all fr g rs sub (by simpa only [bindT] using h)
      exact ⟨σ2, Fs2, fr2, b2, np2, s2, fun Q q => ⟨a, vs, rfl, sq, l2, q2 Q q⟩⟩
    | _ => simp [bindT] at h

/-! ### the invariant of a loop -/
structure LI (K : PySem.W.Frag) (f : Fl) (G P : List Addr) (ρ0 : Rho) (Fs0 : Nat → List Addr) (H0 : Hp) (σL : L2.St) (ρL : Rho) (FsL : Nat → List Addr) (HL : Hp) (σ : L2.St) (ρ : Rho) (Fs : Nat → List Addr) (H : Hp) : Prop where
  fr : FR K H σ ρ Fs
  keep : ∀ a u, H0 a = some u → ¬ Own ρ0 Fs0 a → H a = some u
  own : ∀ a, Own ρ Fs a → Own ρ0 Fs0 a ∨ H0 a = none
  all : ∀ a, All ρ Fs a → All ρ0 Fs0 a ∨ H0 a = none
  shr : ∀ a, Shr ρ Fs a → ShO ρ0 Fs0 H0 a
  lk : ∀ (i : Nat) (s : FD), ρ[i]? = some (some s) → s.f = .bor → ρL[i]? = some (some s) ∧ Fs i = FsL i
  sg : ∀ (i : Nat) (s : FD), ρ[i]? = some (some s) → s.f = .bor → σ[i]? = σL[i]?
  kp : Kp HL H P
  tr : ∀ a ∈ P, HL a ≠ none
  ap : ∀ a ∈ P, ¬ Own ρ Fs a
  gp : Gp f G ρ Fs
  sub : ∀ a ∈ G, a ∈ P
  gs : f = .shr → ∀ a ∈ G, ShO ρ0 Fs0 H0 a
section
variable {f : Fl} {G P : List Addr}
theorem LI.back (l : LI K f G P ρ0 Fs0 H0 σL ρL FsL HL σ ρ Fs H) {a : Addr} (h : H a = none) : Own ρ0 Fs0 a ∨ H0 a = none := by
  cases e : H0 a with
  | none => exact .inr rfl
  | some u =>
    refine .inl (Classical.byContradiction fun q => ?_)
    rw [l.keep a u e q] at h
    cases h
theorem LI.pt (l : LI K f G P ρ0 Fs0 H0 σL ρL FsL HL σ ρ Fs H) {a : Addr} (h : a ∈ P) : H a ≠ none := by
  cases e : HL a with
  | none => exact absurd e (l.tr a h)
  | some u => rw [l.kp a u e (.inl h)]; simp
theorem none_same (s : Same H H') {a : Addr} (h : H' a = none) : H a = none := by
  cases e : H a with
  | none => rfl
  | some u => rw [s a u e] at h; cases h
/-- what is shared behind a step from a bound frame -/
theorem LI.sho (l : LI K f G P ρ0 Fs0 H0 σL ρL FsL HL σ ρ Fs H) {is : List Nat} (sm : Same H H') (b : Bd f is G ρ Fs ρ1 Fs1) {a : Addr} (h : ShO ρ1 Fs1 H' a) : ShO ρ0 Fs0 H0 a := by
  rcases h with h | h | h
  · rcases b.shr h with z | ⟨e, z⟩
    · exact l.shr a z
    · exact l.gs e a z
  · exact .inr (l.own a (b.own h))
  · exact .inr (l.back (none_same sm h))
theorem LI.ow (l : LI K f G P ρ0 Fs0 H0 σL ρL FsL HL σ ρ Fs H) {is : List Nat} (sm : Same H H') (b : Bd f is G ρ Fs ρ1 Fs1) {a : Addr} (h : Own ρ1 Fs1 a ∨ H' a = none) : Own ρ0 Fs0 a ∨ H0 a = none := by
  rcases h with h | h
  · exact l.own a (b.own h)
  · exact l.back (none_same sm h)
/-- a turn: bound, then a step, then the borrowed targets forgotten -/
theorem LI.turn (l : LI K f G P ρ0 Fs0 H0 σL ρL FsL HL σ ρ Fs H) {is : List Nat} (sm : Same H H') (b : Bd f is G ρ Fs ρ1 Fs1) (fr1 : FR K H' σ1 ρ1 Fs1) (st : Stp ρ1 Fs1 H' ρ2 Fs2 H2)
    (fr3 : FR K H2 σ2 ρ3 Fs2) (s1 : ∀ j, j ∉ is → σ1[j]? = σ[j]?) (s2 : ∀ (i : Nat) (s : FD), ρ3[i]? = some (some s) → s.f = .bor → σ2[i]? = σ1[i]?)
    (cl : ∀ (j : Nat) (s : FD), ρ3[j]? = some (some s) → ρ2[j]? = some (some s) ∧ (j ∈ is → s.f ≠ .bor)) : LI K f G P ρ0 Fs0 H0 σL ρL FsL HL σ2 ρ3 Fs2 H2 := by
  have own2 : ∀ {a : Addr}, Own ρ3 Fs2 a → Own ρ2 Fs2 a := fun ⟨i, s, h1, h2, h3⟩ => ⟨i, s, (cl i s h1).1, h2, h3⟩
  have exc2 : ∀ {a : Addr}, Exc ρ3 Fs2 a → Exc ρ2 Fs2 a := fun ⟨i, s, h1, h2, h3⟩ => ⟨i, s, (cl i s h1).1, h2, h3⟩
  have shr2 : ∀ {a : Addr}, Shr ρ3 Fs2 a → Shr ρ2 Fs2 a := fun ⟨i, s, h1, h2, h3⟩ => ⟨i, s, (cl i s h1).1, h2, h3⟩
  have bor : ∀ {i : Nat} {s : FD}, ρ3[i]? = some (some s) → s.f = .bor → i ∉ is ∧ ρ[i]? = some (some s) ∧ Fs2 i = Fs i := fun {i s} h hb => by
    obtain ⟨q, n⟩ := cl i s h
    obtain ⟨q1, e1⟩ := st.lk i s q hb
    have ni : i ∉ is := fun z => n z hb
    rcases b.at_ i s q1 with ⟨q2, e2⟩ | ⟨m, _⟩
    · exact ⟨ni, q2, e1.trans e2⟩
    · exact absurd m ni
  have g1 := l.gp.bd b
  have apP : ∀ a ∈ P, ¬ Own ρ1 Fs1 a := fun a m h => l.ap a m (b.own h)
  have trP : ∀ {a : Addr}, a ∈ P → H' a = none → False := fun m h => l.pt m (none_same sm h)
  refine ⟨fr3, fun a u e n => ?_, fun a h => l.ow sm b (st.own a (own2 h)), fun a h => ?_, fun a h => l.sho sm b (st.shr a (shr2 h)), fun i s h hb => ?_, fun i s h hb => ?_, ?_, l.tr, fun a m h => ?_, ⟨fun a m h => ?_, fun hf a m h => ?_, fun hf a m h => ?_⟩, l.sub, l.gs⟩
  · refine st.keep a u (sm a u (l.keep a u e n)) fun o => ?_
    rcases l.own a (b.own o) with z | z
    · exact n z
    · rw [z] at e; cases e
  · obtain ⟨i, s, h1, h3⟩ := h
    cases q : s.f with
    | own => exact (l.ow sm b (st.own a (own2 ⟨i, s, h1, q, h3⟩))).imp Own.all id
    | shr => exact (l.sho sm b (st.shr a (shr2 ⟨i, s, h1, q, h3⟩))).all
    | bor =>
      obtain ⟨_, z1, z2⟩ := bor h1 q
      exact l.all a ⟨i, s, z1, z2 ▸ h3⟩
  · obtain ⟨_, z1, z2⟩ := bor h hb
    obtain ⟨y1, y2⟩ := l.lk i s z1 hb
    exact ⟨y1, z2.trans y2⟩
  · obtain ⟨z0, z1, z2⟩ := bor h hb
    rw [s2 i s h hb, s1 i z0]
    exact l.sg i s z1 hb
  · exact fun a u e q => st.kp fr1 apP a u (sm a u (l.kp a u e q)) q
  · rcases st.own a (own2 h) with z | z
    · exact apP a m z
    · exact trP m z
  · rcases st.own a (own2 h) with z | z
    · exact g1.ap a m z
    · exact trP (l.sub a m) z
  · rcases st.shr a (shr2 h) with z | z | z
    · exact g1.gb hf a m z
    · exact g1.ap a m z
    · exact trP (l.sub a m) z
  · rcases st.exc (exc2 h) with z | z
    · exact g1.gs hf a m z
    · exact trP (l.sub a m) z
/-- a value that comes out of a turn -/
theorem LI.tm (l : LI K f G P ρ0 Fs0 H0 σL ρL FsL HL σ ρ Fs H) {is : List Nat} (sm : Same H H') (b : Bd f is G ρ Fs ρ1 Fs1) {x : FD} {v : V} {F : List Addr} (t : Tm K ρ1 Fs1 H' ρ2 Fs2 H2 x v F) (nb : x.f ≠ .bor)
    (cl : ∀ (j : Nat) (s : FD), ρ3[j]? = some (some s) → ρ2[j]? = some (some s)) : Tm K ρ0 Fs0 H0 ρ3 Fs2 H2 x v F :=
  ⟨t.rep, fun e => ⟨(t.own e).1, fun a m => ⟨fun ⟨i, s, h1, h3⟩ => ((t.own e).2 a m).1 ⟨i, s, cl i s h1, h3⟩, l.ow sm b ((t.own e).2 a m).2⟩⟩,
    fun e a m => ⟨fun ⟨i, s, h1, h2, h3⟩ => (t.shr e a m).1 ⟨i, s, cl i s h1, h2, h3⟩, l.sho sm b (t.shr e a m).2⟩, fun z => absurd z nb⟩
/-- the end: unlocked -/
theorem LI.unlock {ls : List Nat} (l : LI K f G P ρ0 Fs0 H0 σL (lock ls ρ1) Fs1 H1 σ ρ Fs H) (f1 : FR K H1 σL ρ1 Fs1) (st : Stp ρ0 Fs0 H0 ρ1 Fs1 H1) (ow : ∀ i ∈ ls, ownAt ρ1 i = true) (lp : ∀ i ∈ ls, ∀ a ∈ Fs1 i, a ∈ P) :
    FR K H σ (unlock ls ρ) Fs ∧ Stp ρ0 Fs0 H0 (unlock ls ρ) Fs H := by
  refine ⟨FR.unlock f1 ow l.lk (fun i hi => l.kp.mono (lp i hi)) l.fr fun i hi s e hb => l.sg i s e hb, ⟨l.keep, fun a ⟨i, s, h1, h2, h3⟩ => ?_, fun a ⟨i, s, h1, h3⟩ => ?_, fun a ⟨i, s, h1, h2, h3⟩ => ?_, fun i s h1 h2 => ?_⟩⟩
  · obtain ⟨t, e, d, q⟩ := unlock_slot h1
    rcases q with ⟨hi, hb, z⟩ | ⟨z, _⟩
    · obtain ⟨e1, e2⟩ := l.lk i t e hb
      obtain ⟨s0, z1, z2⟩ := ownAt_some (ow i hi)
      rw [e2] at h3
      exact st.own a ⟨i, s0, z1, z2, h3⟩
    · subst z
      exact l.own a ⟨i, _, e, h2, h3⟩
  · obtain ⟨t, e, d, q⟩ := unlock_slot h1
    exact l.all a ⟨i, t, e, h3⟩
  · obtain ⟨t, e, d, q⟩ := unlock_slot h1
    rcases q with ⟨hi, hb, z⟩ | ⟨z, _⟩
    · rw [z] at h2; cases h2
    · subst z; exact l.shr a ⟨i, _, e, h2, h3⟩
  · obtain ⟨t, e, d, q⟩ := unlock_slot h1
    rcases q with ⟨hi, hb, z⟩ | ⟨z, n⟩
    · rw [z] at h2; cases h2
    · subst z
      obtain ⟨e1, e2⟩ := l.lk i _ e h2
      obtain ⟨s', y1, y2, y3⟩ := lock_slot e1
      rcases y3 with ⟨y3, _⟩ | ⟨y3, _⟩
      · exact absurd ⟨y3, h2⟩ n
      · subst y3
        obtain ⟨x1, x2⟩ := st.lk i _ y1 h2
        exact ⟨x1, e2.trans x2⟩
end
end
end B
/-! BL: statements. -/
namespace B
open PySem PySem.Spec L2

/-- x op= y by values -/
def rIp : Operator → R2
  | .Add => fun x y H Q => rI0 (fun i j => .int (i + j)) x y H Q ∨ (∃ i j, x = .str i ∧ y = .str j ∧ i.length + j.length ≤ sizeLine ∧ Q (.str (i ++ j)) H)
  | .Sub => rI0 fun i j => .int (i - j)
  | .Mult => rI CMul fun i j => .int (i * j)
  | .FloorDiv => rI CDivW fun i j => .int (i / j)
  | .Mod => rI (fun _ j => 0 < j) fun i j => .int (i % j)
  | .LShift => rI CPow fun i j => .int (i * 2 ^ j.toNat)
  | .RShift => rI (fun _ j => 0 ≤ j) fun i j => .int (i / 2 ^ j.toNat)
  | .BitAnd => rI0 fun i j => .int (Builtin.bitAnd i j)
  | .BitOr => rI0 fun i j => .int (Builtin.bitOr i j)
  | .BitXor => rI0 fun i j => .int (Builtin.bitXor i j)
  | _ => fun _ _ _ _ => False
theorem ip_x {X : Cx} (o : Operator) : PIp X o (rIp o) := by
  cases o with
  | Add => exact iop_add.or iop_add_str
  | Sub => exact iop_sub
  | Mult => exact iop_mul
  | FloorDiv => exact iop_fdivW
  | Mod => exact iop_mod
  | LShift => exact iop_shl
  | RShift => exact iop_shr
  | BitAnd => exact iop_and
  | BitOr => exact iop_or
  | BitXor => exact iop_xor
  | _ => intro pins s σ H x y v u Q I rx ry h; exact h.elim

section
variable {K : PySem.W.Frag} {C : Ctx} {H H' H1 H2 H3 H0 : Hp} {σ σ' σ1 σ2 : L2.St} {ρ ρ' ρ0 ρ1 ρ2 ρ3 : Rho} {Fs Fs' Fs0 Fs1 Fs2 : Nat → List Addr} {Q : VK} {Dn : Ends}
theorem augS {o o' : Bool} {F G : List Addr} {x y : V} {dx dy d : D} (op : Operator) (hx : Rep K H o F x dx) (hy : Rep K H o' G y dy) (h : augD op dx dy = some d) (k : ∀ v, Rep K H true [] v d → d.mut = false → Q v H) : rIp op x y H Q := by
  unfold augD at h
  split at h
  all_goals (try (cases h; done))
  · cases h
    obtain ⟨rfl, _⟩ := rep_int hx; obtain ⟨rfl, _⟩ := rep_int hy
    exact .inl ⟨_, _, rfl, rfl, k _ .int rfl⟩
  · split at h
    · cases h
      obtain ⟨rfl, _⟩ := rep_str hx; obtain ⟨rfl, _⟩ := rep_str hy
      exact .inr ⟨_, _, rfl, rfl, by assumption, k _ .str rfl⟩
    · cases h
  all_goals first
    | (split at h
       · cases h
         obtain ⟨rfl, _⟩ := rep_int hx; obtain ⟨rfl, _⟩ := rep_int hy
         exact ⟨_, _, rfl, rfl, by assumption, k _ .int rfl⟩
       · cases h)
    | (cases h
       obtain ⟨rfl, _⟩ := rep_int hx; obtain ⟨rfl, _⟩ := rep_int hy
       exact ⟨_, _, rfl, rfl, k _ .int rfl⟩)

/-- what a statement leaves of the frame's values -/
structure Kd (pin : List Nat) (ρ' : Rho) (σ σ' : L2.St) : Prop where
  pin : ∀ i ∈ pin, σ'[i]? = σ[i]?
  bor : ∀ (i : Nat) (s : FD), ρ'[i]? = some (some s) → s.f = .bor → σ'[i]? = σ[i]?
theorem Kd.refl {pin : List Nat} : Kd pin ρ σ σ := ⟨fun _ _ => rfl, fun _ _ _ _ => rfl⟩
theorem Kd.trans {pin : List Nat} (a : Kd pin ρ1 σ σ1) (b : Kd pin ρ2 σ1 σ2) (st : Stp ρ1 Fs1 H1 ρ2 Fs2 H2) : Kd pin ρ2 σ σ2 :=
  ⟨fun i m => (b.pin i m).trans (a.pin i m), fun i s h e => (b.bor i s h e).trans (a.bor i s (st.lk i s h e).1 e)⟩
def Cont (K : PySem.W.Frag) (pin : List Nat) (Dn : Ends) (σ : L2.St) (ρ : Rho) (Fs : Nat → List Addr) (H : Hp) : Flow → Prop
  | .nx ρ' => ∀ σ' H' Fs', FR K H' σ' ρ' Fs' → Stp ρ Fs H ρ' Fs' H' → Kd pin ρ' σ σ' → Dn.nx σ' H'
  | .bk ρ' => ∀ σ' H' Fs', FR K H' σ' ρ' Fs' → Stp ρ Fs H ρ' Fs' H' → Kd pin ρ' σ σ' → Dn.bk σ' H'
  | .ct ρ' => ∀ σ' H' Fs', FR K H' σ' ρ' Fs' → Stp ρ Fs H ρ' Fs' H' → Kd pin ρ' σ σ' → Dn.ct σ' H'
  | .rt x ρ' => ∀ v σ' H' Fs' F, FR K H' σ' ρ' Fs' → Stp ρ Fs H ρ' Fs' H' → Kd pin ρ' σ σ' → Tm K ρ Fs H ρ' Fs' H' x v F → x.f ≠ .bor → Dn.rt v H'
def tS (K : PySem.W.Frag) (C : Ctx) (s : S) : TS := fun Dn σ H => ∃ ρ Fs, FR K H σ ρ Fs ∧ ∃ fl, evS C s ρ = some fl ∧ Cont K C.pin Dn σ ρ Fs H fl
def tSs (K : PySem.W.Frag) (C : Ctx) (ss : List S) : TS := fun Dn σ H => ∃ ρ Fs, FR K H σ ρ Fs ∧ ∃ fl, evSs C ss ρ = some fl ∧ Cont K C.pin Dn σ ρ Fs H fl
theorem Cont.shift {pin : List Nat} {fl : Flow} (c : Cont K pin Dn σ ρ Fs H fl) (st : Stp ρ Fs H ρ1 Fs1 H1) (kd : Kd pin ρ1 σ σ1) : Cont K pin Dn σ1 ρ1 Fs1 H1 fl := by
  cases fl with
  | nx ρ2 => exact fun σ' H' Fs' fr st' kd' => c σ' H' Fs' fr (st.trans st') (kd.trans kd' st')
  | bk ρ2 => exact fun σ' H' Fs' fr st' kd' => c σ' H' Fs' fr (st.trans st') (kd.trans kd' st')
  | ct ρ2 => exact fun σ' H' Fs' fr st' kd' => c σ' H' Fs' fr (st.trans st') (kd.trans kd' st')
  | rt x ρ2 => exact fun v σ' H' Fs' F fr st' kd' t nb => c v σ' H' Fs' F fr (st.trans st') (kd.trans kd' st') (t.from st) nb
theorem tSs_nil (h : tSs K C [] Dn σ H) : tNext Dn σ H := by
  obtain ⟨ρ, Fs, fr, fl, e, c⟩ := h
  simp only [evSs, Option.some.injEq] at e
  subst e
  exact c σ H Fs fr .refl .refl
theorem tSs_cons {s : S} {ss : List S} (h : tSs K C (s :: ss) Dn σ H) : tSeq (tS K C s) (tSs K C ss) Dn σ H := by
  obtain ⟨ρ, Fs, fr, fl, e, c⟩ := h
  simp only [evSs, Option.bind_eq_some_iff] at e
  obtain ⟨r, h1, h2⟩ := e
  refine ⟨ρ, Fs, fr, r, h1, ?_⟩
  cases r with
  | nx ρ1 => exact fun σ' H' Fs' fr' st kd => ⟨ρ1, Fs', fr', fl, h2, c.shift st kd⟩
  | bk ρ1 => simp only [Option.some.injEq] at h2; subst h2; exact c
  | ct ρ1 => simp only [Option.some.injEq] at h2; subst h2; exact c
  | rt x ρ1 => simp only [Option.some.injEq] at h2; subst h2; exact c

/-! ### a value into a local -/
theorem set_slot {i j : Nat} {x : FD} {s : FD} (h : (ρ.set i (some x))[j]? = some (some s)) : (j = i ∧ s = x ∧ i < ρ.length) ∨ (j ≠ i ∧ ρ[j]? = some (some s)) := by
  by_cases e : i = j
  · subst e
    by_cases hl : i < ρ.length
    · rw [List.getElem?_set_self hl] at h
      simp at h
      exact .inl ⟨rfl, h.symm, hl⟩
    · rw [List.getElem?_eq_none (by simpa using hl)] at h; cases h
  · rw [List.getElem?_set_ne e] at h
    exact .inr ⟨fun z => e z.symm, h⟩
def setF (Fs : Nat → List Addr) (i : Nat) (F : List Addr) : Nat → List Addr := fun j => if j = i then F else Fs j
theorem put_frame {pin : List Nat} {i : Nat} {x : FD} {v : V} {F : List Addr} (fr : FR K H1 σ ρ1 Fs1) (st : Stp ρ Fs H ρ1 Fs1 H1) (t : Tm K ρ Fs H ρ1 Fs1 H1 x v F) (h : stV pin i x ρ1 = some ρ2) :
    FR K H1 (σ.set i (some v)) ρ2 (setF Fs1 i F) ∧ Stp ρ Fs H ρ2 (setF Fs1 i F) H1 ∧ Kd pin ρ2 σ (σ.set i (some v)) ∧ ρ2 = ρ1.set i (some x) ∧ x.f ≠ .bor := by
  unfold stV at h
  split at h
  · cases h
  rename_i c
  simp only [Option.some.injEq] at h
  subst h
  have nb : x.f ≠ .bor := fun z => c (.inl z)
  have np : i ∉ pin := fun z => c (.inr z)
  refine ⟨⟨by simp [fr.len], fun j s h => ?_, fun j k s s' hjk h1 h2 h3 h4 a m m' => ?_⟩, ⟨st.keep, fun a ⟨j, s, h1, h2, h3⟩ => ?_, fun a ⟨j, s, h1, h3⟩ => ?_, fun a ⟨j, s, h1, h2, h3⟩ => ?_, fun j s h1 h2 => ?_⟩, ⟨fun j m => ?_, fun j s h e => ?_⟩, rfl, nb⟩
  · rcases set_slot h with ⟨rfl, rfl, hl⟩ | ⟨hne, h⟩
    · refine ⟨v, by rw [List.getElem?_set_self (by rw [fr.len]; exact hl)], ?_⟩
      simp only [setF, if_true]
      exact ⟨t.rep, fun z => (t.own z).1⟩
    · obtain ⟨w, q1, q2⟩ := fr.rep j s h
      refine ⟨w, by rw [List.getElem?_set_ne (Ne.symm hne)]; exact q1, ?_⟩
      simp only [setF, if_neg hne]
      exact q2
  · rcases set_slot h1 with ⟨e0, e1, hl⟩ | ⟨hne, g1⟩
    · subst e1
      simp only [setF, if_pos e0] at m
      rcases set_slot h2 with ⟨e2, _, _⟩ | ⟨hne2, g2⟩
      · exact hjk (e0.trans e2.symm)
      · simp only [setF, if_neg hne2] at m'
        cases q : s.f with
        | own => exact ((t.own q).2 a m).1 ⟨k, s', g2, m'⟩
        | shr => exact h3 q
        | bor => exact nb q
    · simp only [setF, if_neg hne] at m
      rcases set_slot h2 with ⟨e2, e3, _⟩ | ⟨hne2, g2⟩
      · subst e3
        simp only [setF, if_pos e2] at m'
        cases q : s'.f with
        | own => exact ((t.own q).2 a m').1 ⟨j, s, g1, m⟩
        | shr => exact (t.shr q a m').1 ⟨j, s, g1, h3, m⟩
        | bor => exact nb q
      · simp only [setF, if_neg hne2] at m'
        exact fr.sep j k s s' hjk g1 g2 h3 h4 a m m'
  · rcases set_slot h1 with ⟨e0, e1, hl⟩ | ⟨hne, g1⟩
    · subst e1
      simp only [setF, if_pos e0] at h3
      exact ((t.own h2).2 a h3).2
    · simp only [setF, if_neg hne] at h3
      exact st.own a ⟨j, s, g1, h2, h3⟩
  · rcases set_slot h1 with ⟨e0, e1, hl⟩ | ⟨hne, g1⟩
    · subst e1
      simp only [setF, if_pos e0] at h3
      cases q : s.f with
      | own => exact ((t.own q).2 a h3).2.imp Own.all id
      | shr => exact (t.shr q a h3).2.all
      | bor => exact absurd q nb
    · simp only [setF, if_neg hne] at h3
      exact st.all a ⟨j, s, g1, h3⟩
  · rcases set_slot h1 with ⟨e0, e1, hl⟩ | ⟨hne, g1⟩
    · subst e1
      simp only [setF, if_pos e0] at h3
      exact (t.shr h2 a h3).2
    · simp only [setF, if_neg hne] at h3
      exact st.shr a ⟨j, s, g1, h2, h3⟩
  · rcases set_slot h1 with ⟨e0, e1, hl⟩ | ⟨hne, g1⟩
    · subst e1
      exact absurd h2 nb
    · simp only [setF, if_neg hne]
      exact st.lk j s g1 h2
  · have : i ≠ j := fun z => np (by rw [z]; exact m)
    rw [List.getElem?_set_ne this]
  · rcases set_slot h with ⟨e0, e1, hl⟩ | ⟨hne, g1⟩
    · subst e1; exact absurd e nb
    · rw [List.getElem?_set_ne (Ne.symm hne)]
/-- behind a further store -/
theorem Tm.put {i : Nat} {x y : FD} {v w : V} {F G : List Addr} (t : Tm K ρ Fs H ρ1 Fs1 H1 y w G) (h1 : y.f = .own → ∀ a ∈ G, a ∉ F) (h2 : x.f = .own → ∀ a ∈ F, a ∉ G) (nb : y.f ≠ .bor) (nx : x.f ≠ .bor) :
    Tm K ρ Fs H (ρ1.set i (some x)) (setF Fs1 i F) H1 y w G :=
  ⟨t.rep, fun e => ⟨(t.own e).1, fun a m => ⟨fun ⟨j, s, g1, g3⟩ => by
    rcases set_slot g1 with ⟨e0, e1, hl⟩ | ⟨hne, g1⟩
    · simp only [setF, if_pos e0] at g3
      exact h1 e a m g3
    · simp only [setF, if_neg hne] at g3
      exact ((t.own e).2 a m).1 ⟨j, s, g1, g3⟩, ((t.own e).2 a m).2⟩⟩,
   fun e a m => ⟨fun ⟨j, s, g1, g2, g3⟩ => by
    rcases set_slot g1 with ⟨e0, e1, hl⟩ | ⟨hne, g1⟩
    · subst e1
      simp only [setF, if_pos e0] at g3
      cases q : s.f with
      | own => exact h2 q a g3 m
      | shr => exact g2 q
      | bor => exact nx q
    · simp only [setF, if_neg hne] at g3
      exact (t.shr e a m).1 ⟨j, s, g1, g2, g3⟩, (t.shr e a m).2⟩, fun z => absurd z nb⟩

/-! ### statements -/
theorem tS_asg {i : Nat} {e : E} (h : tS K C (.asg i e) Dn σ H) : tAsg (tV K C e) (gName i) Dn σ H := by
  obtain ⟨ρ, Fs, fr, fl, h, c⟩ := h
  simp only [evS, Option.bind_eq_some_iff, Option.map_eq_some_iff] at h
  obtain ⟨⟨x, ρ1⟩, h1, ρ2, h2, rfl⟩ := h
  refine tE_tV ⟨ρ, Fs, fr, x, ρ1, h1, fun v H1 Fs1 F a => ?_⟩
  obtain ⟨f2, s2, k2, _⟩ := put_frame a.fr a.st a.tm h2
  exact c _ H1 _ f2 s2 k2
theorem Tm.share {x : FD} {v : V} {F : List Addr} (t : Tm K ρ Fs H ρ1 Fs1 H1 x v F) : Tm K ρ Fs H ρ1 Fs1 H1 ⟨shO x.f, x.d⟩ v F := by
  obtain ⟨f, d⟩ := x
  cases f with
  | own => exact ⟨t.rep.low, fun e => (by cases e), fun _ a m => ⟨fun q => ((t.own rfl).2 a m).1 q.all, ShO.of ((t.own rfl).2 a m).2⟩, fun e => (by cases e)⟩
  | shr => exact t
  | bor => exact t
theorem tS_asgS {i : Nat} {e : E} (h : tS K C (.asgS i e) Dn σ H) : tAsg (tV K C e) (gName i) Dn σ H := by
  obtain ⟨ρ, Fs, fr, fl, h, c⟩ := h
  simp only [evS, Option.bind_eq_some_iff, Option.map_eq_some_iff] at h
  obtain ⟨⟨x, ρ1⟩, h1, ρ2, h2, rfl⟩ := h
  refine tE_tV ⟨ρ, Fs, fr, x, ρ1, h1, fun v H1 Fs1 F a => ?_⟩
  obtain ⟨f2, s2, k2, _⟩ := put_frame a.fr a.st a.tm.share h2
  exact c _ H1 _ f2 s2 k2
theorem bindVs_pure {pin : List Nat} {f g : Fl} : ∀ {ds : List D} {is : List Nat} {ρ : Rho}, D.mutL ds = false → bindVs pin f ds is ρ = bindVs pin g ds is ρ
  | [], [], ρ, _ => rfl
  | [], _ :: _, ρ, _ => rfl
  | _ :: _, [], ρ, _ => rfl
  | d :: ds, i :: is, ρ, p => by
    simp only [D.mutL, Bool.or_eq_false_iff] at p
    simp only [bindVs]
    rw [nrm_pure p.1, nrm_pure p.1]
    congr 1
    funext ρ1
    exact bindVs_pure p.2
theorem Bd.stp {is : List Nat} (b : Bd .shr is [] ρ1 Fs1 ρ2 Fs2) (st : Stp ρ Fs H ρ1 Fs1 H1) : Stp ρ Fs H ρ2 Fs2 H1 where
  keep := st.keep
  own := fun a h => st.own a (b.own h)
  all := fun a ⟨j, s, h1, h3⟩ => by
    rcases b.at_ j s h1 with ⟨q, e⟩ | ⟨m, g, _⟩
    · exact st.all a ⟨j, s, q, e ▸ h3⟩
    · cases g a h3
  shr := fun a h => by
    rcases b.shr h with z | ⟨_, z⟩
    · exact st.shr a z
    · cases z
  lk := fun j s h1 h2 => by
    rcases b.at_ j s h1 with ⟨q, e⟩ | ⟨m, g, q⟩
    · obtain ⟨z1, z2⟩ := st.lk j s q h2
      exact ⟨z1, e.trans z2⟩
    · rcases q with ⟨q, _⟩ | q
      · rw [q] at h2; cases h2
      · rw [q] at h2; cases h2
theorem Bd.bor {is : List Nat} {f : Fl} {G : List Addr} (b : Bd f is G ρ1 Fs1 ρ2 Fs2) (hf : f = .shr) {j : Nat} {s : FD} (h1 : ρ2[j]? = some (some s)) (h2 : s.f = .bor) (hj : j ∈ is) : ρ1[j]? = some (some s) := by
  rcases b.at_ j s h1 with ⟨q, e⟩ | ⟨m, g, q⟩
  · exact q
  · rcases q with ⟨q, _⟩ | q
    · rw [q] at h2; cases h2
    · rw [q, hf] at h2; cases h2
/-- every stored target holds something new -/
theorem bind_bor {pin : List Nat} : ∀ {is : List Nat} {ds : List D} {ρ ρ1 : Rho}, D.mutL ds = false → bindVs pin .shr ds is ρ = some ρ1 → ∀ j ∈ is, ∀ s, ρ1[j]? = some (some s) → s.f ≠ .bor
  | [], ds, ρ, ρ1, _, h, j, m, s, e => by cases m
  | i :: is, [], ρ, ρ1, _, h, j, m, s, e => by simp [bindVs] at h
  | i :: is, d :: ds, ρ, ρ1, p, h, j, m, s, e => by
    simp only [D.mutL, Bool.or_eq_false_iff] at p
    simp only [bindVs, Option.bind_eq_some_iff] at h
    obtain ⟨ρm, h1, h2⟩ := h
    by_cases hj : j ∈ is
    · exact bind_bor p.2 h2 j hj s e
    · have : j = i := by
        rcases List.mem_cons.mp m with z | z
        · exact z
        · exact absurd z hj
      subst this
      have out : ∀ {is : List Nat} {ds : List D} {ρ ρ1 : Rho}, bindVs pin .shr ds is ρ = some ρ1 → ∀ j, j ∉ is → ρ1[j]? = ρ[j]? := by
        intro is
        induction is with
        | nil =>
          intro ds ρ ρ1 h j _
          cases ds with
          | nil => simp [bindVs] at h; rw [h]
          | cons _ _ => simp [bindVs] at h
        | cons i is ih =>
          intro ds ρ ρ1 h j nj
          cases ds with
          | nil => simp [bindVs] at h
          | cons d ds =>
            simp only [bindVs, Option.bind_eq_some_iff] at h
            obtain ⟨ρm, h1, h2⟩ := h
            rw [ih h2 j fun z => nj (List.mem_cons_of_mem _ z)]
            unfold bindV at h1
            split at h1
            · cases h1
            · simp only [Option.some.injEq] at h1
              subst h1
              rw [List.getElem?_set_ne fun z => nj (by rw [z]; exact List.mem_cons_self)]
      rw [out h2 j hj] at e
      unfold bindV at h1
      split at h1
      · cases h1
      · simp only [Option.some.injEq] at h1
        subst h1
        rcases set_slot e with ⟨_, z, _⟩ | ⟨z, _⟩
        · rw [z, nrm_pure p.1]; exact fun y => nomatch y
        · exact absurd rfl z
theorem tS_asgT {is : List Nat} {e : E} (h : tS K C (.asgT is e) Dn σ H) : tAsg (tV K C e) (gT K (.tp is)) Dn σ H := by
  obtain ⟨ρ, Fs, fr, fl, h, c⟩ := h
  simp only [evS, Option.bind_eq_some_iff] at h
  obtain ⟨⟨x, ρ1⟩, h1, h⟩ := h
  split at h
  rotate_left
  · cases h
  rename_i ds hd
  split at h
  rotate_left
  · cases h
  rename_i p
  simp only [Option.map_eq_some_iff] at h
  obtain ⟨ρ2, h2, rfl⟩ := h
  refine tE_tV ⟨ρ, Fs, fr, x, ρ1, h1, fun v H1 Fs1 F a => ?_⟩
  have r := a.tm.rep
  rw [show x.d = D.tup ds from hd] at r
  have r2 := r.pure' (by simpa [D.mut] using p) false
  rw [bindVs_pure (g := .shr) p] at h2
  have h2' : bindT C.pin (itemF .shr) (.tp is) (.tup ds) ρ1 = some ρ2 := h2
  obtain ⟨σ2, Fs2, f2, b2, np, s2, q2⟩ := bind_tg (f := .shr) (G := []) (F := []) a.fr ⟨(fun a m => by cases m), (fun _ a m => by cases m), (fun _ a m => by cases m)⟩ r2 (fun a m => by cases m) h2'
  refine q2 _ (c σ2 H1 Fs2 f2 (b2.stp a.st) ⟨fun i m => s2 i fun z => np i z m, fun i s e hb => s2 i fun z => bind_bor p h2 i z s e hb⟩)
theorem tS_par {i j : Nat} {a b : E} (h : tS K C (.par i j a b) Dn σ H) : tPar i j (tL K C [a, b]) Dn σ H := by
  obtain ⟨ρ, Fs, fr, fl, h, c⟩ := h
  simp only [evS, Option.bind_eq_some_iff] at h
  obtain ⟨⟨xs, ρ1⟩, h1, h⟩ := h
  split at h
  rotate_left
  · cases h
  rename_i x y e
  simp only at e
  subst e
  simp only [Option.bind_eq_some_iff, Option.map_eq_some_iff] at h
  obtain ⟨ρ2, h2, ρ3, h3, rfl⟩ := h
  refine ⟨ρ, Fs, fr, [x, y], ρ1, h1, fun vs H1 Fs1 Gs a => ?_⟩
  obtain ⟨v, w, e1⟩ : ∃ v w, vs = [v, w] := by
    have := a.lv
    match vs, this with
    | [v, w], _ => exact ⟨v, w, rfl⟩
  obtain ⟨F, G, e2⟩ : ∃ v w, Gs = [v, w] := by
    have := a.lg
    match Gs, this with
    | [v, w], _ => exact ⟨v, w, rfl⟩
  subst e1 e2
  refine ⟨v, w, rfl, ?_⟩
  have t0 := a.tm 0 x v F rfl rfl rfl
  have t1 := a.tm 1 y w G rfl rfl rfl
  obtain ⟨f2, s2, k2, e3, nx⟩ := put_frame a.fr a.st t0 h2
  subst e3
  have ny : y.f ≠ .bor := by
    unfold stV at h3
    split at h3
    · cases h3
    · rename_i c; exact fun z => c (.inl z)
  have t1' := t1.put (i := i) (x := x) (F := F) (v := v) (fun z => a.sep 1 0 y x G F (by decide) rfl rfl rfl rfl z) (fun z => a.sep 0 1 x y F G (by decide) rfl rfl rfl rfl z) ny nx
  obtain ⟨f3, s3, k3, e4, _⟩ := put_frame f2 s2 t1' h3
  refine c _ H1 _ f3 s3 ⟨fun i m => (k3.pin i m).trans (k2.pin i m), fun k s e hb => ?_⟩
  rw [k3.bor k s e hb]
  subst e4
  rcases set_slot e with ⟨_, z, _⟩ | ⟨_, e⟩
  · rw [z] at hb; exact absurd hb ny
  · exact k2.bor k s e hb
theorem tS_put {root : Nat} {path : List E} {ix e : E} (h : tS K C (.put root path ix e) Dn σ H) : tAsg (tV K C e) (gSub (tP K C root path) (tV K C ix) rSetX) Dn σ H := by
  obtain ⟨ρ, Fs, fr, fl, h, c⟩ := h
  simp only [evS, Option.bind_eq_some_iff] at h
  obtain ⟨⟨x, ρ1⟩, h1, h⟩ := h
  split at h
  rotate_left
  · cases h
  rename_i cnd
  obtain ⟨xo, qp, qi⟩ := cnd
  simp only [Option.bind_eq_some_iff] at h
  obtain ⟨⟨rp, ρp⟩, h2, ⟨ri, ρi⟩, h3, h⟩ := h
  have ep := quiet_evL path ρ1 rp ρp qp h2
  subst ep
  split at h
  rotate_left
  · cases h
  rename_i s es
  split at h
  rotate_left
  · cases h
  rename_i so
  simp only [Option.map_eq_some_iff] at h
  obtain ⟨⟨d', u⟩, h4, rfl⟩ := h
  refine tE_tV ⟨ρ, Fs, fr, x, ρp, h1, fun v H1 Fs1 F a => ?_⟩
  show gSub (tP K C root path) (tV K C ix) rSetX v σ H1 Dn.nx
  have xo' : x.o = true := toO_iff.mpr xo
  have nb : x.f ≠ .bor := by rw [xo]; decide
  have so' : s.o = true := toO_iff.mpr so
  -- the object ahead of the index
  obtain ⟨s1, v0, c0, es1, so1, hv0, hc0, key⟩ : ∃ s1 v0 c0, ρp[root]? = some (some s1) ∧ s1.f = .own ∧ σ[root]? = some (some v0) ∧ getP (rp.map FD.d) s1.d = some c0 ∧
      ∀ H2 H3 Fs3 iv Fi o w, Same H1 H2 → Aft K σ ix.quiet (rootE ix) ρp Fs1 H2 ri ρi iv H3 Fs3 Fi → leadV H2 (rp.map FD.d) v0 = some o → leadV H3 (rp.map FD.d) v0 = some w → o = w := by
    rcases qi with qi | ⟨pe, ow⟩
    · have ei := quiet_ev ix false ρp ri ρi qi h3
      subst ei
      obtain ⟨v0, hv0, rep0, nd0⟩ := a.fr.rep root s es
      rw [so'] at rep0
      obtain ⟨c0, _, _, _, _, _, hc0, _⟩ := modP_rep _ rep0 h4
      refine ⟨s, v0, c0, es, so, hv0, hc0, fun H2 H3 Fs3 iv Fi o w sm b lv e4 => ?_⟩
      obtain ⟨sm3, _, e3⟩ := b.qt qi
      subst e3
      rw [← lead_kp (H1 := H2) (H2 := H3) (F := Fs3 root) _ (rep0.same sm) hc0 (same_kp sm3), lv] at e4
      exact Option.some.inj e4
    · cases path with
      | cons _ _ => cases pe
      | nil =>
        simp only [evL, Option.some.injEq, Prod.mk.injEq] at h2
        obtain ⟨rfl, _⟩ := h2
        unfold ownAt at ow
        split at ow
        · rename_i s1 e1
          obtain ⟨v0, hv0, _, _⟩ := a.fr.rep root s1 e1
          refine ⟨s1, v0, s1.d, e1, of_decide_eq_true ow, hv0, rfl, fun H2 H3 Fs3 iv Fi o w sm b lv e4 => ?_⟩
          exact Option.some.inj (lv.symm.trans e4)
        · cases ow
  refine ⟨ρp, Fs1, a.fr, qp, rp, s1, v0, c0, h2, es1, so1, hv0, hc0, fun o H2 sm lv => ?_⟩
  refine tE_tV ⟨ρp, Fs1, a.fr.same sm, ri, ρi, h3, fun iv H3 Fs3 Fi b => ?_⟩
  have t2 : Tm K ρ Fs H ρp Fs1 H2 x v F := ⟨a.tm.rep.same sm, a.tm.own, a.tm.shr, a.tm.bor⟩
  have t3 := t2.next (a.fr.same sm) b.st nb
  have rv := t3.rep
  rw [xo'] at rv
  obtain ⟨c1, c', w, Gc, e1, e2, e4, rc, nd, sub, go⟩ := chg_frame (T := fun a => a ∈ F) b.fr es so hv0 h4 (fun z m => ((t3.own xo).2 z m).1)
  have := key H2 H3 Fs3 iv Fi o w sm b lv e4
  subst this
  refine setS rc nd b.tm.rep rv (t3.own xo).1 (fun z m m' => ((t3.own xo).2 z m).1 ⟨root, s, es, sub z m'⟩) e2 fun H4 G' ch => ?_
  obtain ⟨Fs4, f4, _, s4⟩ := go H4 G' ch
  exact c σ H4 Fs4 f4 (s4 ((a.st.trans (.same sm)).trans b.st) fun z m => ((t3.own xo).2 z m).2) .refl
theorem tS_aug {i : Nat} {o : Operator} {e : E} (h : tS K C (.aug i o e) Dn σ H) : tAug i (tV K C e) (rIp o) Dn σ H := by
  obtain ⟨ρ, Fs, fr, fl, h, c⟩ := h
  simp only [evS, Option.bind_eq_some_iff, Option.map_eq_some_iff] at h
  obtain ⟨x, h0, ⟨y, ρ1⟩, h1, d, h2, ρ2, h3, rfl⟩ := h
  obtain ⟨s, v, es, hv, t⟩ := read_tm fr .refl h0
  refine ⟨v, hv, tE_tV ⟨ρ, Fs, fr, y, ρ1, h1, fun w H1 Fs1 F a => ?_⟩⟩
  have px : x.d.mut = false := by
    unfold augD at h2
    split at h2
    all_goals first
      | (cases h2; done)
      | (rename_i e1 _; rw [e1]; rfl)
      | (rename_i e1; rw [e1]; rfl)
  have rx : Rep K H1 true [] v x.d := (t.rep.pure' px true).keep (a.st.kp fr (F := []) (fun b m => by cases m))
  refine augS o rx a.tm.rep h2 fun z rz pz => ?_
  obtain ⟨f2, s2, k2, _⟩ := put_frame (x := ⟨.own, d⟩) a.fr a.st (.pure rz pz) h3
  exact c _ H1 _ f2 s2 k2
theorem tS_expr {e : E} (h : tS K C (.expr e) Dn σ H) : tDrop (tV K C e) Dn σ H := by
  obtain ⟨ρ, Fs, fr, fl, h, c⟩ := h
  simp only [evS, Option.map_eq_some_iff] at h
  obtain ⟨⟨x, ρ1⟩, h1, rfl⟩ := h
  exact tE_tV ⟨ρ, Fs, fr, x, ρ1, h1, fun v H1 Fs1 F a => c _ H1 Fs1 a.fr a.st .refl⟩
theorem tS_ite {e : E} {a b : List S} (h : tS K C (.ite e a b) Dn σ H) : tIfS (tT K C e) (tSs K C a) (tSs K C b) Dn σ H := by
  obtain ⟨ρ, Fs, fr, fl, h, c⟩ := h
  simp only [evS, Option.bind_eq_some_iff] at h
  obtain ⟨⟨x, ρ1⟩, h1, k, h2, h3⟩ := h
  refine ⟨ρ, Fs, fr, x, k, ρ1, h1, boolD_bl h2, fun H1 Fs1 f1 st _ => ?_⟩
  split at h3
  · rename_i e0; rw [if_pos e0]; exact ⟨ρ1, Fs1, f1, fl, h3, c.shift st .refl⟩
  · rename_i e0; rw [if_neg e0]; exact ⟨ρ1, Fs1, f1, fl, h3, c.shift st .refl⟩
theorem tS_ret {e : E} (h : tS K C (.ret e) Dn σ H) : tRet (tV K C e) Dn σ H := by
  obtain ⟨ρ, Fs, fr, fl, h, c⟩ := h
  simp only [evS, Option.bind_eq_some_iff] at h
  obtain ⟨⟨x, ρ1⟩, h1, h⟩ := h
  split at h
  · cases h
  rename_i nb
  simp only [Option.some.injEq] at h
  subst h
  exact tE_tV ⟨ρ, Fs, fr, x, ρ1, h1, fun v H1 Fs1 F a => c v _ H1 Fs1 F a.fr a.st .refl a.tm nb⟩
theorem tS_retN (h : tS K C .retN Dn σ H) : tRetN Dn σ H := by
  obtain ⟨ρ, Fs, fr, fl, h, c⟩ := h
  simp only [evS, Option.some.injEq] at h
  subst h
  exact c .non σ H Fs [] fr .refl .refl (.pure (x := ⟨.own, .non⟩) .non rfl) (by decide)
theorem tS_brk (h : tS K C .brk Dn σ H) : tBreak Dn σ H := by
  obtain ⟨ρ, Fs, fr, fl, h, c⟩ := h
  simp only [evS, Option.some.injEq] at h
  subst h
  exact c σ H Fs fr .refl .refl
theorem tS_cnt (h : tS K C .cnt Dn σ H) : tCont Dn σ H := by
  obtain ⟨ρ, Fs, fr, fl, h, c⟩ := h
  simp only [evS, Option.some.injEq] at h
  subst h
  exact c σ H Fs fr .refl .refl
theorem tS_pass (h : tS K C .pass Dn σ H) : tNext Dn σ H := by
  obtain ⟨ρ, Fs, fr, fl, h, c⟩ := h
  simp only [evS, Option.some.injEq] at h
  subst h
  exact c σ H Fs fr .refl .refl
theorem tS_doc (h : tS K C .doc Dn σ H) : tNext Dn σ H := by
  obtain ⟨ρ, Fs, fr, fl, h, c⟩ := h
  simp only [evS, Option.some.injEq] at h
  subst h
  exact c σ H Fs fr .refl .refl
end
end B
/-! BM: sources, for, while. -/
namespace B
open PySem PySem.Spec L2

section
variable {K : PySem.W.Frag} {C : Ctx} {H H' H1 H2 H3 H4 HL H0 : Hp} {σ σ' σ1 σ2 σL : L2.St} {ρ ρ' ρ0 ρ1 ρ2 ρ3 ρL : Rho} {Fs Fs' Fs0 Fs1 Fs2 FsL : Nat → List Addr} {Q : VK} {Dn : Ends}
/-! ### what stands behind the source's evaluation -/
theorem lockVs_mem : ∀ {es : List E} {xs : List FD} {ls : List Nat}, lockVs es xs = some ls → ∀ {k : Nat} {e : E} {x : FD}, es[k]? = some e → xs[k]? = some x → x.f = .bor → ∃ i, rootE e = some i ∧ i ∈ ls
  | [], xs, ls, h, k, e, x, h1, h2, h3 => by simp at h1
  | _ :: _, [], ls, h, k, e, x, h1, h2, h3 => by simp at h2
  | e0 :: es, x0 :: xs, ls, h, k, e, x, h1, h2, h3 => by
    simp only [lockVs, Option.bind_eq_some_iff] at h
    obtain ⟨r, h0, h⟩ := h
    cases k with
    | zero =>
      simp at h1 h2
      subst h1 h2
      rw [if_pos h3] at h
      simp only [Option.map_eq_some_iff] at h
      obtain ⟨i, z1, rfl⟩ := h
      exact ⟨i, z1, by simp⟩
    | succ k =>
      obtain ⟨i, z1, z2⟩ := lockVs_mem h0 (by simpa using h1) (by simpa using h2) h3
      refine ⟨i, z1, ?_⟩
      split at h
      · simp only [Option.map_eq_some_iff] at h
        obtain ⟨j, _, rfl⟩ := h
        exact List.mem_cons_of_mem _ z2
      · simp only [Option.some.injEq] at h
        subst h
        exact z2
theorem owned_mem {ls : List Nat} {i : Nat} (h : i ∈ ls) (o : ownAt ρ i = true) : i ∈ owned ls ρ := by
  unfold owned
  exact List.mem_eraseDups.mpr (List.mem_filter.mpr ⟨h, o⟩)
theorem lock_exc {is : List Nat} {b : Addr} (h : Exc (lock is ρ) Fs b) : Exc ρ Fs b := by
  obtain ⟨i, s, h1, h2, h3⟩ := h
  obtain ⟨t, e, d, q⟩ := lock_slot h1
  rcases q with ⟨_, o, z⟩ | ⟨z, _⟩
  · exact ⟨i, t, e, by rw [o]; decide, h3⟩
  · subst z; exact ⟨i, _, e, h2, h3⟩
theorem src_gp {q : Bool} {its : List E} {xs : List FD} {vs : List V} {Gs : List (List Addr)} {ls : List Nat} (a : AftL K σ q ρ Fs H its xs ρ1 vs H1 Fs1 Gs) (hl : lockVs its xs = some ls) {k : Nat} {x : FD} {G : List Addr} (hx : xs[k]? = some x) (hG : Gs[k]? = some G) :
    Gp x.f G (lock (owned ls ρ1) ρ1) Fs1 ∧ (x.f = .shr → ∀ b ∈ G, ShO ρ Fs H b) ∧ ∀ b ∈ G, H1 b ≠ none := by
  have hk : k < vs.length := by rw [a.lv]; exact (List.getElem?_eq_some_iff.mp hx).1
  have t := a.tm k x vs[k] G hx (by simp [hk]) hG
  refine ⟨?_, fun z b m => (t.shr z b m).2, fun b m => t.rep.trk b m⟩
  have bor : x.f = .bor → ∃ i s, ρ1[i]? = some (some s) ∧ s.f ≠ .shr ∧ (∀ b ∈ G, b ∈ Fs1 i) ∧ (s.f = .own → i ∈ owned ls ρ1) := fun z => by
    have hk' : k < its.length := by rw [a.le]; exact (List.getElem?_eq_some_iff.mp hx).1
    obtain ⟨i, r1, r2⟩ := lockVs_mem hl (k := k) (e := its[k]) (by simp [hk']) hx z
    obtain ⟨s, e1, e2, e3⟩ := a.rt k i its[k] x G (by simp [hk']) r1 hx z hG
    exact ⟨i, s, e1, e2, e3, fun o => owned_mem r2 (by unfold ownAt; rw [e1]; simpa using o)⟩
  refine ⟨fun b m h => ?_, fun hf b m h => ?_, fun hf b m h => (t.shr hf b m).1 (lock_exc h)⟩
  · cases z : x.f with
    | own => exact ((t.own z).2 b m).1 (lock_own h).all
    | shr => exact (t.shr z b m).1 (lock_own h).exc
    | bor =>
      obtain ⟨i, s, e1, e2, e3, e4⟩ := bor z
      obtain ⟨j, s', h1, h2, h3⟩ := h
      obtain ⟨t', g1, g2, g3⟩ := lock_slot h1
      rcases g3 with ⟨_, _, z2⟩ | ⟨z2, n⟩
      · rw [z2] at h2; cases h2
      · subst z2
        by_cases hij : j = i
        · subst hij
          rw [e1] at g1; cases g1
          exact n ⟨e4 h2, h2⟩
        · exact a.fr.sep j i _ s hij g1 e1 (by rw [h2]; decide) (.inl h2) b h3 (e3 b m)
  · have h := lock_shr h
    cases z : x.f with
    | own => exact ((t.own z).2 b m).1 h.all
    | shr => exact hf z
    | bor =>
      obtain ⟨i, s, e1, e2, e3, e4⟩ := bor z
      obtain ⟨j, s', h1, h2, h3⟩ := h
      have hij : i ≠ j := fun z => by
        subst z
        rw [e1] at h1; cases h1
        exact e2 h2
      exact a.fr.sep i j s s' hij e1 h1 e2 (.inr (by rw [h2]; decide)) b (e3 b m) h3
theorem src_li {q : Bool} {its : List E} {xs : List FD} {vs : List V} {Gs : List (List Addr)} {ls : List Nat} {f : Fl} {G : List Addr} (a : AftL K σ q ρ Fs H its xs ρ1 vs H1 Fs1 Gs) (hl : lockVs its xs = some ls) (g : Gp f G (lock (owned ls ρ1) ρ1) Fs1) (gs : f = .shr → ∀ b ∈ G, ShO ρ Fs H b) (sub : ∀ b ∈ G, b ∈ Gs.flatten) :
    LI K f G (Gs.flatten ++ (owned ls ρ1).flatMap Fs1) ρ Fs H σ (lock (owned ls ρ1) ρ1) Fs1 H1 σ (lock (owned ls ρ1) ρ1) Fs1 H1 := by
  have at_ : ∀ b ∈ Gs.flatten ++ (owned ls ρ1).flatMap Fs1, H1 b ≠ none ∧ ¬ Own (lock (owned ls ρ1) ρ1) Fs1 b := fun b m => by
    rcases List.mem_append.mp m with m | m
    · obtain ⟨G', hG', hm⟩ := List.mem_flatten.mp m
      obtain ⟨k, hk, ek⟩ := List.getElem_of_mem hG'
      have hkx : k < xs.length := by rw [← a.lg]; exact hk
      obtain ⟨g1, _, g3⟩ := src_gp a hl (k := k) (x := xs[k]) (G := G') (by simp [hkx]) (by simp [hk, ek])
      exact ⟨g3 b hm, g1.ap b hm⟩
    · obtain ⟨i, hi, hm⟩ := List.mem_flatMap.mp m
      obtain ⟨s, e1, e2⟩ := ownAt_some (owned_own hi)
      refine ⟨a.fr.all_trk ⟨i, s, e1, hm⟩, fun ⟨j, s', h1, h2, h3⟩ => ?_⟩
      obtain ⟨t', g1, g2, g3⟩ := lock_slot h1
      rcases g3 with ⟨_, _, z2⟩ | ⟨z2, n⟩
      · rw [z2] at h2; cases h2
      · subst z2
        have hij : i ≠ j := fun z => n ⟨z ▸ hi, h2⟩
        exact a.fr.sep i j s _ hij e1 g1 (by rw [e2]; decide) (.inl e2) b hm h3
  exact ⟨a.fr.lock _, a.st.keep, fun b h => a.st.own b (lock_own h), fun b h => a.st.all b (lock_all h), fun b h => a.st.shr b (lock_shr h), fun i s h _ => ⟨h, rfl⟩, fun _ _ _ _ => rfl, .refl, fun b m => (at_ b m).1, fun b m => (at_ b m).2, g, fun b m => List.mem_append_left _ (sub b m), gs⟩
theorem map_one {xs : List FD} {d : D} (h : xs.map FD.d = [d]) : ∃ x, xs = [x] ∧ x.d = d := by
  match xs, h with
  | [x], h => exact ⟨x, rfl, by simpa using h⟩
  | [], h => simp at h
  | _ :: _ :: _, h => simp at h
theorem map_two {xs : List FD} {d e : D} (h : xs.map FD.d = [d, e]) : ∃ x y, xs = [x, y] ∧ x.d = d ∧ y.d = e := by
  match xs, h with
  | [x, y], h => exact ⟨x, y, rfl, by simp at h; exact h.1, by simp at h; exact h.2⟩
  | [], h => simp at h
  | [_], h => simp at h
  | _ :: _ :: _ :: _, h => simp at h
/-- a source's reading -/
def tI (K : PySem.W.Frag) (C : Ctx) (k : ItK) (its : List E) : TI := fun σ H R => ∃ ρ Fs, FR K H σ ρ Fs ∧ ∃ xs ρ1 it ls, evL C its ρ = some (xs, ρ1) ∧ itD k xs = some it ∧ lockVs its xs = some ls ∧
  ∀ J H1 Fs1 P G, FR K H1 σ ρ1 Fs1 → Stp ρ Fs H ρ1 Fs1 H1 → ItOk K J it.2 P G H1 → LI K it.1 G P ρ Fs H σ (lock (owned ls ρ1) ρ1) Fs1 H1 σ (lock (owned ls ρ1) ρ1) Fs1 H1 → (∀ i ∈ owned ls ρ1, ∀ a ∈ Fs1 i, a ∈ P) → R J H1
theorem gp_nil {f : Fl} : Gp f [] ρ Fs := ⟨(fun a m => by cases m), (fun _ a m => by cases m), (fun _ a m => by cases m)⟩
theorem tI_seq {e : E} {R : It → Hp → Prop} (h : tI K C .seq [e] σ H R) : iList K (tV K C e) σ H R ∨ (iTup K (tV K C e) σ H R ∨ iStr (tV K C e) σ H R) := by
  obtain ⟨ρ, Fs, fr, xs, ρ1, it, ls, h1, h2, h3, k⟩ := h
  have lp : ∀ {Gs : List (List Addr)} {Fs1 : Nat → List Addr}, ∀ i ∈ owned ls ρ1, ∀ a ∈ Fs1 i, a ∈ Gs.flatten ++ (owned ls ρ1).flatMap Fs1 := fun i hi a m => List.mem_append_right _ (List.mem_flatMap.mpr ⟨i, hi, m⟩)
  unfold itD at h2
  split at h2
  all_goals (try contradiction)
  · rename_i ds e0 q
    obtain ⟨x, rfl, hx⟩ := map_one q
    simp only [List.head?_cons, Option.map_some, Option.getD_some, Option.some.injEq] at h2
    subst h2
    refine .inl (tL_one ⟨ρ, Fs, fr, [x], ρ1, h1, fun vs H1 Fs1 Gs a => ?_⟩)
    obtain ⟨v, F, e1, r, e2⟩ := args1 a.args rfl
    subst e1 e2
    obtain ⟨a0, ws, G, rfl, rd, _⟩ := rep_seq r (ds := ds) (by rw [hx]; rfl)
    obtain ⟨g1, g2, _⟩ := src_gp a h3 (k := 0) rfl rfl
    exact ⟨_, rfl, a0, rfl, ⟨ws, rd⟩, k _ H1 Fs1 _ F a.fr a.st ((ItOk.list r (by rw [hx]; rfl)).mono fun b m => by simp [m]) (src_li a h3 g1 g2 (by simp)) lp⟩
  · rename_i ds e0 q
    obtain ⟨x, rfl, hx⟩ := map_one q
    simp only [List.head?_cons, Option.map_some, Option.getD_some, Option.some.injEq] at h2
    subst h2
    refine .inl (tL_one ⟨ρ, Fs, fr, [x], ρ1, h1, fun vs H1 Fs1 Gs a => ?_⟩)
    obtain ⟨v, F, e1, r, e2⟩ := args1 a.args rfl
    subst e1 e2
    obtain ⟨a0, ws, G, rfl, rd, _⟩ := rep_seq r (ds := ds) (by rw [hx]; rfl)
    obtain ⟨g1, g2, _⟩ := src_gp a h3 (k := 0) rfl rfl
    exact ⟨_, rfl, a0, rfl, ⟨ws, rd⟩, k _ H1 Fs1 _ F a.fr a.st ((ItOk.list r (by rw [hx]; rfl)).mono fun b m => by simp [m]) (src_li a h3 g1 g2 (by simp)) lp⟩
  · rename_i ds e0 q
    obtain ⟨x, rfl, hx⟩ := map_one q
    simp only [List.head?_cons, Option.map_some, Option.getD_some, Option.some.injEq] at h2
    subst h2
    refine .inr (.inl (tL_one ⟨ρ, Fs, fr, [x], ρ1, h1, fun vs H1 Fs1 Gs a => ?_⟩))
    obtain ⟨v, F, e1, r, e2⟩ := args1 a.args rfl
    subst e1 e2
    rw [hx] at r
    obtain ⟨a0, ws, rfl, rd, _⟩ := rep_tup r
    obtain ⟨g1, g2, _⟩ := src_gp a h3 (k := 0) rfl rfl
    exact ⟨_, rfl, a0, rfl, ⟨ws, rd⟩, k _ H1 Fs1 _ F a.fr a.st ((ItOk.tup r).mono fun b m => by simp [m]) (src_li a h3 g1 g2 (by simp)) lp⟩
  · rename_i z e0 q
    obtain ⟨x, rfl, hx⟩ := map_one q
    simp only [Option.some.injEq] at h2
    subst h2
    refine .inr (.inr (tL_one ⟨ρ, Fs, fr, [x], ρ1, h1, fun vs H1 Fs1 Gs a => ?_⟩))
    obtain ⟨v, F, e1, r, e2⟩ := args1 a.args rfl
    subst e1 e2
    rw [hx] at r
    obtain ⟨rfl, _⟩ := rep_str r
    exact ⟨_, rfl, z, rfl, k _ H1 Fs1 _ [] a.fr a.st (ItOk.str.mono fun b m => by cases m) (src_li a h3 gp_nil (fun z => nomatch z) (by simp)) lp⟩
theorem tI_rng1 {its : List E} {R : It → Hp → Prop} (h : tI K C .rng1 its σ H R) : iRng1 (tL K C its) σ H R := by
  obtain ⟨ρ, Fs, fr, xs, ρ1, it, ls, h1, h2, h3, k⟩ := h
  unfold itD at h2
  split at h2
  all_goals (try contradiction)
  split at h2
  rotate_left
  · cases h2
  rename_i j e0 q bd
  obtain ⟨x, rfl, hx⟩ := map_one q
  simp only [Option.some.injEq] at h2
  subst h2
  refine ⟨ρ, Fs, fr, _, ρ1, h1, fun vs H1 Fs1 Gs a => ?_⟩
  obtain ⟨v, F, e1, r, e2⟩ := args1 a.args rfl
  subst e1 e2
  rw [hx] at r
  obtain ⟨rfl, _⟩ := rep_int r
  have := ItOk.rng (K := K) (i := 0) (j := j) (H0 := H1)
  rw [Int.sub_zero] at this
  exact ⟨j, rfl, bd.1, bd.2, k _ H1 Fs1 _ [] a.fr a.st (this.mono fun b m => by cases m) (src_li a h3 gp_nil (fun z => nomatch z) (by simp)) fun i hi a m => List.mem_append_right _ (List.mem_flatMap.mpr ⟨i, hi, m⟩)⟩
theorem tI_rng2 {its : List E} {R : It → Hp → Prop} (h : tI K C .rng2 its σ H R) : iRng2 (tL K C its) σ H R := by
  obtain ⟨ρ, Fs, fr, xs, ρ1, it, ls, h1, h2, h3, k⟩ := h
  unfold itD at h2
  split at h2
  all_goals (try contradiction)
  split at h2
  rotate_left
  · cases h2
  rename_i i j e0 q bd
  obtain ⟨x, y, rfl, hx, hy⟩ := map_two q
  simp only [Option.some.injEq] at h2
  subst h2
  refine ⟨ρ, Fs, fr, _, ρ1, h1, fun vs H1 Fs1 Gs a => ?_⟩
  obtain ⟨v, w, F, G, e1, r, r', e2⟩ := args2 a.args rfl
  subst e1 e2
  rw [hx] at r
  rw [hy] at r'
  obtain ⟨rfl, _⟩ := rep_int r
  obtain ⟨rfl, _⟩ := rep_int r'
  exact ⟨i, j, rfl, bd, k _ H1 Fs1 _ [] a.fr a.st (ItOk.rng.mono fun b m => by cases m) (src_li a h3 gp_nil (fun z => nomatch z) (by simp)) fun i hi a m => List.mem_append_right _ (List.mem_flatMap.mpr ⟨i, hi, m⟩)⟩
theorem tI_enum {its : List E} {R : It → Hp → Prop} (h : tI K C .enum its σ H R) : iEnum K (tL K C its) σ H R ∨ iEnumT K (tL K C its) σ H R := by
  obtain ⟨ρ, Fs, fr, xs, ρ1, it, ls, h1, h2, h3, k⟩ := h
  unfold itD at h2
  split at h2
  all_goals (try contradiction)
  · rename_i ds e0 q
    obtain ⟨x, rfl, hx⟩ := map_one q
    simp only [List.head?_cons, Option.map_some, Option.getD_some, Option.some.injEq] at h2
    subst h2
    refine .inl ⟨ρ, Fs, fr, _, ρ1, h1, fun vs H1 Fs1 Gs a => ?_⟩
    obtain ⟨v, F, e1, r, e2⟩ := args1 a.args rfl
    subst e1 e2
    obtain ⟨a0, ws, G, rfl, rd, _⟩ := rep_seq r (ds := ds) (by rw [hx]; rfl)
    obtain ⟨g1, g2, _⟩ := src_gp a h3 (k := 0) rfl rfl
    exact ⟨a0, ws, rfl, rd, k _ H1 Fs1 _ F a.fr a.st ((ItOk.enum r (by rw [hx]; rfl)).mono fun b m => by simp [m]) (src_li a h3 g1 g2 (by simp)) fun i hi a m => List.mem_append_right _ (List.mem_flatMap.mpr ⟨i, hi, m⟩)⟩
  · rename_i ds e0 q
    obtain ⟨x, rfl, hx⟩ := map_one q
    simp only [List.head?_cons, Option.map_some, Option.getD_some, Option.some.injEq] at h2
    subst h2
    refine .inl ⟨ρ, Fs, fr, _, ρ1, h1, fun vs H1 Fs1 Gs a => ?_⟩
    obtain ⟨v, F, e1, r, e2⟩ := args1 a.args rfl
    subst e1 e2
    obtain ⟨a0, ws, G, rfl, rd, _⟩ := rep_seq r (ds := ds) (by rw [hx]; rfl)
    obtain ⟨g1, g2, _⟩ := src_gp a h3 (k := 0) rfl rfl
    exact ⟨a0, ws, rfl, rd, k _ H1 Fs1 _ F a.fr a.st ((ItOk.enum r (by rw [hx]; rfl)).mono fun b m => by simp [m]) (src_li a h3 g1 g2 (by simp)) fun i hi a m => List.mem_append_right _ (List.mem_flatMap.mpr ⟨i, hi, m⟩)⟩
  · rename_i ds e0 q
    obtain ⟨x, rfl, hx⟩ := map_one q
    simp only [List.head?_cons, Option.map_some, Option.getD_some, Option.some.injEq] at h2
    subst h2
    refine .inr ⟨ρ, Fs, fr, _, ρ1, h1, fun vs H1 Fs1 Gs a => ?_⟩
    obtain ⟨v, F, e1, r, e2⟩ := args1 a.args rfl
    subst e1 e2
    rw [hx] at r
    obtain ⟨a0, ws, rfl, rd, _⟩ := rep_tup r
    obtain ⟨g1, g2, _⟩ := src_gp a h3 (k := 0) rfl rfl
    exact ⟨a0, ws, rfl, rd, k _ H1 Fs1 _ F a.fr a.st ((ItOk.enumT r).mono fun b m => by simp [m]) (src_li a h3 g1 g2 (by simp)) fun i hi a m => List.mem_append_right _ (List.mem_flatMap.mpr ⟨i, hi, m⟩)⟩
theorem tI_zip {its : List E} {R : It → Hp → Prop} (h : tI K C .zip its σ H R) : iZip K (tL K C its) σ H R := by
  obtain ⟨ρ, Fs, fr, xs, ρ1, it, ls, h1, h2, h3, k⟩ := h
  unfold itD at h2
  split at h2
  all_goals (try contradiction)
  · split at h2
    rotate_left
    · cases h2
    rename_i ds es e0 q bd
    obtain ⟨x, y, rfl, hx, hy⟩ := map_two q
    simp only [Option.some.injEq] at h2
    subst h2
    refine ⟨ρ, Fs, fr, _, ρ1, h1, fun vs H1 Fs1 Gs a => ?_⟩
    obtain ⟨v, w, F, G, e1, r, r', e2⟩ := args2 a.args rfl
    subst e1 e2
    obtain ⟨a0, ws, _, rfl, rd, _⟩ := rep_seq r (ds := ds) (by rw [hx]; rfl)
    obtain ⟨b0, us, _, rfl, rd', _⟩ := rep_seq r' (ds := es) (by rw [hy]; rfl)
    exact ⟨a0, b0, ws, us, rfl, rd, rd', k _ H1 Fs1 _ [] a.fr a.st ((ItOk.zip r r' (by rw [hx]; rfl) (by rw [hy]; rfl) bd.1 bd.2).mono fun b m => by simp at m ⊢; rcases m with m | m <;> simp [m]) (src_li a h3 gp_nil (fun z => nomatch z) (by simp)) fun i hi a m => List.mem_append_right _ (List.mem_flatMap.mpr ⟨i, hi, m⟩)⟩
  · split at h2
    rotate_left
    · cases h2
    rename_i ds es e0 q bd
    obtain ⟨x, y, rfl, hx, hy⟩ := map_two q
    simp only [Option.some.injEq] at h2
    subst h2
    refine ⟨ρ, Fs, fr, _, ρ1, h1, fun vs H1 Fs1 Gs a => ?_⟩
    obtain ⟨v, w, F, G, e1, r, r', e2⟩ := args2 a.args rfl
    subst e1 e2
    obtain ⟨a0, ws, _, rfl, rd, _⟩ := rep_seq r (ds := ds) (by rw [hx]; rfl)
    obtain ⟨b0, us, _, rfl, rd', _⟩ := rep_seq r' (ds := es) (by rw [hy]; rfl)
    exact ⟨a0, b0, ws, us, rfl, rd, rd', k _ H1 Fs1 _ [] a.fr a.st ((ItOk.zip r r' (by rw [hx]; rfl) (by rw [hy]; rfl) bd.1 bd.2).mono fun b m => by simp at m ⊢; rcases m with m | m <;> simp [m]) (src_li a h3 gp_nil (fun z => nomatch z) (by simp)) fun i hi a m => List.mem_append_right _ (List.mem_flatMap.mpr ⟨i, hi, m⟩)⟩
  · split at h2
    rotate_left
    · cases h2
    rename_i ds es e0 q bd
    obtain ⟨x, y, rfl, hx, hy⟩ := map_two q
    simp only [Option.some.injEq] at h2
    subst h2
    refine ⟨ρ, Fs, fr, _, ρ1, h1, fun vs H1 Fs1 Gs a => ?_⟩
    obtain ⟨v, w, F, G, e1, r, r', e2⟩ := args2 a.args rfl
    subst e1 e2
    obtain ⟨a0, ws, _, rfl, rd, _⟩ := rep_seq r (ds := ds) (by rw [hx]; rfl)
    obtain ⟨b0, us, _, rfl, rd', _⟩ := rep_seq r' (ds := es) (by rw [hy]; rfl)
    exact ⟨a0, b0, ws, us, rfl, rd, rd', k _ H1 Fs1 _ [] a.fr a.st ((ItOk.zip r r' (by rw [hx]; rfl) (by rw [hy]; rfl) bd.1 bd.2).mono fun b m => by simp at m ⊢; rcases m with m | m <;> simp [m]) (src_li a h3 gp_nil (fun z => nomatch z) (by simp)) fun i hi a m => List.mem_append_right _ (List.mem_flatMap.mpr ⟨i, hi, m⟩)⟩
  · split at h2
    rotate_left
    · cases h2
    rename_i ds es e0 q bd
    obtain ⟨x, y, rfl, hx, hy⟩ := map_two q
    simp only [Option.some.injEq] at h2
    subst h2
    refine ⟨ρ, Fs, fr, _, ρ1, h1, fun vs H1 Fs1 Gs a => ?_⟩
    obtain ⟨v, w, F, G, e1, r, r', e2⟩ := args2 a.args rfl
    subst e1 e2
    obtain ⟨a0, ws, _, rfl, rd, _⟩ := rep_seq r (ds := ds) (by rw [hx]; rfl)
    obtain ⟨b0, us, _, rfl, rd', _⟩ := rep_seq r' (ds := es) (by rw [hy]; rfl)
    exact ⟨a0, b0, ws, us, rfl, rd, rd', k _ H1 Fs1 _ [] a.fr a.st ((ItOk.zip r r' (by rw [hx]; rfl) (by rw [hy]; rfl) bd.1 bd.2).mono fun b m => by simp at m ⊢; rcases m with m | m <;> simp [m]) (src_li a h3 gp_nil (fun z => nomatch z) (by simp)) fun i hi a m => List.mem_append_right _ (List.mem_flatMap.mpr ⟨i, hi, m⟩)⟩

/-! ### for -/
theorem FR.sub (fr : FR K H σ ρ Fs) (hl : ρ'.length = ρ.length) (h : ∀ (j : Nat) (s : FD), ρ'[j]? = some (some s) → ρ[j]? = some (some s)) : FR K H σ ρ' Fs :=
  ⟨fr.len.trans hl.symm, fun i s e => fr.rep i s (h i s e), fun i j s t hij h1 h2 => fr.sep i j s t hij (h i s h1) (h j t h2)⟩
theorem clear_at : ∀ {is : List Nat} {ρ : Rho} {j : Nat} {s : FD}, (clearT is ρ)[j]? = some (some s) → ρ[j]? = some (some s) ∧ (j ∈ is → s.f ≠ .bor)
  | [], ρ, j, s, h => ⟨h, fun m => by cases m⟩
  | i :: is, ρ, j, s, h => by
    have h' : (clearT is (match ρ[i]? with
      | some (some s) => if s.f = .bor then ρ.set i none else ρ
      | _ => ρ))[j]? = some (some s) := h
    obtain ⟨q1, q2⟩ := clear_at h'
    have q3 : ρ[j]? = some (some s) ∧ (j = i → s.f ≠ .bor) := by
      split at q1
      · rename_i t e
        split at q1
        · obtain ⟨z1, z2⟩ := drop_slot q1
          exact ⟨z1, fun z => absurd z z2⟩
        · rename_i nb
          refine ⟨q1, fun z => ?_⟩
          subst z
          rw [e] at q1; cases q1
          exact nb
      · rename_i n
        refine ⟨q1, fun z => ?_⟩
        subst z
        exact absurd q1 (n s)
    refine ⟨q3.1, fun m => ?_⟩
    rcases List.mem_cons.mp m with m | m
    · exact q3.2 m
    · exact q2 m
theorem clear_len : ∀ (is : List Nat) (ρ : Rho), (clearT is ρ).length = ρ.length
  | [], ρ => rfl
  | i :: is, ρ => by
    show (clearT is _).length = _
    rw [clear_len is]
    show (match ρ[i]? with
      | some (some (s : FD)) => if s.f = Fl.bor then ρ.set i none else ρ
      | _ => ρ : Rho).length = _
    split
    · split <;> simp
    · rfl
theorem unlock_tm {is : List Nat} {x : FD} {v : V} {F : List Addr} (t : Tm K ρ Fs H ρ' Fs' H' x v F) (nb : x.f ≠ .bor) : Tm K ρ Fs H (unlock is ρ') Fs' H' x v F := by
  refine ⟨t.rep, fun e => ⟨(t.own e).1, fun a m => ⟨fun ⟨i, s, h1, h3⟩ => ?_, ((t.own e).2 a m).2⟩⟩, fun e a m => ⟨fun ⟨i, s, h1, h2, h3⟩ => ?_, (t.shr e a m).2⟩, fun z => absurd z nb⟩
  · obtain ⟨s', g1, _⟩ := unlock_slot h1
    exact ((t.own e).2 a m).1 ⟨i, s', g1, h3⟩
  · obtain ⟨s', g1, _, g3⟩ := unlock_slot h1
    refine (t.shr e a m).1 ⟨i, s', g1, ?_, h3⟩
    rcases g3 with ⟨_, z, _⟩ | ⟨z, _⟩
    · rw [z]; decide
    · subst z; exact h2
theorem tS_for {tg : Tg} {k : ItK} {its : List E} {body : List S} (h : tS K C (.for_ tg k its body) Dn σ H) : tFor (tI K C k its) (gT K tg) (tSs K C body) Dn σ H := by
  obtain ⟨ρ, Fs, fr, fl, h, c⟩ := h
  simp only [evS, Option.bind_eq_some_iff, Option.map_eq_some_iff] at h
  obtain ⟨⟨xs, ρ1⟩, h1, it, h2, ls, h3, fl0, h4, rfl⟩ := h
  refine ⟨ρ, Fs, fr, xs, ρ1, it, ls, h1, h2, h3, fun J H1 Fs1 P G f1 st iok li0 lp => ?_⟩
  have ow : ∀ i ∈ owned ls ρ1, ownAt ρ1 i = true := fun i hi => owned_own hi
  -- the end
  have fin : ∀ {σ' : L2.St} {ρ' : Rho} {Fs' : Nat → List Addr} {H' : Hp}, LI K it.1 G P ρ Fs H σ (lock (owned ls ρ1) ρ1) Fs1 H1 σ' ρ' Fs' H' → (∀ j ∈ C.pin, σ'[j]? = σ[j]?) →
      FR K H' σ' (unlock (owned ls ρ1) ρ') Fs' ∧ Stp ρ Fs H (unlock (owned ls ρ1) ρ') Fs' H' ∧ Kd C.pin (unlock (owned ls ρ1) ρ') σ σ' := fun {σ' ρ' Fs' H'} li pn => by
    obtain ⟨z1, z2⟩ := li.unlock f1 st ow lp
    refine ⟨z1, z2, pn, fun i s e hb => ?_⟩
    obtain ⟨t, e1, _, q⟩ := unlock_slot e
    rcases q with ⟨_, _, z⟩ | ⟨z, _⟩
    · rw [z] at hb; cases hb
    · subst z; exact li.sg i _ e1 hb
  let W : Nat → Nat → L2.St → Hp → Prop := fun i m σ' H' => m = it.2.length - i ∧ i ≤ it.2.length ∧ ∃ ρ' Fs', LI K it.1 G P ρ Fs H σ (lock (owned ls ρ1) ρ1) Fs1 H1 σ' ρ' Fs' H' ∧ (∀ j ∈ C.pin, σ'[j]? = σ[j]?) ∧
    forLoop (bindT C.pin (itemF it.1) tg) (clearT tg.slots) (evSs C body) (it.2.drop i) ρ' = some fl0
  refine ⟨W, ⟨it.2.length, rfl, Nat.zero_le _, _, Fs1, li0, fun _ _ => rfl, by simpa using h4⟩, ?_⟩
  rintro i m σ' H' ⟨rfl, hi, ρ', Fs', li, pn, hf⟩
  by_cases hlt : i < it.2.length
  · have hd : it.2[i]? = some it.2[i] := by simp [hlt]
    rw [List.drop_eq_getElem_cons hlt] at hf
    simp only [forLoop, Option.bind_eq_some_iff] at hf
    obtain ⟨ρb, b1, r, b2, b3⟩ := hf
    obtain ⟨go, yl⟩ := iok.go H' (li.kp.mono fun _ m => m) i _ hd
    refine .inr ⟨go, W (i + 1) (it.2.length - (i + 1)), fun σ2 H2 w => ⟨it.2.length - (i + 1), by omega, w⟩, fun x H2 y => ?_⟩
    obtain ⟨sm, F, rx, sub⟩ := yl x H2 y
    obtain ⟨σb, Fsb, fb, bd, np, sb, gq⟩ := bind_tg (li.fr.same sm) li.gp rx sub b1
    refine gq _ ⟨ρb, Fsb, fb, r, b2, ?_⟩
    -- behind the body
    have turn : ∀ {ρ2 : Rho} {σ2 : L2.St} {H3 : Hp} {Fs2 : Nat → List Addr}, FR K H3 σ2 ρ2 Fs2 → Stp ρb Fsb H2 ρ2 Fs2 H3 → Kd C.pin ρ2 σb σ2 →
        LI K it.1 G P ρ Fs H σ (lock (owned ls ρ1) ρ1) Fs1 H1 σ2 (clearT tg.slots ρ2) Fs2 H3 ∧ ∀ j ∈ C.pin, σ2[j]? = σ[j]? := fun {ρ2 σ2 H3 Fs2} f2 s2 k2 =>
      ⟨li.turn sm bd fb s2 (f2.sub (clear_len _ _) fun j s e => (clear_at e).1) sb (fun j s e eb => k2.bor j s (clear_at e).1 eb) fun j s e => clear_at e,
        fun j m => ((k2.pin j m).trans (sb j fun z => np j z m)).trans (pn j m)⟩
    cases r with
    | nx ρ2 =>
      intro σ2 H3 Fs2 f2 s2 k2
      obtain ⟨l2, p2⟩ := turn f2 s2 k2
      exact ⟨rfl, hlt, _, Fs2, l2, p2, b3⟩
    | ct ρ2 =>
      intro σ2 H3 Fs2 f2 s2 k2
      obtain ⟨l2, p2⟩ := turn f2 s2 k2
      exact ⟨rfl, hlt, _, Fs2, l2, p2, b3⟩
    | bk ρ2 =>
      simp only [Option.some.injEq] at b3
      subst b3
      intro σ2 H3 Fs2 f2 s2 k2
      obtain ⟨l2, p2⟩ := turn f2 s2 k2
      obtain ⟨z1, z2, z3⟩ := fin l2 p2
      exact c σ2 H3 Fs2 z1 z2 z3
    | rt v ρ2 =>
      simp only [Option.some.injEq] at b3
      subst b3
      intro w σ2 H3 Fs2 F2 f2 s2 k2 t2 nb
      obtain ⟨l2, p2⟩ := turn f2 s2 k2
      obtain ⟨z1, z2, z3⟩ := fin l2 p2
      exact c w σ2 H3 Fs2 F2 z1 z2 z3 (unlock_tm (li.tm sm bd t2 nb fun j s e => (clear_at e).1) nb) nb
  · have e : i = it.2.length := by omega
    subst e
    rw [List.drop_length] at hf
    simp only [forLoop, Option.some.injEq] at hf
    subst hf
    obtain ⟨z1, z2, z3⟩ := fin li pn
    exact .inl ⟨iok.stop H' li.kp _ (Nat.le_refl _), c σ' H' Fs' z1 z2 z3⟩
/-! ### while -/
theorem tS_while {e : E} {body : List S} (h : tS K C (.while_ e body) Dn σ H) : tWhile (tT K C e) (tSs K C body) Dn σ H := by
  obtain ⟨ρ, Fs, fr, fl, h, c⟩ := h
  simp only [evS] at h
  refine ⟨fun m σ' H' => ∃ ρ' Fs', FR K H' σ' ρ' Fs' ∧ Cont K C.pin Dn σ' ρ' Fs' H' fl ∧ whileLoop (fun ρ => (ev C true e ρ).bind fun r => (boolD r.1).map fun b => (b, r.2)) (evSs C body) m ρ' = some fl, ⟨C.fuel, ρ, Fs, fr, c, h⟩, ?_⟩
  rintro m σ' H' ⟨ρ', Fs', fr', c', hw⟩
  cases m with
  | zero => simp [whileLoop] at hw
  | succ n =>
    simp only [whileLoop, Option.bind_eq_some_iff, Option.map_eq_some_iff] at hw
    obtain ⟨⟨b, ρ1⟩, ⟨⟨x, ρx⟩, h1, b', h2, h3⟩, h4⟩ := hw
    simp only [Prod.mk.injEq] at h3
    obtain ⟨rfl, rfl⟩ := h3
    refine ⟨ρ', Fs', fr', x, b', ρx, h1, boolD_bl h2, fun H1 Fs1 f1 st _ => ?_⟩
    have c1 := c'.shift st .refl
    cases b' with
    | false =>
      simp only [Bool.false_eq_true, if_false, Option.some.injEq] at h4 ⊢
      subst h4
      exact c1 _ _ _ f1 .refl .refl
    | true =>
      simp only [if_true, Option.bind_eq_some_iff] at h4 ⊢
      obtain ⟨q, g1, g2⟩ := h4
      refine ⟨_, fun σ2 H2 w => ⟨n, Nat.lt_succ_self n, w⟩, ρx, Fs1, f1, q, g1, ?_⟩
      cases q with
      | nx ρ2 => exact fun σ2 H2 Fs2 f2 s2 k2 => ⟨ρ2, Fs2, f2, c1.shift s2 k2, g2⟩
      | ct ρ2 => exact fun σ2 H2 Fs2 f2 s2 k2 => ⟨ρ2, Fs2, f2, c1.shift s2 k2, g2⟩
      | bk ρ2 =>
        simp only [Option.some.injEq] at g2
        subst g2
        exact fun σ2 H2 Fs2 f2 s2 k2 => (c1.shift s2 k2) σ2 H2 Fs2 f2 .refl .refl
      | rt v ρ2 =>
        simp only [Option.some.injEq] at g2
        subst g2
        exact fun w σ2 H2 Fs2 F f2 s2 k2 t nb => c1 w σ2 H2 Fs2 F f2 s2 k2 t nb
end
end B
/-! BN: list comprehensions. -/
namespace B
open PySem PySem.Spec L2

section
variable {K : PySem.W.Frag} {C : Ctx} {H H' H1 H2 H3 H4 Hz HL H0 : Hp} {σ σ' σ1 σ2 σL : L2.St} {ρ ρ' ρ0 ρ1 ρ2 ρ3 ρL ρb ρz : Rho} {Fs Fs' Fs0 Fs1 Fs2 FsL Fsb Fsz : Nat → List Addr} {Q : VK} {Dn : Ends} {f : Fl} {G P : List Addr}
theorem wipeR_at : ∀ {is : List Nat} {ρ : Rho} {j : Nat} {s : FD}, (wipeR ρ is)[j]? = some (some s) → ρ[j]? = some (some s) ∧ j ∉ is
  | [], ρ, j, s, h => ⟨h, by simp⟩
  | i :: is, ρ, j, s, h => by
    obtain ⟨z1, z2⟩ := drop_slot (show ((wipeR ρ is).set i none)[j]? = some (some s) from h)
    obtain ⟨y1, y2⟩ := wipeR_at z1
    exact ⟨y1, fun m => by
      rcases List.mem_cons.mp m with m | m
      · exact z2 m
      · exact y2 m⟩
theorem wipeR_len : ∀ (is : List Nat) (ρ : Rho), (wipeR ρ is).length = ρ.length
  | [], ρ => rfl
  | i :: is, ρ => by simp [wipeR, wipeR_len is ρ]
theorem restR_at : ∀ {is : List Nat} {ρ0 ρ : Rho} {j : Nat} {s : FD}, (restR ρ0 ρ is)[j]? = some (some s) → (j ∈ is ∧ ρ0[j]? = some (some s)) ∨ (j ∉ is ∧ ρ[j]? = some (some s))
  | [], ρ0, ρ, j, s, h => .inr ⟨by simp, h⟩
  | i :: is, ρ0, ρ, j, s, h => by
    have h : ((restR ρ0 ρ is).set i ((ρ0[i]?).getD none))[j]? = some (some s) := h
    by_cases e : i = j
    · subst e
      by_cases hl : i < (restR ρ0 ρ is).length
      · rw [List.getElem?_set_self hl] at h
        refine .inl ⟨List.mem_cons_self, ?_⟩
        cases q : ρ0[i]? with
        | none => rw [q] at h; simp at h
        | some w => rw [q] at h; simpa using h
      · rw [List.getElem?_eq_none (by simpa using hl)] at h; cases h
    · rw [List.getElem?_set_ne e] at h
      rcases restR_at h with ⟨m, q⟩ | ⟨m, q⟩
      · exact .inl ⟨List.mem_cons_of_mem _ m, q⟩
      · exact .inr ⟨fun z => by
          rcases List.mem_cons.mp z with z | z
          · exact e z.symm
          · exact m z, q⟩
theorem restR_len : ∀ (is : List Nat) (ρ0 ρ : Rho), (restR ρ0 ρ is).length = ρ.length
  | [], ρ0, ρ => rfl
  | i :: is, ρ0, ρ => by simp [restR, restR_len is ρ0 ρ]
theorem wipe_in {is : List Nat} {j : Nat} (h : j ∈ is) (hl : j < σ.length) : (wipe σ is)[j]? = some none := by
  induction is with
  | nil => cases h
  | cons i is ih =>
    show ((wipe σ is).set i none)[j]? = some none
    by_cases e : i = j
    · subst e
      rw [List.getElem?_set_self (by rw [wipe_length]; exact hl)]
    · rw [List.getElem?_set_ne e]
      rcases List.mem_cons.mp h with z | z
      · exact absurd z.symm e
      · exact ih z
theorem wipe_eq {is : List Nat} (hl : σ2.length = σ.length) (h : ∀ j, j ∉ is → σ2[j]? = σ[j]?) : wipe σ2 is = wipe σ is := by
  refine List.ext_getElem? fun j => ?_
  by_cases m : j ∈ is
  · by_cases l : j < σ.length
    · rw [wipe_in m l, wipe_in m (by rw [hl]; exact l)]
    · rw [List.getElem?_eq_none (by rw [wipe_length, hl]; omega), List.getElem?_eq_none (by rw [wipe_length]; omega)]
  · rw [wipe_out m, wipe_out m]
    exact h j m
/-- a frame with slots forgotten -/
theorem FR.wipe (fr : FR K H σ2 ρ Fs) {is : List Nat} (hw : L2.wipe σ2 is = L2.wipe σ is) : FR K H (L2.wipe σ is) (wipeR ρ is) Fs := by
  refine ⟨by rw [← hw, wipe_length, wipeR_len]; exact fr.len, fun i s h => ?_, fun i j s t hij h1 h2 => fr.sep i j s t hij (wipeR_at h1).1 (wipeR_at h2).1⟩
  obtain ⟨z1, z2⟩ := wipeR_at h
  obtain ⟨v, e, r⟩ := fr.rep i s z1
  exact ⟨v, by rw [← hw, wipe_out z2]; exact e, r⟩
theorem LI.wipe (l : LI K f G P ρ0 Fs0 H0 σL ρL FsL HL σ ρ Fs H) (is : List Nat) : LI K f G P ρ0 Fs0 H0 σL ρL FsL HL (L2.wipe σ is) (wipeR ρ is) Fs H := by
  have own : ∀ {a : Addr}, Own (wipeR ρ is) Fs a → Own ρ Fs a := fun ⟨i, s, h1, h2, h3⟩ => ⟨i, s, (wipeR_at h1).1, h2, h3⟩
  have shr : ∀ {a : Addr}, Shr (wipeR ρ is) Fs a → Shr ρ Fs a := fun ⟨i, s, h1, h2, h3⟩ => ⟨i, s, (wipeR_at h1).1, h2, h3⟩
  have exc : ∀ {a : Addr}, Exc (wipeR ρ is) Fs a → Exc ρ Fs a := fun ⟨i, s, h1, h2, h3⟩ => ⟨i, s, (wipeR_at h1).1, h2, h3⟩
  exact ⟨l.fr.wipe rfl, l.keep, fun a h => l.own a (own h), fun a ⟨i, s, h1, h3⟩ => l.all a ⟨i, s, (wipeR_at h1).1, h3⟩, fun a h => l.shr a (shr h), fun i s h e => l.lk i s (wipeR_at h).1 e, fun i s h e => by
    rw [wipe_out (wipeR_at h).2]; exact l.sg i s (wipeR_at h).1 e, l.kp, l.tr, fun a m h => l.ap a m (own h), ⟨fun a m h => l.gp.ap a m (own h), fun hf a m h => l.gp.gb hf a m (shr h), fun hf a m h => l.gp.gs hf a m (exc h)⟩, l.sub, l.gs⟩
/-- another heap, with what the frame holds and what is protected -/
theorem LI.heap (l : LI K f G P ρ0 Fs0 H0 σL ρL FsL HL σ ρ Fs H) {T : Addr → Prop} (kp : ∀ a u, H a = some u → ¬ T a → H' a = some u) (t1 : ∀ a, T a → Own ρ0 Fs0 a ∨ H0 a = none) (t2 : ∀ a, T a → ¬ All ρ Fs a) (t3 : ∀ a, T a → a ∉ P) (t4 : ∀ a u, T a → H a = some u → imm u = false) :
    LI K f G P ρ0 Fs0 H0 σL ρL FsL HL σ ρ Fs H' := by
  have kpF : ∀ F : List Addr, (∀ a ∈ F, ¬ T a) → Kp H H' F := fun F n a u e q => kp a u e fun z => by
    rcases q with q | q
    · exact n a q z
    · rw [t4 a u z e] at q; cases q
  refine ⟨⟨l.fr.len, fun i s h => ?_, l.fr.sep⟩, fun a u e n => kp a u (l.keep a u e n) fun z => ?_, l.own, l.all, l.shr, l.lk, l.sg, ?_, l.tr, l.ap, l.gp, l.sub, l.gs⟩
  · obtain ⟨v, e, r, n⟩ := l.fr.rep i s h
    exact ⟨v, e, r.keep (kpF _ fun a m z => t2 a z ⟨i, s, h, m⟩), n⟩
  · rcases t1 a z with y | y
    · exact n y
    · rw [y] at e; cases e
  · exact fun a u e q => kpF P (fun a m z => t3 a z m) a u (l.kp a u e q) q
/-- the block's slots as they stood -/
theorem LI.rest (l : LI K f G P ρ0 Fs0 H0 σ ρL FsL HL (L2.wipe σ is) ρ Fs H) (fl : FR K HL σ ρL FsL) (pu : ∀ i ∈ is, ∀ s, ρL[i]? = some (some s) → s.d.mut = false) (nw : ∀ i ∈ is, ∀ s, ρ[i]? ≠ some (some s)) :
    LI K f G P ρ0 Fs0 H0 σ ρL FsL HL σ (restR ρL ρ is) (fun j => if j ∈ is then [] else Fs j) H := by
  have at_ : ∀ {j : Nat} {s : FD}, (restR ρL ρ is)[j]? = some (some s) → (j ∈ is ∧ ρL[j]? = some (some s)) ∨ (j ∉ is ∧ ρ[j]? = some (some s)) := restR_at
  have sub : ∀ {j : Nat} {s : FD} {a : Addr}, (restR ρL ρ is)[j]? = some (some s) → a ∈ (if j ∈ is then [] else Fs j) → ρ[j]? = some (some s) ∧ a ∈ Fs j := fun {j s a} h m => by
    rcases at_ h with ⟨z, _⟩ | ⟨z, y⟩
    · rw [if_pos z] at m; cases m
    · rw [if_neg z] at m; exact ⟨y, m⟩
  have own : ∀ {a : Addr}, Own (restR ρL ρ is) (fun j => if j ∈ is then [] else Fs j) a → Own ρ Fs a := fun ⟨i, s, h1, h2, h3⟩ => ⟨i, s, (sub h1 h3).1, h2, (sub h1 h3).2⟩
  have shr : ∀ {a : Addr}, Shr (restR ρL ρ is) (fun j => if j ∈ is then [] else Fs j) a → Shr ρ Fs a := fun ⟨i, s, h1, h2, h3⟩ => ⟨i, s, (sub h1 h3).1, h2, (sub h1 h3).2⟩
  have exc : ∀ {a : Addr}, Exc (restR ρL ρ is) (fun j => if j ∈ is then [] else Fs j) a → Exc ρ Fs a := fun ⟨i, s, h1, h2, h3⟩ => ⟨i, s, (sub h1 h3).1, h2, (sub h1 h3).2⟩
  refine ⟨⟨?_, fun i s h => ?_, fun i j s t hij h1 h2 h3 h4 a m m' => ?_⟩, l.keep, fun a h => l.own a (own h), fun a ⟨i, s, h1, h3⟩ => l.all a ⟨i, s, (sub h1 h3).1, (sub h1 h3).2⟩, fun a h => l.shr a (shr h), fun i s h e => ?_, fun _ _ _ _ => rfl, l.kp, l.tr, fun a m h => l.ap a m (own h),
    ⟨fun a m h => l.gp.ap a m (own h), fun hf a m h => l.gp.gb hf a m (shr h), fun hf a m h => l.gp.gs hf a m (exc h)⟩, l.sub, l.gs⟩
  · rw [restR_len, ← l.fr.len, wipe_length]
  · rcases at_ h with ⟨z, y⟩ | ⟨z, y⟩
    · obtain ⟨v, e, r, _⟩ := fl.rep i s y
      have p := pu i z s y
      have e0 := r.pure p
      refine ⟨v, e, ?_⟩
      simp only [if_pos z]
      refine ⟨?_, fun _ => .nil⟩
      rw [e0] at r
      exact r.keep (l.kp.mono fun a m => by cases m)
    · obtain ⟨v, e, r⟩ := l.fr.rep i s y
      simp only [if_neg z]
      exact ⟨v, by rw [← e, wipe_out z], r⟩
  · exact l.fr.sep i j s t hij (sub h1 m).1 (sub h2 m').1 h3 h4 a (sub h1 m).2 (sub h2 m').2
  · rcases at_ h with ⟨z, y⟩ | ⟨z, y⟩
    · obtain ⟨v, _, r, _⟩ := fl.rep i s y
      simp only [if_pos z]
      exact ⟨y, (r.pure (pu i z s y)).symm⟩
    · simp only [if_neg z]
      exact l.lk i s y e
/-- the list that grows -/
structure Ac (K : PySem.W.Frag) (Dd : Addr) (vs : List V) (ds : List D) (F : List Addr) (P : List Addr) (ρ0 : Rho) (Fs0 : Nat → List Addr) (H0 : Hp) (ρ : Rho) (Fs : Nat → List Addr) (H : Hp) : Prop where
  at_ : H Dd = some (.lst vs)
  rep : Reps K H true F vs ds
  nd : (Dd :: F).Nodup
  out : ∀ a ∈ Dd :: F, ¬ All ρ Fs a ∧ (Own ρ0 Fs0 a ∨ H0 a = none) ∧ a ∉ P
theorem Ac.trk {Dd : Addr} {vs : List V} {ds : List D} {F : List Addr} (c : Ac K Dd vs ds F P ρ0 Fs0 H0 ρ Fs H) {a : Addr} (h : a ∈ Dd :: F) : H a ≠ none := by
  rcases List.mem_cons.mp h with e | m
  · rw [e, c.at_]; simp
  · exact c.rep.trk a m
theorem Bd.all (b : Bd f is G ρ Fs ρ1 Fs1) {a : Addr} (h : All ρ1 Fs1 a) : All ρ Fs a ∨ a ∈ G := by
  obtain ⟨j, s, h1, h3⟩ := h
  rcases b.at_ j s h1 with ⟨q, e⟩ | ⟨m, g, q⟩
  · exact .inl ⟨j, s, q, e ▸ h3⟩
  · exact .inr (g a h3)
theorem Ac.turn {is : List Nat} {Dd : Addr} {vs : List V} {ds : List D} {F : List Addr} (c : Ac K Dd vs ds F P ρ0 Fs0 H0 ρ Fs H) (gp : ∀ a ∈ G, a ∈ P) (sm : Same H H') (b : Bd f is G ρ Fs ρ1 Fs1) (fr1 : FR K H' σ1 ρ1 Fs1) (st : Stp ρ1 Fs1 H' ρ2 Fs2 H2)
    (cl : ∀ (j : Nat) (s : FD), ρ3[j]? = some (some s) → ρ2[j]? = some (some s)) : Ac K Dd vs ds F P ρ0 Fs0 H0 ρ3 Fs2 H2 := by
  have na : ∀ a ∈ Dd :: F, ¬ All ρ1 Fs1 a := fun a m h => by
    rcases b.all h with z | z
    · exact (c.out a m).1 z
    · exact (c.out a m).2.2 (gp a z)
  have kp : Kp H H2 (Dd :: F) := fun a u e q => st.kp fr1 (fun a m h => na a m h.all) a u (sm a u e) q
  refine ⟨kp _ _ c.at_ (.inl List.mem_cons_self), c.rep.keep (kp.mono fun a m => List.mem_cons_of_mem _ m), c.nd, fun a m => ⟨fun ⟨j, s, h1, h3⟩ => ?_, (c.out a m).2⟩⟩
  rcases st.all a ⟨j, s, cl j s h1, h3⟩ with z | z
  · exact na a m z
  · exact c.trk m (none_same sm z)
theorem bindT_len {pin : List Nat} {tg : Tg} {d : D} {is : List Nat} (b : Bd f is G ρ Fs ρ1 Fs1) : ρ1.length = ρ.length := b.len
theorem tE_lc {own : List Nat} {k : ItK} {its : List E} {tg : Tg} {cond : List E} {elt : E} (h : tE K C (.lc own k its tg cond elt) σ H Q) : tLc (tI K C k its) (gT K tg) (tBT K C true cond) (tV K C elt) own σ H Q := by
  obtain ⟨ρ, Fs, fr, x, ρe, h, kk⟩ := h
  simp only [ev, if_neg Bool.false_ne_true, Option.bind_eq_some_iff] at h
  obtain ⟨⟨xs, ρ1⟩, h1, it, h2, ls, h3, h⟩ := h
  split at h
  rotate_left
  · cases h
  rename_i cnd
  obtain ⟨pu, tgo⟩ := cnd
  simp only [Option.bind_eq_some_iff] at h
  obtain ⟨⟨fin, ρend⟩, h4, h⟩ := h
  split at h
  rotate_left
  · cases h
  rename_i hz
  simp only [Option.some.injEq, Prod.mk.injEq] at h
  obtain ⟨rfl, rfl⟩ := h
  refine ⟨ρ, Fs, fr, xs, ρ1, it, ls, h1, h2, h3, fun J H1 Fs1 P G f1 st iok li0 lp Dd hD => ?_⟩
  have ow : ∀ i ∈ owned ls ρ1, ownAt ρ1 i = true := fun i hi => owned_own hi
  have tgo : ∀ i ∈ tg.slots, i ∈ own := fun i m => by
    have := List.all_eq_true.mp tgo i m
    simpa using this
  have puL : ∀ i ∈ own, ∀ s, (lock (owned ls ρ1) ρ1)[i]? = some (some s) → s.d.mut = false := fun i m s e => by
    obtain ⟨t, e1, e2, _⟩ := lock_slot e
    have := List.all_eq_true.mp pu i m
    unfold pureAt at this
    simp only [e1] at this
    rw [e2]
    simpa using this
  generalize hT : (fun x ρ => (bindT [] (itemF it.1) tg x ρ).bind fun ρ => (evB C true true cond ρ).bind fun c => (boolD c.1).bind fun b =>
            if b = true then (ev C false elt c.2).bind fun y => if y.1.f = .own then some (some y.1.d, wipeR y.2 own) else none else some (none, wipeR c.2 own)) = turn at h4
  have smD : Same H1 (upd H1 Dd (.lst [])) := same_upd hD
  have li1 : LI K it.1 G P ρ Fs H σ (lock (owned ls ρ1) ρ1) Fs1 H1 (wipe σ own) (wipeR (lock (owned ls ρ1) ρ1) own) Fs1 (upd H1 Dd (.lst [])) :=
    (li0.wipe own).heap (T := fun _ => False) (fun a u e _ => smD a u e) (fun _ z => z.elim) (fun _ z => z.elim) (fun _ z => z.elim) fun _ _ z => z.elim
  have ac1 : Ac K Dd [] [] [] P ρ Fs H (wipeR (lock (owned ls ρ1) ρ1) own) Fs1 (upd H1 Dd (.lst [])) := by
    refine ⟨upd_same, .nil, by simp, fun a m => ?_⟩
    have e : a = Dd := by simpa using m
    subst e
    exact ⟨fun ⟨j, s, z1, z2⟩ => li0.fr.all_trk ⟨j, s, (wipeR_at z1).1, z2⟩ hD, li0.back hD, fun z => li0.tr _ z hD⟩
  let W : Nat → Nat → Hp → Prop := fun i m H' => m = it.2.length - i ∧ i ≤ it.2.length ∧ ∃ ρ' Fs' vs acc F, LI K it.1 G P ρ Fs H σ (lock (owned ls ρ1) ρ1) Fs1 H1 (wipe σ own) ρ' Fs' H' ∧ (∀ j ∈ own, ∀ s, ρ'[j]? ≠ some (some s)) ∧
    Ac K Dd vs acc F P ρ Fs H ρ' Fs' H' ∧ ∃ rest, lcLoop turn (it.2.drop i) ρ' = some (rest, ρend) ∧ acc ++ rest = fin
  refine ⟨W, ⟨it.2.length, rfl, Nat.zero_le _, _, Fs1, [], [], [], li1, fun j m s e => (wipeR_at e).2 m, ac1, fin, by simpa using h4, rfl⟩, ?_⟩
  rintro i m H' ⟨rfl, hi, ρ', Fs', vs, acc, F, li, nw, ac, rest, hl, hap⟩
  by_cases hlt : i < it.2.length
  · have hd : it.2[i]? = some it.2[i] := by simp [hlt]
    rw [List.drop_eq_getElem_cons hlt] at hl
    simp only [lcLoop, Option.bind_eq_some_iff, Option.map_eq_some_iff, Prod.mk.injEq] at hl
    obtain ⟨⟨r1, ρn⟩, b1, ⟨q1, ρ9⟩, b2, b3, b4⟩ := hl
    subst b4
    subst hT
    simp only [Option.bind_eq_some_iff] at b1
    obtain ⟨ρb, b5, ⟨cx, ρc⟩, b6, b, b7, b8⟩ := b1
    obtain ⟨go, yl⟩ := iok.go H' li.kp i _ hd
    refine .inr ⟨go, W (i + 1) (it.2.length - (i + 1)), fun H2 w => ⟨it.2.length - (i + 1), by omega, w⟩, fun x H2 y => ?_⟩
    obtain ⟨sm, Fx, rx, sub⟩ := yl x H2 y
    obtain ⟨σb, Fsb, fb, bd, np, sb, gq⟩ := bind_tg (li.fr.same sm) li.gp rx sub b5
    have hw : wipe σb own = wipe σ own := by
      have hl : σb.length = (wipe σ own).length := by rw [fb.len, bd.len, li.fr.len]
      have := wipe_eq (is := own) hl fun j nj => sb j fun z => nj (tgo j z)
      rw [this]
      refine List.ext_getElem? fun j => ?_
      by_cases m : j ∈ own
      · by_cases l : j < σ.length
        · rw [wipe_in m l, wipe_in m (by rw [wipe_length]; exact l)]
        · rw [List.getElem?_eq_none (by rw [wipe_length, wipe_length]; omega), List.getElem?_eq_none (by rw [wipe_length]; omega)]
      · rw [wipe_out m]
    refine gq _ ⟨hw, ρb, Fsb, fb, cx, b, ρc, b6, boolD_bl b7, fun H3 Fsc fc stc _ => ?_⟩
    -- behind a step that ends in ρz
    have next : ∀ {ρz : Rho} {Hz : Hp} {Fsz : Nat → List Addr}, FR K Hz σb ρz Fsz → Stp ρb Fsb H2 ρz Fsz Hz → LI K it.1 G P ρ Fs H σ (lock (owned ls ρ1) ρ1) Fs1 H1 (wipe σ own) (wipeR ρz own) Fsz Hz ∧ Ac K Dd vs acc F P ρ Fs H (wipeR ρz own) Fsz Hz :=
      fun {ρz Hz Fsz} fz sz => ⟨by
        have l2 := li.turn (σ2 := wipe σ own) (ρ3 := wipeR ρz own) sm bd fb sz (fz.wipe hw) sb (fun j s e eb => ?_) fun j s e => ⟨(wipeR_at e).1, fun m => absurd (tgo j m) (wipeR_at e).2⟩
        · exact l2
        · rw [← hw, wipe_out (wipeR_at e).2],
        ac.turn li.sub sm bd fb sz fun j s e => (wipeR_at e).1⟩
    cases b with
    | false =>
      simp only [Bool.false_eq_true, if_false, Option.some.injEq, Prod.mk.injEq] at b8 ⊢
      obtain ⟨rfl, rfl⟩ := b8
      obtain ⟨l2, a2⟩ := next fc stc
      exact ⟨rfl, hlt, _, Fsc, vs, acc, F, l2, fun j m s e => (wipeR_at e).2 m, a2, q1, b2, by rw [← hap]; subst b3; rfl⟩
    | true =>
      simp only [if_true, Option.bind_eq_some_iff] at b8 ⊢
      obtain ⟨⟨y, ρy⟩, b9, b10⟩ := b8
      split at b10
      rotate_left
      · cases b10
      rename_i yo
      simp only [Option.some.injEq, Prod.mk.injEq] at b10
      obtain ⟨rfl, rfl⟩ := b10
      refine tE_tV ⟨ρc, Fsc, fc, y, ρy, b9, fun v H5 Fsy Fy a => ?_⟩
      have sty := stc.trans a.st
      obtain ⟨l2, a2⟩ := next a.fr sty
      have ty := a.tm.from stc
      have hlen : (acc ++ [y.d] ++ q1).length ≤ sizeLine := by
        have : acc ++ [y.d] ++ q1 = fin := by rw [← hap, ← b3]; simp
        rw [this]; exact hz
      refine ⟨vs, a2.at_, by rw [a2.rep.length]; simp at hlen; omega, ?_⟩
      have yo' : y.o = true := toO_iff.mpr yo
      have ry := ty.rep
      rw [yo'] at ry
      obtain ⟨ny, oy⟩ := ty.own yo
      have dFy : ∀ z ∈ Fy, z ∉ Dd :: F ∧ z ∉ P := fun z m => by
        rcases (oy z m).2 with q | q
        · exact ⟨fun m' => (ac.out z m').1 (bd.own q).all, fun m' => li.ap z m' (bd.own q)⟩
        · exact ⟨fun m' => ac.trk m' (none_same sm q), fun m' => li.pt m' (none_same sm q)⟩
      have nD : ∀ z, z ∈ F ++ Fy → z ≠ Dd := fun z m e => by
        rcases List.mem_append.mp m with m | m
        · exact (List.nodup_cons.mp a2.nd).1 (e ▸ m)
        · exact (dFy z m).1 (by rw [e]; exact List.mem_cons_self)
      have outD := a2.out Dd List.mem_cons_self
      have kpD : ∀ X : List Addr, Dd ∉ X → Kp H5 (upd H5 Dd (.lst (vs ++ [v]))) X := fun X n => upd_kp a2.at_ rfl n
      refine ⟨rfl, hlt, _, Fsy, vs ++ [v], acc ++ [y.d], F ++ Fy, l2.heap (T := fun a => a = Dd) (fun a u e n => by rw [upd_ne n]; exact e) (fun a e => by rw [e]; exact outD.2.1) (fun a e => by rw [e]; exact outD.1) (fun a e => by rw [e]; exact outD.2.2) (fun a u e1 e2 => by
          rw [e1, a2.at_] at e2; cases e2; rfl), fun j m s e => (wipeR_at e).2 m, ⟨upd_same, ?_, ?_, fun z m => ?_⟩, q1, b2, by rw [← hap, ← b3]; simp⟩
      · exact (a2.rep.snoc ry).keep (kpD _ fun m => nD Dd m rfl)
      · rw [List.nodup_cons, List.nodup_append]
        obtain ⟨n1, n2⟩ := List.nodup_cons.mp a2.nd
        exact ⟨fun m => nD Dd m rfl, n2, ny, fun p hp q hq e => (dFy q hq).1 (List.mem_cons_of_mem _ (e ▸ hp))⟩
      · rcases List.mem_cons.mp m with m | m
        · rw [m]; exact outD
        · rcases List.mem_append.mp m with m | m
          · exact a2.out z (List.mem_cons_of_mem _ m)
          · exact ⟨fun ⟨j, s, g1, g2⟩ => (oy z m).1 ⟨j, s, (wipeR_at g1).1, g2⟩, li.ow sm bd (oy z m).2, (dFy z m).2⟩
  · have e : i = it.2.length := by omega
    subst e
    rw [List.drop_length] at hl
    simp only [lcLoop, Option.some.injEq, Prod.mk.injEq] at hl
    obtain ⟨rfl, rfl⟩ := hl
    simp only [List.append_nil] at hap
    subst hap
    have l3 := li.rest li0.fr puL nw
    obtain ⟨z1, z2⟩ := l3.unlock f1 st ow lp
    refine .inl ⟨iok.stop H' li.kp _ (Nat.le_refl _), kk (.ref Dd) H' _ (Dd :: F) ⟨z1, z2, ?_, (fun z => nomatch z), (fun z => nomatch z)⟩⟩
    refine ⟨.lst (show At true H' Dd _ from ac.at_) ac.rep, fun _ => ⟨ac.nd, fun a m => ⟨fun ⟨j, s, g1, g2⟩ => ?_, (ac.out a m).2.1⟩⟩, (fun z => nomatch z), (fun z => nomatch z)⟩
    obtain ⟨t, g3, _⟩ := unlock_slot g1
    rcases restR_at g3 with ⟨y1, _⟩ | ⟨y1, y2⟩
    · simp only [if_pos y1] at g2; cases g2
    · simp only [if_neg y1] at g2
      exact (ac.out a m).1 ⟨j, t, y2, g2⟩
end
end B
/-! BNa: dicts that are walked, under a lock. -/
namespace B
open PySem PySem.Spec L2

/-! ### an object frozen, unfrozen -/
/-- what is read of H is read of H' -/
structure RdE (H H' : Hp) : Prop where
  rd : ∀ b w, (∀ o u, w ≠ .frz o u) → Rd H b w → Rd H' b w
  cl : ∀ b vs, (∃ ob, H b = some (.frz ob (.lst vs))) → ∃ ob, H' b = some (.frz ob (.lst vs))
section
variable {K : PySem.W.Frag} {C : Ctx} {H H' H1 H2 H3 : Hp} {σ σ' σ1 σ2 : L2.St} {ρ ρ' ρ0 ρ1 ρ2 : Rho} {Fs Fs' Fs0 Fs1 Fs2 : Nat → List Addr} {Q : VK} {F G : List Addr} {o : Bool} {v : V} {d : D} {a : Addr}
theorem RdE.at_ {w : HO} (r : RdE H H') (nf : ∀ o u, w ≠ .frz o u) (h : At o H a w) (k : o = true → H a = some w → H' a = some w) : At o H' a w := by
  unfold At at h ⊢
  split at h
  · rename_i q; rw [if_pos q]; exact k q h
  · rename_i q; rw [if_neg q]; exact r.rd a w nf h
theorem RdE.sqT {vs : List V} (r : RdE H H') (h : SqT K H a vs) : SqT K H' a vs := by
  rcases h with h | h
  · exact .inl (r.rd a _ (fun _ _ z => nomatch z) h)
  · exact .inr h
theorem RdE.clk {vs : List V} (r : RdE H H') (h : CL K H a vs) : CL K H' a vs := by
  rcases h with h | h
  · exact .inl (r.cl a vs h)
  · exact .inr h
def Kq (o : Bool) (H H' : Hp) (F : List Addr) : Prop := o = true → ∀ b ∈ F, ∀ u, H b = some u → H' b = some u
theorem Kq.mono (k : Kq o H H' F) (h : ∀ b ∈ G, b ∈ F) : Kq o H H' G := fun e b m => k e b (h b m)
theorem RdE.atq {w : HO} (r : RdE H H') (nf : ∀ o u, w ≠ .frz o u) (h : At o H a w) (k : Kq o H H' F) (m : a ∈ F) : At o H' a w := r.at_ nf h fun e => k e a m w
theorem rde_all (r : RdE H H') : (∀ {F : List Addr} {v : V} {d : D}, Rep K H o F v d → Kq o H H' F → Rep K H' o F v d) ∧ (∀ {F : List Addr} {vs : List V} {ds : List D}, Reps K H o F vs ds → Kq o H H' F → Reps K H' o F vs ds) := by
  have A : ∀ {F : List Addr} {v : V} {d : D}, Rep K H o F v d → Kq o H H' F → Rep K H' o F v d := fun {F v d} q => by
    refine Rep.rec (K := K) (H := H) (o := o) (motive_1 := fun F v d _ => Kq o H H' F → Rep K H' o F v d) (motive_2 := fun F vs ds _ => Kq o H H' F → Reps K H' o F vs ds) ?_ ?_ ?_ ?_ ?_ ?_ ?_ ?_ ?_ ?_ ?_ q
    · exact fun _ => .non
    · exact fun _ => .bl
    · exact fun _ => .int
    · exact fun _ => .str
    · exact fun h _ ih k => .tup (r.sqT h) (ih k)
    · intro a vs F ds h _ ih k
      have h' := r.at_ (by intro _ _ z; cases z) h fun z => k z a List.mem_cons_self _
      exact .lst h' (ih (k.mono fun _ m => List.mem_cons_of_mem _ m))
    · exact fun h _ ih k => .clst (r.clk h) (ih k)
    · intro a vs F ds h e _ ih k
      have h' := r.at_ (by intro _ _ z; cases z) h fun z => k z a List.mem_cons_self _
      exact .dK h' e (ih (k.mono fun _ m => List.mem_cons_of_mem _ m))
    · intro a vs F ds h e _ ih k
      have h' := r.at_ (by intro _ _ z; cases z) h fun z => k z a List.mem_cons_self _
      exact .dT h' e (ih (k.mono fun _ m => List.mem_cons_of_mem _ m))
    · exact fun _ => .nil
    · exact fun _ _ ih1 ih2 k => .cons (ih1 (k.mono fun _ m => List.mem_append_left _ m)) (ih2 (k.mono fun _ m => List.mem_append_right _ m))
  refine ⟨A, fun {F vs ds} q => ?_⟩
  induction vs generalizing F ds with
  | nil => cases q; exact fun _ => .nil
  | cons w ws ih =>
    cases q with
    | cons q1 q2 => exact fun k => .cons (A q1 (k.mono fun _ m => List.mem_append_left _ m)) (ih q2 (k.mono fun _ m => List.mem_append_right _ m))
theorem Rep.rde (q : Rep K H o F v d) (r : RdE H H') (k : Kq o H H' F) : Rep K H' o F v d := (rde_all r).1 q k
theorem FR.rde (f : FR K H σ ρ Fs) (r : RdE H H') (k : ∀ b, Own ρ Fs b → ∀ u, H b = some u → H' b = some u) : FR K H' σ ρ Fs :=
  ⟨f.len, fun i s h => by
    obtain ⟨v, h1, q, n⟩ := f.rep i s h
    exact ⟨v, h1, q.rde r (fun e b m => k b ⟨i, s, h, toO_iff.mp e, m⟩), n⟩, f.sep⟩
theorem rde_frz {od : Obj} {kvs : List (Key × V)} (h : H a = some (.dK kvs)) : RdE H (upd H a (.frz od (.dK kvs))) := by
  refine ⟨fun b w nf q => ?_, fun b vs ⟨ob, q⟩ => ⟨ob, ?_⟩⟩
  · by_cases e : b = a
    · subst e
      rcases q with q | ⟨o, q⟩
      · rw [h] at q; cases q; exact .inr ⟨od, upd_same⟩
      · rw [h] at q; cases q
    · rcases q with q | ⟨o, q⟩
      · exact .inl (by rw [upd_ne e]; exact q)
      · exact .inr ⟨o, by rw [upd_ne e]; exact q⟩
  · have e : b ≠ a := fun e => by rw [e, h] at q; cases q
    rw [upd_ne e]; exact q
theorem rde_unf {od : Obj} {kvs : List (Key × V)} (h : H a = some (.frz od (.dK kvs))) : RdE H (upd H a (.dK kvs)) := by
  refine ⟨fun b w nf q => ?_, fun b vs ⟨ob, q⟩ => ⟨ob, ?_⟩⟩
  · by_cases e : b = a
    · subst e
      rcases q with q | ⟨o, q⟩
      · rw [h] at q; cases q; exact absurd rfl (nf _ _)
      · rw [h] at q; cases q; exact .inl upd_same
    · rcases q with q | ⟨o, q⟩
      · exact .inl (by rw [upd_ne e]; exact q)
      · exact .inr ⟨o, by rw [upd_ne e]; exact q⟩
  · have e : b ≠ a := fun e => by rw [e, h] at q; cases q
    rw [upd_ne e]; exact q

/-! ### the walk of a frozen dict -/
theorem rep_kV {k : Key} : Rep K H o [] (kV k) (kD k) := by
  cases k with
  | inl i => exact .int
  | inr s => exact .str
theorem keys_at {kvs : List (Key × V)} {kds : List (Key × D)} (e : kvs.map (·.1) = kds.map (·.1)) {i : Nat} {k : Key} {w : V} (h : kvs[i]? = some (k, w)) {p : Key × D} (hp : kds[i]? = some p) : p.1 = k := by
  have := congrArg (·[i]?) e
  simp only [List.getElem?_map, h, hp, Option.map_some, Option.some.injEq] at this
  exact this.symm
theorem ItOk.keys {od : Obj} {kvs : List (Key × V)} {kds : List (Key × D)} (h : H a = some (.frz od (.dK kvs))) (e : kvs.map (·.1) = kds.map (·.1)) : ItOk K (Itk a od kvs) (kds.map fun p => kD p.1) F [] H := by
  have el : kvs.length = kds.length := by simpa using congrArg List.length e
  refine ⟨fun H1 k i hi => ⟨k _ _ h (.inr rfl), by rw [List.length_map] at hi; omega⟩, fun H1 k i d hd => ?_⟩
  rw [List.getElem?_map, Option.map_eq_some_iff] at hd
  obtain ⟨p, hp, rfl⟩ := hd
  have hl := (List.getElem?_eq_some_iff.mp hp).1
  refine ⟨⟨k _ _ h (.inr rfl), by omega⟩, fun x H' y => ?_⟩
  obtain ⟨rfl, k', w, hk, rfl⟩ := y
  rw [keys_at e hk hp]
  exact ⟨Same.refl _, [], rep_kV, by simp⟩
theorem ItOk.vals {od : Obj} {kvs : List (Key × V)} {kds : List (Key × D)} (h : H a = some (.frz od (.dK kvs))) (e : kvs.map (·.1) = kds.map (·.1)) (r : Reps K H o F (kvs.map (·.2)) (kds.map (·.2))) : ItOk K (Itd a od kvs) (kds.map (·.2)) F F H := by
  have el : kvs.length = kds.length := by simpa using congrArg List.length e
  refine ⟨fun H1 k i hi => ⟨k _ _ h (.inr rfl), by rw [List.length_map] at hi; omega⟩, fun H1 k i d hd => ?_⟩
  have r1 := r.keep k
  obtain ⟨v, G, hv, rv, sb⟩ := r1.at_ hd
  have hl := (List.getElem?_eq_some_iff.mp hd).1
  rw [List.length_map] at hl
  refine ⟨⟨k _ _ h (.inr rfl), by omega⟩, fun x H' y => ?_⟩
  obtain ⟨rfl, k', hk⟩ := y
  rw [List.getElem?_map, hk] at hv
  cases hv
  exact ⟨Same.refl _, G, rv.low, fun b m => sb.subset m⟩
theorem ItOk.items {od : Obj} {kvs : List (Key × V)} {kds : List (Key × D)} (h : H a = some (.frz od (.dK kvs))) (e : kvs.map (·.1) = kds.map (·.1)) (r : Reps K H o F (kvs.map (·.2)) (kds.map (·.2))) : ItOk K (Iti a od kvs) (kds.map fun p => .tup [kD p.1, p.2]) F F H := by
  have el : kvs.length = kds.length := by simpa using congrArg List.length e
  refine ⟨fun H1 k i hi => ⟨k _ _ h (.inr rfl), by rw [List.length_map] at hi; omega⟩, fun H1 k i d hd => ?_⟩
  have r1 := r.keep k
  rw [List.getElem?_map, Option.map_eq_some_iff] at hd
  obtain ⟨p, hp, rfl⟩ := hd
  obtain ⟨v, G, hv, rv, sb⟩ := r1.at_ (i := i) (d := p.2) (by rw [List.getElem?_map, hp]; rfl)
  have hl := (List.getElem?_eq_some_iff.mp hp).1
  refine ⟨⟨k _ _ h (.inr rfl), by omega⟩, fun x H' y => ?_⟩
  obtain ⟨T, k', w, hk, rfl, hT, rfl⟩ := y
  rw [List.getElem?_map, hk] at hv
  cases hv
  rw [keys_at e hk hp]
  have sm := same_upd (u := .tup [kV k', w]) hT
  refine ⟨sm, G, ?_, fun b m => sb.subset m⟩
  have := Reps.cons (F := []) (rep_kV (K := K) (H := upd H1 T (.tup [kV k', w])) (o := false) (k := k')) (Reps.cons (rv.low.same sm) .nil)
  simp only [List.nil_append, List.append_nil] at this
  exact .tup (.inl (.inl upd_same)) this
/-- a frozen dict's readings -/
def ItK.isD : ItK → Bool
  | .keys => true
  | .vals => true
  | .items => true
  | _ => false
def srcD (k : ItK) (i : Nat) : TI := match k with
  | .vals => iVals (tVar i)
  | .items => iItems (tVar i)
  | _ => iKeys (tVar i)
theorem tI_dict {k : ItK} {i : Nat} {R : It → Hp → Prop} {od : Obj} {kvs : List (Key × V)} (hk : k.isD = true) (hσ : σ[i]? = some (some (.ref a))) (hH : H a = some (.frz od (.dK kvs))) (h : tI K C k [.var i] σ H R) : srcD k i σ H R := by
  obtain ⟨ρ, Fs, fr, xs, ρ1, it, ls, h1, h2, h3, kk⟩ := h
  have go : ∀ (R' : V → Hp → Prop), (∀ vs H1 Fs1 Gs, AftL K σ true ρ Fs H [.var i] xs ρ1 vs H1 Fs1 Gs → ∃ x, vs = [x] ∧ R' x H1) → tVar i σ H R' := fun R' q => tL_one (K := K) (C := C) (e := .var i) ⟨ρ, Fs, fr, xs, ρ1, h1, fun vs H1 Fs1 Gs a => q vs H1 Fs1 Gs a⟩
  have lp : ∀ {Gs : List (List Addr)} {Fs1 : Nat → List Addr}, ∀ i ∈ owned ls ρ1, ∀ a ∈ Fs1 i, a ∈ Gs.flatten ++ (owned ls ρ1).flatMap Fs1 := fun i hi a m => List.mem_append_right _ (List.mem_flatMap.mpr ⟨i, hi, m⟩)
  have base : ∀ {vs : List V} {H1 : Hp} {Fs1 : Nat → List Addr} {Gs : List (List Addr)} {x : FD} {kds : List (Key × D)}, AftL K σ true ρ Fs H [.var i] xs ρ1 vs H1 Fs1 Gs → xs = [x] → x.d = .dK kds →
      vs = [.ref a] ∧ H1 a = some (.frz od (.dK kvs)) ∧ kvs.map (·.1) = kds.map (·.1) ∧ ∃ G, Gs = [a :: G] ∧ Reps K H1 x.o G (kvs.map (·.2)) (kds.map (·.2)) := fun {vs H1 Fs1 Gs x kds} af ex hx => by
    subst ex
    obtain ⟨v, F, e1, r, e2⟩ := args1 af.args rfl
    subst e1 e2
    obtain ⟨s, w, _, _, g3, g4, _⟩ := af.var 0 i rfl
    rw [hσ] at g3
    cases g3
    cases g4
    have e1 : H1 a = some (.frz od (.dK kvs)) := (af.qt rfl).1 _ _ hH
    rw [hx] at r
    obtain ⟨b, ws, G, eb, rd, e3, rs, e4, _⟩ := rep_dK r
    cases eb
    have ew : ws = kvs := by
      rcases rd with z | ⟨o, z⟩
      · rw [e1] at z; cases z
      · rw [e1] at z; cases z; rfl
    subst ew
    exact ⟨rfl, e1, e3, G, by rw [e4], rs⟩
  unfold itD at h2
  split at h2
  all_goals (try contradiction)
  all_goals (try (cases hk; done))
  · rename_i kds e0 q
    show iKeys (tVar i) σ H R
    obtain ⟨x, rfl, hx⟩ := map_one q
    simp only [List.head?_cons, Option.map_some, Option.getD_some, Option.some.injEq] at h2
    subst h2
    refine go (fun x H1 => _) fun vs H1 Fs1 Gs af => ?_
    obtain ⟨rfl, e1, e2, G, rfl, rs⟩ := base af rfl hx
    obtain ⟨g1, g2, _⟩ := src_gp af h3 (k := 0) rfl rfl
    exact ⟨_, rfl, a, od, rfl, .inl ⟨kvs, e1, kk _ H1 Fs1 _ [] af.fr af.st (ItOk.keys e1 e2) (src_li af h3 ⟨fun b m => (by cases m), fun _ b m => (by cases m), fun _ b m => (by cases m)⟩ (fun _ b m => by cases m) (by simp)) lp⟩⟩
  · rename_i kds e0 q
    show iVals (tVar i) σ H R
    obtain ⟨x, rfl, hx⟩ := map_one q
    simp only [List.head?_cons, Option.map_some, Option.getD_some, Option.some.injEq] at h2
    subst h2
    refine go (fun x H1 => _) fun vs H1 Fs1 Gs af => ?_
    obtain ⟨rfl, e1, e2, G, rfl, rs⟩ := base af rfl hx
    obtain ⟨g1, g2, _⟩ := src_gp af h3 (k := 0) rfl rfl
    have sub : ∀ b ∈ G, b ∈ a :: G := fun b m => List.mem_cons_of_mem _ m
    exact ⟨_, rfl, a, od, kvs, rfl, e1, kk _ H1 Fs1 _ G af.fr af.st ((ItOk.vals e1 e2 rs).mono fun b m => by simp [m]) (src_li af h3 ⟨fun b m => g1.ap b (sub b m), fun hf b m => g1.gb hf b (sub b m), fun hf b m => g1.gs hf b (sub b m)⟩ (fun hf b m => g2 hf b (sub b m)) (by intro b m; simp [m])) lp⟩
  · rename_i kds e0 q
    show iItems (tVar i) σ H R
    obtain ⟨x, rfl, hx⟩ := map_one q
    simp only [List.head?_cons, Option.map_some, Option.getD_some, Option.some.injEq] at h2
    subst h2
    refine go (fun x H1 => _) fun vs H1 Fs1 Gs af => ?_
    obtain ⟨rfl, e1, e2, G, rfl, rs⟩ := base af rfl hx
    obtain ⟨g1, g2, _⟩ := src_gp af h3 (k := 0) rfl rfl
    have sub : ∀ b ∈ G, b ∈ a :: G := fun b m => List.mem_cons_of_mem _ m
    exact ⟨_, rfl, a, od, kvs, rfl, e1, kk _ H1 Fs1 _ G af.fr af.st ((ItOk.items e1 e2 rs).mono fun b m => by simp [m]) (src_li af h3 ⟨fun b m => g1.ap b (sub b m), fun hf b m => g1.gb hf b (sub b m), fun hf b m => g1.gs hf b (sub b m)⟩ (fun hf b m => g2 hf b (sub b m)) (by intro b m; simp [m])) lp⟩
end
end B
/-! BNb: for, list comprehensions over a dict. -/
namespace B
open PySem PySem.Spec L2
section
variable {K : PySem.W.Frag} {C : Ctx} {H H' H1 H2 H3 : Hp} {σ σ' σ1 σ2 : L2.St} {ρ ρ' ρ0 ρ1 ρ2 : Rho} {Fs Fs' Fs0 Fs1 Fs2 : Nat → List Addr} {Q : VK} {F G : List Addr} {o : Bool} {v : V} {d : D} {a : Addr} {Dn : Ends}
/-- the state around a lock -/
structure LkD (K : PySem.W.Frag) (σ : L2.St) (ρ : Rho) (Fs : Nat → List Addr) (H : Hp) (a : Addr) (kvs : List (Key × V)) (is : List Nat) : Prop where
  fr : FR K H σ ρ Fs
  at_ : H a = some (.dK kvs)
  ow : ∀ i ∈ is, ownAt ρ i = true
  no : ¬ Own (lock is ρ) Fs a
section
variable {kvs : List (Key × V)} {is : List Nat} {od : Obj}
theorem LkD.frL (l : LkD K σ ρ Fs H a kvs is) : FR K (upd H a (.frz od (.dK kvs))) σ (lock is ρ) Fs :=
  (l.fr.lock is).rde (rde_frz l.at_) fun b ob u e => by
    have n : b ≠ a := fun z => l.no (z ▸ ob)
    rw [upd_ne n]; exact e
theorem LkD.stL (l : LkD K σ ρ Fs H a kvs is) (st : Stp (lock is ρ) Fs (upd H a (.frz od (.dK kvs))) ρ2 Fs2 H3) : H3 a = some (.frz od (.dK kvs)) ∧ Stp (lock is ρ) Fs H ρ2 Fs2 (upd H3 a (.dK kvs)) := by
  have h3 := st.keep a _ upd_same l.no
  have none_ : ∀ b, upd H a (.frz od (.dK kvs)) b = none → H b = none := fun b e => by
    have n : b ≠ a := fun z => by rw [z, upd_same] at e; cases e
    rw [upd_ne n] at e; exact e
  refine ⟨h3, fun b u e n => ?_, fun b q => (st.own b q).imp id (none_ b), fun b q => (st.all b q).imp id (none_ b), fun b q => ?_, st.lk⟩
  · by_cases z : b = a
    · subst z; rw [l.at_] at e; cases e; exact upd_same
    · rw [upd_ne z]; exact st.keep b u (by rw [upd_ne z]; exact e) n
  · rcases st.shr b q with z | z | z
    · exact .inl z
    · exact .inr (.inl z)
    · exact .inr (.inr (none_ b z))
theorem LkD.noOwn (l : LkD K σ ρ Fs H a kvs is) (st : Stp (lock is ρ) Fs (upd H a (.frz od (.dK kvs))) ρ2 Fs2 H3) : ¬ Own ρ2 Fs2 a := fun q => by
  rcases st.own a q with z | z
  · exact l.no z
  · rw [upd_same] at z; cases z
theorem LkD.back (l : LkD K σ ρ Fs H a kvs is) (fr : FR K H3 σ2 ρ2 Fs2) (st : Stp (lock is ρ) Fs (upd H a (.frz od (.dK kvs))) ρ2 Fs2 H3) (kd : ∀ (i : Nat) (s : FD), ρ2[i]? = some (some s) → s.f = .bor → σ2[i]? = σ[i]?) :
    H3 a = some (.frz od (.dK kvs)) ∧ FR K (upd H3 a (.dK kvs)) σ2 (unlock is ρ2) Fs2 ∧ Stp ρ Fs H (unlock is ρ2) Fs2 (upd H3 a (.dK kvs)) := by
  obtain ⟨h3, s2⟩ := l.stL st
  have no := l.noOwn st
  have f2 : FR K (upd H3 a (.dK kvs)) σ2 ρ2 Fs2 := fr.rde (rde_unf h3) fun b ob u e => by
    have n : b ≠ a := fun z => no (z ▸ ob)
    rw [upd_ne n]; exact e
  refine ⟨h3, FR.unlock l.fr l.ow s2.lk (fun i hi => ?_) f2 fun i hi s e hb => kd i s e hb, s2.unlock l.ow⟩
  obtain ⟨s, e1, e2⟩ := ownAt_some (l.ow i hi)
  exact lock_kp l.fr s2 hi e1 e2
theorem LkD.tm (l : LkD K σ ρ Fs H a kvs is) (st : Stp (lock is ρ) Fs (upd H a (.frz od (.dK kvs))) ρ2 Fs2 H3) {x : FD} (t : Tm K (lock is ρ) Fs (upd H a (.frz od (.dK kvs))) ρ2 Fs2 H3 x v F) (nb : x.f ≠ .bor) :
    Tm K ρ Fs H (unlock is ρ2) Fs2 (upd H3 a (.dK kvs)) x v F := by
  have h3 := (l.stL st).1
  have none_ : ∀ b, upd H a (.frz od (.dK kvs)) b = none → H b = none := fun b e => by
    have n : b ≠ a := fun z => by rw [z, upd_same] at e; cases e
    rw [upd_ne n] at e; exact e
  refine unlock_tm ⟨t.rep.rde (rde_unf h3) fun z b m u e => ?_, fun z => ⟨(t.own z).1, fun b m => ⟨((t.own z).2 b m).1, ((t.own z).2 b m).2.imp lock_own (none_ b)⟩⟩, fun z b m => ⟨(t.shr z b m).1, ?_⟩, fun z => absurd z nb⟩ nb
  · have n : b ≠ a := fun q => by
      subst q
      rcases ((t.own (toO_iff.mp z)).2 b m).2 with y | y
      · exact l.no y
      · rw [upd_same] at y; cases y
    rw [upd_ne n]; exact e
  · rcases (t.shr z b m).2 with y | y | y
    · exact .inl (lock_shr y)
    · exact .inr (.inl (lock_own y))
    · exact .inr (.inr (none_ b y))
/-- the continuation under the lock -/
def DnL (Dn : Ends) (a : Addr) (u : HO) (od : Obj) : Ends := ⟨fun σ' H' => H' a = some (.frz od u) ∧ Dn.nx σ' (upd H' a u), fun v H' => H' a = some (.frz od u) ∧ Dn.rt v (upd H' a u), fun σ' H' => H' a = some (.frz od u) ∧ Dn.bk σ' (upd H' a u), fun σ' H' => H' a = some (.frz od u) ∧ Dn.ct σ' (upd H' a u)⟩
theorem LkD.kd (l : LkD K σ ρ Fs H a kvs is) {pin : List Nat} (k : Kd pin ρ2 σ σ2) : Kd pin (unlock is ρ2) σ σ2 := ⟨k.pin, fun i s e hb => by
  obtain ⟨t, e1, _, q⟩ := unlock_slot e
  rcases q with ⟨_, _, z⟩ | ⟨z, _⟩
  · rw [z] at hb; cases hb
  · subst z; exact k.bor i _ e1 hb⟩
theorem LkD.cont (l : LkD K σ ρ Fs H a kvs is) {pin : List Nat} {fl : Flow} (c : Cont K pin Dn σ ρ Fs H (fl.map (unlock is))) : Cont K pin (DnL Dn a (.dK kvs) od) σ (lock is ρ) Fs (upd H a (.frz od (.dK kvs))) fl := by
  cases fl with
  | nx ρ2 => intro σ' H' Fs' fr st kd; obtain ⟨h1, h2, h3⟩ := l.back fr st kd.bor; exact ⟨h1, c _ _ _ h2 h3 (l.kd kd)⟩
  | bk ρ2 => intro σ' H' Fs' fr st kd; obtain ⟨h1, h2, h3⟩ := l.back fr st kd.bor; exact ⟨h1, c _ _ _ h2 h3 (l.kd kd)⟩
  | ct ρ2 => intro σ' H' Fs' fr st kd; obtain ⟨h1, h2, h3⟩ := l.back fr st kd.bor; exact ⟨h1, c _ _ _ h2 h3 (l.kd kd)⟩
  | rt x ρ2 => intro w σ' H' Fs' F fr st kd t nb; obtain ⟨h1, h2, h3⟩ := l.back fr st kd.bor; exact ⟨h1, c _ _ _ _ _ h2 h3 (l.kd kd) (l.tm st t nb) nb⟩
end
/-- a walked dict in a local: it can be locked, or it is -/
theorem dict_lk {i : Nat} {s : FD} {kds : List (Key × D)} (fr : FR K H σ ρ Fs) (e : ρ[i]? = some (some s)) (hd : s.d = .dK kds) :
    ∃ a kvs, σ[i]? = some (some (.ref a)) ∧ (LkD K σ ρ Fs H a kvs (owned [i] ρ) ∨ (s.f ≠ .own ∧ ∃ od, H a = some (.frz od (.dK kvs)))) := by
  obtain ⟨v, h1, r, n⟩ := fr.rep i s e
  rw [hd] at r
  obtain ⟨a, kvs, G, rfl, rd, e3, rs, e4, ho, _⟩ := rep_dK r
  refine ⟨a, kvs, h1, ?_⟩
  have am : a ∈ Fs i := by rw [e4]; exact List.mem_cons_self
  have ow : ∀ j ∈ owned [i] ρ, ownAt ρ j = true := fun j hj => owned_own hj
  have no : ¬ Own (lock (owned [i] ρ) ρ) Fs a := fun ⟨j, t, h1, h2, h3⟩ => by
    obtain ⟨t', g1, _, g3⟩ := lock_slot h1
    rcases g3 with ⟨_, _, z⟩ | ⟨z, nn⟩
    · rw [z] at h2; cases h2
    · subst z
      by_cases hij : j = i
      · subst hij
        refine nn ⟨?_, h2⟩
        exact owned_mem (by simp) (by unfold ownAt; rw [g1]; simpa using h2)
      · exact fr.sep j i _ s hij g1 e (by rw [h2]; decide) (Or.inl h2) a h3 am
  by_cases hf : s.f = Fl.own
  · exact .inl ⟨fr, ho (by unfold FD.o; exact toO_iff.mpr hf), ow, no⟩
  · rcases rd with q | q
    · exact .inl ⟨fr, q, ow, no⟩
    · exact .inr ⟨hf, q⟩
theorem owned_no {i : Nat} (h : ownAt ρ i = false) : owned [i] ρ = [] := by
  unfold owned
  simp [h]
theorem owned_yes {i : Nat} (h : ownAt ρ i = true) : owned [i] ρ = [i] := by
  unfold owned
  simp [h, List.eraseDups_cons]
theorem flow_map_nil {fl : Flow} : fl.map (unlock []) = fl := by cases fl <;> rfl
theorem lock_one {i : Nat} {s : FD} (e : ρ[i]? = some (some s)) (hf : s.f = .own) : (lock [i] ρ)[i]? = some (some ⟨Fl.bor, s.d⟩) := by
  have hl : i < ρ.length := (List.getElem?_eq_some_iff.mp e).1
  show (match ρ[i]? with
    | some (some (s : FD)) => if s.f = Fl.own then ρ.set i (some ⟨Fl.bor, s.d⟩) else ρ
    | _ => ρ : Rho)[i]? = _
  rw [e]
  simp only [hf, if_true]
  rw [List.getElem?_set_self hl]
/-- what the source of a dict walk gives, locked or not -/
theorem dict_src {k : ItK} {i : Nat} {xs : List FD} {it : Fl × List D} {ls : List Nat} (hk : k.isD = true) (h1 : evL C [.var i] ρ = some (xs, ρ1)) (h2 : itD k xs = some it) (h3 : lockVs [.var i] xs = some ls) :
    ρ1 = ρ ∧ ∃ s kds, ρ[i]? = some (some s) ∧ s.d = .dK kds ∧ lock (owned ls ρ) ρ = lock (owned [i] ρ) ρ ∧ (∀ r : Rho, unlock (owned ls ρ) r = unlock (owned [i] ρ) r) ∧
      ∃ ls', evL C [.var i] (lock (owned [i] ρ) ρ) = some (xs, lock (owned [i] ρ) ρ) ∧ lockVs [.var i] xs = some ls' ∧ owned ls' (lock (owned [i] ρ) ρ) = [] := by
  simp only [evL, Option.bind_eq_some_iff, Option.some.injEq, Option.map_eq_some_iff, Prod.mk.injEq] at h1
  obtain ⟨_, _, _, rfl, x, hx, rfl, rfl⟩ := h1
  obtain ⟨s, e, ex⟩ := readV_some hx
  have xd : x.d = s.d := by rw [ex, nrm_d]
  have hd : ∃ kds, s.d = .dK kds := by
    rw [← xd]
    unfold itD at h2
    split at h2
    all_goals (try contradiction)
    all_goals (try (cases hk; done))
    all_goals (rename_i q; obtain ⟨y, hy, hq⟩ := map_one q; cases hy; exact ⟨_, hq⟩)
  obtain ⟨kds, hd⟩ := hd
  have xm : x = ⟨(match s.f with | .shr => .shr | _ => .bor), s.d⟩ := by
    rw [ex, nrm_mut (by rw [hd]; rfl)]
    all_goals (cases s.f <;> rfl)
  refine ⟨rfl, s, kds, e, hd, ?_⟩
  have rv : ∀ r : Rho, readV r i = some x → evL C [.var i] r = some ([x], r) := fun r hr => by
    simp only [evL, hr, Option.bind_some, Option.map_some]
  cases hf : s.f with
  | own =>
    have oa : ownAt ρ i = true := by unfold ownAt; rw [e]; simpa using hf
    have xb : x.f = .bor := by rw [xm, hf]
    simp only [lockVs, Option.bind_some, xb, if_true, rootE, Option.map_some, Option.some.injEq] at h3
    subst h3
    refine ⟨rfl, fun _ => rfl, [i], ?_⟩
    rw [owned_yes oa]
    have l1 := lock_one e hf
    refine ⟨rv _ ?_, by simp only [lockVs, Option.bind_some, xb, if_true, rootE, Option.map_some], owned_no (by unfold ownAt; rw [l1]; rfl)⟩
    unfold readV
    rw [l1, xm, hf]
    simp only [nrm_mut (show s.d.mut = true by rw [hd]; rfl)]
  | bor =>
    have oa : ownAt ρ i = false := by unfold ownAt; rw [e]; simp [hf]
    have xb : x.f = .bor := by rw [xm, hf]
    have h3' := h3
    simp only [lockVs, Option.bind_some, xb, if_true, rootE, Option.map_some, Option.some.injEq] at h3
    subst h3
    refine ⟨rfl, fun _ => rfl, [i], ?_⟩
    rw [owned_no oa]
    exact ⟨rv _ hx, h3', owned_no oa⟩
  | shr =>
    have oa : ownAt ρ i = false := by unfold ownAt; rw [e]; simp [hf]
    have xb : x.f ≠ .bor := by
      rw [xm, hf]
      exact fun z => nomatch z
    have h3' := h3
    simp only [lockVs, Option.bind_some, if_neg xb, Option.some.injEq] at h3
    subst h3
    rw [owned_no oa]
    refine ⟨rfl, fun _ => rfl, [], rv _ hx, h3', rfl⟩
theorem srcD_R {k : ItK} {i : Nat} {R : It → Hp → Prop} {od : Obj} {kvs : List (Key × V)} (hk : k.isD = true) (hσ : σ[i]? = some (some (.ref a))) (hH : H a = some (.frz od (.dK kvs))) (h : tI K C k [.var i] σ H R) : srcD k i σ H R := tI_dict hk hσ hH h
/-- for over a dict -/
theorem tS_forD {tg : Tg} {k : ItK} {i : Nat} {body : List S} (hk : k.isD = true) (h : tS K C (.for_ tg k [.var i] body) Dn σ H) :
    tLock (tFor (srcD k i) (gT K tg) (tSs K C body)) Dn σ H ∨ tFor (srcD k i) (gT K tg) (tSs K C body) Dn σ H := by
  have go : ∀ {Dn : Ends} {H : Hp} {od : Obj} {kvs : List (Key × V)} {a : Addr}, σ[i]? = some (some (.ref a)) → H a = some (.frz od (.dK kvs)) → tS K C (.for_ tg k [.var i] body) Dn σ H → tFor (srcD k i) (gT K tg) (tSs K C body) Dn σ H :=
    fun hσ hH h => srcD_R hk hσ hH (tS_for h)
  obtain ⟨ρ, Fs, fr, fl, h, c⟩ := h
  have h0 := h
  simp only [evS, Option.bind_eq_some_iff, Option.map_eq_some_iff] at h
  obtain ⟨⟨xs, ρ1⟩, h1, it, h2, ls, h3, fl0, h4, rfl⟩ := h
  obtain ⟨rfl, s, kds, e, hd, el, eu, ls', g1, g2, g3⟩ := dict_src hk h1 h2 h3
  obtain ⟨a, kvs, hσ, l | ⟨hf, od, hH⟩⟩ := dict_lk fr e hd
  · refine .inl ⟨a, .dK kvs, l.at_, trivial, fun od => ?_⟩
    refine srcD_R hk hσ upd_same (tS_for ⟨_, Fs, l.frL, fl0, ?_, ?_⟩)
    · simp only [evS, g1, Option.bind_some, h2, g2, g3]
      show Option.map _ (forLoop _ _ _ _ (lock (owned [i] ρ1) ρ1)) = _
      dsimp only at h4
      rw [el] at h4
      rw [h4]
      show some (fl0.map (unlock [])) = _
      rw [flow_map_nil]
    · have c' : Cont K C.pin Dn σ ρ1 Fs H (fl0.map (unlock (owned [i] ρ1))) := by
        have : fl0.map (unlock (owned [i] ρ1)) = fl0.map (unlock (owned ls ρ1)) := by
          cases fl0 <;> simp only [Flow.map, eu]
        rw [this]; exact c
      exact l.cont c'
  · exact .inr (srcD_R hk hσ hH (tS_for ⟨ρ1, Fs, fr, _, h0, c⟩))
/-- a list comprehension over a dict -/
theorem tE_lcD {own : List Nat} {k : ItK} {i : Nat} {tg : Tg} {cond : List E} {elt : E} (hk : k.isD = true) (h : tE K C (.lc own k [.var i] tg cond elt) σ H Q) :
    tLockE (tLc (srcD k i) (gT K tg) (tBT K C true cond) (tV K C elt) own) σ H Q ∨ tLc (srcD k i) (gT K tg) (tBT K C true cond) (tV K C elt) own σ H Q := by
  obtain ⟨ρ, Fs, fr, x, ρe, h, kk⟩ := h
  have h0 := h
  simp only [ev, if_neg Bool.false_ne_true, Option.bind_eq_some_iff] at h
  obtain ⟨⟨xs, ρ1⟩, h1, it, h2, ls, h3, h⟩ := h
  split at h
  rotate_left
  · cases h
  rename_i cnd
  simp only [Option.bind_eq_some_iff] at h
  obtain ⟨⟨fin, ρend⟩, h4, h⟩ := h
  split at h
  rotate_left
  · cases h
  rename_i hz
  simp only [Option.some.injEq, Prod.mk.injEq] at h
  obtain ⟨rfl, rfl⟩ := h
  obtain ⟨rfl, s, kds, e, hd, el, eu, ls', g1, g2, g3⟩ := dict_src hk h1 h2 h3
  obtain ⟨a, kvs, hσ, l | ⟨hf, od, hH⟩⟩ := dict_lk fr e hd
  · refine .inl ⟨a, .dK kvs, l.at_, trivial, fun od => ?_⟩
    refine srcD_R (K := K) (C := C) hk hσ upd_same ?_
    refine tE_lc (Q := fun v H' => H' a = some (.frz od (.dK kvs)) ∧ Q v (upd H' a (.dK kvs))) ?_
    refine (⟨_, Fs, l.frL, ⟨.own, .lst fin⟩, restR (lock (owned [i] ρ1) ρ1) ρend own, ?_, fun v H' Fs' F af => ?_⟩)
    · simp only [ev, if_neg Bool.false_ne_true, g1, Option.bind_some, h2, g2, g3]
      have cn : own.all (pureAt (lock (owned [i] ρ1) ρ1)) = true ∧ tg.slots.all (fun i => own.contains i) = true := by
        refine ⟨?_, cnd.2⟩
        rw [List.all_eq_true]
        intro j hj
        have p := List.all_eq_true.mp cnd.1 j hj
        unfold pureAt at p ⊢
        split
        · rename_i t et
          obtain ⟨t', z1, z2, _⟩ := lock_slot et
          simp only [z1] at p
          rw [z2]; exact p
        · rfl
      rw [if_pos cn]
      show (lcLoop _ _ (wipeR (lock (owned [i] ρ1) ρ1) own)).bind _ = _
      rw [el] at h4
      rw [h4]
      simp only [Option.bind_some]
      rw [if_pos hz]
      rfl
    · obtain ⟨z1, z2, z3⟩ := l.back af.fr af.st fun _ _ _ _ => rfl
      have ee : unlock (owned [i] ρ1) (restR (lock (owned [i] ρ1) ρ1) ρend own) = unlock (owned ls ρ1) (restR (lock (owned ls ρ1) ρ1) ρend own) := by
        rw [eu, el]
      refine ⟨z1, kk v _ Fs' F ⟨?_, ?_, ?_, fun z => (nomatch z), fun z => (nomatch z)⟩⟩
      · rw [← ee]; exact z2
      · rw [← ee]; exact z3
      · rw [← ee]; exact l.tm af.st af.tm (fun z => nomatch z)
  · exact .inr (srcD_R (K := K) (C := C) hk hσ hH (tE_lc (show tE K C (.lc own k [.var i] tg cond elt) σ H Q from ⟨ρ1, Fs, fr, _, _, h0, kk⟩)))
end
end B
/-! BNc: dict comprehensions. -/
namespace B
open PySem PySem.Spec L2 PyProof.Rows
section
variable {K : PySem.W.Frag} {C : Ctx} {H H' H1 H2 H3 : Hp} {σ σ' σ1 σ2 : L2.St} {ρ ρ' ρ0 ρ1 ρ2 ρ3 : Rho} {Fs Fs' Fs0 Fs1 Fs2 : Nat → List Addr} {Q : VK} {F G P : List Addr} {o : Bool} {v : V} {d : D} {a : Addr} {Dn : Ends} {f : Fl}
/-- a part of a dict exchanged or added -/
theorem reps_put {ws : List (Key × V)} {kvs : List (Key × D)} {G1 Fv : List Addr} {key : Key} {dv : D} (e2 : ws.map (·.1) = kvs.map (·.1)) (ndk : (kvs.map (·.1)).Nodup) (s1 : Reps K H o G1 (ws.map (·.2)) (kvs.map (·.2))) (rv : Rep K H o Fv v dv) :
    ∃ G', Reps K H o G' ((putK ws key v).map (·.2)) ((putD kvs key dv).map (·.2)) ∧ (putK ws key v).map (·.1) = (putD kvs key dv).map (·.1) ∧ ((putD kvs key dv).map (·.1)).Nodup ∧ (∀ b ∈ G', b ∈ G1 ∨ b ∈ Fv) ∧ (G1.Nodup → Fv.Nodup → (∀ b ∈ Fv, b ∉ G1) → G'.Nodup) := by
  cases el : lookD kvs key with
  | some c1 =>
    obtain ⟨j, ej⟩ := find_split el
    obtain ⟨A, Gj, B, w1, f1, f2, f3, f4⟩ := s1.split (j := j) (d := c1) (by rw [List.getElem?_map, ej]; rfl)
    subst f1
    have hw : ws[j]? = some (key, w1) := by
      have k1 : (ws.map (·.1))[j]? = some key := by rw [e2, List.getElem?_map, ej]; rfl
      rw [List.getElem?_map] at k1 f2
      cases q : ws[j]? with
      | none => rw [q] at k1; cases k1
      | some p =>
        rw [q] at k1 f2
        obtain ⟨p1, p2⟩ := p
        simp at k1 f2
        rw [k1, f2]
    have nw : (ws.map (·.1)).Nodup := by rw [e2]; exact ndk
    have ep : putD kvs key dv = kvs.set j (key, dv) := by
      unfold putD
      rw [if_pos (any_of_at ej)]
      exact map_if_set ndk ej
    have epw : putK ws key v = ws.set j (key, v) := by
      unfold putK
      rw [if_pos (any_of_at hw)]
      exact map_if_set nw hw
    refine ⟨A ++ (Fv ++ B), ?_, ?_, ?_, fun b m => ?_, fun nG nv sp => ?_⟩
    · rw [ep, List.map_set]
      have e3 : (putK ws key v).map (·.2) = (ws.map (·.2)).set j v := by rw [epw, List.map_set]
      rw [e3]
      exact f4 _ _ _ _ .refl rv
    · rw [ep, epw, set_keys ej, set_keys hw]; exact e2
    · rw [ep, set_keys ej]; exact ndk
    · rcases List.mem_append.mp m with m | m
      · exact .inl (by simp [m])
      · rcases List.mem_append.mp m with m | m
        · exact .inr m
        · exact .inl (by simp [m])
    · have sp' : ∀ b ∈ Fv, b ∉ A ∧ b ∉ B := fun b m => ⟨fun z => sp b m (by simp [z]), fun z => sp b m (by simp [z])⟩
      rw [List.nodup_append] at nG
      obtain ⟨nA, nGB, dA⟩ := nG
      rw [List.nodup_append] at nGB
      rw [List.nodup_append, List.nodup_append]
      refine ⟨nA, ⟨nv, nGB.2.1, fun x hx y hy e => (sp' x hx).2 (e ▸ hy)⟩, fun x hx y hy e => ?_⟩
      rcases List.mem_append.mp hy with hy | hy
      · exact (sp' y hy).1 (e ▸ hx)
      · exact dA x hx y (by simp [hy]) e
  | none =>
    have na : (kvs.any fun kv => decide (kv.1 = key)) = false := by
      cases q : kvs.any fun kv => decide (kv.1 = key) with
      | false => rfl
      | true =>
        unfold lookD at el
        have : (kvs.find? fun kv => decide (kv.1 = key)) = none := by simpa using el
        rw [List.find?_eq_none] at this
        obtain ⟨x, hx, hp⟩ := List.any_eq_true.mp q
        exact absurd hp (this x hx)
    have naw : (ws.any fun kv => decide (kv.1 = key)) = false := by
      rw [valV_any, lookD_map e2, el]
      rfl
    have ep : putD kvs key dv = kvs ++ [(key, dv)] := by unfold putD; rw [na]; rfl
    have epw : putK ws key v = ws ++ [(key, v)] := by unfold putK; rw [naw]; rfl
    have e3 : (putK ws key v).map (·.2) = ws.map (·.2) ++ [v] := by rw [epw, List.map_append]; rfl
    have e4 : (putD kvs key dv).map (·.2) = kvs.map (·.2) ++ [dv] := by rw [ep, List.map_append]; rfl
    refine ⟨G1 ++ Fv, by rw [e3, e4]; exact s1.snoc rv, ?_, ?_, fun b m => List.mem_append.mp m, fun nG nv sp => ?_⟩
    · rw [ep, epw, List.map_append, List.map_append, e2]; rfl
    · rw [ep, List.map_append, List.nodup_append]
      refine ⟨ndk, by simp, fun x hx y hy e => ?_⟩
      simp at hy
      subst hy; subst e
      obtain ⟨p, hp, rfl⟩ := List.mem_map.mp hx
      have := List.any_eq_false.mp na p hp
      simp at this
    · rw [List.nodup_append]
      exact ⟨nG, nv, fun x hx y hy e => sp y hy (e ▸ hx)⟩
/-- the dict that grows -/
structure AcD (K : PySem.W.Frag) (Dd : Addr) (ws : List (Key × V)) (ds : List (Key × D)) (F : List Addr) (P : List Addr) (ρ0 : Rho) (Fs0 : Nat → List Addr) (H0 : Hp) (ρ : Rho) (Fs : Nat → List Addr) (H : Hp) : Prop where
  at_ : H Dd = some (.dK ws)
  keys : ws.map (·.1) = ds.map (·.1)
  ndk : (ds.map (·.1)).Nodup
  rep : Reps K H true F (ws.map (·.2)) (ds.map (·.2))
  nd : (Dd :: F).Nodup
  out : ∀ a ∈ Dd :: F, ¬ All ρ Fs a ∧ (Own ρ0 Fs0 a ∨ H0 a = none) ∧ a ∉ P
theorem AcD.trk {Dd : Addr} {ws : List (Key × V)} {ds : List (Key × D)} {F : List Addr} (c : AcD K Dd ws ds F P ρ0 Fs0 H0 ρ Fs H) {a : Addr} (h : a ∈ Dd :: F) : H a ≠ none := by
  rcases List.mem_cons.mp h with e | m
  · rw [e, c.at_]; simp
  · exact c.rep.trk a m
theorem AcD.turn {is : List Nat} {Dd : Addr} {ws : List (Key × V)} {ds : List (Key × D)} {F : List Addr} (c : AcD K Dd ws ds F P ρ0 Fs0 H0 ρ Fs H) (gp : ∀ a ∈ G, a ∈ P) (sm : Same H H') (b : Bd f is G ρ Fs ρ1 Fs1) (fr1 : FR K H' σ1 ρ1 Fs1) (st : Stp ρ1 Fs1 H' ρ2 Fs2 H2)
    (cl : ∀ (j : Nat) (s : FD), ρ3[j]? = some (some s) → ρ2[j]? = some (some s)) : AcD K Dd ws ds F P ρ0 Fs0 H0 ρ3 Fs2 H2 := by
  have na : ∀ a ∈ Dd :: F, ¬ All ρ1 Fs1 a := fun a m h => by
    rcases b.all h with z | z
    · exact (c.out a m).1 z
    · exact (c.out a m).2.2 (gp a z)
  have kp : Kp H H2 (Dd :: F) := fun a u e q => st.kp fr1 (fun a m h => na a m h.all) a u (sm a u e) q
  refine ⟨kp _ _ c.at_ (.inl List.mem_cons_self), c.keys, c.ndk, c.rep.keep (kp.mono fun a m => List.mem_cons_of_mem _ m), c.nd, fun a m => ⟨fun ⟨j, s, h1, h3⟩ => ?_, (c.out a m).2⟩⟩
  rcases st.all a ⟨j, s, cl j s h1, h3⟩ with z | z
  · exact na a m z
  · exact c.trk m (none_same sm z)
theorem tE_dc {own : List Nat} {k : ItK} {its : List E} {tg : Tg} {cond : List E} {key val : E} (h : tE K C (.dc own k its tg cond key val) σ H Q) : tDc (tI K C k its) (gT K tg) (tBT K C true cond) (tV K C key) (tV K C val) own σ H Q := by
  obtain ⟨ρ, Fs, fr, x, ρe, h, kk⟩ := h
  simp only [ev, if_neg Bool.false_ne_true, Option.bind_eq_some_iff] at h
  obtain ⟨⟨xs, ρ1⟩, h1, it, h2, ls, h3, h⟩ := h
  split at h
  rotate_left
  · cases h
  rename_i cnd
  obtain ⟨⟨pu, tgo⟩, hz⟩ := cnd
  simp only [Option.bind_eq_some_iff] at h
  obtain ⟨⟨fin, ρend⟩, h4, h⟩ := h
  simp only [Option.some.injEq, Prod.mk.injEq] at h
  obtain ⟨rfl, rfl⟩ := h
  refine ⟨ρ, Fs, fr, xs, ρ1, it, ls, h1, h2, h3, fun J H1 Fs1 P G f1 st iok li0 lp Dd hD => ?_⟩
  have ow : ∀ i ∈ owned ls ρ1, ownAt ρ1 i = true := fun i hi => owned_own hi
  have tgo : ∀ i ∈ tg.slots, i ∈ own := fun i m => by
    have := List.all_eq_true.mp tgo i m
    simpa using this
  have puL : ∀ i ∈ own, ∀ s, (lock (owned ls ρ1) ρ1)[i]? = some (some s) → s.d.mut = false := fun i m s e => by
    obtain ⟨t, e1, e2, _⟩ := lock_slot e
    have := List.all_eq_true.mp pu i m
    unfold pureAt at this
    simp only [e1] at this
    rw [e2]
    simpa using this
  generalize hT : (fun x ρ => (bindT [] (itemF it.1) tg x ρ).bind fun ρ => (evB C true true cond ρ).bind fun c => (boolD c.1).bind fun b =>
            if b = true then (ev C false key c.2).bind fun kx => (D.key kx.1.d).bind fun kk => (ev C false val kx.2).bind fun y => if y.1.f = .own then some (some (kk, y.1.d), wipeR y.2 own) else none else some (none, wipeR c.2 own)) = turn at h4
  have smD : Same H1 (upd H1 Dd (.dK [])) := same_upd hD
  have li1 : LI K it.1 G P ρ Fs H σ (lock (owned ls ρ1) ρ1) Fs1 H1 (wipe σ own) (wipeR (lock (owned ls ρ1) ρ1) own) Fs1 (upd H1 Dd (.dK [])) :=
    (li0.wipe own).heap (T := fun _ => False) (fun a u e _ => smD a u e) (fun _ z => z.elim) (fun _ z => z.elim) (fun _ z => z.elim) fun _ _ z => z.elim
  have ac1 : AcD K Dd [] [] [] P ρ Fs H (wipeR (lock (owned ls ρ1) ρ1) own) Fs1 (upd H1 Dd (.dK [])) := by
    refine ⟨upd_same, rfl, .nil, .nil, by simp, fun a m => ?_⟩
    have e : a = Dd := by simpa using m
    subst e
    exact ⟨fun ⟨j, s, z1, z2⟩ => li0.fr.all_trk ⟨j, s, (wipeR_at z1).1, z2⟩ hD, li0.back hD, fun z => li0.tr _ z hD⟩
  let W : Nat → Nat → Hp → Prop := fun i m H' => m = it.2.length - i ∧ i ≤ it.2.length ∧ ∃ ρ' Fs' ws acc F, LI K it.1 G P ρ Fs H σ (lock (owned ls ρ1) ρ1) Fs1 H1 (wipe σ own) ρ' Fs' H' ∧ (∀ j ∈ own, ∀ s, ρ'[j]? ≠ some (some s)) ∧
    AcD K Dd ws acc F P ρ Fs H ρ' Fs' H' ∧ ws.length ≤ i ∧ dcLoop turn (it.2.drop i) acc ρ' = some (fin, ρend)
  refine ⟨W, ⟨it.2.length, rfl, Nat.zero_le _, _, Fs1, [], [], [], li1, fun j m s e => (wipeR_at e).2 m, ac1, Nat.le_refl _, by simpa using h4⟩, ?_⟩
  rintro i m H' ⟨rfl, hi, ρ', Fs', ws, acc, F, li, nw, ac, wl, hl⟩
  by_cases hlt : i < it.2.length
  · have hd : it.2[i]? = some it.2[i] := by simp [hlt]
    rw [List.drop_eq_getElem_cons hlt] at hl
    simp only [dcLoop, Option.bind_eq_some_iff] at hl
    obtain ⟨⟨r1, ρn⟩, b1, b2⟩ := hl
    subst hT
    simp only [Option.bind_eq_some_iff] at b1
    obtain ⟨ρb, b5, ⟨cx, ρc⟩, b6, b, b7, b8⟩ := b1
    obtain ⟨go, yl⟩ := iok.go H' li.kp i _ hd
    refine .inr ⟨go, W (i + 1) (it.2.length - (i + 1)), fun H2 w => ⟨it.2.length - (i + 1), by omega, w⟩, fun x H2 y => ?_⟩
    obtain ⟨sm, Fx, rx, sub⟩ := yl x H2 y
    obtain ⟨σb, Fsb, fb, bd, np, sb, gq⟩ := bind_tg (li.fr.same sm) li.gp rx sub b5
    have hw : wipe σb own = wipe σ own := by
      have hl : σb.length = (wipe σ own).length := by rw [fb.len, bd.len, li.fr.len]
      have := wipe_eq (is := own) hl fun j nj => sb j fun z => nj (tgo j z)
      rw [this]
      refine List.ext_getElem? fun j => ?_
      by_cases m : j ∈ own
      · by_cases l : j < σ.length
        · rw [wipe_in m l, wipe_in m (by rw [wipe_length]; exact l)]
        · rw [List.getElem?_eq_none (by rw [wipe_length, wipe_length]; omega), List.getElem?_eq_none (by rw [wipe_length]; omega)]
      · rw [wipe_out m]
    refine gq _ ⟨hw, ρb, Fsb, fb, cx, b, ρc, b6, boolD_bl b7, fun H3 Fsc fc stc _ => ?_⟩
    have next : ∀ {ρz : Rho} {Hz : Hp} {Fsz : Nat → List Addr}, FR K Hz σb ρz Fsz → Stp ρb Fsb H2 ρz Fsz Hz → LI K it.1 G P ρ Fs H σ (lock (owned ls ρ1) ρ1) Fs1 H1 (wipe σ own) (wipeR ρz own) Fsz Hz ∧ AcD K Dd ws acc F P ρ Fs H (wipeR ρz own) Fsz Hz :=
      fun {ρz Hz Fsz} fz sz => ⟨by
        have l2 := li.turn (σ2 := wipe σ own) (ρ3 := wipeR ρz own) sm bd fb sz (fz.wipe hw) sb (fun j s e eb => ?_) fun j s e => ⟨(wipeR_at e).1, fun m => absurd (tgo j m) (wipeR_at e).2⟩
        · exact l2
        · rw [← hw, wipe_out (wipeR_at e).2],
        ac.turn li.sub sm bd fb sz fun j s e => (wipeR_at e).1⟩
    cases b with
    | false =>
      simp only [Bool.false_eq_true, if_false, Option.some.injEq, Prod.mk.injEq] at b8 ⊢
      obtain ⟨rfl, rfl⟩ := b8
      obtain ⟨l2, a2⟩ := next fc stc
      exact ⟨rfl, hlt, _, Fsc, ws, acc, F, l2, fun j m s e => (wipeR_at e).2 m, a2, by omega, b2⟩
    | true =>
      simp only [if_true, Option.bind_eq_some_iff] at b8 ⊢
      obtain ⟨⟨kx, ρk⟩, b9, key', bk, ⟨y, ρy⟩, b10, b11⟩ := b8
      split at b11
      rotate_left
      · cases b11
      rename_i yo
      simp only [Option.some.injEq, Prod.mk.injEq] at b11
      obtain ⟨rfl, rfl⟩ := b11
      refine tE_tV ⟨ρc, Fsc, fc, kx, ρk, b9, fun kv H4 Fsk Fk ak => ?_⟩
      have ek : kv = kV key' := key_v ak.tm.rep bk
      refine tE_tV ⟨ρk, Fsk, ak.fr, y, ρy, b10, fun v H5 Fsy Fy a => ?_⟩
      have sty := (stc.trans ak.st).trans a.st
      obtain ⟨l2, a2⟩ := next a.fr sty
      have ty := a.tm.from (stc.trans ak.st)
      refine ⟨ws, key', ek, a2.at_, by omega, ?_⟩
      have yo' : y.o = true := toO_iff.mpr yo
      have ry := ty.rep
      rw [yo'] at ry
      obtain ⟨ny, oy⟩ := ty.own yo
      have dFy : ∀ z ∈ Fy, z ∉ Dd :: F ∧ z ∉ P := fun z m => by
        rcases (oy z m).2 with q | q
        · exact ⟨fun m' => (ac.out z m').1 (bd.own q).all, fun m' => li.ap z m' (bd.own q)⟩
        · exact ⟨fun m' => ac.trk m' (none_same sm q), fun m' => li.pt m' (none_same sm q)⟩
      obtain ⟨G', g1, g2, g3, g4, g5⟩ := reps_put (key := key') (dv := y.d) a2.keys a2.ndk a2.rep ry
      obtain ⟨n1, n2⟩ := List.nodup_cons.mp a2.nd
      have nD : ∀ z, z ∈ G' → z ≠ Dd := fun z m e => by
        rcases g4 z m with m | m
        · exact n1 (e ▸ m)
        · exact (dFy z m).1 (by rw [e]; exact List.mem_cons_self)
      have outD := a2.out Dd List.mem_cons_self
      have kpD : ∀ X : List Addr, Dd ∉ X → Kp H5 (upd H5 Dd (.dK (putK ws key' v))) X := fun X n => upd_kp a2.at_ rfl n
      refine ⟨rfl, hlt, _, Fsy, putK ws key' v, putD acc key' y.d, G', l2.heap (T := fun a => a = Dd) (fun a u e n => by rw [upd_ne n]; exact e) (fun a e => by rw [e]; exact outD.2.1) (fun a e => by rw [e]; exact outD.1) (fun a e => by rw [e]; exact outD.2.2) (fun a u e1 e2 => by
          rw [e1, a2.at_] at e2; cases e2; rfl), fun j m s e => (wipeR_at e).2 m, ⟨upd_same, g2, g3, g1.keep (kpD _ fun m => nD Dd m rfl), ?_, fun z m => ?_⟩, by have := length_putK ws key' v; omega, b2⟩
      · rw [List.nodup_cons]
        exact ⟨fun m => nD Dd m rfl, g5 n2 ny fun b m => fun m' => (dFy b m).1 (List.mem_cons_of_mem _ m')⟩
      · rcases List.mem_cons.mp m with m | m
        · rw [m]; exact outD
        · rcases g4 z m with m | m
          · exact a2.out z (List.mem_cons_of_mem _ m)
          · exact ⟨fun ⟨j, s, g1, g2⟩ => (oy z m).1 ⟨j, s, (wipeR_at g1).1, g2⟩, li.ow sm bd (oy z m).2, (dFy z m).2⟩
  · have e : i = it.2.length := by omega
    subst e
    rw [List.drop_length] at hl
    simp only [dcLoop, Option.some.injEq, Prod.mk.injEq] at hl
    obtain ⟨rfl, rfl⟩ := hl
    have l3 := li.rest li0.fr puL nw
    obtain ⟨z1, z2⟩ := l3.unlock f1 st ow lp
    refine .inl ⟨iok.stop H' li.kp _ (Nat.le_refl _), kk (.ref Dd) H' _ (Dd :: F) ⟨z1, z2, ?_, (fun z => nomatch z), (fun z => nomatch z)⟩⟩
    refine ⟨.dK (show At true H' Dd _ from ac.at_) ⟨ac.keys, ac.ndk⟩ ac.rep, fun _ => ⟨ac.nd, fun a m => ⟨fun ⟨j, s, g1, g2⟩ => ?_, (ac.out a m).2.1⟩⟩, (fun z => nomatch z), (fun z => nomatch z)⟩
    obtain ⟨t, g3, _⟩ := unlock_slot g1
    rcases restR_at g3 with ⟨y1, _⟩ | ⟨y1, y2⟩
    · simp only [if_pos y1] at g2; cases g2
    · simp only [if_neg y1] at g2
      exact (ac.out a m).1 ⟨j, t, y2, g2⟩
/-- .. over a dict -/
theorem tE_dcD {own : List Nat} {k : ItK} {i : Nat} {tg : Tg} {cond : List E} {key val : E} (hk : k.isD = true) (h : tE K C (.dc own k [.var i] tg cond key val) σ H Q) :
    tLockE (tDc (srcD k i) (gT K tg) (tBT K C true cond) (tV K C key) (tV K C val) own) σ H Q ∨ tDc (srcD k i) (gT K tg) (tBT K C true cond) (tV K C key) (tV K C val) own σ H Q := by
  obtain ⟨ρ, Fs, fr, x, ρe, h, kk⟩ := h
  have h0 := h
  simp only [ev, if_neg Bool.false_ne_true, Option.bind_eq_some_iff] at h
  obtain ⟨⟨xs, ρ1⟩, h1, it, h2, ls, h3, h⟩ := h
  split at h
  rotate_left
  · cases h
  rename_i cnd
  simp only [Option.bind_eq_some_iff] at h
  obtain ⟨⟨fin, ρend⟩, h4, h⟩ := h
  simp only [Option.some.injEq, Prod.mk.injEq] at h
  obtain ⟨rfl, rfl⟩ := h
  obtain ⟨rfl, s, kds, e, hd, el, eu, ls', g1, g2, g3⟩ := dict_src hk h1 h2 h3
  obtain ⟨a, kvs, hσ, l | ⟨hf, od, hH⟩⟩ := dict_lk fr e hd
  · refine .inl ⟨a, .dK kvs, l.at_, trivial, fun od => ?_⟩
    refine srcD_R (K := K) (C := C) hk hσ upd_same ?_
    refine tE_dc (Q := fun v H' => H' a = some (.frz od (.dK kvs)) ∧ Q v (upd H' a (.dK kvs))) ?_
    refine (⟨_, Fs, l.frL, ⟨.own, .dK fin⟩, restR (lock (owned [i] ρ1) ρ1) ρend own, ?_, fun v H' Fs' F af => ?_⟩)
    · simp only [ev, if_neg Bool.false_ne_true, g1, Option.bind_some, h2, g2, g3]
      have cn : (own.all (pureAt (lock (owned [i] ρ1) ρ1)) = true ∧ tg.slots.all (fun i => own.contains i) = true) ∧ it.2.length ≤ sizeLine := by
        refine ⟨⟨?_, cnd.1.2⟩, cnd.2⟩
        rw [List.all_eq_true]
        intro j hj
        have p := List.all_eq_true.mp cnd.1.1 j hj
        unfold pureAt at p ⊢
        split
        · rename_i t et
          obtain ⟨t', z1, z2, _⟩ := lock_slot et
          simp only [z1] at p
          rw [z2]; exact p
        · rfl
      rw [if_pos cn]
      show (dcLoop _ _ _ (wipeR (lock (owned [i] ρ1) ρ1) own)).bind _ = _
      rw [el] at h4
      rw [h4]
      rfl
    · obtain ⟨z1, z2, z3⟩ := l.back af.fr af.st fun _ _ _ _ => rfl
      have ee : unlock (owned [i] ρ1) (restR (lock (owned [i] ρ1) ρ1) ρend own) = unlock (owned ls ρ1) (restR (lock (owned ls ρ1) ρ1) ρend own) := by
        rw [eu, el]
      refine ⟨z1, kk v _ Fs' F ⟨?_, ?_, ?_, fun z => (nomatch z), fun z => (nomatch z)⟩⟩
      · rw [← ee]; exact z2
      · rw [← ee]; exact z3
      · rw [← ee]; exact l.tm af.st af.tm (fun z => nomatch z)
  · exact .inr (srcD_R (K := K) (C := C) hk hσ hH (tE_dc (show tE K C (.dc own k [.var i] tg cond key val) σ H Q from ⟨ρ1, Fs, fr, _, _, h0, kk⟩)))
end
/-- a dict comprehension into a name -/
theorem ps_setDc {X : Cx} {i : Nat} {y : Str} {py : Pos} {kx vx tg iter : Expr} {ifs : List Expr} {scope : Scope} {own : List (Str × Nat)} {pos spos : Pos} {wi : TI} {g : TG} {tt : TT} {tk tv : TE} (hc : X.calm = true) (hN : X.N.Nodup) (hy : X.N[i]? = some y) (hyl : X.env.scope.names.lookup y = some .local)
    (hsw : swapsWith (.DictComp kx vx [⟨tg, iter, ifs, 0⟩] scope pos) (some (.Name y py)) spos.line X.env = pure true) (hi : PI X tg iter wi) (ok : BlkOk X.N X.env.scope scope own)
    (hg : ∀ (s : Shared) (H : Hp) (C : Addr) (cl : List (Str × Addr)) (fp : List Addr), PG (X.blk s H scope (compEnvC scope cl C X.env) fp) tg g) (ht : ∀ (s : Shared) (H : Hp) (C : Addr) (cl : List (Str × Addr)) (fp : List Addr), PTs (X.blk s H scope (compEnvC scope cl C X.env) fp) ifs tt)
    (hk : ∀ (s : Shared) (H : Hp) (C : Addr) (cl : List (Str × Addr)) (fp : List Addr), PE (X.blk s H scope (compEnvC scope cl C X.env) fp) kx tk)
    (he : ∀ (s : Shared) (H : Hp) (C : Addr) (cl : List (Str × Addr)) (fp : List Addr), PE (X.blk s H scope (compEnvC scope cl C X.env) fp) vx tv) (hs : ∀ x, foldedSetIterable iter X.env x = pure x) :
    PS X (.Assign [.Name y py] (.DictComp kx vx [⟨tg, iter, ifs, 0⟩] scope pos) spos) (tAsg (tDc wi g tt tk tv (own.map (·.2))) (gName i)) := by
  refine ⟨fun pins s σ H D I h => ?_⟩
  rw [exec_Assign_Name_used _ _ _ _ hsw]
  refine wpAny_bind (wpAny_standAt (wpAny_bind ?_))
  show wpAny _ X.A (do let _ ← comprehension (.DictComp kx vx [⟨tg, iter, ifs, 0⟩] scope pos) scope X.env (firstIterPos [⟨tg, iter, ifs, 0⟩] pos) newDict false (eval iter X.env) (some (assign (.Name y py) X.env))) _ _ s
  have h : tDc wi g tt tk tv (own.map (·.2)) σ H (fun x H1 => gName i x σ H1 D.nx) := h
  refine wpAny_bind (thn (dc_core (Qf := fun _ s' => SP X pins D .next s') hc hN I hi ok hg ht hk he hs h fun L C s' m H' I' q hn f => ?_) fun _ s' hq => wpAny_pure (wpAny_pure hq))
  show wpAny _ _ (assign (.Name y py) X.env (.ref L)) _ _ _
  refine wpAny_assign_Name (store_ok2 (v := V.ref L) I' hN hy (.inl hyl) rfl (fun s2 I2 ⟨a, sb, ha⟩ => ?_) (.inr hyl))
  obtain ⟨f0, f1, f2, f3, f4, f5⟩ := f
  have haC : C ≠ a := by
    rcases ha with z | z
    · rw [z]; exact f1
    · exact fun e => f4 y a z e.symm
  refine ⟨m, hn.sameBut sb haC, fun h3 sb3 => ?_⟩
  exact ⟨_, H', I2.turned (t' := s2.toks) (fun b o hb e => (sb3.2 b hb).trans e) f0 f1 f3 f4 f5, q⟩
end B
/-! BNd: xs.index(e); dicts in hand that are walked; d.setdefault(k, []).append(v). -/
namespace B
open PySem PySem.Spec L2 PyProof.Rows
section
variable {K : PySem.W.Frag} {C : Ctx} {H H' H1 H2 H3 : Hp} {σ σ' σ1 σ2 : L2.St} {ρ ρ' ρ0 ρ1 ρ2 : Rho} {Fs Fs' Fs0 Fs1 Fs2 : Nat → List Addr} {Q : VK} {F G : List Addr} {o : Bool} {v : V} {d : D} {a : Addr} {Dn : Ends}
/-! ### index -/
theorem opD_ixof {xs : List FD} {r : FD} (h : opD .ixof xs = some r) : ∃ x y ys w ws j, xs = [x, y] ∧ x.d = .lst ys ∧ D.flat y.d = some w ∧ flats ys = some ws ∧ flatV w = true ∧ ws.all flatV = true ∧ (ws.findIdx? fun z => eqV z w) = some j ∧ r = ⟨.own, .int (j : Nat)⟩ := by
  match xs, h with
  | [x, y], h =>
    have h : (ixofD x.d y.d).map _ = some r := h
    simp only [Option.map_eq_some_iff] at h
    obtain ⟨d, e1, rfl⟩ := h
    unfold ixofD at e1
    split at e1
    · rename_i ys hy
      simp only [Option.bind_eq_some_iff] at e1
      obtain ⟨w, e2, ws, e3, e1⟩ := e1
      split at e1
      · rename_i c
        simp only [Option.map_eq_some_iff] at e1
        obtain ⟨j, e4, rfl⟩ := e1
        exact ⟨x, y, ys, w, ws, j, rfl, hy, e2, e3, c.1, c.2, e4, rfl⟩
      · cases e1
    · cases e1
  | [], h => cases h
  | [_], h => cases h
  | _ :: _ :: _ :: _, h => cases h
theorem find_at {α : Type} {p : α → Bool} : ∀ {l : List α} {j : Nat}, l.findIdx? p = some j → ∃ z, l[j]? = some z ∧ p z = true ∧ ∀ m z', m < j → l[m]? = some z' → p z' = false := fun {l j} h => by
  rw [List.findIdx?_eq_some_iff_getElem] at h
  obtain ⟨hj, h1, h2⟩ := h
  refine ⟨l[j], by simp [hj], h1, fun m z' hm e => ?_⟩
  obtain ⟨hl, rfl⟩ := List.getElem?_eq_some_iff.mp e
  have := h2 m hm
  simpa using this
theorem tE_ixof {i : Nat} {e : E} (qk : E.quiet e = true) (h : tE K C (.op .ixof [.var i, e]) σ H Q) : tBM K "list" (rIndex K) (tVar i) (tL K C [e]) σ H Q := by
  obtain ⟨a, hσ, sq⟩ : ∃ a, σ[i]? = some (some (.ref a)) ∧ ∃ ys, SqL K H a ys := by
    obtain ⟨ρ, Fs, fr, x, ρ', h, kk⟩ := h
    simp only [ev, Option.bind_eq_some_iff, Option.map_eq_some_iff, Prod.mk.injEq] at h
    obtain ⟨⟨xs, ρ1⟩, h1, r, h2, _⟩ := h
    obtain ⟨x, y, ys, w, ws, j, rfl, hx, _⟩ := opD_ixof h2
    obtain ⟨x', ys', e0, g1, _, _⟩ := evL_one (by simp only [E.quiet.E.quietL, E.quiet, qk, Bool.and_self]) h1
    simp only [evL, Option.bind_eq_some_iff, Option.some.injEq, Option.map_eq_some_iff, Prod.mk.injEq] at g1
    obtain ⟨_, _, _, rfl, y', hy, e1, _⟩ := g1
    cases e1
    cases e0
    obtain ⟨s, e, ex⟩ := readV_some hy
    obtain ⟨v, g2, r, _⟩ := fr.rep i s e
    rw [ex, nrm_d] at hx
    rw [hx] at r
    obtain ⟨a, vs, G1, rfl, r1, s1, _⟩ := rep_lst r
    exact ⟨a, g2, vs, .inl r1⟩
  refine ⟨_, hσ, .inl ⟨rfl, sq⟩, ?_⟩
  obtain ⟨v, e1, w⟩ := tL_cons (tE_opN (by rfl) h)
  rw [hσ] at e1; cases e1
  refine tL_mono (fun vs H1 ⟨ln, xs, Gs, r, A, e, k⟩ => ?_) (tL_len w)
  obtain ⟨x, y, ys, w, ws, j, rfl, hx, h3, h4, h5, h6, h7, rfl⟩ := opD_ixof e
  obtain ⟨v', w', F, G, ev, r1, r2, rfl⟩ := args2 A rfl
  simp only [List.cons.injEq] at ev
  obtain ⟨rfl, rfl⟩ := ev
  rw [hx] at r1
  obtain ⟨b, us, G1, eb, rd, s1, _⟩ := rep_lst r1
  cases eb
  have e2 := flats_v s1 h4
  have e3 := flat_v r2 h3
  subst e2 e3
  obtain ⟨z, z1, z2, z3⟩ := find_at h7
  exact ⟨a, us, w', j, z, rfl, rfl, .inl rd, h5, h6, z1, z2, z3, k _ _ [] (New.flat .int).op⟩

/-! ### a dict in hand, frozen for good -/
def tFz (t : TE) : TE := fun σ H Q => t σ H fun x H1 => ∃ a kvs, x = .ref a ∧ H1 a = some (.dK kvs) ∧ ∀ od, Q x (upd H1 a (.frz od (.dK kvs)))
theorem pe_fz {X : Cx} {e : Expr} {t : TE} (h : PE X e t) : PE X e (tFz t) := by
  refine ⟨fun pins s σ H Q I hw => ?_⟩
  refine thn (h.run pins s σ H _ I hw) fun v s1 ⟨x, H1, I1, r, a, kvs, ex, ha, q⟩ => ?_
  obtain ⟨od, I2⟩ := I1.lock ha True.intro
  exact ⟨x, _, I2, r, q od⟩
def ItK.isT : ItK → Bool
  | .keysT => true
  | .valsT => true
  | .itemsT => true
  | _ => false
def srcT (k : ItK) (t : TE) : TI := match k with
  | .valsT => iVals t
  | .itemsT => iItems t
  | _ => iKeys t
theorem lockVs_ow {e : E} {x : FD} {ls : List Nat} (h : lockVs [e] [x] = some ls) (hf : x.f = .own) : ls = [] := by
  simp only [lockVs, Option.bind_some, hf, if_neg (show ¬ Fl.own = Fl.bor by decide), Option.some.injEq] at h
  exact h.symm
theorem ItOk.gmono {J : It} {ds : List D} {P G G' : List Addr} {H0 : Hp} (h : ItOk K J ds P G H0) (q : ∀ a ∈ G, a ∈ G') : ItOk K J ds P G' H0 :=
  ⟨h.stop, fun H k i d e => ⟨(h.go H k i d e).1, fun x H' y => by
    obtain ⟨s, F, r, m⟩ := (h.go H k i d e).2 x H' y
    exact ⟨s, F, r, fun a ha => q a (m a ha)⟩⟩⟩
theorem tI_dictT {k : ItK} {e : E} {R : It → Hp → Prop} (hk : k.isT = true) (h : tI K C k [e] σ H R) : srcT k (tFz (tV K C e)) σ H R := by
  obtain ⟨ρ, Fs, fr, xs, ρ1, it, ls, h1, h2, h3, kk⟩ := h
  have go : ∀ (R' : V → Hp → Prop), (∀ vs H1 Fs1 Gs, AftL K σ (E.quiet.E.quietL [e]) ρ Fs H [e] xs ρ1 vs H1 Fs1 Gs → ∃ x, vs = [x] ∧ R' x H1) → tV K C e σ H R' := fun R' q => tL_one (K := K) (C := C) (e := e) ⟨ρ, Fs, fr, xs, ρ1, h1, fun vs H1 Fs1 Gs a => q vs H1 Fs1 Gs a⟩
  -- the state behind the freezing
  have base : ∀ {vs : List V} {H1 : Hp} {Fs1 : Nat → List Addr} {Gs : List (List Addr)} {x : FD} {kds : List (Key × D)}, AftL K σ (E.quiet.E.quietL [e]) ρ Fs H [e] xs ρ1 vs H1 Fs1 Gs → xs = [x] → x.f = .own → x.d = .dK kds →
      ∃ a kvs, vs = [.ref a] ∧ H1 a = some (.dK kvs) ∧ kvs.map (·.1) = kds.map (·.1) ∧ ∀ od, ∃ P G, (∀ b ∈ G, b ∈ P) ∧
        FR K (upd H1 a (.frz od (.dK kvs))) σ ρ1 Fs1 ∧ Stp ρ Fs H ρ1 Fs1 (upd H1 a (.frz od (.dK kvs))) ∧ Reps K (upd H1 a (.frz od (.dK kvs))) false G (kvs.map (·.2)) (kds.map (·.2)) ∧
          LI K .shr G P ρ Fs H σ (lock (owned [] ρ1) ρ1) Fs1 (upd H1 a (.frz od (.dK kvs))) σ (lock (owned [] ρ1) ρ1) Fs1 (upd H1 a (.frz od (.dK kvs))) := fun {vs H1 Fs1 Gs x kds} af ex hf hx => by
    subst ex
    obtain ⟨v, F, e1, r, e2⟩ := args1 af.args rfl
    subst e1 e2
    have t := af.tm 0 x v F rfl rfl rfl
    have xo : x.o = true := toO_iff.mpr hf
    rw [hx, xo] at r
    obtain ⟨a, ws, G, rfl, rd, e3, rs, e4, own⟩ := rep_dK r
    have ha : H1 a = some (.dK ws) := own.1 rfl
    have nd := (t.own hf).1
    rw [e4, List.nodup_cons] at nd
    refine ⟨a, ws, rfl, ha, e3, fun od => ?_⟩
    have rde := rde_frz (od := od) ha
    have na : ∀ b, b ≠ a → upd H1 a (.frz od (.dK ws)) b = H1 b := fun b hb => upd_ne hb
    have fr' : FR K (upd H1 a (.frz od (.dK ws))) σ ρ1 Fs1 := af.fr.rde rde fun b ob u hu => by
      rw [na b fun z => ?_]
      · exact hu
      · subst z
        exact ((t.own hf).2 b (by rw [e4]; exact List.mem_cons_self)).1 ob.all
    have st' : Stp ρ Fs H ρ1 Fs1 (upd H1 a (.frz od (.dK ws))) := ⟨(fun b u hu no => by
      rw [na b fun z => ?_]
      · exact af.st.keep b u hu no
      · subst z
        rcases ((t.own hf).2 b (by rw [e4]; exact List.mem_cons_self)).2 with q | q
        · exact no q
        · rw [q] at hu; cases hu), af.st.own, af.st.all, af.st.shr, af.st.lk⟩
    have rs' : Reps K (upd H1 a (.frz od (.dK ws))) false G (ws.map (·.2)) (kds.map (·.2)) := ((rde_all rde).2 rs (fun _ b m u hu => by
      rw [na b fun z => nd.1 (z ▸ m)]
      exact hu)).low
    have rep' : Rep K (upd H1 a (.frz od (.dK ws))) false (a :: G) (.ref a) (.dK kds) := .dK (by unfold At; exact .inr ⟨od, upd_same⟩) ⟨e3, own.2⟩ rs'
    have tm' : Tm K ρ Fs H ρ1 Fs1 (upd H1 a (.frz od (.dK ws))) ⟨.shr, .dK kds⟩ (.ref a) (a :: G) := ⟨rep', (fun z => nomatch z), (fun _ b m => by
      have q := (t.own hf).2 b (by rw [e4]; exact m)
      exact ⟨fun z => q.1 z.all, .of q.2⟩), (fun z => nomatch z)⟩
    have nv : ∀ (k i : Nat), [e][k]? = some (.var i) → False := fun k i he => by
      match k, he with
      | 0, he =>
        cases he
        obtain ⟨s, w, q1, q2, _⟩ := af.var 0 i rfl
        obtain ⟨s', q3, q4⟩ := readV_some q2
        have hm : s'.d.mut = true := by
          have : x.d.mut = true := by rw [hx]; rfl
          rw [q4, nrm_d] at this
          exact this
        rw [q4, nrm_mut hm] at hf
        revert hf
        cases s'.f <;> intro hf <;> cases hf
      | k + 1, he => simp at he
    have af' : AftL K σ false ρ Fs H [e] [⟨.shr, .dK kds⟩] ρ1 [.ref a] (upd H1 a (.frz od (.dK ws))) Fs1 [a :: G] := ⟨fr', st', rfl, rfl, rfl, (fun k x v G' hx hv hG => by
        match k, hx, hv, hG with
        | 0, hx, hv, hG => cases hx; cases hv; cases hG; exact tm'
        | k + 1, hx, _, _ => simp at hx),
      (fun j k x y G1 G2 hjk hx hy _ _ _ => by
        have h1 := (List.getElem?_eq_some_iff.mp hx).1
        have h2 := (List.getElem?_eq_some_iff.mp hy).1
        simp only [List.length_cons, List.length_nil] at h1 h2
        omega), (fun k i e' x G' he hr hx hb _ => by
        match k, hx with
        | 0, hx => cases hx; cases hb
        | k + 1, hx => simp at hx), (fun k i he => (nv k i he).elim), (fun z => nomatch z)⟩
    have hl' : lockVs [e] [⟨.shr, .dK kds⟩] = some [] := by
      simp only [lockVs, Option.bind_some, if_neg (show ¬ Fl.shr = Fl.bor by decide)]
    obtain ⟨g1, g2, g3⟩ := src_gp af' hl' (k := 0) rfl rfl
    have sub : ∀ b ∈ G, b ∈ a :: G := fun b m => List.mem_cons_of_mem _ m
    exact ⟨_, G, fun b m => by simp [m], fr', st', rs', src_li af' hl' ⟨fun b m => g1.ap b (sub b m), fun hf b m => g1.gb hf b (sub b m), fun hf b m => g1.gs hf b (sub b m)⟩ (fun hf b m => g2 hf b (sub b m)) (by intro b m; simp [m])⟩
  have no : ∀ {i : Nat}, i ∈ owned [] ρ1 → False := fun {i} m => by simp [owned] at m
  unfold itD at h2
  split at h2
  all_goals (try contradiction)
  all_goals (try (cases hk; done))
  · rename_i kds e0 q
    show iKeys (tFz (tV K C e)) σ H R
    split at h2
    · rename_i hf
      obtain ⟨x, rfl, hx⟩ := map_one q
      simp only [List.head?_cons, Option.map_some, Option.some.injEq] at hf h2
      subst h2
      have := lockVs_ow h3 hf
      subst this
      refine go (fun x H1 => _) fun vs H1 Fs1 Gs af => ?_
      obtain ⟨a, kvs, rfl, ha, e2, bs⟩ := base af rfl hf hx
      refine ⟨_, rfl, a, kvs, rfl, ha, fun od => ?_⟩
      obtain ⟨P, G, sub, f', s', rs', li⟩ := bs od
      exact ⟨a, od, rfl, .inl ⟨kvs, upd_same, kk _ _ Fs1 P G f' s' ((ItOk.keys (F := P) upd_same e2).gmono (fun b m => by cases m)) li fun i m => (no m).elim⟩⟩
    · cases h2
  · rename_i kds e0 q
    show iVals (tFz (tV K C e)) σ H R
    split at h2
    · rename_i hf
      obtain ⟨x, rfl, hx⟩ := map_one q
      simp only [List.head?_cons, Option.map_some, Option.some.injEq] at hf h2
      subst h2
      have := lockVs_ow h3 hf
      subst this
      refine go (fun x H1 => _) fun vs H1 Fs1 Gs af => ?_
      obtain ⟨a, kvs, rfl, ha, e2, bs⟩ := base af rfl hf hx
      refine ⟨_, rfl, a, kvs, rfl, ha, fun od => ?_⟩
      obtain ⟨P, G, sub, f', s', rs', li⟩ := bs od
      exact ⟨a, od, kvs, rfl, upd_same, kk _ _ Fs1 P G f' s' ((ItOk.vals upd_same e2 rs').mono sub) li fun i m => (no m).elim⟩
    · cases h2
  · rename_i kds e0 q
    show iItems (tFz (tV K C e)) σ H R
    split at h2
    · rename_i hf
      obtain ⟨x, rfl, hx⟩ := map_one q
      simp only [List.head?_cons, Option.map_some, Option.some.injEq] at hf h2
      subst h2
      have := lockVs_ow h3 hf
      subst this
      refine go (fun x H1 => _) fun vs H1 Fs1 Gs af => ?_
      obtain ⟨a, kvs, rfl, ha, e2, bs⟩ := base af rfl hf hx
      refine ⟨_, rfl, a, kvs, rfl, ha, fun od => ?_⟩
      obtain ⟨P, G, sub, f', s', rs', li⟩ := bs od
      exact ⟨a, od, kvs, rfl, upd_same, kk _ _ Fs1 P G f' s' ((ItOk.items upd_same e2 rs').mono sub) li fun i m => (no m).elim⟩
    · cases h2

/-! ### d.setdefault(k, []).append(v) -/
theorem kD_key {k : Key} : D.key (kD k) = some k := by cases k <;> rfl
theorem sdf_get {kvs : List (Key × D)} {k : Key} {c : D} (h : lookD kvs k = some c) : sdfD kvs k = kvs := by unfold sdfD; rw [h]
theorem tS_sda {root : Nat} {k v : E} (h : tS K C (.sda root k v) Dn σ H) : tDrop (tBM K "list" (rMu K .append) (tDSetd (tVar root) (tV K C k) (tLst tNil)) (tL K C [v])) Dn σ H := by
  obtain ⟨ρ, Fs, fr, fl, h, c⟩ := h
  simp only [evS] at h
  split at h
  rotate_left
  · cases h
  rename_i cnd
  obtain ⟨qk, qv⟩ := cnd
  simp only [Option.bind_eq_some_iff] at h
  obtain ⟨⟨rk, ρk⟩, hk, key, hkey, h⟩ := h
  have ek := quiet_ev k false ρ rk ρk qk hk
  subst ek
  split at h
  rotate_left
  · cases h
  rename_i s hs
  split at h
  rotate_left
  · cases h
  rename_i kvs hd
  split at h
  rotate_left
  · cases h
  rename_i cn
  obtain ⟨so, hlen⟩ := cn
  simp only [Option.bind_eq_some_iff, Option.map_eq_some_iff] at h
  obtain ⟨⟨xs, ρv⟩, hv, ⟨x, ρ3⟩, hm, rfl⟩ := h
  have ev1 := quiet_evL [v] _ xs ρv (by simp only [E.quiet.E.quietL, qv, Bool.and_self]) hv
  subst ev1
  have hs' : s = ⟨.own, .dK kvs⟩ := by
    obtain ⟨f, d⟩ := s
    simp only at so hd
    subst so hd; rfl
  subst hs'
  obtain ⟨v0, hv0, rep0, nd0⟩ := fr.rep root _ hs
  have rep0 : Rep K H true (Fs root) v0 (.dK kvs) := rep0
  obtain ⟨a, ws, G, rfl, rd, e2, rs, eG, own⟩ := rep_dK rep0
  have ha := own.1 rfl
  have hl : root < ρk.length := (List.getElem?_eq_some_iff.mp hs).1
  have es1 : (ρk.set root (some ⟨.own, .dK (sdfD kvs key)⟩))[root]? = some (some ⟨.own, .dK (sdfD kvs key)⟩) := List.getElem?_set_self hl
  -- the list at the key behind
  obtain ⟨ds, hds⟩ : ∃ ds, getP [kD key] (.dK (sdfD kvs key)) = some (.lst ds) := by
    have h2 := hm
    unfold mutR at h2
    rw [es1] at h2
    simp only at h2
    split at h2
    · simp only [Option.map_eq_some_iff] at h2
      obtain ⟨⟨d', r⟩, h3, _⟩ := h2
      simp only [List.map_cons, List.map_nil, modP, kD_key, Option.bind_some, Option.bind_eq_some_iff, Option.map_eq_some_iff] at h3
      obtain ⟨c0, h4, ⟨c1, r1⟩, h5, _⟩ := h3
      refine ⟨?_, ?_⟩
      · exact (match c0 with
          | .lst ds => ds
          | _ => [])
      · simp only [getP, stepD, kD_key, Option.bind_some, h4]
        unfold muD at h5
        split at h5
        all_goals first | rfl | (cases h5; done) | skip
        all_goals simp_all
    · cases h2
  have fin : ∀ {H4 : Hp} {Fs4 : Nat → List Addr} {w : V}, FR K H4 σ (ρk.set root (some ⟨.own, .dK (sdfD kvs key)⟩)) Fs4 → Stp ρk Fs H (ρk.set root (some ⟨.own, .dK (sdfD kvs key)⟩)) Fs4 H4 → leadV H4 [kD key] (.ref a) = some w →
      tyV K "list" w H4 ∧ tL K C [v] σ H4 fun vs H5 => rMu K .append w vs H5 fun _ H6 => Dn.nx σ H6 := fun {H4 Fs4 w} f4 st4 lw => by
    obtain ⟨v1, hv1, rep1, _⟩ := f4.rep root _ es1
    rw [hv0] at hv1
    cases hv1
    have rep1 : Rep K H4 true (Fs4 root) (.ref a) (.dK (sdfD kvs key)) := rep1
    obtain ⟨w', G', l1, rw', _⟩ := lead_rep _ rep1 hds
    rw [lw] at l1
    cases l1
    obtain ⟨b, us, _, rfl, rdl, _⟩ := rep_lst rw'
    refine ⟨.inl ⟨rfl, us, .inl rdl⟩, ?_⟩
    refine ⟨_, Fs4, f4, xs, _, hv, fun vs H5 Fs5 Gs af => ?_⟩
    obtain ⟨sm, _, e5⟩ := af.qt (by simp only [E.quiet.E.quietL, qv, Bool.and_self])
    subst e5
    have st5 := st4.trans af.st
    refine (mut_end (rp := [⟨.own, kD key⟩]) (v := .ref b) af.fr st5 af.lv af.lg af.args (fun k x G z1 z2 z3 b' m => ?_) hm hv0 (fun s' g1 g2 c0 g3 => ?_) fun v' H' Fs' F w => c σ H' Fs' w.fr w.st .refl).1
    · have hk : k < vs.length := by rw [af.lv]; exact (List.getElem?_eq_some_iff.mp z1).1
      have t := ((af.tm k x vs[k] G z1 (by simp [hk]) z2).own z3).2 b' m
      refine ⟨t.1, ?_⟩
      rcases t.2 with z | z
      · exact st4.own b' z
      · exact st4.back z
    · show leadV H5 [kD key] (.ref a) = _
      rw [← lead_kp (H1 := H4) (H2 := H5) (F := Fs5 root) _ rep1 hds (same_kp sm)]
      exact lw
  refine ⟨.ref a, hv0, a, rfl, .inl ⟨ws, rd⟩, ?_⟩
  refine tE_tV ⟨ρk, Fs, fr, rk, ρk, hk, fun kv H2 Fs2 Fk b => ?_⟩
  obtain ⟨sm2, _, e3⟩ := b.qt qk
  subst e3
  refine ⟨by simp, fun p hp => ?_⟩
  have fr3 : FR K (upd H2 p (.lst [])) σ ρk Fs2 := (fr.same sm2).same (same_upd hp)
  have st3 : Stp ρk Fs2 H ρk Fs2 (upd H2 p (.lst [])) := (Stp.same (ρ := ρk) (Fs := Fs2) sm2).trans (.same (same_upd hp))
  have ha2 : H2 a = some (.dK ws) := sm2 _ _ ha
  have pa : a ≠ p := fun z => by rw [z, hp] at ha2; cases ha2
  have ha3 : upd H2 p (.lst []) a = some (.dK ws) := by rw [upd_ne pa]; exact ha2
  have lw : ws.length = kvs.length := by simpa using congrArg List.length e2
  refine ⟨ws, key, ha3, key_v b.tm.rep hkey, by omega, fun w hw => ?_, fun hw => ?_⟩
  · obtain ⟨c0, hc0⟩ : ∃ c0, lookD kvs key = some c0 := by
      have := lookD_map e2 key
      rw [hw] at this
      cases q : lookD kvs key with
      | none => rw [q] at this; cases this
      | some c0 => exact ⟨c0, rfl⟩
    have es : ρk.set root (some ⟨.own, .dK (sdfD kvs key)⟩) = ρk := by
      rw [sdf_get hc0]
      apply List.ext_getElem?
      intro j
      by_cases e : root = j
      · subst e; rw [List.getElem?_set_self hl, hs]
      · rw [List.getElem?_set_ne e]
    refine fin (Fs4 := Fs2) (by rw [es]; exact fr3) (by rw [es]; exact st3) ?_
    simp only [leadV, stepV, ha3, kD_key, Option.bind_some, hw]
  · have hn : lookD kvs key = none := by
      have := lookD_map e2 key
      rw [hw] at this
      cases q : lookD kvs key with
      | none => rfl
      | some c0 => rw [q] at this; cases this
    have esd : sdfD kvs key = putD kvs key (.lst []) := by unfold sdfD; rw [hn]
    have rp : Rep K (upd H2 p (.lst [])) true [p] (.ref p) (.lst []) := .lst (by unfold At; rw [if_pos rfl]; exact upd_same) .nil
    have np : ∀ b ∈ [p], ¬ All ρk Fs2 b := fun b m z => by
      rw [List.mem_singleton.mp m] at z
      exact (fr.same sm2).all_trk z hp
    obtain ⟨c1, c', w, Gc, g1, g2, g3, rc, nd, sub, go⟩ := chg_frame (g := setD (kD key) (.lst [])) (ks := []) (T := fun b => b ∈ [p]) (d' := .dK (putD kvs key (.lst []))) (r := ()) fr3 hs rfl hv0 (by
      simp only [modP, setD, kD_key, Option.bind_some, hlen, if_true]) np
    simp only [getP, Option.some.injEq] at g1
    subst g1
    simp only [leadV, Option.some.injEq] at g3
    subst g3
    have key2 := setS (Q := fun H4 => ∃ Fs4, FR K H4 σ (ρk.set root (some ⟨.own, .dK (putD kvs key (.lst []))⟩)) Fs4 ∧ Stp ρk Fs2 H (ρk.set root (some ⟨.own, .dK (putD kvs key (.lst []))⟩)) Fs4 H4) rc nd (rep_kV (K := K) (H := upd H2 p (.lst [])) (o := false) (k := key)) rp (by simp) (fun b m m' => np b m ⟨root, _, hs, sub b m'⟩) g2 fun H4 G' ch => by
        obtain ⟨Fs4, f4, _, s4⟩ := go H4 G' ch
        have : c' = .dK (putD kvs key (.lst [])) := by
          have q : setD (kD key) (.lst []) (.dK kvs) = some (.dK (putD kvs key (.lst [])), ()) := by simp only [setD, kD_key, Option.bind_some, hlen, if_true]
          rw [q] at g2
          cases g2; rfl
        exact ⟨Fs4, f4, s4 st3 fun b m => .inr (by
          rw [List.mem_singleton.mp m]
          cases q : H p with
          | none => rfl
          | some u => rw [sm2 _ _ q] at hp; cases hp)⟩
    rcases key2 with ⟨b', ys, i, j, z1, z2, z3, z4⟩ | ⟨b', H4, z1, z2, z3⟩
    · cases z1
      rw [ha3] at z3
      cases z3
    · cases z1
      have e4 : H4 = upd (upd H2 p (.lst [])) a (.dK (putK ws key (.ref p))) := by
        have kk : ∀ {k k' : Key}, kV k = kV k' → k = k' := fun {k k'} e => by
          cases k <;> cases k' <;> simp [kV] at e <;> subst e <;> rfl
        rcases z2 with ⟨ws', k', q1, q2, _, q3⟩ | ⟨ws', k', b', q1, _⟩
        · rw [ha3] at q1
          cases q1
          rw [q3, ← kk q2]
        · rw [ha3] at q1
          cases q1
      subst e4
      obtain ⟨Fs4, f4, s4⟩ := z3
      refine fin (Fs4 := Fs4) (by rw [esd]; exact f4) (by rw [esd]; exact s4) ?_
      simp only [leadV, stepV, upd_same, kD_key, Option.bind_some, valV_put, if_true]
end
end B
/-! BNe: what a def promises where it may be known that nothing is being shown (g). -/
namespace B
open PySem PySem.Spec L2 PyProof.Rows
section
variable {P : Program} {w : World} {K : PySem.W.Frag} {mg : Str → Option Value} {base : Heap} {CX : CXT}
/-- one call of a def by its body, at one place -/
theorem callG {qual : Str} {params : Arguments} {body : List Stmt} {scope : Scope} {f : Addr} {fd : FuncData} {N ps : List Str} {k : Nat} {A : Around} {outer : List Env} {s : Shared} {H : Hp} {args : Args} {us : List Value} {vs : List V} {Q : VK} {E : XK}
    (F : FunD K qual qual params body scope [] [] f fd) (S : FnScope N ps scope) (hr : Room (k + 1) A) (e0 : Env0 P w K mg base A outer s H)
    (hb : BindsTo s fd args (ps.zip us)) (rv : Vals vs us) (hl : vs.length = ps.length)
    (hbody : ∀ cdv, Room k (A.deeper (envOfC qual scope s.heap.objs.size f cdv)) →
      ∃ t, PSs (cxOf CX P w K mg base N qual scope f cdv A outer s H E) body t ∧ t { nx := fun _ H1 => Q .non H1, rt := Q } (start N vs) H) :
    codeAny (model P w) A (.call (.ref f) args) (CR CX outer P w H s Q E) s := by
  obtain ⟨oc, od, dV, kV, doc, pm, an, cdv, ct, osl, rfl, lk, hcd, _, _⟩ := F.ex
  have kin : K.In s.heap := e0.mod.kin.keeps fun b o q => (e0.bs b o q).1
  have nol : s.heap.NoLimit := e0.mod.nolimit.keeps fun b o q => (e0.bs b o q).1
  have pk : ∀ y ∈ ps.zip us, scope.names.lookup y.1 = some .local ∨ (scope.names.lookup y.1 = some .cell ∧ ((cellsFrom (s.heap.objs.size + 1) scope.names []).lookup y.1).isSome = true) := by
    rintro ⟨z, u⟩ m
    exact (S.par z (List.of_mem_zip m).1).imp id fun q => ⟨q, PySem.W.cellsFrom_some _ _ _ (.inl q)⟩
  obtain ⟨t, ht, hq⟩ := hbody cdv (hr.deeper _)
  refine codeAny_call_function hr.depth (kin _ _ lk) rfl S.co S.gen rfl (PySem.W.codeRec_of kin hcd)
    (hb _ _ _ _ (wpAny_newFunctionEnv_cells S.kind pk fun env q s1 x => ?_))
  cases q
  refine ⟨nol.keeps x.toInCall.keep, codeAny_func ?_⟩
  refine wpAny_mono (ht.run [] s1 (start N vs) H _ (inv_start S hr.hd e0 hl rv x) hq) ?_ fun e s2 z => z
  intro fl s2 z
  have out : ∀ {σ : L2.St} {H1 : Hp} {v : V} {u : Value}, Inv (cxOf CX P w K mg base N qual scope f cdv A outer s H E) [] σ H1 s2 → RelV v u → Q v H1 → CE outer P w H s Q u s2 := by
    intro σ H1 v u J a b
    exact ⟨v, H1, J.os, J.bare, J.base, J.hok, a, b⟩
  rcases fl with _ | _ | _ | u
  · obtain ⟨σ, H1, J, q⟩ := z
    exact out (v := V.non) (u := Value.none) J rfl q
  · exact z.elim fun _ ⟨_, _, q⟩ => q.elim
  · exact z.elim fun _ ⟨_, _, q⟩ => q.elim
  · obtain ⟨v, σ, H1, J, a, b⟩ := z
    exact out J a b
/-- a def's promise under the knowledge g -/
structure FnX (g : Bool) (P : Program) (w : World) (K : PySem.W.Frag) (mg : Str → Option Value) (base : Heap) (CX : CXT) (k : Nat) (f : Addr) (fd : FuncData) (ps : List Str) (sp : Sp) : Prop where
  len : ∀ vs H Q E, sp vs H Q E → vs.length = ps.length
  run : ∀ (A : Around) (outer : List Env) (s : Shared) (H : Hp) (args : Args) (us : List Value) (vs : List V) (Q : VK) (E : XK),
    (g = true → A.guards = some []) → Room k A → Env0 P w K mg base A outer s H → BindsTo s fd args (ps.zip us) → Vals vs us → sp vs H Q E →
      codeAny (model P w) A (.call (.ref f) args) (CR CX outer P w H s Q E) s
end
section
variable {X : Cx} {CX : CXT} {k : Nat} {gf : Bool} {f : Addr} {fd : FuncData} {ps : List Str} {sp : Sp} {E : XK} {x : Str} {p pos : Pos} {e : Expr} {es : List Expr} {t : TA}
theorem goX {pins : List (Addr × Obj)} {σ : L2.St} {H : Hp} {s : Shared} {Q : VK} {us : List Value} {vs : List V} (F : FnX gf X.prog X.w X.K X.mg X.base CX k f fd ps sp) (hgf : gf = true → X.A.guards = some []) (hr : Room k X.A)
    (hb : Binds X.K fd ps []) (hx : Passes CX X E) (I : Inv X pins σ H s) (rv : Vals vs us) (h : sp vs H Q E) : wpAny (model X.prog X.w) X.A (call (.ref f) us) (EP X pins σ Q) X.xe s := by
  have hl : us.length = ps.length := by rw [← rv.length, F.len _ _ _ _ h]
  have bind := hb s us I.kIn (by rw [List.append_nil]; exact hl)
  rw [List.append_nil] at bind
  refine wpAny_call (codeAny_mono (F.run X.A X.stack s H ⟨us, []⟩ us vs Q E hgf hr I.env0 bind rv h) ?_)
  rintro (q | fl) s2 z
  · exact hx pins σ H s q s2 I z
  · rcases fl with _ | _ | _ | u
    · exact False.elim z
    · exact False.elim z
    · exact False.elim z
    · exact I.after z
theorem pe_callX (F : FnX gf X.prog X.w X.K X.mg X.base CX k f fd ps sp) (hgf : gf = true → X.A.guards = some []) (hr : Room k X.A) (hg : Gl X x) (hm : X.mg x = some (.ref f)) (hk : PySem.W.keepIn X.K (.ref f) = true)
    (hb : Binds X.K fd ps []) (hx : Passes CX X E) (ha : PA X (e :: es) t) (hdb : (x == ("__debug__" : Str)) = false) (he : starEach (e :: es) X.env = (false, eval e X.env) :: starEach es X.env)
    (hpl : (backTo pos (starEach es X.env)).any (·.1) = false) : PE X (.Call (.Name x p) (e :: es) [] pos) (tCall sp [] E t) := by
  constructor
  intro pins s σ H Q I h
  refine wpAny_Call_Name_kw (ld_glob I hg hm (PySem.W.callWith_K (h₀ := X.base) I.ok.mod.kin hk (thn (ha.run pos pins s σ H _ I h) ?_) he hpl) hdb)
  rintro us s1 ⟨vs, H1, I1, r, q⟩
  rw [List.append_nil] at q
  exact ⟨I1.kIn, goX F hgf hr hb hx I1 r q⟩
theorem pe_callX0 (F : FnX gf X.prog X.w X.K X.mg X.base CX k f fd ps sp) (hgf : gf = true → X.A.guards = some []) (hr : Room k X.A) (hg : Gl X x) (hm : X.mg x = some (.ref f)) (hk : PySem.W.keepIn X.K (.ref f) = true)
    (hb : Binds X.K fd ps []) (hx : Passes CX X E) (hdb : (x == ("__debug__" : Str)) = false) : PE X (.Call (.Name x p) [] [] pos) (tCall sp [] E tNil) := by
  constructor
  intro pins s σ H Q I h
  refine wpAny_Call_Name_kw (ld_glob I hg hm (PySem.W.callWith_K0 I.kIn hk (goX (us := []) (vs := []) F hgf hr hb hx I .nil ?_)) hdb)
  exact h
end
end B
/-! BO: does an expression of the text do what E says. -/
namespace B
open PySem PySem.Spec L2 PyProof.Rows

structure Tb where
  /-- a def's name, its place, its arity -/
  fns : List (Str × Nat × Nat)
  gls : List (Str × Nat)
  nos : List Str
  gds : List (Str × Nat) := []
structure Sx where
  T : Tb
  N : List Str
  sc : Scope
  fn : Str → Bool
def Sx.blk (s : Sx) (scope : Scope) : Sx := { s with sc := relS scope s.sc, fn := fun x => scope.names.lookup x == some .cell }
def nameOk (y : Str) : Bool := !(y == ("__debug__" : Str)) && !(y == ("__classdict__" : Str)) && !(y == ("__name__" : Str))
def visK : Option NameKind → Bool
  | some .local => true
  | some .cell => true
  | some .free => true
  | _ => false
def Sx.vis (s : Sx) (i : Nat) : Expr → Bool
  | .Name y _ => decide (s.N[i]? = some y) && (nameOk y && visK (s.sc.names.lookup y))
  | _ => false
def stoK (f : Bool) : Option NameKind → Bool
  | some .local => true
  | some .cell => f
  | _ => false
def Sx.sto (s : Sx) (i : Nat) : Expr → Bool
  | .Name y _ => decide (s.N[i]? = some y) && stoK (s.fn y) (s.sc.names.lookup y)
  | _ => false
def Sx.gl (s : Sx) (y : Str) : Bool := decide (s.sc.names.lookup y = some .globalImplicit) && nameOk y
def Bi.name : Bi → Str
  | .len => "len" | .abs => "abs" | .int => "int" | .max2 => "max" | .min2 => "min" | .list => "list" | .tuple => "tuple" | .sum => "sum" | .sorted => "sorted" | .str => "str" | .max1 => "max" | .min1 => "min" | .maxD => "max" | .minD => "min" | .all => "all" | .any => "any"
  | .isT _ => "isinstance" | .repr => "repr" | _ => "__debug__"
def MuK.name : MuK → Str
  | .append => "append" | .extend => "extend" | .pop => "pop" | _ => ""
def noStar : Expr → Bool
  | .Starred _ _ => false
  | _ => true
def noSet : Expr → Bool
  | .Set _ _ _ => false
  | _ => true
def noSlice : Expr → Bool
  | .Slice _ _ _ _ => false
  | _ => true
def recv : Expr → Bool
  | .Name _ _ => true
  | .Subscript _ _ _ => true
  | .Constant _ _ _ => true
  | .BinOp _ _ _ _ => true
  | _ => false
def spine : Expr → Expr × List Expr
  | .Subscript a b _ => ((spine a).1, (spine a).2 ++ [b])
  | e => (e, [])
def Sx.stoL (s : Sx) : List Nat → List Expr → Bool
  | [], [] => true
  | i :: is, e :: es => (noStar e && s.sto i e) && s.stoL is es
  | _, _ => false
def Sx.tg (s : Sx) : Tg → Expr → Bool
  | .nm i, e => s.sto i e
  | .tp is, .Tuple es _ _ => s.stoL is es
  | _, _ => false
def Sx.own (s : Sx) (own : List Nat) : List (Str × Nat) := own.map fun i => ((s.N[i]?).getD "", i)
def Sx.blkOk (s : Sx) (scope : Scope) (own : List Nat) : Bool :=
  decide (scope.kind = .function) && ((scope.names.all fun y => decide (scope.names.lookup y.1 = some y.2)) && ((own.all fun i => decide (i < s.N.length)) &&
    ((scope.names.all fun y => decide (y.2 ≠ .free) || (decide (s.sc.names.lookup y.1 = some .cell) || decide (s.sc.names.lookup y.1 = some .free))) &&
      (scope.names.all fun y => (decide (y.2 ≠ .local) && decide (y.2 ≠ .cell)) || (decide (y.1 ∈ (s.own own).map (·.1)) || decide (y.1 ∉ s.N))))))
def cstOk : D → Expr → Bool
  | .int i, .Constant (.int j) _ _ => decide (i = j)
  | .str i, .Constant (.str j) _ _ => decide (i = j)
  | .bl i, .Constant (.bool j) _ _ => decide (i = j)
  | .non, .Constant .none _ _ => true
  | _, _ => false
def tuTg : Expr → Bool
  | .Tuple _ _ _ => true
  | _ => false

def recvC : Expr → Bool
  | .Call (.Name _ _) (_ :: _) _ _ => true
  | _ => false
def Sx.free (s : Sx) (y : Str) : Bool := s.gl y && s.T.nos.contains y
def iterArgs (s : Sx) (k : ItK) (tg iter : Expr) : Option (List Expr) := match k, iter with
  | .seq, x => if noSet x = true then some [x] else none
  | .rng1, .Call (.Name y _) [a] [] _ => if (decide (y = "range") && s.free "range") = true then some [a] else none
  | .rng2, .Call (.Name y _) [a, b] [] _ => if (decide (y = "range") && s.free "range") = true then some [a, b] else none
  | .enum, .Call (.Name y _) [a] [] _ => if (decide (y = "enumerate") && (s.free "enumerate" && tuTg tg)) = true then some [a] else none
  | .keysT, x => if noSet x = true then some [x] else none
  | .valsT, .Call (.Attribute o m apos) [] [] cpos => if (decide (m = "values") && (apos.endLine == cpos.line && recvC o)) = true then some [o] else none
  | .itemsT, .Call (.Attribute o m apos) [] [] cpos => if (decide (m = "items") && (apos.endLine == cpos.line && (recvC o && tuTg tg))) = true then some [o] else none
  | .zip, .Call (.Name y _) [a, b] [] _ => if (decide (y = "zip") && (s.free "zip" && tuTg tg)) = true then some [a, b] else none
  | _, _ => none

/-- a dict in a local that is walked -/
def Sx.dictOk (s : Sx) (k : ItK) (its : List E) (tg iter : Expr) : Bool := match k, its, iter with
  | .keys, [.var i], .Name y p => s.vis i (.Name y p)
  | .vals, [.var i], .Call (.Attribute (.Name y p) m apos) [] [] cpos => decide (m = "values") && (apos.endLine == cpos.line && s.vis i (.Name y p))
  | .items, [.var i], .Call (.Attribute (.Name y p) m apos) [] [] cpos => decide (m = "items") && (apos.endLine == cpos.line && (tuTg tg && s.vis i (.Name y p)))
  | _, _, _ => false
/-- a display's keys and values by turns -/
def flatP : List (Option Expr) → List Expr → Option (List Expr)
  | [], [] => some []
  | some k :: ks, v :: vs => (flatP ks vs).map fun r => k :: v :: r
  | _, _ => none

mutual
def chE (s : Sx) : E → Expr → Bool
  | .var i, x => s.vis i x
  | .mv i, x => s.vis i x
  | .fr i, x => s.vis i x
  | .cst c, x => cstOk c x
  | .glob g, .Name y _ => decide (s.T.gls.lookup y = some g) && s.gl y
  | .op (.bin o) args, .BinOp a o' b _ => decide (o = o') && chL s args [a, b]
  | .op (.un o) args, .UnaryOp o' a _ => decide (o = o') && (decide (o ≠ .Not) && chL s args [a])
  | .op (.cmp o) args, .Compare a [o'] [b] _ => decide (o = o') && (noSet b && chL s args [a, b])
  | .op .ix args, .Subscript a b _ => noSlice b && chL s args [a, b]
  | .op (.sl false false) args, .Subscript a (.Slice none none none _) _ => chL s args [a]
  | .op (.sl true false) args, .Subscript a (.Slice (some l) none none _) _ => chL s args [a, l]
  | .op (.sl false true) args, .Subscript a (.Slice none (some h) none _) _ => chL s args [a, h]
  | .op (.sl true true) args, .Subscript a (.Slice (some l) (some h) none _) _ => chL s args [a, l, h]
  | .op .rev args, .Subscript a (.Slice none none (some (.UnaryOp .USub (.Constant (.int 1) _ _) _)) _) _ => chL s args [a]
  | .op .lrg args, .Call (.Name y _) [.Call (.Name y2 _) [a] [] _] [] _ => decide (y = "list") && (s.free "list" && (decide (y2 = "range") && (s.free "range" && (noStar a && chL s args [a]))))
  | .op .dget (.var i :: args), .Call (.Attribute (.Name y p) m apos) es [] cpos => decide (m = "get") && (apos.endLine == cpos.line && (s.vis i (.Name y p) && (E.quiet.E.quietL args && ((decide (es.length = 1) || decide (es.length = 2)) && chL s args es))))
  | .op .ixof (.var i :: args), .Call (.Attribute (.Name y p) m apos) es [] cpos => decide (m = "index") && (apos.endLine == cpos.line && (s.vis i (.Name y p) && (E.quiet.E.quietL args && (decide (es.length = 1) && chL s args es))))
  | .op (.blt (.isT t)) args, .Call (.Name y _) [a, .Name t' _] [] _ => decide (y = "isinstance") && (s.free "isinstance" && (s.free t' && (decide (bootBuiltins t' = some (.type t)) && chL s args [a])))
  | .op (.blt .maxD) args, .Call (.Name y _) [a] [⟨nm, b, _⟩] _ => decide (nm = some "default") && (decide (y = "max") && (s.free "max" && (noStar a && chL s args [a, b])))
  | .op (.blt .minD) args, .Call (.Name y _) [a] [⟨nm, b, _⟩] _ => decide (nm = some "default") && (decide (y = "min") && (s.free "min" && (noStar a && chL s args [a, b])))
  | .op (.blt .repr) args, .Call (.Name y _) [e] [] _ => decide (y = "repr") && (s.T.nos.contains "repr!" && (s.free "repr" && (noStar e && chL s args [e])))
  | .op (.mth .bitlen) args, .Call (.Attribute o y apos) [] [] cpos => decide (y = "bit_length") && (apos.endLine == cpos.line && (recv o && (noStar o && chL s args [o])))
  | .op (.mth .join) args, .Call (.Attribute o y apos) [e] [] cpos => decide (y = "join") && (apos.endLine == cpos.line && (recv o && ((match args with
    | .cst (.str _) :: _ => true
    | _ => false) && chL s args [o, e])))
  | .op (.blt b) args, .Call (.Name y _) (e :: es) [] _ => b.plain && (decide (y = b.name) && (s.free b.name && chL s args (e :: es)))
  | .tup args, .Tuple es _ _ => chL s args es
  | .lst args, .List es _ => chL s args es
  | .call f args, .Call (.Name y _) es [] _ => s.gl y && (decide (s.T.fns.lookup y = some (f, args.length)) && chL s args es)
  | .bool true args, .BoolOp .And es _ => !args.isEmpty && chL s args es
  | .bool false args, .BoolOp .Or es _ => !args.isEmpty && chL s args es
  | .not_ e, .UnaryOp .Not a _ => chE s e a
  | .ife c a b, .IfExp c' a' b' _ => chE s c c' && (chE s a a' && chE s b b')
  | .chain o1 o2 a b c, .Compare a' [p1, p2] [b', c'] _ => decide (o1 = p1) && (decide (o2 = p2) && (noSet c' && (chE s a a' && (chE s b b' && chE s c c'))))
  | .mut root path m args, .Call (.Attribute o y apos) es [] cpos => decide (m.name = y) && (recv o && (apos.endLine == cpos.line && (decide (es.length < 30) && (s.vis root (spine o).1 && ((spine o).2.all noSlice && (chL s path (spine o).2 && (chL s args es && (match m with
    | .append => true
    | .extend => true
    | .pop => args.isEmpty
    | _ => false))))))))
  | .lc own k its tg cond elt, .ListComp elt' [⟨tg', iter, ifs, 0⟩] scope _ => s.blkOk scope own && ((s.blk scope).tg tg tg' && ((if k.isD = true then s.dictOk k its tg' iter else match iterArgs s k tg' iter with
    | some xs => chL s its xs
    | none => false) && (decide (cond.length ≤ 1) && (chL (s.blk scope) cond ifs && chE (s.blk scope) elt elt'))))
  | .dc own k its tg cond key val, .DictComp kx vx [⟨tg', iter, ifs, 0⟩] scope _ => s.blkOk scope own && ((s.blk scope).tg tg tg' && ((if k.isD = true then s.dictOk k its tg' iter else match iterArgs s k tg' iter with
    | some xs => chL s its xs
    | none => false) && (decide (cond.length ≤ 1) && (chL (s.blk scope) cond ifs && (chE (s.blk scope) key kx && chE (s.blk scope) val vx)))))
  | .dict kvs false, .Dict keys values _ => (match flatP keys values with
    | some xs => (decide (keys.length ≤ 15) && decide (keys.length = values.length)) && chL s kvs xs
    | none => false)
  | .kop .ix g args, .Subscript (.Name y _) b _ => (decide (s.T.gds.lookup y = some g) && s.gl y) && (noSlice b && chL s args [b])
  | .kop .isin g args, .Compare a [.In] [.Name y _] _ => (decide (s.T.gds.lookup y = some g) && s.gl y) && chL s args [a]
  | .kop .get1 g args, .Call (.Attribute (.Name y _) m apos) [a] [] cpos => decide (m = "get") && (apos.endLine == cpos.line && ((decide (s.T.gds.lookup y = some g) && s.gl y) && chL s args [a]))
  | .kop .get2 g args, .Call (.Attribute (.Name y _) m apos) [a, b] [] cpos => decide (m = "get") && (apos.endLine == cpos.line && ((decide (s.T.gds.lookup y = some g) && s.gl y) && chL s args [a, b]))
  | .kop .notin g args, .Compare a [.NotIn] [.Name y _] _ => (decide (s.T.gds.lookup y = some g) && s.gl y) && chL s args [a]



  | _, _ => false
def chL (s : Sx) : List E → List Expr → Bool
  | [], [] => true
  | e :: es, x :: xs => (noStar x && chE s e x) && chL s es xs
  | _, _ => false
end
end B
namespace B
open PySem PySem.Spec L2 PyProof.Rows
/-- a constant dict of the module -/
structure KD (K : PySem.W.Frag) (w : World) (a : Addr) (kvs : List (Str × D)) : Prop where
  dict : ∃ es n, KDict K w a es n
  at_ : ∀ z d, kvs.lookup z = some d → ∃ u v, PySem.W.nsIn K a z = some (some u) ∧ RelV v u ∧ d.mut = false ∧ ∀ H, Rep K H true [] v d
  no : ∀ z, kvs.lookup z = none → PySem.W.nsIn K a z = some none
/-- a context in which the table's names stand -/
structure Good (X : Cx) (C : Ctx) (n : Nat) (s : Sx) : Prop where
  N : X.N = s.N
  sc : X.env.scope = s.sc
  fn : ∀ y, s.fn y = true → X.fn y = true
  nd : s.N.Nodup
  calm : X.calm = true
  room : Room n X.A
  fns : ∀ y f np, s.T.fns.lookup y = some (f, np) → ∃ fa fd ps, X.mg y = some (.ref fa) ∧ PySem.W.keepIn X.K (.ref fa) = true ∧ Binds X.K fd ps [] ∧ FnX (s.T.nos.contains "repr!") X.prog X.w X.K X.mg X.base CX0 n fa fd ps (spD X.K np (C.call f))
  gls : ∀ y g, s.T.gls.lookup y = some g → ∃ v u d, X.mg y = some u ∧ RelV v u ∧ C.glob g = some d ∧ d.mut = false ∧ ∀ H, Rep X.K H true [] v d
  nos : ∀ y, s.T.nos.contains y = true → X.mg y = none
  gds : ∀ y g, s.T.gds.lookup y = some g → ∃ a kvs, X.mg y = some (.ref a) ∧ C.gdict g = some kvs ∧ KD X.K X.w a kvs
  gua : s.T.nos.contains "repr!" = true → X.A.guards = some []
theorem Good.units {X : Cx} {C : Ctx} {n : Nat} {s : Sx} (g : Good X C n s) : X.A.units + 64 < cLine := g.room.units
theorem Good.hu {X : Cx} {C : Ctx} {n : Nat} {s : Sx} (g : Good X C n s) : X.A.units + 1 < cLine := by have := g.room.units; omega
theorem Good.blk {X : Cx} {C : Ctx} {n : Nat} {s : Sx} (g : Good X C n s) (sh : Shared) (H : Hp) (scope : Scope) (cl : List (Str × Addr)) (A : Addr) (fp : List Addr) : Good (X.blk sh H scope (compEnvC scope cl A X.env) fp) C n (s.blk scope) :=
  ⟨g.N, by
    show relS scope X.env.scope = relS scope s.sc
    rw [g.sc], fun y h => h, g.nd, g.calm, g.room, g.fns, g.gls, g.nos, g.gds, g.gua⟩
theorem nameOk_iff {y : Str} (h : nameOk y = true) : (y == ("__debug__" : Str)) = false ∧ (y == ("__classdict__" : Str)) = false ∧ y ≠ "__name__" := by
  simp only [nameOk, Bool.and_eq_true, Bool.not_eq_true'] at h
  refine ⟨h.1.1, h.1.2, fun z => ?_⟩
  subst z
  have := h.2
  revert this
  decide
section
variable {X : Cx} {C : Ctx} {n : Nat} {s : Sx}
theorem Good.gl (g : Good X C n s) {y : Str} (h : s.gl y = true) : Gl X y ∧ (y == ("__debug__" : Str)) = false ∧ y ≠ "__name__" := by
  simp only [Sx.gl, Bool.and_eq_true, decide_eq_true_eq] at h
  obtain ⟨q1, q2, q3⟩ := nameOk_iff h.2
  refine ⟨?_, q1, q3⟩
  show X.env.scope.names.lookup y = _
  rw [g.sc]
  exact h.1
theorem Good.free (g : Good X C n s) {y : Str} (h : s.free y = true) : Gl X y ∧ X.mg y = none ∧ (y == ("__debug__" : Str)) = false ∧ y ≠ "__name__" := by
  simp only [Sx.free, Bool.and_eq_true] at h
  obtain ⟨q1, q2, q3⟩ := g.gl h.1
  exact ⟨q1, g.nos y h.2, q2, q3⟩
theorem Good.vis (g : Good X C n s) {i : Nat} {x : Expr} (h : s.vis i x = true) : PE X x (tVar i) := by
  unfold Sx.vis at h
  split at h
  · rename_i y pos
    simp only [Bool.and_eq_true, decide_eq_true_eq] at h
    obtain ⟨h1, h2, h3⟩ := h
    obtain ⟨q1, q2, _⟩ := nameOk_iff h2
    refine pe_var (by rw [g.N]; exact h1) ?_ q1 q2
    unfold Vis
    rw [g.sc]
    unfold visK at h3
    split at h3
    · rename_i e; exact .inl e
    · rename_i e; exact .inr (.inl e)
    · rename_i e; exact .inr (.inr e)
    · cases h3
  · cases h
theorem Good.sto (g : Good X C n s) {i : Nat} {x : Expr} (h : s.sto i x = true) : ∃ y pos, x = .Name y pos ∧ X.N[i]? = some y ∧ L2.Loc X.env.scope y ∧ (X.fn y = true ∨ X.env.scope.names.lookup y = some .local) := by
  unfold Sx.sto at h
  split at h
  · rename_i y pos
    simp only [Bool.and_eq_true, decide_eq_true_eq] at h
    obtain ⟨h1, h2⟩ := h
    refine ⟨y, pos, rfl, by rw [g.N]; exact h1, ?_⟩
    show L2.Loc _ _ ∧ _
    unfold L2.Loc
    rw [g.sc]
    unfold stoK at h2
    split at h2
    · rename_i e; exact ⟨.inl e, .inr e⟩
    · rename_i e; exact ⟨.inr e, .inl (g.fn y h2)⟩
    · cases h2
  · cases h
theorem Good.hN (g : Good X C n s) : X.N.Nodup := by rw [g.N]; exact g.nd
theorem Good.pg (g : Good X C n s) {i : Nat} {x : Expr} (h : s.sto i x = true) : PG X x (gName i) := by
  obtain ⟨y, pos, rfl, h1, h2, h3⟩ := g.sto h
  exact pg_name g.hN h1 h2 h3
theorem assignEach_cons {e : Expr} {es : List Expr} {env : Env} (h : noStar e = true) : assignEach (e :: es) env = (false, assign e env) :: assignEach es env := by
  cases e with
  | Starred _ _ => cases h
  | _ => rfl
theorem Good.pgs (g : Good X C n s) : ∀ {is : List Nat} {xs : List Expr}, s.stoL is xs = true → PGs X xs (gAll is) ∧ (assignEach xs X.env).length = is.length ∧ (assignEach xs X.env).findIdx? (·.1) = none
  | [], [], _ => ⟨pgs_nil, rfl, rfl⟩
  | [], _ :: _, h => by cases h
  | _ :: _, [], h => by cases h
  | i :: is, e :: es, h => by
    simp only [Sx.stoL, Bool.and_eq_true] at h
    obtain ⟨q1, q2, q3⟩ := g.pgs h.2
    refine ⟨pgs_cons (g.pg h.1.2) q1 ?_, ?_, ?_⟩
    · rw [assignEach_cons h.1.1]; rfl
    · rw [assignEach_cons h.1.1]; simp [q2]
    · rw [assignEach_cons h.1.1, List.findIdx?_cons]
      simp [q3]
theorem Good.tg (g : Good X C n s) {t : Tg} {x : Expr} (h : s.tg t x = true) : PG X x (gT X.K t) := by
  unfold Sx.tg at h
  split at h
  · exact g.pg h
  · obtain ⟨q1, q2, q3⟩ := g.pgs h
    exact pg_tup g.calm q1 q2 q3
  · cases h

/-! ### lists of arguments -/
def SE (X : Cx) (C : Ctx) (e : E) (x : Expr) : Prop := PE X x (tV X.K C e) ∧ PT X x (tT X.K C e)
inductive Al (X : Cx) (C : Ctx) : List E → List Expr → Prop
  | nil : Al X C [] []
  | cons {e : E} {x : Expr} {es : List E} {xs : List Expr} : noStar x = true → SE X C e x → Al X C es xs → Al X C (e :: es) (x :: xs)
theorem star_cons {e : Expr} {es : List Expr} {env : Env} (h : noStar e = true) : starEach (e :: es) env = (false, eval e env) :: starEach es env := by
  cases e with
  | Starred _ _ => cases h
  | _ => rfl
theorem Al.star : ∀ {es : List E} {xs : List Expr}, Al X C es xs → ∀ (env : Env), starEach xs env = xs.map fun x => (false, eval x env)
  | _, _, .nil, env => rfl
  | _, _, .cons h _ t, env => by rw [star_cons h, t.star env]; rfl
theorem Al.plain {es : List E} {xs : List Expr} (a : Al X C es xs) (env : Env) (pos : Pos) : (backTo pos (starEach xs env)).any (·.1) = false := by
  rw [a.star env]
  unfold backTo
  rw [List.map_map, List.any_map]
  simp
theorem Al.pa : ∀ {es : List E} {xs : List Expr}, Al X C es xs → PA X xs (tL X.K C es)
  | _, _, .nil => PA.weak pa_nil fun σ H Q h => tL_nil h
  | _, _, .cons h q t => PA.weak (pa_cons q.1 t.pa (star_cons h)) fun σ H Q h => tL_cons h
theorem Al.len : ∀ {es : List E} {xs : List Expr}, Al X C es xs → es.length = xs.length
  | _, _, .nil => rfl
  | _, _, .cons _ _ t => by simp [t.len]
theorem pt_none {x : Expr} {e : E} (h : ∀ ρ, ev C true e ρ = none) : PT X x (tT X.K C e) := ⟨fun pins sh σ H Q I ⟨ρ, Fs, f, y, b, ρ', e1, _⟩ => by rw [h] at e1; cases e1⟩
theorem pt_tru {x : Expr} {e : E} (p : truP e = true) (h : PE X x (tV X.K C e)) (he : ∀ whole, isTrue x X.env whole = (do let v ← whole; standAt x.pos; holding [v] (truthy v))) : PT X x (tT X.K C e) :=
  PT.weak (pt_truth h he) fun σ H Q w => tT_tru p w

/-! ### operators -/
theorem se_bin {o : Operator} {args : List E} {a b : Expr} {pos : Pos} (l : Al X C args [a, b]) : SE X C (.op (.bin o) args) (.BinOp a o b pos) := by
  obtain ⟨ea, eb, rfl, sa, sb⟩ : ∃ ea eb, args = [ea, eb] ∧ SE X C ea a ∧ SE X C eb b := by
    cases l with
    | cons h1 s1 t => cases t with
      | cons h2 s2 t => cases t; exact ⟨_, _, rfl, s1, s2⟩
  have pe : PE X (.BinOp a o b pos) (tV X.K C (.op (.bin o) [ea, eb])) := PE.weak (pe_op (opr_bin o) sa.1 sb.1) fun σ H Q h => tL_two (tE_bin h)
  exact ⟨pe, pt_tru rfl pe fun _ => rfl⟩
theorem se_un {o : UnaryOp} {args : List E} {a : Expr} {pos : Pos} (ho : o ≠ .Not) (l : Al X C args [a]) : SE X C (.op (.un o) args) (.UnaryOp o a pos) := by
  obtain ⟨ea, rfl, sa⟩ : ∃ ea, args = [ea] ∧ SE X C ea a := by
    cases l with
    | cons h1 s1 t => cases t; exact ⟨_, rfl, s1⟩
  have pe : PE X (.UnaryOp o a pos) (tV X.K C (.op (.un o) [ea])) := PE.weak (pe_un (opr_un o) sa.1) fun σ H Q h => tL_one (tE_un h)
  refine ⟨pe, pt_tru rfl pe fun _ => ?_⟩
  cases o with
  | Not => exact absurd rfl ho
  | _ => rfl
theorem noSet_mark {op : CmpOp} {b : Expr} (h : noSet b = true) : behindInMarks op b = false := by
  cases b with
  | Set _ _ _ => cases h
  | _ => rfl
theorem se_cmp {o : CmpOp} {args : List E} {a b : Expr} {pos : Pos} (g : Good X C n s) (hb : noSet b = true) (l : Al X C args [a, b]) : SE X C (.op (.cmp o) args) (.Compare a [o] [b] pos) := by
  obtain ⟨ea, eb, rfl, sa, sb⟩ : ∃ ea eb, args = [ea, eb] ∧ SE X C ea a ∧ SE X C eb b := by
    cases l with
    | cons h1 s1 t => cases t with
      | cons h2 s2 t => cases t; exact ⟨_, _, rfl, s1, s2⟩
  exact ⟨PE.weak (pe_cmpR (opr_cmp g.units o) sa.1 sb.1 (noSet_mark hb)) fun σ H Q h => tL_two (tE_cmp h), PT.weak (pt_cmpR (opr_cmp g.units o) sa.1 sb.1 (noSet_mark hb)) fun σ H Q h => tL_two (tT_cmp h)⟩
theorem plain_ix {b : Expr} (h : noSlice b = true) : PlainIx b := fun o i => by
  cases b with
  | Slice _ _ _ _ => cases h
  | _ => rfl
theorem se_ix {args : List E} {a b : Expr} {pos : Pos} (g : Good X C n s) (hb : noSlice b = true) (l : Al X C args [a, b]) : SE X C (.op .ix args) (.Subscript a b pos) := by
  obtain ⟨ea, eb, rfl, sa, sb⟩ : ∃ ea eb, args = [ea, eb] ∧ SE X C ea a ∧ SE X C eb b := by
    cases l with
    | cons h1 s1 t => cases t with
      | cons h2 s2 t => cases t; exact ⟨_, _, rfl, s1, s2⟩
  have pe : PE X (.Subscript a b pos) (tV X.K C (.op .ix [ea, eb])) := PE.weak (pe_ix (ixr_x g.hu) sa.1 sb.1 (plain_ix hb)) fun σ H Q h => tL_two (tE_ix h)
  exact ⟨pe, pt_tru rfl pe fun _ => rfl⟩
theorem se_sl0 {args : List E} {a : Expr} {pos p2 : Pos} (l : Al X C args [a]) : SE X C (.op (.sl false false) args) (.Subscript a (.Slice none none none p2) pos) := by
  obtain ⟨ea, rfl, sa⟩ : ∃ ea, args = [ea] ∧ SE X C ea a := by
    cases l with
    | cons h1 s1 t => cases t; exact ⟨_, rfl, s1⟩
  have pe : PE X (.Subscript a (.Slice none none none p2) pos) (tV X.K C (.op (.sl false false) [ea])) := PE.weak (pe_slice slr_x sa.1 po_none po_none) fun σ H Q h => tL_one (tE_sl0 h)
  exact ⟨pe, pt_tru rfl pe fun _ => rfl⟩
theorem se_sl1 {args : List E} {a b : Expr} {pos p2 : Pos} (l : Al X C args [a, b]) : SE X C (.op (.sl true false) args) (.Subscript a (.Slice (some b) none none p2) pos) := by
  obtain ⟨ea, eb, rfl, sa, sb⟩ : ∃ ea eb, args = [ea, eb] ∧ SE X C ea a ∧ SE X C eb b := by
    cases l with
    | cons h1 s1 t => cases t with
      | cons h2 s2 t => cases t; exact ⟨_, _, rfl, s1, s2⟩
  have pe : PE X (.Subscript a (.Slice (some b) none none p2) pos) (tV X.K C (.op (.sl true false) [ea, eb])) := PE.weak (pe_slice slr_x sa.1 (po_some sb.1) po_none) fun σ H Q h => tL_two (tE_sl1 h)
  exact ⟨pe, pt_tru rfl pe fun _ => rfl⟩
theorem se_sl2 {args : List E} {a b : Expr} {pos p2 : Pos} (l : Al X C args [a, b]) : SE X C (.op (.sl false true) args) (.Subscript a (.Slice none (some b) none p2) pos) := by
  obtain ⟨ea, eb, rfl, sa, sb⟩ : ∃ ea eb, args = [ea, eb] ∧ SE X C ea a ∧ SE X C eb b := by
    cases l with
    | cons h1 s1 t => cases t with
      | cons h2 s2 t => cases t; exact ⟨_, _, rfl, s1, s2⟩
  have pe : PE X (.Subscript a (.Slice none (some b) none p2) pos) (tV X.K C (.op (.sl false true) [ea, eb])) := PE.weak (pe_slice slr_x sa.1 po_none (po_some sb.1)) fun σ H Q h => tL_two (tE_sl2 h)
  exact ⟨pe, pt_tru rfl pe fun _ => rfl⟩
/-- both parts are ints, told behind them -/
theorem pe_slice3 {e b c : Expr} {te tb tc : TE} {pos p2 : Pos} {r : V → Option Int → Option Int → Hp → VK → Prop} (hr : SlR X r) (he : PE X e te) (hl : PE X b tb) (hu : PE X c tc) :
    PE X (.Subscript e (.Slice (some b) (some c) none p2) pos) (fun σ H Q => te σ H fun x H1 => tb σ H1 fun y H2 => tc σ H2 fun z H3 => ∃ i j, y = .int i ∧ z = .int j ∧ r x (some i) (some j) H3 Q) := by
  refine ⟨fun pins s σ H Q I h => ?_⟩
  refine Subscript_ (thn (he.run pins s σ H _ I h) fun v s1 ⟨x, H1, I1, r1, q1⟩ => ?_)
  refine wpAny_Slice ?_
  rw [evalPart_some]
  refine thn (hl.run pins s1 σ H1 _ I1 q1) fun vl s2 ⟨y, H2, I2, r2, q2⟩ => ?_
  rw [evalPart_some]
  refine thn (hu.run pins s2 σ H2 _ I2 q2) fun vu s3 ⟨z, H3, I3, r3, i, j, ey, ez, q3⟩ => ?_
  subst ey ez
  obtain ⟨t2, rfl⟩ := r2
  obtain ⟨t3, rfl⟩ := r3
  rw [evalPart_none]
  refine wpAny_pure ?_
  have I4 : Inv X pins σ H3 { s3 with heap := s3.heap.push { cls := .type "slice", data := .fields #[.int i t2, .int j t3, .none] } } := I3.kept (t' := s3.toks) fun b ob q => Heap.get?_push_of_some _ q
  obtain ⟨T, id, hT, ht, hg⟩ := hr pins { s3 with heap := s3.heap.push { cls := .type "slice", data := .fields #[.int i t2, .int j t3, .none] } } σ H3 x v _ _ _ _ s3.heap.objs.size Q I4 r1 (Heap.IsSliceOf.new ..) (.int i t2) (.int j t3) q3
  show wpAny (model X.prog X.w) X.A (subscriptTail e (.Slice (some b) (some c) none p2) v (.ref s3.heap.objs.size)) (EP X pins σ Q) X.xe { s3 with heap := s3.heap.push { cls := .type "slice", data := .fields #[.int i t2, .int j t3, .none] } }
  exact tail_any (ops := [.ref s3.heap.objs.size, v]) ht hT hg (by with_unfolding_all rfl)
theorem se_sl3 {args : List E} {a b c : Expr} {pos p2 : Pos} (l : Al X C args [a, b, c]) : SE X C (.op (.sl true true) args) (.Subscript a (.Slice (some b) (some c) none p2) pos) := by
  obtain ⟨ea, eb, ec, rfl, sa, sb, sc⟩ : ∃ ea eb ec, args = [ea, eb, ec] ∧ SE X C ea a ∧ SE X C eb b ∧ SE X C ec c := by
    cases l with
    | cons h1 s1 t => cases t with
      | cons h2 s2 t => cases t with
        | cons h3 s3 t => cases t; exact ⟨_, _, _, rfl, s1, s2, s3⟩
  have pe : PE X (.Subscript a (.Slice (some b) (some c) none p2) pos) (tV X.K C (.op (.sl true true) [ea, eb, ec])) := PE.weak (pe_slice3 slr_x sa.1 sb.1 sc.1) fun σ H Q h => tL_three (tE_sl3 h)
  exact ⟨pe, pt_tru rfl pe fun _ => rfl⟩
end
end B
/-! BP: expressions are sound. -/
namespace B
open PySem PySem.Spec L2 PyProof.Rows
section
variable {X : Cx} {C : Ctx} {n : Nat} {s : Sx}
theorem tT_mono {K : PySem.W.Frag} {e : E} {σ : L2.St} {H : Hp} {Q Q' : Bool → Hp → Prop} (q : ∀ c H, Q c H → Q' c H) (h : tT K C e σ H Q) : tT K C e σ H Q' := by
  obtain ⟨ρ, Fs, f, x, b, ρ', h1, h2, k⟩ := h
  exact ⟨ρ, Fs, f, x, b, ρ', h1, h2, fun H' Fs' a b c => q _ _ (k H' Fs' a b c)⟩
theorem boot_bi {b : Bi} (h : b.plain = true) : bootBuiltins b.name = some b.val := by
  cases b with
  | len => exact boot_len
  | abs => decide +kernel
  | int => decide +kernel
  | max2 => decide +kernel
  | min2 => decide +kernel
  | list => decide +kernel
  | tuple => decide +kernel
  | sum => decide +kernel
  | sorted => decide +kernel
  | all => decide +kernel
  | any => decide +kernel
  | str => decide +kernel
  | max1 => decide +kernel
  | min1 => decide +kernel
  | _ => cases h
theorem se_blt {b : Bi} {args : List E} {e : Expr} {es : List Expr} {p pos : Pos} (g : Good X C n s) (hb : b.plain = true) (hf : s.free b.name = true) (l : Al X C args (e :: es)) : SE X C (.op (.blt b) args) (.Call (.Name b.name p) (e :: es) [] pos) := by
  obtain ⟨g1, g2, g3, g4⟩ := g.free hf
  have st : starEach (e :: es) X.env = (false, eval e X.env) :: starEach es X.env := by
    cases l with
    | cons h _ _ => exact star_cons h
  have pl : (backTo pos (starEach es X.env)).any (·.1) = false := by
    cases l with
    | cons _ _ t => exact t.plain _ _
  have cr := opr_blt (X := X) g.calm g.units b hb
  have bt := boot_bi hb
  have pe : PE X (.Call (.Name b.name p) (e :: es) [] pos) (tV X.K C (.op (.blt b) args)) := by
    have key : PE X (.Call (.Name b.name p) (e :: es) [] pos) (tCB (rBlt X.K b) (tL X.K C args)) := by
      cases b with
      | len => exact pe_callB cr g1 g2 bt l.pa g4 g3 st pl
      | abs => exact pe_callB cr g1 g2 bt l.pa g4 g3 st pl
      | max2 => exact pe_callB cr g1 g2 bt l.pa g4 g3 st pl
      | min2 => exact pe_callB cr g1 g2 bt l.pa g4 g3 st pl
      | sum => exact pe_callB cr g1 g2 bt l.pa g4 g3 st pl
      | sorted => exact pe_callB cr g1 g2 bt l.pa g4 g3 st pl
      | all => exact pe_callB cr g1 g2 bt l.pa g4 g3 st pl
      | any => exact pe_callB cr g1 g2 bt l.pa g4 g3 st pl
      | max1 => exact pe_callB cr g1 g2 bt l.pa g4 g3 st pl
      | min1 => exact pe_callB cr g1 g2 bt l.pa g4 g3 st pl
      | int => exact pe_callTy cr g1 g2 bt l.pa g4 g3 st pl
      | str => exact pe_callTy cr g1 g2 bt l.pa g4 g3 st pl
      | list => exact pe_callTy cr g1 g2 bt l.pa g4 g3 st pl
      | tuple => exact pe_callTy cr g1 g2 bt l.pa g4 g3 st pl
      | _ => cases hb
    exact PE.weak key fun σ H Q h => tE_blt h
  exact ⟨pe, pt_tru rfl pe fun _ => rfl⟩
theorem se_repr {args : List E} {e : Expr} {p pos : Pos} (g : Good X C n s) (hr : s.T.nos.contains "repr!" = true) (hf : s.free "repr" = true) (hs : noStar e = true) (l : Al X C args [e]) : SE X C (.op (.blt .repr) args) (.Call (.Name "repr" p) [e] [] pos) := by
  obtain ⟨g1, g2, g3, g4⟩ := g.free hf
  have cr := cr_reprX (X := X) (g.gua hr) g.units
  have bt : bootBuiltins "repr" = some (.builtin "repr") := by decide +kernel
  have pe : PE X (.Call (.Name "repr" p) [e] [] pos) (tV X.K C (.op (.blt .repr) args)) := by
    have key : PE X (.Call (.Name "repr" p) [e] [] pos) (tCB (rReprX X.K) (tL X.K C args)) := pe_callB cr g1 g2 bt l.pa g4 g3 (star_cons hs) rfl
    exact PE.weak key fun σ H Q h => tE_blt h
  exact ⟨pe, pt_tru rfl pe fun _ => rfl⟩
theorem se_mD {b : Bi} {F : Int → List Int → Int} (hr : rBlt X.K b = fun vs H Q => ∃ x y, vs = [x, y] ∧ rMaxDf X.K F [x] [y] H Q) {id : String} (cr : CallRK X (.builtin id) [Str.ofString "default"] (rMaxDf X.K F)) {z : Str} (hv : bootBuiltins z = some (.builtin id))
    {args : List E} {e d : Expr} {p pos kp : Pos} (g : Good X C n s) (hf : s.free z = true) (hs : noStar e = true) (l : Al X C args [e, d]) :
    SE X C (.op (.blt b) args) (.Call (.Name z p) [e] [⟨some (Str.ofString "default"), d, kp⟩] pos) := by
  obtain ⟨g1, g2, g3, g4⟩ := g.free hf
  obtain ⟨ea, ed, rfl, sa, sd⟩ : ∃ ea ed, args = [ea, ed] ∧ SE X C ea e ∧ SE X C ed d := by
    cases l with
    | cons h1 s1 t =>
      cases t with
      | cons h2 s2 t => cases t; exact ⟨_, _, rfl, s1, s2⟩
  have st : starEach [e] X.env = [(false, eval e X.env)] := star_cons hs
  have pe : PE X (.Call (.Name z p) [e] [⟨some (Str.ofString "default"), d, kp⟩] pos) (tV X.K C (.op (.blt b) [ea, ed])) := by
    refine PE.weak (pe_callBK (ks := [Str.ofString "default"]) (t := tCons (tV X.K C ea) tNil) (tk := tCons (tV X.K C ed) tNil) cr g1 g2 hv (pa_cons sa.1 pa_nil st) (pk_cons sd.1 pk_nil) g4 g3 (by rw [st]; rfl) (by rw [st]; rfl)) fun σ H Q h => ?_
    have h2 := tE_blt h
    rw [hr] at h2
    exact tL_two h2
  exact ⟨pe, pt_tru rfl pe fun _ => rfl⟩
theorem se_isT {t : String} {args : List E} {a : Expr} {t' : Str} {p p2 pos : Pos} (g : Good X C n s) (hf : s.free "isinstance" = true) (hf2 : s.free t' = true) (hb : bootBuiltins t' = some (.type t)) (l : Al X C args [a]) :
    SE X C (.op (.blt (.isT t)) args) (.Call (.Name "isinstance" p) [a, .Name t' p2] [] pos) := by
  obtain ⟨g1, g2, g3, g4⟩ := g.free hf
  obtain ⟨k1, k2, k3, k4⟩ := g.free hf2
  have pa2 : PA X [.Name t' p2] (tCons (tC (.ty t)) tNil) := pa_cons (pe_bltn k1 k2 hb (show RelV (.ty t) (.type t) from rfl) k4 k3) pa_nil
  obtain ⟨ea, rfl, hs, sa⟩ : ∃ ea, args = [ea] ∧ noStar a = true ∧ SE X C ea a := by
    cases l with
    | cons h1 s1 t => cases t; exact ⟨_, rfl, h1, s1⟩
  have st : starEach [a, .Name t' p2] X.env = (false, eval a X.env) :: starEach [.Name t' p2] X.env := star_cons hs
  have pe : PE X (.Call (.Name "isinstance" p) [a, .Name t' p2] [] pos) (tV X.K C (.op (.blt (.isT t)) [ea])) :=
    PE.weak (pe_callB call_isi g1 g2 boot_isinstance (pa_cons sa.1 pa2 st) g4 g3 st rfl) fun σ H Q h => by
      have := tL_one (R := fun x H1 => rIsi X.K [x, .ty t] H1 Q) (tL_mono (fun vs H1 ⟨x, e, q⟩ => ⟨x, e, q⟩) (tE_blt h))
      exact this
  exact ⟨pe, pt_tru rfl pe fun _ => rfl⟩
theorem se_call {f : Nat} {args : List E} {y : Str} {es : List Expr} {p pos : Pos} (g : Good X C n s) (hg : s.gl y = true) (hf : s.T.fns.lookup y = some (f, args.length)) (l : Al X C args es) : SE X C (.call f args) (.Call (.Name y p) es [] pos) := by
  obtain ⟨g1, g3, _⟩ := g.gl hg
  obtain ⟨fa, fd, ps, m1, m2, m3, F⟩ := g.fns y f _ hf
  have pe : PE X (.Call (.Name y p) es [] pos) (tV X.K C (.call f args)) := by
    cases es with
    | nil =>
      refine PE.weak (pe_callX0 F g.gua g.room g1 m1 m2 m3 pass0 g3) fun σ H Q h => ?_
      have e0 : args = [] := List.length_eq_zero_iff.mp l.len
      subst e0
      exact tL_nil (tE_call (K := X.K) (E0 := E0) rfl h)
    | cons e es =>
      refine PE.weak (pe_callX F g.gua g.room g1 m1 m2 m3 pass0 l.pa g3 (by cases l with | cons h _ _ => exact star_cons h) (by cases l with | cons _ _ t => exact t.plain _ _)) fun σ H Q h => ?_
      refine tL_mono (fun vs H1 q => ?_) (tE_call (K := X.K) (E0 := E0) rfl h)
      rw [List.append_nil]
      exact q
  exact ⟨pe, pt_tru rfl pe fun _ => rfl⟩
theorem se_tup {args : List E} {es : List Expr} {k : Nat} {pos : Pos} (l : Al X C args es) : SE X C (.tup args) (.Tuple es k pos) :=
  ⟨PE.weak (pe_tup l.pa) fun σ H Q h => tE_tup h, pt_none fun ρ => by simp only [ev, if_true]⟩
theorem se_lst {args : List E} {es : List Expr} {pos : Pos} (l : Al X C args es) : SE X C (.lst args) (.List es pos) :=
  ⟨PE.weak (pe_lst l.pa) fun σ H Q h => tE_lst h, pt_none fun ρ => by simp only [ev, if_true]⟩
theorem se_and : ∀ {args : List E} {es : List Expr} {pos : Pos}, args ≠ [] → Al X C args es → PE X (.BoolOp .And es pos) (tBV X.K C true args) ∧ PW X (.BoolOp .And es pos) (tBT X.K C true args)
  | _, _, pos, ne, .nil => absurd rfl ne
  | [e], [x], pos, ne, .cons h q t => ⟨PE.weak (pe_one q.1) fun σ H Q w => tBV_one w, ⟨fun wh pins s σ H Q I w => (pw_and1 q.2).run wh pins s σ H Q I (tBT_one w)⟩⟩
  | e :: e2 :: es, x :: x2 :: xs, pos, ne, .cons h q (.cons h2 q2 t) => by
    obtain ⟨r1, r2⟩ := se_and (pos := pos) (List.cons_ne_nil e2 es) (.cons h2 q2 t)
    refine ⟨PE.weak (pe_and q.1 r1) fun σ H Q w => ?_, ⟨fun wh pins s σ H Q I w => (pw_and q.2 r2).run wh pins s σ H Q I ?_⟩⟩
    · refine tV_mono (fun x H1 ⟨c, e, z⟩ => ⟨c, e, ?_⟩) (tBV_cons w)
      cases c with
      | true => exact z
      | false => exact z
    · have := tBT_cons w
      exact tT_mono (fun c H1 z => by
        cases c with
        | true => exact z
        | false => exact z) this
theorem se_or : ∀ {args : List E} {es : List Expr} {pos : Pos}, args ≠ [] → Al X C args es → PE X (.BoolOp .Or es pos) (tBV X.K C false args) ∧ PW X (.BoolOp .Or es pos) (tBT X.K C false args)
  | _, _, pos, ne, .nil => absurd rfl ne
  | [e], [x], pos, ne, .cons h q t => ⟨PE.weak (pe_one q.1) fun σ H Q w => tBV_one w, ⟨fun wh pins s σ H Q I w => (pw_or1 q.2).run wh pins s σ H Q I (tBT_one w)⟩⟩
  | e :: e2 :: es, x :: x2 :: xs, pos, ne, .cons h q (.cons h2 q2 t) => by
    obtain ⟨r1, r2⟩ := se_or (pos := pos) (List.cons_ne_nil e2 es) (.cons h2 q2 t)
    refine ⟨PE.weak (pe_or q.1 r1) fun σ H Q w => ?_, ⟨fun wh pins s σ H Q I w => (pw_or q.2 r2).run wh pins s σ H Q I ?_⟩⟩
    · refine tV_mono (fun x H1 ⟨c, e, z⟩ => ⟨c, e, ?_⟩) (tBV_cons w)
      cases c with
      | true => exact z
      | false => exact z
    · have := tBT_cons w
      exact tT_mono (fun c H1 z => by
        cases c with
        | true => exact z
        | false => exact z) this
theorem se_bool {a : Bool} {op : BoolOp} {args : List E} {es : List Expr} {pos : Pos} (ho : (a = true ∧ op = .And) ∨ (a = false ∧ op = .Or)) (ne : args ≠ []) (l : Al X C args es) : SE X C (.bool a args) (.BoolOp op es pos) := by
  rcases ho with ⟨rfl, rfl⟩ | ⟨rfl, rfl⟩
  · obtain ⟨r1, r2⟩ := se_and (pos := pos) ne l
    exact ⟨PE.weak r1 fun σ H Q w => tE_bool w, PT.weak r2.pt fun σ H Q w => tT_bool w⟩
  · obtain ⟨r1, r2⟩ := se_or (pos := pos) ne l
    exact ⟨PE.weak r1 fun σ H Q w => tE_bool w, PT.weak r2.pt fun σ H Q w => tT_bool w⟩
theorem pe_notX {a : Expr} {ta : TE} {pos : Pos} (ha : PE X a ta) : PE X (.UnaryOp .Not a pos) (fun σ H Q => ta σ H fun x H1 => ∃ c, TruV X.K x H1 c ∧ Q (.bl (!c)) H1) := by
  refine ⟨fun pins s σ H Q I h => ?_⟩
  refine UnaryOp_ (thn (ha.run pins s σ H _ I h) fun v s1 ⟨x, H1, I1, r1, q1⟩ => ?_)
  exact not_of (thn (tru_ok pins s1 σ H1 x v (fun c H2 => Q (.bl (!c)) H2) I1 r1 q1) fun c s2 ⟨H2, I2, q2⟩ => ⟨.bl (!c), H2, I2, rfl, q2⟩)
theorem se_not {e : E} {x : Expr} {pos : Pos} (q : SE X C e x) : SE X C (.not_ e) (.UnaryOp .Not x pos) := by
  refine ⟨PE.weak (pe_notX q.1) fun σ H Q w => tE_not w, PT.weak (pt_not q.2) fun σ H Q w => tT_not w⟩
theorem se_ife {c a b : E} {c' a' b' : Expr} {pos : Pos} (qc : SE X C c c') (qa : SE X C a a') (qb : SE X C b b') : SE X C (.ife c a b) (.IfExp c' a' b' pos) :=
  ⟨PE.weak (pe_ifExp qc.2 qa.1 qb.1) fun σ H Q h => tE_ife h, pt_none fun ρ => by simp only [ev, if_true]⟩
theorem lastMarks_two {o1 o2 : CmpOp} {b c : Expr} (h : noSet c = true) : lastMarks [o1, o2] [b, c] = false := noSet_mark h
theorem se_chain {o1 o2 : CmpOp} {a b c : E} {a' b' c' : Expr} {pos : Pos} (g : Good X C n s) (hc : noSet c' = true) (qa : SE X C a a') (qb : SE X C b b') (qc : SE X C c c') : SE X C (.chain o1 o2 a b c) (.Compare a' [o1, o2] [b', c'] pos) := by
  refine ⟨PE.weak (pe_chain (opr_cmp g.units o1) (opr_cmp g.units o2) qa.1 qb.1 qc.1 (lastMarks_two hc)) fun σ H Q h => tE_chain h, PT.weak (pt_chain (opr_cmp g.units o1) (opr_cmp g.units o2) qa.1 qb.1 qc.1 (lastMarks_two hc)) fun σ H Q h => ?_⟩
  obtain ⟨ρ, Fs, f, x, b0, ρ', h1, h2, k⟩ := h
  refine tE_chain ⟨ρ, Fs, f, x, ρ', by simpa only [ev] using h1, fun v H' Fs' F z => ?_⟩
  have r := z.tm.rep
  rw [h2] at r
  obtain ⟨rfl, _⟩ := rep_bl r
  exact ⟨b0, rfl, k H' Fs' z.fr z.st z.qt⟩
theorem se_glob {i : Nat} {y : Str} {pos : Pos} (g : Good X C n s) (h1 : s.T.gls.lookup y = some i) (h2 : s.gl y = true) : SE X C (.glob i) (.Name y pos) := by
  obtain ⟨g1, g3, _⟩ := g.gl h2
  obtain ⟨v, u, d, m1, m2, m3, m4, m5⟩ := g.gls y i h1
  have pe : PE X (.Name y pos) (tV X.K C (.glob i)) := PE.weak (pe_glob g1 m1 m2 g3) fun σ H Q h => by
    obtain ⟨ρ, Fs, f, x, ρ', h1, k⟩ := h
    simp only [ev, m3, Option.bind_some, fin, if_neg Bool.false_ne_true, Option.map_some, Option.some.injEq, Prod.mk.injEq] at h1
    obtain ⟨rfl, rfl⟩ := h1
    refine k v H Fs [] ⟨f, .refl, ?_, fun _ => ⟨Same.refl H, rfl, rfl⟩, fun _ i z => nomatch z⟩
    rw [nrm_pure m4]
    exact .pure (x := ⟨.own, d⟩) (m5 H) m4
  exact ⟨pe, pt_tru rfl pe fun _ => rfl⟩
section
variable {g0 : Nat} {y : Str}
theorem pe_gd (g : Good X C n s) {pos : Pos} (h1 : s.T.gds.lookup y = some g0) (h2 : s.gl y = true) : ∃ a kvs, PE X (.Name y pos) (tC (.ref a)) ∧ C.gdict g0 = some kvs ∧ KD X.K X.w a kvs := by
  obtain ⟨g1, g3, _⟩ := g.gl h2
  obtain ⟨a, kvs, m1, m2, m3⟩ := g.gds y g0 h1
  exact ⟨a, kvs, pe_glob g1 m1 (show RelV (.ref a) (.ref a) from rfl) g3, m2, m3⟩
theorem kop_str {m : KM} {kvs : List (Str × D)} {xs : List FD} {Gs : List (List Addr)} {vs : List V} {H : Hp} {d : D} {x : FD} (A : ArgsR X.K H vs xs Gs) (e : xs = [x]) (h : kopD m kvs (xs.map (·.d)) = some d) : ∃ z, vs = [.str z] ∧ kopD m kvs [.str z] = some d := by
  subst e
  obtain ⟨v, F, rfl, r, _⟩ := args1 A rfl
  have q : ∃ z, x.d = .str z := by
    cases e2 : x.d with
    | str z => exact ⟨z, rfl⟩
    | _ => cases m <;> simp [kopD, e2] at h
  obtain ⟨z, e2⟩ := q
  rw [e2] at r
  obtain ⟨rfl, _⟩ := rep_str r
  refine ⟨z, rfl, ?_⟩
  simpa [e2] using h
theorem args_one {vs : List V} {xs : List FD} {Gs : List (List Addr)} {H : Hp} {a : E} {m : KM} {kvs : List (Str × D)} {d : D} (A : ArgsR X.K H vs xs Gs) (hl : vs.length = 1) : ∃ x, xs = [x] := by
  have := args_len A
  rw [hl] at this
  match xs, this with
  | [x], _ => exact ⟨x, rfl⟩
theorem se_kix {args : List E} {b : Expr} {p pos : Pos} (g : Good X C n s) (h1 : s.T.gds.lookup y = some g0) (h2 : s.gl y = true) (hb : noSlice b = true) (l : Al X C args [b]) : SE X C (.kop .ix g0 args) (.Subscript (.Name y p) b pos) := by
  obtain ⟨eb, rfl, sb⟩ : ∃ eb, args = [eb] ∧ SE X C eb b := by
    cases l with
    | cons h1 s1 t => cases t; exact ⟨_, rfl, s1⟩
  obtain ⟨a, kvs, pn, m2, kd⟩ := pe_gd g (pos := p) h1 h2
  have pe : PE X (.Subscript (.Name y p) b pos) (tV X.K C (.kop .ix g0 [eb])) := PE.weak (pe_ix ix_kdict pn sb.1 (plain_ix hb)) fun σ H Q h => by
    obtain ⟨kvs', e0, w⟩ := tE_kop h
    rw [m2] at e0; cases e0
    have w2 := tL_one (R := fun x H1 => rIxD X.K X.w (.ref a) x H1 Q) (tL_mono (fun vs H1 z => by
      obtain ⟨zl, xs, Gs, d, A, e, k⟩ := z
      obtain ⟨x, rfl⟩ := args_one (a := eb) (m := .ix) (kvs := kvs) (d := d) A zl
      obtain ⟨z, rfl, e⟩ := kop_str A rfl e
      obtain ⟨u, v, q1, q2, q3, q4⟩ := kd.at_ z d e
      obtain ⟨es, nn, D0⟩ := kd.dict
      exact ⟨.str z, rfl, a, z, v, rfl, rfl, ⟨es, nn, u, D0.at_, D0.lit, q1, q2⟩, k v H1 [] (.flat (q4 H1))⟩) (tL_len w))
    exact w2
  exact ⟨pe, pt_tru rfl pe fun _ => rfl⟩
theorem kin_or {neg : Bool} {z : Str} {a : Addr} {kvs : List (Str × D)} (kd : KD X.K X.w a kvs) : ∃ r : Option Value, PySem.W.nsIn X.K a z = some r ∧ r.isSome = (kvs.lookup z).isSome := by
  cases e : kvs.lookup z with
  | none => exact ⟨none, kd.no z e, rfl⟩
  | some d =>
    obtain ⟨u, v, q1, _⟩ := kd.at_ z d e
    exact ⟨some u, q1, rfl⟩
theorem se_kin {neg : Bool} {args : List E} {b : Expr} {p pos : Pos} (g : Good X C n s) (h1 : s.T.gds.lookup y = some g0) (h2 : s.gl y = true) (l : Al X C args [b]) : SE X C (.kop (if neg = true then .notin else .isin) g0 args) (.Compare b [if neg = true then .NotIn else .In] [.Name y p] pos) := by
  obtain ⟨eb, rfl, sb⟩ : ∃ eb, args = [eb] ∧ SE X C eb b := by
    cases l with
    | cons h1 s1 t => cases t; exact ⟨_, rfl, s1⟩
  obtain ⟨a, kvs, pn, m2, kd⟩ := pe_gd g (pos := p) h1 h2
  obtain ⟨es, nn, D0⟩ := kd.dict
  have key : ∀ {σ : L2.St} {H : Hp} {Q : VK}, tE X.K C (.kop (if neg = true then .notin else .isin) g0 [eb]) σ H Q → tV X.K C eb σ H fun x H1 => ∃ (z : Str) (r : Option Value), x = .str z ∧ PySem.W.nsIn X.K a z = some r ∧ Q (.bl (if neg = true then !r.isSome else r.isSome)) H1 := fun {σ H Q} h => by
    obtain ⟨kvs', e0, w⟩ := tE_kop h
    rw [m2] at e0; cases e0
    refine tL_one (tL_mono (fun vs H1 z => ?_) (tL_len w))
    obtain ⟨zl, xs, Gs, d, A, e, k⟩ := z
    obtain ⟨x, rfl⟩ := args_one (a := eb) (m := .isin) (kvs := kvs) (d := d) A zl
    obtain ⟨z, rfl, e⟩ := kop_str A rfl e
    obtain ⟨r, q1, q2⟩ := kin_or (neg := false) (z := z) kd
    refine ⟨.str z, rfl, z, r, rfl, q1, ?_⟩
    cases neg with
    | false =>
      simp only [Bool.false_eq_true, if_false, kopD, Option.some.injEq] at e
      subst e
      rw [← q2] at k
      exact k _ H1 [] (.flat .bl)
    | true =>
      simp only [if_true, kopD, Option.some.injEq] at e
      subst e
      rw [← q2] at k
      exact k _ H1 [] (.flat .bl)
  have op : OpR X (compareOp (if neg = true then .NotIn else .In)) (fun x y H Q => ∃ (z : Str) (r : Option Value), x = .str z ∧ y = .ref a ∧ PySem.W.nsIn X.K a z = some r ∧ Q (.bl (if neg = true then !r.isSome else r.isSome)) H) := by
    cases neg with
    | false => exact op_in_kd D0
    | true => exact op_notIn_kd D0
  have mk : behindInMarks (if neg = true then .NotIn else .In) (.Name y p) = false := by cases neg <;> rfl
  refine ⟨PE.weak (pe_cmpR op sb.1 pn mk) fun σ H Q h => ?_, PT.weak (pt_cmpR op sb.1 pn mk) fun σ H Q h => ?_⟩
  · refine tV_mono (fun x H1 ⟨z, r, e, q1, q2⟩ => ⟨z, r, e, rfl, q1, q2⟩) (key (by cases neg <;> exact h))
  · have h2 := tT_tru (by cases neg <;> rfl) h
    have h3 : tE X.K C (.kop (if neg = true then .notin else .isin) g0 [eb]) σ H (fun x H' => ∃ k, TruV X.K x H' k ∧ Q k H') := by cases neg <;> exact h2
    refine tV_mono (fun x H1 ⟨z, r, e, q1, k, q2, q3⟩ => ⟨z, r, e, rfl, q1, k, ?_, q3⟩) (key h3)
    have : k = _ := q2
    rw [this]
end
theorem cst_int {i : Int} {j : Nat} {pos : Pos} : SE X C (.cst (.int i)) (.Constant (.int i) j pos) := by
  have pe : PE X (.Constant (.int i) j pos) (tV X.K C (.cst (.int i))) := PE.weak pe_int fun σ H Q h => by
    obtain ⟨ρ, Fs, f, x, ρ', h1, k⟩ := h
    simp only [ev, fin, if_neg Bool.false_ne_true, Option.map_some, Option.some.injEq, Prod.mk.injEq] at h1
    obtain ⟨rfl, rfl⟩ := h1
    exact k (V.int i) H Fs [] ⟨f, .refl, .pure (x := ⟨.own, (.int i)⟩) .int rfl, fun _ => ⟨Same.refl H, rfl, rfl⟩, fun _ i z => nomatch z⟩
  exact ⟨pe, pt_tru rfl pe fun _ => rfl⟩
theorem cst_str {i : Str} {j : Nat} {pos : Pos} : SE X C (.cst (.str i)) (.Constant (.str i) j pos) := by
  have pe : PE X (.Constant (.str i) j pos) (tV X.K C (.cst (.str i))) := PE.weak pe_str fun σ H Q h => by
    obtain ⟨ρ, Fs, f, x, ρ', h1, k⟩ := h
    simp only [ev, fin, if_neg Bool.false_ne_true, Option.map_some, Option.some.injEq, Prod.mk.injEq] at h1
    obtain ⟨rfl, rfl⟩ := h1
    exact k (V.str i) H Fs [] ⟨f, .refl, .pure (x := ⟨.own, (.str i)⟩) .str rfl, fun _ => ⟨Same.refl H, rfl, rfl⟩, fun _ i z => nomatch z⟩
  exact ⟨pe, pt_tru rfl pe fun _ => rfl⟩
theorem cst_bl {i : Bool} {j : Nat} {pos : Pos} : SE X C (.cst (.bl i)) (.Constant (.bool i) j pos) := by
  have pe : PE X (.Constant (.bool i) j pos) (tV X.K C (.cst (.bl i))) := PE.weak pe_bl fun σ H Q h => by
    obtain ⟨ρ, Fs, f, x, ρ', h1, k⟩ := h
    simp only [ev, fin, if_neg Bool.false_ne_true, Option.map_some, Option.some.injEq, Prod.mk.injEq] at h1
    obtain ⟨rfl, rfl⟩ := h1
    exact k (V.bl i) H Fs [] ⟨f, .refl, .pure (x := ⟨.own, (.bl i)⟩) .bl rfl, fun _ => ⟨Same.refl H, rfl, rfl⟩, fun _ i z => nomatch z⟩
  exact ⟨pe, pt_tru rfl pe fun _ => rfl⟩
theorem cst_non {j : Nat} {pos : Pos} : SE X C (.cst .non) (.Constant .none j pos) := by
  have pe : PE X (.Constant .none j pos) (tV X.K C (.cst .non)) := PE.weak pe_non fun σ H Q h => by
    obtain ⟨ρ, Fs, f, x, ρ', h1, k⟩ := h
    simp only [ev, fin, if_neg Bool.false_ne_true, Option.map_some, Option.some.injEq, Prod.mk.injEq] at h1
    obtain ⟨rfl, rfl⟩ := h1
    exact k V.non H Fs [] ⟨f, .refl, .pure (x := ⟨.own, .non⟩) .non rfl, fun _ => ⟨Same.refl H, rfl, rfl⟩, fun _ i z => nomatch z⟩
  exact ⟨pe, pt_tru rfl pe fun _ => rfl⟩
theorem se_cst {c : D} {x : Expr} (h : cstOk c x = true) : SE X C (.cst c) x := by
  unfold cstOk at h
  split at h
  · simp only [decide_eq_true_eq] at h
    subst h
    exact cst_int
  · simp only [decide_eq_true_eq] at h
    subst h
    exact cst_str
  · simp only [decide_eq_true_eq] at h
    subst h
    exact cst_bl
  · exact cst_non
  · cases h
theorem se_var {i : Nat} {x : Expr} (g : Good X C n s) (h : s.vis i x = true) : SE X C (.var i) x := by
  have pe : PE X x (tV X.K C (.var i)) := g.vis h
  refine ⟨pe, pt_tru rfl pe fun _ => ?_⟩
  unfold Sx.vis at h
  split at h
  · rfl
  · cases h
theorem se_mv {i : Nat} {x : Expr} (g : Good X C n s) (h : s.vis i x = true) : SE X C (.mv i) x :=
  ⟨PE.weak (g.vis h) fun σ H Q w => tE_mv w, pt_none fun ρ => by simp only [ev, if_true]⟩
theorem se_fr {i : Nat} {x : Expr} (g : Good X C n s) (h : s.vis i x = true) : SE X C (.fr i) x :=
  ⟨PE.weak (g.vis h) fun σ H Q w => tE_fr w, pt_none fun ρ => by simp only [ev, if_true]⟩
/-- a path -/
theorem Al.snoc : ∀ {es : List E} {xs : List Expr} {b : Expr}, Al X C es (xs ++ [b]) → ∃ es' e, es = es' ++ [e] ∧ Al X C es' xs ∧ SE X C e b
  | _, [], b, .cons h q .nil => ⟨[], _, rfl, .nil, q⟩
  | _, x :: xs, b, .cons h q t => by
    obtain ⟨es', e, r1, r2, r3⟩ := t.snoc
    exact ⟨_ :: es', e, by rw [r1]; rfl, .cons h q r2, r3⟩
theorem pe_path (g : Good X C n s) {root : Nat} : ∀ {o : Expr} {path : List E}, s.vis root (spine o).1 = true → (spine o).2.all noSlice = true → Al X C path (spine o).2 → PE X o (tP X.K C root path)
  | .Subscript a b pos, path, h1, h2, l => by
    simp only [spine, List.all_append, Bool.and_eq_true] at h1 h2 l
    obtain ⟨es', e, rfl, r2, r3⟩ := l.snoc
    exact PE.weak (pe_ix (ixr_x g.hu) (pe_path g h1 h2.1 r2) r3.1 (plain_ix (by simpa using h2.2))) fun σ H Q w => tP_snoc w
  | .Name y pos, path, h1, h2, l => by
    cases l
    exact PE.weak (g.vis h1) fun σ H Q w => tP_nil w
  | .BoolOp .., path, h1, h2, l => by cases h1
  | .NamedExpr .., path, h1, h2, l => by cases h1
  | .BinOp .., path, h1, h2, l => by cases h1
  | .UnaryOp .., path, h1, h2, l => by cases h1
  | .Lambda .., path, h1, h2, l => by cases h1
  | .IfExp .., path, h1, h2, l => by cases h1
  | .Dict .., path, h1, h2, l => by cases h1
  | .Set .., path, h1, h2, l => by cases h1
  | .ListComp .., path, h1, h2, l => by cases h1
  | .SetComp .., path, h1, h2, l => by cases h1
  | .DictComp .., path, h1, h2, l => by cases h1
  | .GeneratorExp .., path, h1, h2, l => by cases h1
  | .Await .., path, h1, h2, l => by cases h1
  | .Yield .., path, h1, h2, l => by cases h1
  | .YieldFrom .., path, h1, h2, l => by cases h1
  | .Compare .., path, h1, h2, l => by cases h1
  | .Call .., path, h1, h2, l => by cases h1
  | .FormattedValue .., path, h1, h2, l => by cases h1
  | .JoinedStr .., path, h1, h2, l => by cases h1
  | .Constant .., path, h1, h2, l => by cases h1
  | .Attribute .., path, h1, h2, l => by cases h1
  | .Starred .., path, h1, h2, l => by cases h1
  | .List .., path, h1, h2, l => by cases h1
  | .Tuple .., path, h1, h2, l => by cases h1
  | .Slice .., path, h1, h2, l => by cases h1
theorem recv_base {o : Expr} {nm : Str} {env : Env} {w : Sem Value} (h : recv o = true) : attributeBase o nm env w = w := by
  cases o with
  | Name _ _ => rfl
  | Subscript _ _ _ => rfl
  | Constant _ _ _ => rfl
  | BinOp _ _ _ _ => rfl
  | _ => cases h
theorem few_ok {es : List E} {xs : List Expr} (l : Al X C es xs) (h : xs.length < 30) (env : Env) (cpos : Pos) :
    ((backTo cpos (starEach xs env)).all (fun x => !x.1) && (backToKw cpos (keywordEach [] env)).all (fun x => x.1.isSome)
      && decide (xs.length + ([] : List Keyword).length + (if ([] : List Keyword).isEmpty then 0 else 1) < 30)) = true := by
  rw [l.star env]
  have : (backTo cpos (xs.map fun x => (false, eval x env))).all (fun x => !x.1) = true := by
    unfold backTo
    rw [List.map_map, List.all_map]
    simp
  rw [this]
  simp [backToKw, keywordEach, h]
theorem se_bitlen {args : List E} {o : Expr} {apos pos : Pos} (h1 : (apos.endLine == pos.line) = true) (h2 : recv o = true) (l : Al X C args [o]) : SE X C (.op (.mth .bitlen) args) (.Call (.Attribute o "bit_length" apos) [] [] pos) := by
  obtain ⟨ea, rfl, sa⟩ : ∃ ea, args = [ea] ∧ SE X C ea o := by
    cases l with
    | cons h1 s1 t => cases t; exact ⟨_, rfl, s1⟩
  have pe : PE X (.Call (.Attribute o "bit_length" apos) [] [] pos) (tV X.K C (.op (.mth .bitlen) [ea])) := PE.weak (pe_bits sa.1 (recv_base h2) h1) fun σ H Q h => by
    exact tL_one (tL_mono (fun vs H1 ⟨i, e, q⟩ => ⟨.int i, e, i, rfl, q⟩) (tE_mth h))
  exact ⟨pe, pt_tru rfl pe fun _ => rfl⟩
theorem se_join {args : List E} {o e : Expr} {apos pos : Pos} (h1 : (apos.endLine == pos.line) = true) (h2 : recv o = true) (h3 : (match args with
    | .cst (.str _) :: _ => true
    | _ => false) = true) (l : Al X C args [o, e]) : SE X C (.op (.mth .join) args) (.Call (.Attribute o "join" apos) [e] [] pos) := by
  obtain ⟨ea, eb, rfl, hs, sa, sb⟩ : ∃ ea eb, args = [ea, eb] ∧ noStar e = true ∧ SE X C ea o ∧ SE X C eb e := by
    cases l with
    | cons h1 s1 t =>
      cases t with
      | cons h2 s2 t => cases t; exact ⟨_, _, rfl, h2, s1, s2⟩
  obtain ⟨z, rfl⟩ : ∃ z, ea = .cst (.str z) := by
    split at h3
    · rename_i q
      cases q
      exact ⟨_, rfl⟩
    · cases h3
  have pe : PE X (.Call (.Attribute o "join" apos) [e] [] pos) (tV X.K C (.op (.mth .join) [.cst (.str z), eb])) := PE.weak (pe_join sa.1 sb.1 (star_cons hs) (recv_base h2) h1) fun σ H Q h => by
    refine tV_strC (tL_two (tL_mono (fun vs H1 ⟨a, p, ys, e, q1, q2, q3⟩ => ⟨.str a, .ref p, e, a, p, ys, rfl, rfl, q1, q2, q3⟩) (tE_mth h)))
  exact ⟨pe, pt_tru rfl pe fun _ => rfl⟩
theorem se_kget1 {g0 : Nat} {y : Str} {args : List E} {b : Expr} {p apos pos : Pos} (g : Good X C n s) (hl : (apos.endLine == pos.line) = true) (h1 : s.T.gds.lookup y = some g0) (h2 : s.gl y = true) (l : Al X C args [b]) :
    SE X C (.kop .get1 g0 args) (.Call (.Attribute (.Name y p) "get" apos) [b] [] pos) := by
  obtain ⟨eb, rfl, hs, sb⟩ : ∃ eb, args = [eb] ∧ noStar b = true ∧ SE X C eb b := by
    cases l with
    | cons h1 s1 t => cases t; exact ⟨_, rfl, h1, s1⟩
  obtain ⟨a, kvs, pn, m2, kd⟩ := pe_gd g (pos := p) h1 h2
  obtain ⟨es, nn, D0⟩ := kd.dict
  have m : M1 X (.Name y p) "get" apos b pos := ⟨recv_base rfl, few_ok l (by simp) _ _, hl, by rw [show starEach [b] X.env = [(false, eval b X.env)] from star_cons hs]; rfl⟩
  have pe : PE X (.Call (.Attribute (.Name y p) "get" apos) [b] [] pos) (tV X.K C (.kop .get1 g0 [eb])) := PE.weak (pe_kget1 D0 pn sb.1 m) fun σ H Q h => by
    obtain ⟨kvs', e0, w⟩ := tE_kop h
    rw [m2] at e0; cases e0
    refine tL_one (tL_mono (fun vs H1 z => ?_) (tL_len w))
    obtain ⟨zl, xs, Gs, d, A, e, k⟩ := z
    obtain ⟨x, rfl⟩ := args_one (a := eb) (m := .get1) (kvs := kvs) (d := d) A zl
    obtain ⟨z, rfl, e⟩ := kop_str A rfl e
    simp only [kopD, Option.some.injEq] at e
    subst e
    cases e : kvs.lookup z with
    | none =>
      rw [e] at k
      exact ⟨.str z, rfl, z, none, .non, rfl, kd.no z e, rfl, k .non H1 [] (.flat .non)⟩
    | some d =>
      rw [e] at k
      obtain ⟨u, v, q1, q2, q3, q4⟩ := kd.at_ z d e
      exact ⟨.str z, rfl, z, some u, v, rfl, q1, q2, k v H1 [] (.flat (q4 H1))⟩
  exact ⟨pe, pt_tru rfl pe fun _ => rfl⟩
theorem se_kget2 {g0 : Nat} {y : Str} {args : List E} {b c : Expr} {p apos pos : Pos} (g : Good X C n s) (hl : (apos.endLine == pos.line) = true) (h1 : s.T.gds.lookup y = some g0) (h2 : s.gl y = true) (l : Al X C args [b, c]) :
    SE X C (.kop .get2 g0 args) (.Call (.Attribute (.Name y p) "get" apos) [b, c] [] pos) := by
  obtain ⟨eb, ec, rfl, hs, hs2, sb, sc⟩ : ∃ eb ec, args = [eb, ec] ∧ noStar b = true ∧ noStar c = true ∧ SE X C eb b ∧ SE X C ec c := by
    cases l with
    | cons h1 s1 t =>
      cases t with
      | cons h2 s2 t => cases t; exact ⟨_, _, rfl, h1, h2, s1, s2⟩
  obtain ⟨a, kvs, pn, m2, kd⟩ := pe_gd g (pos := p) h1 h2
  obtain ⟨es, nn, D0⟩ := kd.dict
  have m : M2 X (.Name y p) "get" apos b c pos := ⟨recv_base rfl, few_ok l (by simp) _ _, hl, by rw [l.star]; rfl⟩
  have pe : PE X (.Call (.Attribute (.Name y p) "get" apos) [b, c] [] pos) (tV X.K C (.kop .get2 g0 [eb, ec])) := PE.weak (pe_kget2 D0 pn sb.1 sc.1 m) fun σ H Q h => by
    obtain ⟨kvs', e0, w⟩ := tE_kop h
    rw [m2] at e0; cases e0
    refine tL_two (tL_mono (fun vs H1 z => ?_) (tL_len w))
    obtain ⟨zl, xs, Gs, d, A, e, k⟩ := z
    have hl2 := args_len A
    rw [zl] at hl2
    obtain ⟨x1, x2, rfl⟩ : ∃ x1 x2, xs = [x1, x2] := by
      match xs, hl2 with
      | [x1, x2], _ => exact ⟨_, _, rfl⟩
    obtain ⟨v, w, F, G, rfl, r1, r2, _⟩ := args2 A rfl
    have e : kopD .get2 kvs [x1.d, x2.d] = some d := e
    obtain ⟨z, ez⟩ : ∃ z, x1.d = .str z := by
      cases e2 : x1.d with
      | str z => exact ⟨z, rfl⟩
      | _ => simp [kopD, e2] at e
    rw [ez] at r1 e
    obtain ⟨rfl, _⟩ := rep_str r1
    simp only [kopD] at e
    split at e
    · rename_i q
      simp only [Option.some.injEq] at e
      subst e
      cases e : kvs.lookup z with
      | none =>
        rw [e] at k
        exact ⟨.str z, w, rfl, z, none, rfl, kd.no z e, .inl ⟨rfl, k w H1 [] (.flat (r2.pure' q true))⟩⟩
      | some d =>
        rw [e] at k
        obtain ⟨u, v, q1, q2, q3, q4⟩ := kd.at_ z d e
        exact ⟨.str z, w, rfl, z, some u, rfl, q1, .inr ⟨u, v, rfl, q2, k v H1 [] (.flat (q4 H1))⟩⟩
    · cases e
  exact ⟨pe, pt_tru rfl pe fun _ => rfl⟩
theorem se_mut {root : Nat} {path args : List E} {m : MuK} {o : Expr} {es : List Expr} {apos cpos : Pos} (g : Good X C n s) (h2 : recv o = true) (h3 : (apos.endLine == cpos.line) = true) (h4 : es.length < 30) (h5 : s.vis root (spine o).1 = true) (h6 : (spine o).2.all noSlice = true)
    (lp : Al X C path (spine o).2) (la : Al X C args es) (hm : (match m with
    | .append => true
    | .extend => true
    | .pop => args.isEmpty
    | _ => false) = true) : SE X C (.mut root path m args) (.Call (.Attribute o m.name apos) es [] cpos) := by
  have po := pe_path g h5 h6 lp
  refine ⟨?_, pt_none fun ρ => by simp only [ev, if_true]⟩
  have go : ∀ {id : String} (slot : Slot "list" m.name id) (ty : typeOf (.builtin id) = pure (.type "method_descriptor")) (mr : MtR X id (rMu X.K m)), PE X (.Call (.Attribute o m.name apos) es [] cpos) (tV X.K C (.mut root path m args)) := fun {id} slot ty mr => by
    cases es with
    | nil =>
      have e0 : args = [] := List.length_eq_zero_iff.mp la.len
      subst e0
      refine PE.weak (pe_bm0 PySem.F.plainAttrs_list slot ty mr po (recv_base h2) h3) fun σ H Q w => ?_
      have := tE_mut w
      obtain ⟨ρ, Fs, f, q, rp, s', v0, c, e, z1, z2, z3, z4, k⟩ := this
      exact ⟨ρ, Fs, f, q, rp, s', v0, c, e, z1, z2, z3, z4, fun v H' a b => ⟨(k v H' a b).1, tL_nil (k v H' a b).2⟩⟩
    | cons e es =>
      exact PE.weak (pe_bm PySem.F.plainAttrs_list slot ty mr po la.pa (recv_base h2) (few_ok la h4 _ _) h3 (by cases la with | cons h _ _ => exact star_cons h) (by cases la with | cons _ _ t => exact t.plain _ _)) fun σ H Q w => tE_mut w
  cases m with
  | append => exact go PySem.F.slot_list_append PySem.F.type_list_append mt_append
  | extend => exact go PySem.F.slot_list_extend PySem.F.type_list_extend mt_extendR
  | pop => exact go PySem.F.slot_list_pop PySem.F.type_list_pop mt_pop
  | _ => cases hm
/-- what is walked -/
theorem pi_or {tg it : Expr} {w1 w2 : TI} (h1 : PI X tg it w1) (h2 : PI X tg it w2) : PI X tg it fun σ H R => w1 σ H R ∨ w2 σ H R :=
  ⟨fun pins s σ H R I w => w.elim (h1.run pins s σ H R I) (h2.run pins s σ H R I)⟩
theorem pi_weak {tg it : Expr} {w w' : TI} (h : PI X tg it w) (q : ∀ σ H R, w' σ H R → w σ H R) : PI X tg it w' := ⟨fun pins s σ H R I z => h.run pins s σ H R I (q σ H R z)⟩
theorem se_iter {k : ItK} {tg iter : Expr} {xs : List Expr} {its : List E} (g : Good X C n s) (h : iterArgs s k tg iter = some xs) (l : Al X C its xs) : PI X tg iter (tI X.K C k its) := by
  unfold iterArgs at h
  split at h
  · split at h
    · cases h
      obtain ⟨ea, rfl, sa⟩ : ∃ ea, its = [ea] ∧ SE X C ea _ := by
        cases l with
        | cons h1 s1 t => cases t; exact ⟨_, rfl, s1⟩
      exact pi_weak (pi_or (pi_list sa.1) (pi_or (pi_tup sa.1) (pi_str sa.1))) fun σ H R w => tI_seq w
    · cases h
  · split at h
    · rename_i c
      cases h
      simp only [Bool.and_eq_true, decide_eq_true_eq] at c
      obtain ⟨rfl, c⟩ := c
      obtain ⟨g1, g2, _⟩ := g.free c
      exact pi_weak (pi_range1 g1 g2 l.pa (by rw [l.star]; rfl)) fun σ H R w => tI_rng1 w
    · cases h
  · split at h
    · rename_i c
      cases h
      simp only [Bool.and_eq_true, decide_eq_true_eq] at c
      obtain ⟨rfl, c⟩ := c
      obtain ⟨g1, g2, _⟩ := g.free c
      refine pi_weak (pi_range2 g1 g2 l.pa (by rw [l.star]; rfl) ?_) fun σ H R w => tI_rng2 w
      cases l with
      | cons _ _ t => rw [t.star]; rfl
    · cases h
  · split at h
    · rename_i c
      cases h
      simp only [Bool.and_eq_true, decide_eq_true_eq] at c
      obtain ⟨rfl, c, ct⟩ := c
      obtain ⟨g1, g2, _⟩ := g.free c
      unfold tuTg at ct
      split at ct
      · exact pi_weak (pi_or (pi_enum g1 g2 l.pa (by rw [l.star]; rfl)) (pi_enumX g1 g2 l.pa (by rw [l.star]; rfl))) fun σ H R w => tI_enum w
      · cases ct
    · cases h
  · split at h
    · cases h
      obtain ⟨ea, rfl, sa⟩ : ∃ ea, its = [ea] ∧ SE X C ea _ := by
        cases l with
        | cons h1 s1 t => cases t; exact ⟨_, rfl, s1⟩
      exact pi_weak (pi_keys (pe_fz sa.1)) fun σ H R w => tI_dictT rfl w
    · cases h
  · split at h
    · rename_i c
      cases h
      simp only [Bool.and_eq_true, decide_eq_true_eq] at c
      obtain ⟨rfl, c1, c2⟩ := c
      obtain ⟨ea, rfl, sa⟩ : ∃ ea, its = [ea] ∧ SE X C ea _ := by
        cases l with
        | cons h1 s1 t => cases t; exact ⟨_, rfl, s1⟩
      unfold recvC at c2
      split at c2
      · exact pi_weak (pi_values (pe_fz sa.1) rfl c1) fun σ H R w => tI_dictT rfl w
      · cases c2
    · cases h
  · split at h
    · rename_i c
      cases h
      simp only [Bool.and_eq_true, decide_eq_true_eq] at c
      obtain ⟨rfl, c1, c2, ct⟩ := c
      obtain ⟨ea, rfl, sa⟩ : ∃ ea, its = [ea] ∧ SE X C ea _ := by
        cases l with
        | cons h1 s1 t => cases t; exact ⟨_, rfl, s1⟩
      unfold recvC at c2
      split at c2
      · unfold tuTg at ct
        split at ct
        · exact pi_weak (pi_items (pe_fz sa.1) rfl c1) fun σ H R w => tI_dictT rfl w
        · cases ct
      · cases c2
    · cases h
  · split at h
    · rename_i c
      cases h
      simp only [Bool.and_eq_true, decide_eq_true_eq] at c
      obtain ⟨rfl, c, ct⟩ := c
      obtain ⟨g1, g2, _⟩ := g.free c
      unfold tuTg at ct
      split at ct
      · refine pi_weak (pi_zip g1 g2 l.pa ?_ ?_) fun σ H R w => tI_zip w
        · cases l with
          | cons h _ _ => exact star_cons h
        · cases l with
          | cons _ _ t => exact t.plain _ _
      · cases ct
    · cases h
  · cases h
theorem set_folded {iter : Expr} {env : Env} (h : noSet iter = true) : ∀ x, foldedSetIterable iter env x = pure x := fun x => by
  cases iter with
  | Set _ _ _ => cases h
  | _ => rfl
theorem iter_noSet {k : ItK} {tg iter : Expr} {xs : List Expr} (h : iterArgs s k tg iter = some xs) : noSet iter = true := by
  unfold iterArgs at h
  split at h
  · split at h
    · assumption
    · cases h
  all_goals first
    | rfl
    | (split at h
       · assumption
       · cases h)
    | cases h
theorem se_rev {args : List E} {a : Expr} {k : Nat} {p1 p2 p3 pos : Pos} (l : Al X C args [a]) : SE X C (.op .rev args) (.Subscript a (.Slice none none (some (.UnaryOp .USub (.Constant (.int 1) k p1) p2)) p3) pos) := by
  obtain ⟨ea, rfl, sa⟩ : ∃ ea, args = [ea] ∧ SE X C ea a := by
    cases l with
    | cons h1 s1 t => cases t; exact ⟨_, rfl, s1⟩
  have pe : PE X (.Subscript a (.Slice none none (some (.UnaryOp .USub (.Constant (.int 1) k p1) p2)) p3) pos) (tV X.K C (.op .rev [ea])) := PE.weak (pe_revL sa.1) fun σ H Q h => tL_one (tE_rev h)
  exact ⟨pe, pt_tru rfl pe fun _ => rfl⟩
theorem se_lrg {args : List E} {a : Expr} {p p2 pos pos2 : Pos} (g : Good X C n s) (hf : s.free "list" = true) (hf2 : s.free "range" = true) (hs : noStar a = true) (l : Al X C args [a]) : SE X C (.op .lrg args) (.Call (.Name "list" p) [.Call (.Name "range" p2) [a] [] pos2] [] pos) := by
  obtain ⟨g1, g2, g3, g4⟩ := g.free hf
  obtain ⟨k1, k2, k3, k4⟩ := g.free hf2
  obtain ⟨ea, rfl, sa⟩ : ∃ ea, args = [ea] ∧ SE X C ea a := by
    cases l with
    | cons h1 s1 t => cases t; exact ⟨_, rfl, s1⟩
  have pe : PE X (.Call (.Name "list" p) [.Call (.Name "range" p2) [a] [] pos2] [] pos) (tV X.K C (.op .lrg [ea])) :=
    PE.weak (L2.pe_listRg g.calm g1 g2 (L2.prg_1 k1 k2 sa.1 (star_cons hs))) fun σ H Q h => tL_one (tE_lrg h)
  exact ⟨pe, pt_tru rfl pe fun _ => rfl⟩
theorem se_dget {i : Nat} {args : List E} {es : List Expr} {y : Str} {p apos pos : Pos} (g : Good X C n s) (hl : (apos.endLine == pos.line) = true) (hv : s.vis i (.Name y p) = true) (hq : E.quiet.E.quietL args = true) (l : Al X C args es) (hn : es.length = 1 ∨ es.length = 2) :
    SE X C (.op .dget (.var i :: args)) (.Call (.Attribute (.Name y p) "get" apos) es [] pos) := by
  cases l with
  | nil => simp at hn
  | @cons eb b args es hs sb t =>
    cases t with
    | nil =>
      have l : Al X C [eb] [b] := .cons hs sb .nil
      simp only [E.quiet.E.quietL, Bool.and_true] at hq
      have m : M1 X (.Name y p) "get" apos b pos := ⟨recv_base rfl, few_ok l (by simp) _ _, hl, by rw [show starEach [b] X.env = [(false, eval b X.env)] from star_cons hs]; rfl⟩
      have pe : PE X (.Call (.Attribute (.Name y p) "get" apos) [b] [] pos) (tV X.K C (.op .dget [.var i, eb])) := PE.weak (pe_dget1 (by have := g.hu; omega) (g.vis hv) sb.1 m) fun σ H Q h => tE_dget1 hq h
      exact ⟨pe, pt_tru rfl pe fun _ => rfl⟩
    | @cons ec c args es hs2 sc t =>
      cases t with
      | nil =>
        have l : Al X C [eb, ec] [b, c] := .cons hs sb (.cons hs2 sc .nil)
        simp only [E.quiet.E.quietL, Bool.and_true, Bool.and_eq_true] at hq
        have m : M2 X (.Name y p) "get" apos b c pos := ⟨recv_base rfl, few_ok l (by simp) _ _, hl, by rw [l.star]; rfl⟩
        have pe : PE X (.Call (.Attribute (.Name y p) "get" apos) [b, c] [] pos) (tV X.K C (.op .dget [.var i, eb, ec])) := PE.weak (pe_dget2 (by have := g.hu; omega) (g.vis hv) sb.1 sc.1 m) fun σ H Q h => tE_dget2 hq.1 hq.2 h
        exact ⟨pe, pt_tru rfl pe fun _ => rfl⟩
      | cons _ _ _ => simp at hn
theorem se_ixof {i : Nat} {args : List E} {es : List Expr} {y : Str} {p apos pos : Pos} (g : Good X C n s) (hl : (apos.endLine == pos.line) = true) (hv : s.vis i (.Name y p) = true) (hq : E.quiet.E.quietL args = true) (l : Al X C args es) (hn : es.length = 1) :
    SE X C (.op .ixof (.var i :: args)) (.Call (.Attribute (.Name y p) "index" apos) es [] pos) := by
  cases l with
  | nil => simp at hn
  | @cons eb b args es hs sb t =>
    cases t with
    | nil =>
      have l : Al X C [eb] [b] := .cons hs sb .nil
      simp only [E.quiet.E.quietL, Bool.and_true] at hq
      have pe : PE X (.Call (.Attribute (.Name y p) "index" apos) [b] [] pos) (tV X.K C (.op .ixof [.var i, eb])) :=
        PE.weak (pe_bm PySem.F.plainAttrs_list PySem.F.slot_list_index PySem.F.type_list_index mt_index (g.vis hv) l.pa (recv_base rfl) (few_ok l (by simp) _ _) hl (star_cons hs) rfl) fun σ H Q h => tE_ixof hq h
      exact ⟨pe, pt_tru rfl pe fun _ => rfl⟩
    | cons _ _ _ => simp at hn
theorem pe_or {x : Expr} {t1 t2 t : TE} (h1 : PE X x t1) (h2 : PE X x t2) (w : ∀ σ H Q, t σ H Q → t1 σ H Q ∨ t2 σ H Q) : PE X x t :=
  ⟨fun pins s σ H Q I q => (w σ H Q q).elim (h1.run pins s σ H Q I) (h2.run pins s σ H Q I)⟩
theorem se_dsrc {k : ItK} {its : List E} {tg iter : Expr} (g : Good X C n s) (h : s.dictOk k its tg iter = true) : ∃ i, its = [.var i] ∧ PI X tg iter (srcD k i) ∧ noSet iter = true := by
  unfold Sx.dictOk at h
  split at h
  · exact ⟨_, rfl, pi_keys (g.vis h), rfl⟩
  · simp only [Bool.and_eq_true, decide_eq_true_eq] at h
    obtain ⟨rfl, h2, h3⟩ := h
    exact ⟨_, rfl, pi_values (g.vis h3) rfl h2, rfl⟩
  · simp only [Bool.and_eq_true, decide_eq_true_eq] at h
    obtain ⟨rfl, h2, h3, h4⟩ := h
    unfold tuTg at h3
    split at h3
    · exact ⟨_, rfl, pi_items (g.vis h4) rfl h2, rfl⟩
    · cases h3
  · cases h
theorem blk_ok {scope : Scope} {own : List Nat} (g : Good X C n s) (h : s.blkOk scope own = true) : BlkOk X.N X.env.scope scope (s.own own) := by
  simp only [Sx.blkOk, Bool.and_eq_true, decide_eq_true_eq, List.all_eq_true, Bool.or_eq_true] at h
  obtain ⟨h1, h2, h3, h4, h5⟩ := h
  refine ⟨h1, h2, fun p hp => ?_, fun y hy e => ?_, fun y hy e => ?_⟩
  · obtain ⟨i, hi, rfl⟩ := List.mem_map.mp hp
    have := h3 i hi
    rw [g.N]
    show s.N[i]? = some ((s.N[i]?).getD "")
    rw [List.getElem?_eq_getElem this]
    rfl
  · rw [g.sc]
    rcases h4 y hy with z | z
    · exact absurd e z
    · exact z
  · rw [g.N]
    rcases h5 y hy with z | z
    · rcases e with e | e
      · exact absurd e z.1
      · exact absurd e z.2
    · exact z
theorem own_map {own : List Nat} : (s.own own).map (·.2) = own := by
  unfold Sx.own
  rw [List.map_map]
  exact List.map_id own
theorem pts_of {cond : List E} {ifs : List Expr} (h : cond.length ≤ 1) (l : Al X C cond ifs) : PTs X ifs (tBT X.K C true cond) := by
  cases l with
  | nil =>
    refine ⟨fun pins s σ H Q I w => pts_nil.run pins s σ H Q I ?_⟩
    obtain ⟨ρ, Fs, f, x, b, ρ', h1, h2, k⟩ := w
    simp only [evB, and_self, if_true, Option.some.injEq, Prod.mk.injEq] at h1
    obtain ⟨rfl, rfl⟩ := h1
    simp only [D.bl.injEq] at h2
    subst h2
    exact k H Fs f .refl fun _ => ⟨Same.refl H, rfl, rfl⟩
  | cons _ q t =>
    cases t with
    | nil => exact ⟨fun pins s σ H Q I w => (pts_one q.2).run pins s σ H Q I (tBT_one w)⟩
    | cons _ _ _ => simp at h
/-! ### dict displays -/
theorem pps_of : ∀ {keys : List (Option Expr)} {values xs : List Expr} {kvs : List E} {pos : Pos}, flatP keys values = some xs → Al X C kvs xs → PPs X pos keys values (pairTr X.K C kvs) ∧ keys.all (·.isSome) = true
  | [], [], xs, kvs, pos, h, l => by
    simp only [flatP, Option.some.injEq] at h
    subst h
    cases l
    exact ⟨pps_nil, rfl⟩
  | some k :: ks, v :: vs, xs, kvs, pos, h, l => by
    simp only [flatP, Option.map_eq_some_iff] at h
    obtain ⟨r, h1, rfl⟩ := h
    cases l with
    | cons n1 q1 t =>
      cases t with
      | cons n2 q2 t =>
        obtain ⟨p1, p2⟩ := pps_of (pos := pos) h1 t
        exact ⟨pps_cons q1.1 q2.1 p1, by simp [p2]⟩
  | [], _ :: _, xs, kvs, pos, h, l => by simp [flatP] at h
  | none :: _, _, xs, kvs, pos, h, l => by simp [flatP] at h
  | some _ :: _, [], xs, kvs, pos, h, l => by simp [flatP] at h
theorem se_dict {keys : List (Option Expr)} {values xs : List Expr} {kvs : List E} {pos : Pos} (h : flatP keys values = some xs) (h15 : keys.length ≤ 15) (hl : keys.length = values.length) (l : Al X C kvs xs) : SE X C (.dict kvs false) (.Dict keys values pos) := by
  refine ⟨?_, pt_none fun ρ => by simp only [ev, if_true]⟩
  by_cases h0 : keys = []
  · subst h0
    have hv : values = [] := List.length_eq_zero_iff.mp hl.symm
    subst hv
    simp only [flatP, Option.some.injEq] at h
    subst h
    cases l
    refine PE.weak pe_dnewK fun σ H Q w p hp => ?_
    obtain ⟨e1, kvs, e2, _, q⟩ := tE_dict w p hp
    have : kvs = [] := by cases kvs with
      | nil => rfl
      | cons _ _ => cases e2
    subst this
    have e3 : upd (upd H p (.dK [])) p (.dK []) = upd H p (.dK []) := by
      funext b
      by_cases hb : b = p
      · rw [hb, upd_same, upd_same]
      · rw [upd_ne hb]
    have q2 : Q (.ref p) (upd (upd H p (.dK [])) p (.dK [])) := q
    rw [e3] at q2
    exact q2
  · obtain ⟨p1, p2⟩ := pps_of (pos := pos) h l
    exact PE.weak (pe_disp p1 p2 hl h0 h15) fun σ H Q w => tE_dict w
end
end B
/-! BQ: expressions are sound: the whole. -/
namespace B
open PySem PySem.Spec L2 PyProof.Rows
theorem Al_one {X : Cx} {C : Ctx} {e : E} {x : Expr} (h : noStar x = true) (q : SE X C e x) : Al X C [e] [x] := .cons h q .nil
mutual
theorem sE {C : Ctx} {n : Nat} : ∀ (e : E) (s : Sx) (x : Expr), chE s e x = true → ∀ (X : Cx), Good X C n s → SE X C e x
  | .var i, s, x, h, X, g => se_var g (by simpa only [chE] using h)
  | .mv i, s, x, h, X, g => se_mv g (by simpa only [chE] using h)
  | .fr i, s, x, h, X, g => se_fr g (by simpa only [chE] using h)
  | .cst c, s, x, h, X, g => se_cst (by simpa only [chE] using h)
  | .glob i, s, x, h, X, g => by
    unfold chE at h
    split at h
    all_goals (try contradiction)
    rename_i y pos e1
    cases e1
    simp only [Bool.and_eq_true, decide_eq_true_eq] at h
    exact se_glob g h.1 h.2
  | .op o args, s, x, h, X, g => by
    unfold chE at h
    split at h
    all_goals (try contradiction)
    · rename_i e1
      cases e1
      simp only [Bool.and_eq_true, decide_eq_true_eq] at h
      obtain ⟨rfl, h⟩ := h
      exact se_bin (sL args s _ h X g)
    · rename_i e1
      cases e1
      simp only [Bool.and_eq_true, decide_eq_true_eq] at h
      obtain ⟨rfl, h1, h⟩ := h
      exact se_un h1 (sL args s _ h X g)
    · rename_i e1
      cases e1
      simp only [Bool.and_eq_true, decide_eq_true_eq] at h
      obtain ⟨rfl, h1, h⟩ := h
      exact se_cmp g h1 (sL args s _ h X g)
    · rename_i e1
      cases e1
      simp only [Bool.and_eq_true] at h
      exact se_ix g h.1 (sL args s _ h.2 X g)
    · rename_i e1
      cases e1
      exact se_sl0 (sL args s _ h X g)
    · rename_i e1
      cases e1
      exact se_sl1 (sL args s _ h X g)
    · rename_i e1
      cases e1
      exact se_sl2 (sL args s _ h X g)
    · rename_i e1
      cases e1
      exact se_sl3 (sL args s _ h X g)
    · rename_i e1
      cases e1
      exact se_rev (sL args s _ h X g)
    · rename_i e1
      cases e1
      simp only [Bool.and_eq_true, decide_eq_true_eq] at h
      obtain ⟨rfl, h1, rfl, h2, h3, h⟩ := h
      exact se_lrg g h1 h2 h3 (sL args s _ h X g)
    · rename_i e1
      cases e1
      simp only [Bool.and_eq_true, Bool.or_eq_true, decide_eq_true_eq] at h
      obtain ⟨rfl, h1, h2, h3, h4, h⟩ := h
      exact se_dget g h1 h2 h3 (sL _ s _ h X g) h4
    · rename_i e1
      cases e1
      simp only [Bool.and_eq_true, decide_eq_true_eq] at h
      obtain ⟨rfl, h1, h2, h3, h4, h⟩ := h
      exact se_ixof g h1 h2 h3 (sL _ s _ h X g) h4
    · rename_i e1
      cases e1
      simp only [Bool.and_eq_true, decide_eq_true_eq] at h
      obtain ⟨rfl, h1, h2, h3, h⟩ := h
      exact se_isT g h1 h2 h3 (sL args s _ h X g)
    · rename_i e1
      cases e1
      simp only [Bool.and_eq_true, decide_eq_true_eq] at h
      obtain ⟨rfl, rfl, h2, h3, h⟩ := h
      exact se_mD rfl (crk_maxD g.calm g.hu) (by decide +kernel) g h2 h3 (sL args s _ h X g)
    · rename_i e1
      cases e1
      simp only [Bool.and_eq_true, decide_eq_true_eq] at h
      obtain ⟨rfl, rfl, h2, h3, h⟩ := h
      exact se_mD rfl (crk_minD g.calm g.hu) (by decide +kernel) g h2 h3 (sL args s _ h X g)
    · rename_i e1
      cases e1
      simp only [Bool.and_eq_true, decide_eq_true_eq] at h
      obtain ⟨rfl, h1, h2, h3, h⟩ := h
      exact se_repr g h1 h2 h3 (sL args s _ h X g)
    · rename_i e1
      cases e1
      simp only [Bool.and_eq_true, decide_eq_true_eq] at h
      obtain ⟨rfl, h1, h2, h3, h⟩ := h
      exact se_bitlen h1 h2 (sL args s _ h X g)
    · rename_i e1
      cases e1
      simp only [Bool.and_eq_true, decide_eq_true_eq] at h
      obtain ⟨rfl, h1, h2, h3, h⟩ := h
      exact se_join h1 h2 h3 (sL args s _ h X g)
    · rename_i e1
      cases e1
      simp only [Bool.and_eq_true, decide_eq_true_eq] at h
      obtain ⟨h1, rfl, h2, h⟩ := h
      exact se_blt g h1 h2 (sL args s _ h X g)
  | .tup args, s, x, h, X, g => by
    unfold chE at h
    split at h
    all_goals (try contradiction)
    rename_i e1
    cases e1
    exact se_tup (sL args s _ h X g)
  | .lst args, s, x, h, X, g => by
    unfold chE at h
    split at h
    all_goals (try contradiction)
    rename_i e1
    cases e1
    exact se_lst (sL args s _ h X g)
  | .call f args, s, x, h, X, g => by
    unfold chE at h
    split at h
    all_goals (try contradiction)
    rename_i e1
    cases e1
    simp only [Bool.and_eq_true, decide_eq_true_eq] at h
    exact se_call g h.1 h.2.1 (sL args s _ h.2.2 X g)
  | .bool a args, s, x, h, X, g => by
    unfold chE at h
    split at h
    all_goals (try contradiction)
    · rename_i e1
      cases e1
      simp only [Bool.and_eq_true, Bool.not_eq_true', List.isEmpty_eq_false_iff] at h
      exact se_bool (.inl ⟨rfl, rfl⟩) h.1 (sL args s _ h.2 X g)
    · rename_i e1
      cases e1
      simp only [Bool.and_eq_true, Bool.not_eq_true', List.isEmpty_eq_false_iff] at h
      exact se_bool (.inr ⟨rfl, rfl⟩) h.1 (sL args s _ h.2 X g)
  | .not_ e, s, x, h, X, g => by
    unfold chE at h
    split at h
    all_goals (try contradiction)
    rename_i e1
    cases e1
    exact se_not (sE e s _ h X g)
  | .ife c a b, s, x, h, X, g => by
    unfold chE at h
    split at h
    all_goals (try contradiction)
    rename_i e1
    cases e1
    simp only [Bool.and_eq_true] at h
    exact se_ife (sE c s _ h.1 X g) (sE a s _ h.2.1 X g) (sE b s _ h.2.2 X g)
  | .chain o1 o2 a b c, s, x, h, X, g => by
    unfold chE at h
    split at h
    all_goals (try contradiction)
    rename_i e1
    cases e1
    simp only [Bool.and_eq_true, decide_eq_true_eq] at h
    obtain ⟨rfl, rfl, h1, h2, h3, h4⟩ := h
    exact se_chain g h1 (sE a s _ h2 X g) (sE b s _ h3 X g) (sE c s _ h4 X g)
  | .mut root path m args, s, x, h, X, g => by
    unfold chE at h
    split at h
    all_goals (try contradiction)
    rename_i e1
    cases e1
    simp only [Bool.and_eq_true, decide_eq_true_eq] at h
    obtain ⟨rfl, h1, h2, h3, h4, h5, h6, h7, h8⟩ := h
    exact se_mut g h1 h2 h3 h4 h5 (sL path s _ h6 X g) (sL args s _ h7 X g) h8
  | .lc own k its tg cond elt, s, x, h, X, g => by
    unfold chE at h
    split at h
    all_goals (try contradiction)
    rename_i e1
    cases e1
    simp only [Bool.and_eq_true, decide_eq_true_eq] at h
    obtain ⟨h1, h2, h3, h4, h5, h6⟩ := h
    refine ⟨?_, pt_none fun ρ => by simp only [ev, if_true]⟩
    by_cases hk : k.isD = true
    · rw [if_pos hk] at h3
      obtain ⟨i, rfl, pi, ns⟩ := se_dsrc g h3
      have b := fun p => pe_lc (pos := p) (own := s.own own) (g := gT X.K tg) (tt := tBT X.K C true cond) (te := tV X.K C elt) g.calm g.hN pi (blk_ok g h1) (fun sh H A cl fp => (g.blk sh H _ cl A fp).tg h2) (fun sh H A cl fp => pts_of h4 (sL cond (s.blk _) _ h5 _ (g.blk sh H _ cl A fp))) (fun sh H A cl fp => (sE elt (s.blk _) _ h6 _ (g.blk sh H _ cl A fp)).1) (set_folded ns)
      refine pe_or (pe_lock (b _)) (b _) fun σ H Q w => ?_
      rw [own_map]
      exact tE_lcD hk w
    · rw [if_neg hk] at h3
      split at h3
      rotate_left
      · cases h3
      rename_i xs ea
      refine PE.weak (pe_lc (own := s.own own) (g := gT X.K tg) (tt := tBT X.K C true cond) (te := tV X.K C elt) g.calm g.hN (se_iter g ea (sL its s _ h3 X g)) (blk_ok g h1) (fun sh H A cl fp => (g.blk sh H _ cl A fp).tg h2) (fun sh H A cl fp => ?_) (fun sh H A cl fp => ?_) (set_folded (iter_noSet ea))) fun σ H Q w => ?_
      · exact pts_of h4 (sL cond (s.blk _) _ h5 _ (g.blk sh H _ cl A fp))
      · exact (sE elt (s.blk _) _ h6 _ (g.blk sh H _ cl A fp)).1
      · rw [own_map]
        exact tE_lc w
  | .dc own k its tg cond key val, s, x, h, X, g => by
    unfold chE at h
    split at h
    all_goals (try contradiction)
    rename_i e1
    cases e1
    simp only [Bool.and_eq_true, decide_eq_true_eq] at h
    obtain ⟨h1, h2, h3, h4, h5, h6, h7⟩ := h
    refine ⟨?_, pt_none fun ρ => by simp only [ev, if_true]⟩
    by_cases hk : k.isD = true
    · rw [if_pos hk] at h3
      obtain ⟨i, rfl, pi, ns⟩ := se_dsrc g h3
      have b := fun p => pe_dc (pos := p) (own := s.own own) (g := gT X.K tg) (tt := tBT X.K C true cond) (tk := tV X.K C key) (tv := tV X.K C val) g.calm g.hN pi (blk_ok g h1) (fun sh H A cl fp => (g.blk sh H _ cl A fp).tg h2) (fun sh H A cl fp => pts_of h4 (sL cond (s.blk _) _ h5 _ (g.blk sh H _ cl A fp))) (fun sh H A cl fp => (sE key (s.blk _) _ h6 _ (g.blk sh H _ cl A fp)).1) (fun sh H A cl fp => (sE val (s.blk _) _ h7 _ (g.blk sh H _ cl A fp)).1) (set_folded ns)
      refine pe_or (pe_lock (b _)) (b _) fun σ H Q w => ?_
      rw [own_map]
      exact tE_dcD hk w
    · rw [if_neg hk] at h3
      split at h3
      rotate_left
      · cases h3
      rename_i xs ea
      refine PE.weak (pe_dc (own := s.own own) (g := gT X.K tg) (tt := tBT X.K C true cond) (tk := tV X.K C key) (tv := tV X.K C val) g.calm g.hN (se_iter g ea (sL its s _ h3 X g)) (blk_ok g h1) (fun sh H A cl fp => (g.blk sh H _ cl A fp).tg h2) (fun sh H A cl fp => ?_) (fun sh H A cl fp => ?_) (fun sh H A cl fp => ?_) (set_folded (iter_noSet ea))) fun σ H Q w => ?_
      · exact pts_of h4 (sL cond (s.blk _) _ h5 _ (g.blk sh H _ cl A fp))
      · exact (sE key (s.blk _) _ h6 _ (g.blk sh H _ cl A fp)).1
      · exact (sE val (s.blk _) _ h7 _ (g.blk sh H _ cl A fp)).1
      · rw [own_map]
        exact tE_dc w
  | .dict kvs b, s, x, h, X, g => by
    unfold chE at h
    split at h
    all_goals (try contradiction)
    rename_i e1
    cases e1
    split at h
    · rename_i xs ea
      simp only [Bool.and_eq_true, decide_eq_true_eq] at h
      exact se_dict ea h.1.1 h.1.2 (sL kvs s _ h.2 X g)
    · cases h
  | .kop m g0 args, s, x, h, X, g => by
    unfold chE at h
    split at h
    all_goals (try contradiction)
    · rename_i e1
      cases e1
      simp only [Bool.and_eq_true, decide_eq_true_eq] at h
      exact se_kix g h.1.1 h.1.2 h.2.1 (sL args s _ h.2.2 X g)
    · rename_i e1
      cases e1
      simp only [Bool.and_eq_true, decide_eq_true_eq] at h
      exact se_kin (neg := false) g h.1.1 h.1.2 (sL args s _ h.2 X g)
    · rename_i e1
      cases e1
      simp only [Bool.and_eq_true, decide_eq_true_eq] at h
      obtain ⟨rfl, h1, h2, h3⟩ := h
      exact se_kget1 g h1 h2.1 h2.2 (sL args s _ h3 X g)
    · rename_i e1
      cases e1
      simp only [Bool.and_eq_true, decide_eq_true_eq] at h
      obtain ⟨rfl, h1, h2, h3⟩ := h
      exact se_kget2 g h1 h2.1 h2.2 (sL args s _ h3 X g)
    · rename_i e1
      cases e1
      simp only [Bool.and_eq_true, decide_eq_true_eq] at h
      exact se_kin (neg := true) g h.1.1 h.1.2 (sL args s _ h.2 X g)
theorem sL {C : Ctx} {n : Nat} : ∀ (es : List E) (s : Sx) (xs : List Expr), chL s es xs = true → ∀ (X : Cx), Good X C n s → Al X C es xs
  | [], s, [], h, X, g => .nil
  | [], s, _ :: _, h, X, g => by cases h
  | e :: es, s, [], h, X, g => by cases h
  | e :: es, s, x :: xs, h, X, g => by
    simp only [chL, Bool.and_eq_true] at h
    exact .cons h.1.1 (sE e s x h.1.2 X g) (sL es s xs h.2 X g)
end
end B
/-! BR: statements of the text. -/
namespace B
open PySem PySem.Spec L2 PyProof.Rows

def isComp : Expr → Bool
  | .ListComp _ _ _ _ => true
  | .SetComp _ _ _ _ => true
  | .DictComp _ _ _ _ _ => true
  | _ => false
def isTup : Expr → Bool
  | .Tuple _ _ _ => true
  | _ => false
/-- what swapsWith says of name = [..] -/
def swB (sc : Scope) (y : Str) (l : Nat) : Expr → Bool
  | .ListComp _ _ scope pos => (decide (sc.names.lookup y = some .local) && decide (l = pos.line)) && !(scope.names.any fun (n, k) => n == y && (k == .local || k == .cell))
  | .DictComp _ _ _ scope pos => (decide (sc.names.lookup y = some .local) && decide (l = pos.line)) && !(scope.names.any fun (n, k) => n == y && (k == .local || k == .cell))
  | _ => false
def plainLc : Expr → Bool
  | .ListComp _ [⟨_, _, _, 0⟩] _ _ => true
  | _ => false
def plainDc : Expr → Bool
  | .DictComp _ _ [⟨_, _, _, 0⟩] _ _ => true
  | _ => false
def isLcE : E → Bool
  | .lc _ _ _ _ _ _ => true
  | _ => false
def isDcE : E → Bool
  | .dc _ _ _ _ _ _ _ => true
  | _ => false
/-- a tuple of values whose stores stand in their order -/
def swNone (ts : List Expr) : Expr → Bool
  | .Tuple vs _ _ => !(ts.length == 2 || ts.length == 3) || vs.length != ts.length || vs.all (foldedForSure 8)
  | _ => true
def notStarred : Expr → Bool
  | .Starred .. => false
  | _ => true
def parOk (sc : Scope) (x y : Str) (px py : Pos) (a b : Expr) : Bool :=
  (decide (sc.names.lookup x = some .local) && decide (sc.names.lookup y = some .local)) && ((decide (py.line = px.line) && decide (x ≠ y)) && ((notStarred a && notStarred b) && (!([a, b].all (foldedForSure 8)) && !([a, b].all (constantsAlone 8)))))
mutual
def chS (s : Sx) : S → Stmt → Bool
  | .asg i e, .Assign [.Name y py] v _ => s.sto i (.Name y py) && (chE s e v && (!isComp v || ((plainLc v && isLcE e) || (plainDc v && isDcE e))))
  | .asgS i e, .Assign [.Name y py] v _ => s.sto i (.Name y py) && (chE s e v && !isComp v)
  | .asgT is e, .Assign [.Tuple ts k tp] v _ => s.stoL is ts && (chE s e v && (!isComp v && swNone ts v))
  | .par i j a b, .Assign [.Tuple [.Name x px, .Name y py] _ _] (.Tuple [a', b'] _ _) _ => s.sto i (.Name x px) && (s.sto j (.Name y py) && (decide (i ≠ j) && (chL s [a, b] [a', b'] && parOk s.sc x y px py a' b')))
  | .put root path ix e, .Assign [.Subscript o i' _] v _ => s.vis root (spine o).1 && ((spine o).2.all noSlice && (chL s path (spine o).2 && (noSlice i' && (chE s ix i' && chE s e v))))
  | .aug i o e, .AugAssign (.Name y py) o' v _ => decide (o = o') && (s.sto i (.Name y py) && chE s e v)
  | .expr e, .Expr v _ => !isComp v && chE s e v
  | .sda root k v, .Expr (.Call (.Attribute (.Call (.Attribute (.Name y p) m1 ap1) [k', .List [] _] [] cp1) m2 ap2) [v'] [] cp2) _ => decide (m1 = "setdefault") && (decide (m2 = "append") && (ap1.endLine == cp1.line && (ap2.endLine == cp2.line && (s.vis root (.Name y p) && (noStar k' && (chE s k k' && (noStar v' && chE s v v')))))))
  | .ite c a b, .If c' a' b' _ => chE s c c' && (chSs s a a' && chSs s b b')
  | .for_ tg k its body, .For tg' iter body' [] _ => s.tg tg tg' && ((if k.isD = true then s.dictOk k its tg' iter else match iterArgs s k tg' iter with
    | some xs => chL s its xs
    | none => false) && chSs s body body')
  | .while_ c body, .While c' body' [] _ => chE s c c' && chSs s body body'
  | .ret e, .Return (some v) _ => chE s e v
  | .retN, .Return none _ => true
  | .brk, .Break _ => true
  | .cnt, .Continue _ => true
  | .pass, .Pass _ => true
  | .doc, .Expr (.Constant (.str _) _ _) _ => true
  | _, _ => false
def chSs (s : Sx) : List S → List Stmt → Bool
  | [], [] => true
  | e :: es, x :: xs => chS s e x && chSs s es xs
  | _, _ => false
end

section
variable {X : Cx} {C : Ctx} {n : Nat} {s : Sx}
theorem swaps_sub {v : Expr} {o i : Expr} {pos : Pos} {l : Nat} {env : Env} : swapsWithSole [.Subscript o i pos] v l env = pure false := by cases v <;> rfl
theorem swapped_sub {v : Expr} {o i : Expr} {pos : Pos} {env : Env} : swappedStores [.Subscript o i pos] v env = pure none := by cases v <;> rfl
theorem swaps_tup {v : Expr} {ts : List Expr} {k : Nat} {pos : Pos} {l : Nat} {env : Env} : swapsWithSole [.Tuple ts k pos] v l env = pure false := by cases v <;> rfl
theorem swapped_none {v : Expr} {ts : List Expr} {k : Nat} {pos : Pos} {env : Env} (h : swNone ts v = true) : swappedStores [.Tuple ts k pos] v env = pure none := by
  cases v with
  | Tuple vs k2 pos2 =>
    simp only [swNone, Bool.or_eq_true] at h
    rcases h with h | h
    · have c : (!(ts.length == 2 || ts.length == 3) || vs.length != ts.length || env.blockKind != .function) = true := by
        simp only [Bool.or_eq_true]
        exact .inl h
      show (if (!(ts.length == 2 || ts.length == 3) || vs.length != ts.length || env.blockKind != .function) = true then pure none else _) = (pure none : Sem (Option (List Str)))
      rw [if_pos c]
    · show (if (!(ts.length == 2 || ts.length == 3) || vs.length != ts.length || env.blockKind != .function) = true then pure none else _) = (pure none : Sem (Option (List Str)))
      split
      · rfl
      · split
        · rfl
        · simp only [h, if_true]
          split <;> rfl
  | _ => rfl
theorem swaps_no {v : Expr} {t : Option Expr} {l : Nat} {env : Env} (h : isComp v = false) : swapsWith v t l env = pure false := by
  cases v with
  | ListComp _ _ _ _ => cases h
  | SetComp _ _ _ _ => cases h
  | DictComp _ _ _ _ _ => cases h
  | _ => rfl
theorem swaps_lc {elt : Expr} {gens : List Comprehension} {scope : Scope} {pos py : Pos} {y : Str} {l : Nat} {env : Env} (h : env.blockKind = .function) :
    swapsWith (.ListComp elt gens scope pos) (some (.Name y py)) l env = pure (swB env.scope y py.line (.ListComp elt gens scope pos)) := by
  show (pure (env.blockKind == .function && env.kindOf y == some .local && py.line == pos.line && !(scope.names.any fun (n, k) => n == y && (k == .local || k == .cell))) : Sem Bool) = _
  congr 1
  rw [h]
  unfold swB Env.kindOf
  have e1 : (env.scope.names.lookup y == some NameKind.local) = decide (env.scope.names.lookup y = some .local) := by
    cases q : env.scope.names.lookup y with
    | none => rfl
    | some k => cases k <;> rfl
  have e2 : (py.line == pos.line) = decide (py.line = pos.line) := rfl
  rw [e1, e2]
  rfl
theorem swaps_dc {kx vx : Expr} {gens : List Comprehension} {scope : Scope} {pos py : Pos} {y : Str} {l : Nat} {env : Env} (h : env.blockKind = .function) :
    swapsWith (.DictComp kx vx gens scope pos) (some (.Name y py)) l env = pure (swB env.scope y py.line (.DictComp kx vx gens scope pos)) := by
  show (pure (env.blockKind == .function && env.kindOf y == some .local && py.line == pos.line && !(scope.names.any fun (n, k) => n == y && (k == .local || k == .cell))) : Sem Bool) = _
  congr 1
  rw [h]
  unfold swB Env.kindOf
  have e1 : (env.scope.names.lookup y == some NameKind.local) = decide (env.scope.names.lookup y = some .local) := by
    cases q : env.scope.names.lookup y with
    | none => rfl
    | some k => cases k <;> rfl
  have e2 : (py.line == pos.line) = decide (py.line = pos.line) := rfl
  rw [e1, e2]
  rfl
theorem blockKind_of {env : Env} (h : env.scope.kind = .function) : env.blockKind = .function := by
  unfold Env.blockKind
  rw [h]
  rfl
theorem swapped_par {x y : Str} {px py pt pt2 : Pos} {k k2 : Nat} {a b : Expr} {env : Env} (hb : env.blockKind = .function) (h : parOk env.scope x y px py a b = true) : swappedStores [.Tuple [.Name x px, .Name y py] k pt] (.Tuple [a, b] k2 pt2) env = pure (some [x, y]) := by
  simp only [parOk, Bool.and_eq_true, decide_eq_true_eq, Bool.not_eq_true'] at h
  obtain ⟨⟨h1, h2⟩, ⟨h3, h4⟩, ⟨h5, h6⟩, h7, h8⟩ := h
  have k1 : (env.kindOf x == some NameKind.local) = true := by unfold Env.kindOf; rw [h1]; rfl
  have k2' : (env.kindOf y == some NameKind.local) = true := by unfold Env.kindOf; rw [h2]; rfl
  have e1 : (y == x) = false := beq_eq_false_iff_ne.mpr (Ne.symm h4)
  have e2 : (x == y) = false := beq_eq_false_iff_ne.mpr h4
  have l1 : (py.line == px.line) = true := by rw [h3]; exact beq_self_eq_true _
  have l0 : (px.line == px.line) = true := beq_self_eq_true _
  have c2 : ([a, b].any fun | .Starred .. => true | _ => false) = false := by
    cases a with
    | Starred _ _ => cases h5
    | _ => cases b with
      | Starred _ _ => cases h6
      | _ => rfl
  unfold swappedStores
  simp only [List.length_cons, List.length_nil, Nat.zero_add, hb, h7, h8, List.head?_cons, Option.map_some, Option.getD_some, Expr.pos, List.filterMap_cons, List.filterMap_nil, k1, k2', l0, l1, Bool.and_self, if_true, List.eraseDups_cons, List.filter_cons, List.filter_nil, e1, e2, pure_bind, bind_pure]
  rw [if_neg (by decide)]
  have e3 : ([y] : List Str).eraseDups = [y] := by simp [List.eraseDups_cons]
  split
  · rename_i z
    exact absurd (c2.symm.trans z) Bool.false_ne_true
  · simp [e3]
/-- a context for statements -/
structure GoodS (X : Cx) (C : Ctx) (n : Nat) (s : Sx) : Prop extends Good X C n s where
  kind : s.sc.kind = .function
  xe : X.xe = fun _ _ => False
theorem GoodS.bk (g : GoodS X C n s) : X.env.blockKind = .function := blockKind_of (by rw [g.sc]; exact g.kind)
theorem GoodS.pin (g : GoodS X C n s) (io : List Nat) : GoodS X { C with pin := io } n s := ⟨⟨g.N, g.sc, g.fn, g.nd, g.calm, g.room, g.fns, g.gls, g.nos, g.gds, g.gua⟩, g.kind, g.xe⟩
theorem GoodS.hp (g : GoodS X C n s) : PassesOwn (model X.prog X.w) X.A X.env X.xe := by
  rw [g.xe]
  exact PassesOwn.never
theorem assign_sub {o i : Expr} {pos : Pos} {env : Env} (h : noSlice i = true) : ∀ v, assign (.Subscript o i pos) env v = (do
      let ov ← holding [v] (eval o env)
      let iv ← holding [v, ov] (eval i env)
      standAt pos
      holding [v, ov, iv] (setItem ov iv v)
      release [v, ov, iv] []) := fun v => by
  cases i with
  | Slice _ _ _ _ => cases h
  | _ => rfl
theorem plainLc_eq {v : Expr} (h : plainLc v = true) : ∃ elt tg iter ifs scope pos, v = .ListComp elt [⟨tg, iter, ifs, 0⟩] scope pos := by
  unfold plainLc at h
  split at h
  · exact ⟨_, _, _, _, _, _, rfl⟩
  · cases h
theorem ps_or {st : Stmt} {t1 t2 t : TS} (h1 : PS X st t1) (h2 : PS X st t2) (w : ∀ Dn σ H, t Dn σ H → t1 Dn σ H ∨ t2 Dn σ H) : PS X st t :=
  ⟨fun pins s σ H Dn I q => (w Dn σ H q).elim (h1.run pins s σ H Dn I) (h2.run pins s σ H Dn I)⟩
theorem plainDc_eq {v : Expr} (h : plainDc v = true) : ∃ kx vx tg iter ifs scope pos, v = .DictComp kx vx [⟨tg, iter, ifs, 0⟩] scope pos := by
  unfold plainDc at h
  split at h
  · exact ⟨_, _, _, _, _, _, _, rfl⟩
  · cases h
theorem chE_dc {own : List Nat} {k : ItK} {its : List E} {tg : Tg} {cond : List E} {key val : E} {kx vx tg' iter : Expr} {ifs : List Expr} {scope : Scope} {pos : Pos} (h : chE s (.dc own k its tg cond key val) (.DictComp kx vx [⟨tg', iter, ifs, 0⟩] scope pos) = true) :
    s.blkOk scope own = true ∧ (s.blk scope).tg tg tg' = true ∧ ((k.isD = true ∧ s.dictOk k its tg' iter = true) ∨ (k.isD ≠ true ∧ ∃ xs, iterArgs s k tg' iter = some xs ∧ chL s its xs = true)) ∧ cond.length ≤ 1 ∧ chL (s.blk scope) cond ifs = true ∧ chE (s.blk scope) key kx = true ∧ chE (s.blk scope) val vx = true := by
  simp only [chE, Bool.and_eq_true, decide_eq_true_eq] at h
  obtain ⟨h1, h2, h3, h4, h5, h6, h7⟩ := h
  by_cases hk : k.isD = true
  · rw [if_pos hk] at h3
    exact ⟨h1, h2, .inl ⟨hk, h3⟩, h4, h5, h6, h7⟩
  · rw [if_neg hk] at h3
    split at h3
    · rename_i xs e
      exact ⟨h1, h2, .inr ⟨hk, xs, e, h3⟩, h4, h5, h6, h7⟩
    · cases h3
theorem chE_lc {own : List Nat} {k : ItK} {its : List E} {tg : Tg} {cond : List E} {elt : E} {elt' tg' iter : Expr} {ifs : List Expr} {scope : Scope} {pos : Pos} (h : chE s (.lc own k its tg cond elt) (.ListComp elt' [⟨tg', iter, ifs, 0⟩] scope pos) = true) :
    s.blkOk scope own = true ∧ (s.blk scope).tg tg tg' = true ∧ ((k.isD = true ∧ s.dictOk k its tg' iter = true) ∨ ∃ xs, iterArgs s k tg' iter = some xs ∧ chL s its xs = true) ∧ cond.length ≤ 1 ∧ chL (s.blk scope) cond ifs = true ∧ chE (s.blk scope) elt elt' = true := by
  simp only [chE, Bool.and_eq_true, decide_eq_true_eq] at h
  obtain ⟨h1, h2, h3, h4, h5, h6⟩ := h
  by_cases hk : k.isD = true
  · rw [if_pos hk] at h3
    exact ⟨h1, h2, .inl ⟨hk, h3⟩, h4, h5, h6⟩
  · rw [if_neg hk] at h3
    split at h3
    · rename_i xs e
      exact ⟨h1, h2, .inr ⟨xs, e, h3⟩, h4, h5, h6⟩
    · cases h3
theorem ps_lc {i : Nat} {y : Str} {py spos pos : Pos} {own : List Nat} {k : ItK} {its : List E} {tg : Tg} {cond : List E} {elt : E} {elt' tg' iter : Expr} {ifs : List Expr} {scope : Scope} (g : GoodS X C n s) (h1 : s.sto i (.Name y py) = true)
    (h2 : chE s (.lc own k its tg cond elt) (.ListComp elt' [⟨tg', iter, ifs, 0⟩] scope pos) = true) : PS X (.Assign [.Name y py] (.ListComp elt' [⟨tg', iter, ifs, 0⟩] scope pos) spos) (tS X.K C (.asg i (.lc own k its tg cond elt))) := by
  obtain ⟨y', p', e0, q1, q2, q3⟩ := g.sto h1
  cases e0
  have bk := g.bk
  cases b : swB X.env.scope y py.line (.ListComp elt' [⟨tg', iter, ifs, 0⟩] scope pos) with
  | false =>
    exact PS.weak (ps_set g.hN q1 q2 (sE _ s _ h2 X g.toGood).1 (by rw [swaps_lc bk, b]) q3) fun Dn σ H w => tS_asg w
  | true =>
    obtain ⟨k1, k2, k3, k4, k5, k6⟩ := chE_lc h2
    have hl : X.env.scope.names.lookup y = some .local := by
      simp only [swB, Bool.and_eq_true, decide_eq_true_eq] at b
      exact b.1.1
    rcases k3 with ⟨hk, k3⟩ | ⟨xs, ea, k3⟩
    · obtain ⟨v, rfl, pi, ns⟩ := se_dsrc g.toGood k3
      have b := ps_setLc (own := s.own own) (g := gT X.K tg) (tt := tBT X.K C true cond) (te := tV X.K C elt) g.calm g.hN q1 hl (by rw [swaps_lc bk, b]) pi (blk_ok g.toGood k1) (fun sh H A cl fp => (g.toGood.blk sh H _ cl A fp).tg k2)
        (fun sh H A cl fp => pts_of k4 (sL cond (s.blk _) _ k5 _ (g.toGood.blk sh H _ cl A fp))) (fun sh H A cl fp => (sE elt (s.blk _) _ k6 _ (g.toGood.blk sh H _ cl A fp)).1) (set_folded ns) (spos := spos) (pos := pos)
      refine ps_or (ps_lock b) b fun Dn σ H w => ?_
      rw [own_map]
      rcases tE_lcD hk (tS_asg w) with ⟨a, u, z1, z2, z3⟩ | z
      · exact .inl ⟨a, u, z1, z2, z3⟩
      · exact .inr z
    · refine PS.weak (ps_setLc (own := s.own own) (g := gT X.K tg) (tt := tBT X.K C true cond) (te := tV X.K C elt) g.calm g.hN q1 hl (by rw [swaps_lc bk, b]) (se_iter g.toGood ea (sL its s _ k3 X g.toGood)) (blk_ok g.toGood k1) (fun sh H A cl fp => (g.toGood.blk sh H _ cl A fp).tg k2)
        (fun sh H A cl fp => pts_of k4 (sL cond (s.blk _) _ k5 _ (g.toGood.blk sh H _ cl A fp))) (fun sh H A cl fp => (sE elt (s.blk _) _ k6 _ (g.toGood.blk sh H _ cl A fp)).1) (set_folded (iter_noSet ea))) fun Dn σ H w => ?_
      rw [own_map]
      have := tS_asg w
      exact tE_lc this
theorem ps_dc {i : Nat} {y : Str} {py spos pos : Pos} {own : List Nat} {k : ItK} {its : List E} {tg : Tg} {cond : List E} {key val : E} {kx vx tg' iter : Expr} {ifs : List Expr} {scope : Scope} (g : GoodS X C n s) (h1 : s.sto i (.Name y py) = true)
    (h2 : chE s (.dc own k its tg cond key val) (.DictComp kx vx [⟨tg', iter, ifs, 0⟩] scope pos) = true) : PS X (.Assign [.Name y py] (.DictComp kx vx [⟨tg', iter, ifs, 0⟩] scope pos) spos) (tS X.K C (.asg i (.dc own k its tg cond key val))) := by
  obtain ⟨y', p', e0, q1, q2, q3⟩ := g.sto h1
  cases e0
  have bk := g.bk
  cases b : swB X.env.scope y py.line (.DictComp kx vx [⟨tg', iter, ifs, 0⟩] scope pos) with
  | false =>
    exact PS.weak (ps_set g.hN q1 q2 (sE _ s _ h2 X g.toGood).1 (by rw [swaps_dc bk, b]) q3) fun Dn σ H w => tS_asg w
  | true =>
    obtain ⟨k1, k2, k3, k4, k5, k6, k7⟩ := chE_dc h2
    have hl : X.env.scope.names.lookup y = some .local := by
      simp only [swB, Bool.and_eq_true, decide_eq_true_eq] at b
      exact b.1.1
    rcases k3 with ⟨hk, k3⟩ | ⟨hk, xs, ea, k3⟩
    · obtain ⟨v, rfl, pi, ns⟩ := se_dsrc g.toGood k3
      have b := ps_setDc (own := s.own own) (g := gT X.K tg) (tt := tBT X.K C true cond) (tk := tV X.K C key) (tv := tV X.K C val) g.calm g.hN q1 hl (by rw [swaps_dc bk, b]) pi (blk_ok g.toGood k1) (fun sh H A cl fp => (g.toGood.blk sh H _ cl A fp).tg k2)
        (fun sh H A cl fp => pts_of k4 (sL cond (s.blk _) _ k5 _ (g.toGood.blk sh H _ cl A fp))) (fun sh H A cl fp => (sE key (s.blk _) _ k6 _ (g.toGood.blk sh H _ cl A fp)).1) (fun sh H A cl fp => (sE val (s.blk _) _ k7 _ (g.toGood.blk sh H _ cl A fp)).1) (set_folded ns) (spos := spos) (pos := pos)
      refine ps_or (ps_lock b) b fun Dn σ H w => ?_
      rw [own_map]
      rcases tE_dcD hk (tS_asg w) with ⟨a, u, z1, z2, z3⟩ | z
      · exact .inl ⟨a, u, z1, z2, z3⟩
      · exact .inr z
    · refine PS.weak (ps_setDc (own := s.own own) (g := gT X.K tg) (tt := tBT X.K C true cond) (tk := tV X.K C key) (tv := tV X.K C val) g.calm g.hN q1 hl (by rw [swaps_dc bk, b]) (se_iter g.toGood ea (sL its s _ k3 X g.toGood)) (blk_ok g.toGood k1) (fun sh H A cl fp => (g.toGood.blk sh H _ cl A fp).tg k2)
        (fun sh H A cl fp => pts_of k4 (sL cond (s.blk _) _ k5 _ (g.toGood.blk sh H _ cl A fp))) (fun sh H A cl fp => (sE key (s.blk _) _ k6 _ (g.toGood.blk sh H _ cl A fp)).1) (fun sh H A cl fp => (sE val (s.blk _) _ k7 _ (g.toGood.blk sh H _ cl A fp)).1) (set_folded (iter_noSet ea))) fun Dn σ H w => ?_
      rw [own_map]
      have := tS_asg w
      exact tE_dc this
theorem ps_sda {root : Nat} {k v : E} {k' v' : Expr} {y : Str} {p lp ap1 cp1 ap2 cp2 pos : Pos} (g : GoodS X C n s) (h1 : (ap1.endLine == cp1.line) = true) (h2 : (ap2.endLine == cp2.line) = true) (hv : s.vis root (.Name y p) = true)
    (nk : noStar k' = true) (sk : SE X C k k') (nv : noStar v' = true) (sv : SE X C v v') :
    PS X (.Expr (.Call (.Attribute (.Call (.Attribute (.Name y p) "setdefault" ap1) [k', .List [] lp] [] cp1) "append" ap2) [v'] [] cp2) pos) (tS X.K C (.sda root k v)) := by
  have l : Al X C [k, .lst []] [k', .List [] lp] := .cons nk sk (.cons rfl (se_lst .nil) .nil)
  have l2 : Al X C [v] [v'] := .cons nv sv .nil
  have m : M2 X (.Name y p) "setdefault" ap1 k' (.List [] lp) cp1 := ⟨recv_base rfl, few_ok l (by simp) _ _, h1, by rw [l.star]; rfl⟩
  have pd := pe_dsetd (g.toGood.vis hv) sk.1 (pe_lst (pos := lp) pa_nil) m
  have pe := pe_bm PySem.F.plainAttrs_list PySem.F.slot_list_append PySem.F.type_list_append mt_append pd l2.pa rfl (few_ok l2 (by simp) _ _) h2 (star_cons nv) rfl
  exact PS.weak (ps_expr pe (swaps_no rfl)) fun Dn σ H w => tS_sda w
end
mutual
theorem sS {C : Ctx} {n : Nat} : ∀ (st : S) (s : Sx) (x : Stmt), chS s st x = true → ∀ (X : Cx), GoodS X C n s → PS X x (tS X.K C st)
  | .asg i e, s, x, h, X, g => by
    unfold chS at h
    split at h
    all_goals (try contradiction)
    rename_i e1
    cases e1
    simp only [Bool.and_eq_true, Bool.or_eq_true, Bool.not_eq_true'] at h
    obtain ⟨h1, h2, h3⟩ := h
    rcases h3 with h3 | ⟨h3, h4⟩ | ⟨h3, h4⟩
    · obtain ⟨y', p', e0, q1, q2, q3⟩ := g.sto h1
      cases e0
      exact PS.weak (ps_set g.hN q1 q2 (sE e s _ h2 X g.toGood).1 (swaps_no h3) q3) fun Dn σ H w => tS_asg w
    · obtain ⟨elt', tg', iter, ifs, scope, pos, rfl⟩ := plainLc_eq h3
      cases e with
      | lc _ _ _ _ _ _ => exact ps_lc g h1 h2
      | _ => cases h4
    · obtain ⟨kx, vx, tg', iter, ifs, scope, pos, rfl⟩ := plainDc_eq h3
      cases e with
      | dc _ _ _ _ _ _ _ => exact ps_dc g h1 h2
      | _ => cases h4
  | .asgS i e, s, x, h, X, g => by
    unfold chS at h
    split at h
    all_goals (try contradiction)
    rename_i e1
    cases e1
    simp only [Bool.and_eq_true, Bool.not_eq_true'] at h
    obtain ⟨h1, h2, h3⟩ := h
    obtain ⟨y', p', e0, q1, q2, q3⟩ := g.sto h1
    cases e0
    exact PS.weak (ps_set g.hN q1 q2 (sE e s _ h2 X g.toGood).1 (swaps_no h3) q3) fun Dn σ H w => tS_asgS w
  | .asgT is e, s, x, h, X, g => by
    unfold chS at h
    split at h
    all_goals (try contradiction)
    rename_i e1
    cases e1
    simp only [Bool.and_eq_true, Bool.not_eq_true'] at h
    obtain ⟨h1, h2, h3, h4⟩ := h
    exact PS.weak (ps_asg (sE e s _ h2 X g.toGood).1 (g.toGood.tg (t := .tp is) h1) swaps_tup (swapped_none h4)) fun Dn σ H w => tS_asgT w
  | .par i j a b, s, x, h, X, g => by
    unfold chS at h
    split at h
    all_goals (try contradiction)
    rename_i e1
    cases e1
    simp only [Bool.and_eq_true, decide_eq_true_eq] at h
    obtain ⟨h1, h2, h3, h4, h5⟩ := h
    obtain ⟨y', p', e0, q1, q2, q3⟩ := g.sto h1
    cases e0
    obtain ⟨y', p', e0, r1, r2, r3⟩ := g.sto h2
    cases e0
    rw [← g.sc] at h5
    have h6 := h5
    simp only [parOk, Bool.and_eq_true, decide_eq_true_eq] at h6
    exact PS.weak (ps_par g.calm g.hN q1 r1 h3 h6.1.1 h6.1.2 (sL [a, b] s _ h4 X g.toGood).pa (swapped_par g.bk h5) swaps_tup) fun Dn σ H w => tS_par w
  | .put root path ix e, s, x, h, X, g => by
    unfold chS at h
    split at h
    all_goals (try contradiction)
    rename_i e1
    cases e1
    simp only [Bool.and_eq_true] at h
    obtain ⟨h1, h2, h3, h4, h5, h6⟩ := h
    exact PS.weak (ps_asg (sE e s _ h6 X g.toGood).1 (pg_sub (pe_path g.toGood h1 h2 (sL path s _ h3 X g.toGood)) (sE ix s _ h5 X g.toGood).1 (set_x g.hu) (assign_sub h4)) swaps_sub swapped_sub) fun Dn σ H w => tS_put w
  | .aug i o e, s, x, h, X, g => by
    unfold chS at h
    split at h
    all_goals (try contradiction)
    rename_i e1
    cases e1
    simp only [Bool.and_eq_true, decide_eq_true_eq] at h
    obtain ⟨rfl, h1, h2⟩ := h
    obtain ⟨y', p', e0, q1, q2, q3⟩ := g.sto h1
    cases e0
    exact PS.weak (ps_aug g.hN q1 q2 (sE e s _ h2 X g.toGood).1 (ip_x o) q3) fun Dn σ H w => tS_aug w
  | .expr e, s, x, h, X, g => by
    unfold chS at h
    split at h
    all_goals (try contradiction)
    rename_i e1
    cases e1
    simp only [Bool.and_eq_true, Bool.not_eq_true'] at h
    exact PS.weak (ps_expr (sE e s _ h.2 X g.toGood).1 (swaps_no h.1)) fun Dn σ H w => tS_expr w
  | .sda root k v, s, x, h, X, g => by
    unfold chS at h
    split at h
    all_goals (try contradiction)
    rename_i e1
    cases e1
    simp only [Bool.and_eq_true, decide_eq_true_eq] at h
    obtain ⟨rfl, rfl, h1, h2, h3, h4, h5, h6, h7⟩ := h
    exact ps_sda g h1 h2 h3 h4 (sE k s _ h5 X g.toGood) h6 (sE v s _ h7 X g.toGood)
  | .ite c a b, s, x, h, X, g => by
    unfold chS at h
    split at h
    all_goals (try contradiction)
    rename_i e1
    cases e1
    simp only [Bool.and_eq_true] at h
    exact PS.weak (ps_if (sE c s _ h.1 X g.toGood).2 (sSs a s _ h.2.1 X g) (sSs b s _ h.2.2 X g)) fun Dn σ H w => tS_ite w
  | .for_ tg k its body, s, x, h, X, g => by
    unfold chS at h
    split at h
    all_goals (try contradiction)
    rename_i e1
    cases e1
    simp only [Bool.and_eq_true] at h
    obtain ⟨h1, h2, h3⟩ := h
    by_cases hk : k.isD = true
    · rw [if_pos hk] at h2
      obtain ⟨i, rfl, pi, ns⟩ := se_dsrc g.toGood h2
      have b := fun p => ps_for (pos := p) g.hp g.calm pi (g.toGood.tg h1) (sSs body s _ h3 X g) (set_folded ns)
      exact ps_or (ps_lock (b _)) (b _) fun Dn σ H w => tS_forD hk w
    · rw [if_neg hk] at h2
      split at h2
      rotate_left
      · cases h2
      rename_i xs ea
      exact PS.weak (ps_for g.hp g.calm (se_iter g.toGood ea (sL its s _ h2 X g.toGood)) (g.toGood.tg h1) (sSs body s _ h3 X g) (set_folded (iter_noSet ea))) fun Dn σ H w => tS_for w
  | .while_ c body, s, x, h, X, g => by
    unfold chS at h
    split at h
    all_goals (try contradiction)
    rename_i e1
    cases e1
    simp only [Bool.and_eq_true] at h
    exact PS.weak (ps_while g.hp (sE c s _ h.1 X g.toGood).2 (sSs body s _ h.2 X g)) fun Dn σ H w => tS_while w
  | .ret e, s, x, h, X, g => by
    unfold chS at h
    split at h
    all_goals (try contradiction)
    rename_i e1
    cases e1
    exact PS.weak (ps_ret (sE e s _ h X g.toGood).1) fun Dn σ H w => tS_ret w
  | .retN, s, x, h, X, g => by
    unfold chS at h
    split at h
    all_goals (try contradiction)
    exact PS.weak ps_retN fun Dn σ H w => tS_retN w
  | .brk, s, x, h, X, g => by
    unfold chS at h
    split at h
    all_goals (try contradiction)
    exact PS.weak ps_break fun Dn σ H w => tS_brk w
  | .cnt, s, x, h, X, g => by
    unfold chS at h
    split at h
    all_goals (try contradiction)
    exact PS.weak ps_continue fun Dn σ H w => tS_cnt w
  | .pass, s, x, h, X, g => by
    unfold chS at h
    split at h
    all_goals (try contradiction)
    exact PS.weak ps_pass fun Dn σ H w => tS_pass w
  | .doc, s, x, h, X, g => by
    unfold chS at h
    split at h
    all_goals (try contradiction)
    exact PS.weak ps_doc fun Dn σ H w => tS_doc w
theorem sSs {C : Ctx} {n : Nat} : ∀ (ss : List S) (s : Sx) (xs : List Stmt), chSs s ss xs = true → ∀ (X : Cx), GoodS X C n s → PSs X xs (tSs X.K C ss)
  | [], s, [], h, X, g => PSs.weak pss_nil fun Dn σ H w => tSs_nil w
  | [], s, _ :: _, h, X, g => by cases h
  | e :: es, s, [], h, X, g => by cases h
  | e :: es, s, x :: xs, h, X, g => by
    simp only [chSs, Bool.and_eq_true] at h
    exact PSs.weak (pss_cons (sS e s x h.1 X g) (sSs es s xs h.2 X g)) fun Dn σ H w => tSs_cons w
end
end B
/-! BS: defs, tables of defs. -/
namespace B
open PySem PySem.Spec L2 PyProof.Rows
section
variable {K : PySem.W.Frag} {C : Ctx} {H H' : Hp} {σ : L2.St} {ρ ρ' : Rho} {Fs Fs' : Nat → List Addr} {Q : VK}
theorem ext_at {xs : List FD} {m i : Nat} {s : FD} : ((xs.map some ++ List.replicate m none : Rho)[i]? = some (some s)) ↔ xs[i]? = some s := by
  by_cases h : i < xs.length
  · rw [List.getElem?_append_left (by simpa using h), List.getElem?_map]
    cases xs[i]? <;> simp
  · rw [List.getElem?_append_right (by simpa using h), List.getElem?_replicate, List.getElem?_eq_none (l := xs) (by omega)]
    split <;> simp
theorem map_at {xs : List FD} {i : Nat} {s : FD} : ((xs.map some : Rho)[i]? = some (some s)) ↔ xs[i]? = some s := by
  rw [List.getElem?_map]
  cases xs[i]? <;> simp
theorem fins_len {io : List Nat} {args : List FD} {ρ : Rho} : ∀ (xs : List FD) (k : Nat), (finsD io args ρ k xs).length = xs.length
  | [], k => rfl
  | x :: xs, k => by simp [finsD, fins_len xs (k + 1)]
theorem fins_at {io : List Nat} {args : List FD} {ρ : Rho} : ∀ (xs : List FD) (k i : Nat) (s : FD), (finsD io args ρ k xs)[i]? = some (some s) → ∃ x, xs[i]? = some x ∧ ((k + i ∈ io ∧ ρ[k + i]? = some (some s)) ∨ (k + i ∉ io ∧ s = x ∧ ¬ (x.f = .own ∧ x.d.mut = true)))
  | [], k, i, s, h => by simp [finsD] at h
  | x :: xs, k, 0, s, h => by
    simp only [finsD, List.getElem?_cons_zero, Option.some.injEq] at h
    refine ⟨x, rfl, ?_⟩
    split at h
    · rename_i m
      refine .inl ⟨m, ?_⟩
      cases q : ρ[k]? with
      | none => rw [q] at h; simp at h
      | some z => rw [q] at h; simp at h; subst h; rfl
    · rename_i m
      split at h
      · cases h
      · rename_i nn
        simp only [Option.some.injEq] at h
        exact .inr ⟨m, h.symm, nn⟩
  | x :: xs, k, i + 1, s, h => by
    simp only [finsD, List.getElem?_cons_succ] at h
    obtain ⟨y, h1, h2⟩ := fins_at xs (k + 1) i s h
    refine ⟨y, by simpa using h1, ?_⟩
    rw [Nat.add_right_comm, Nat.add_assoc] at h2
    exact h2
/-- the frame that a callee leaves to its caller -/
theorem fins_ok {io : List Nat} {xs : List FD} {vs : List V} {m : Nat} {x : FD} {v : V} {F : List Addr} (hl : vs.length = xs.length) (nb : ∀ y ∈ xs, y.f ≠ .bor)
    (f0 : FR K H (vs.map some) (xs.map some) Fs) (fr : FR K H' σ ρ' Fs') (st : Stp (xs.map some ++ List.replicate m none) Fs H ρ' Fs' H') (pn : ∀ i ∈ io, σ[i]? = (vs.map some ++ List.replicate m none : L2.St)[i]?)
    (t : Tm K (xs.map some ++ List.replicate m none) Fs H ρ' Fs' H' x v F) (nx : x.f ≠ .bor) :
    ∃ Fs2, FR K H' (vs.map some) (finsD io xs ρ' 0 xs) Fs2 ∧ Stp (xs.map some) Fs H (finsD io xs ρ' 0 xs) Fs2 H' ∧ Tm K (xs.map some) Fs H (finsD io xs ρ' 0 xs) Fs2 H' x v F ∧ (∀ t ∈ finsD io xs ρ' 0 xs, ∀ s, t = some s → s.f ≠ .bor) := by
  have own0 : ∀ {a : Addr}, Own (xs.map some ++ List.replicate m none) Fs a → Own (xs.map some) Fs a := fun ⟨i, s, h1, h2, h3⟩ => ⟨i, s, map_at.mpr (ext_at.mp h1), h2, h3⟩
  have all0 : ∀ {a : Addr}, All (xs.map some ++ List.replicate m none) Fs a → All (xs.map some) Fs a := fun ⟨i, s, h1, h3⟩ => ⟨i, s, map_at.mpr (ext_at.mp h1), h3⟩
  have shr0 : ∀ {a : Addr}, Shr (xs.map some ++ List.replicate m none) Fs a → Shr (xs.map some) Fs a := fun ⟨i, s, h1, h2, h3⟩ => ⟨i, s, map_at.mpr (ext_at.mp h1), h2, h3⟩
  have own1 : ∀ {a : Addr}, Own (xs.map some) Fs a → Own (xs.map some ++ List.replicate m none) Fs a := fun ⟨i, s, h1, h2, h3⟩ => ⟨i, s, ext_at.mpr (map_at.mp h1), h2, h3⟩
  have sho0 : ∀ {a : Addr}, ShO (xs.map some ++ List.replicate m none) Fs H a → ShO (xs.map some) Fs H a := fun h => by
    rcases h with h | h | h
    · exact .inl (shr0 h)
    · exact .inr (.inl (own0 h))
    · exact .inr (.inr h)
  -- one slot of the end
  have at_ : ∀ {i : Nat} {s : FD}, (finsD io xs ρ' 0 xs)[i]? = some (some s) → ∃ y, xs[i]? = some y ∧ ((i ∈ io ∧ ρ'[i]? = some (some s)) ∨ (i ∉ io ∧ s = y ∧ ¬ (y.f = .own ∧ y.d.mut = true))) := fun {i s} h => by
    obtain ⟨y, h1, h2⟩ := fins_at xs 0 i s h
    rw [Nat.zero_add] at h2
    exact ⟨y, h1, h2⟩
  have nbor : ∀ {i : Nat} {s : FD}, (finsD io xs ρ' 0 xs)[i]? = some (some s) → s.f ≠ .bor := fun {i s} h e => by
    obtain ⟨y, h1, h2⟩ := at_ h
    rcases h2 with ⟨_, h2⟩ | ⟨_, rfl, _⟩
    · obtain ⟨z1, _⟩ := st.lk i s h2 e
      exact nb s (List.mem_of_getElem? (ext_at.mp z1)) e
    · exact nb s (List.mem_of_getElem? h1) e
  let G : Nat → List Addr := fun i => if i ∈ io then Fs' i else Fs i
  have gi : ∀ {i : Nat}, i ∈ io → G i = Fs' i := fun h => if_pos h
  have gn : ∀ {i : Nat}, i ∉ io → G i = Fs i := fun h => if_neg h
  -- a kept argument that is owned holds nothing
  have emp : ∀ {i : Nat} {y : FD}, xs[i]? = some y → y.f = .own → ¬ (y.f = .own ∧ y.d.mut = true) → Fs i = [] := fun {i y} h1 h2 h3 => by
    obtain ⟨w, _, r, _⟩ := f0.rep i y (map_at.mpr h1)
    refine r.pure ?_
    cases q : y.d.mut with
    | false => rfl
    | true => exact absurd ⟨h2, q⟩ h3
  have own2 : ∀ {a : Addr}, Own (finsD io xs ρ' 0 xs) G a → Own ρ' Fs' a := fun {a} ⟨i, s, h1, h2, h3⟩ => by
    obtain ⟨y, h4, h5⟩ := at_ h1
    rcases h5 with ⟨h5, h6⟩ | ⟨h5, rfl, h6⟩
    · exact ⟨i, s, h6, h2, gi h5 ▸ h3⟩
    · rw [gn h5, emp h4 h2 h6] at h3; cases h3
  have exc2 : ∀ {a : Addr}, Exc (finsD io xs ρ' 0 xs) G a → Exc ρ' Fs' a := fun {a} ⟨i, s, h1, h2, h3⟩ => by
    have ho : s.f = .own := by
      cases q : s.f with
      | own => rfl
      | shr => exact absurd q h2
      | bor => exact absurd q (nbor h1)
    exact (own2 ⟨i, s, h1, ho, h3⟩).exc
  have shr2 : ∀ {a : Addr}, Shr (finsD io xs ρ' 0 xs) G a → Shr ρ' Fs' a ∨ Shr (xs.map some) Fs a := fun {a} ⟨i, s, h1, h2, h3⟩ => by
    obtain ⟨y, h4, h5⟩ := at_ h1
    rcases h5 with ⟨h5, h6⟩ | ⟨h5, rfl, h6⟩
    · exact .inl ⟨i, s, h6, h2, gi h5 ▸ h3⟩
    · exact .inr ⟨i, s, map_at.mpr h4, h2, gn h5 ▸ h3⟩
  -- what was shared ahead stays away from what is owned behind
  have apart : ∀ {a : Addr}, Shr (xs.map some) Fs a → ¬ Own ρ' Fs' a := fun {a} ⟨j, s, h1, h2, h3⟩ h => by
    rcases st.own a h with z | z
    · obtain ⟨i, y, g1, g2, g3⟩ := own0 z
      have hij : i ≠ j := fun e => by subst e; rw [h1] at g1; cases g1; rw [g2] at h2; cases h2
      exact f0.sep i j y s hij g1 h1 (by rw [g2]; decide) (.inl g2) a g3 h3
    · exact f0.all_trk ⟨j, s, h1, h3⟩ z
  refine ⟨G, ⟨by rw [fins_len]; simp [hl], fun i s h => ?_, fun i j s s' hij h1 h2 h3 h4 a m1 m2 => ?_⟩, ⟨fun a u e n => st.keep a u e fun o => n (own0 o), fun a h => (st.own a (own2 h)).imp own0 id, fun a ⟨i, s, h1, h3⟩ => ?_, fun a h => ?_, fun i s h e => absurd e (nbor h)⟩, ⟨t.rep, fun e => ⟨(t.own e).1, fun a m => ⟨fun ⟨i, s, h1, h3⟩ => ?_, ((t.own e).2 a m).2.imp own0 id⟩⟩, fun e a m => ⟨fun h => (t.shr e a m).1 (exc2 h), sho0 (t.shr e a m).2⟩, fun e => absurd e nx⟩, fun t0 m s e => ?_⟩
  · obtain ⟨y, h4, h5⟩ := at_ h
    have hi : i < vs.length := by rw [hl]; exact (List.getElem?_eq_some_iff.mp h4).1
    rcases h5 with ⟨h5, h6⟩ | ⟨h5, rfl, h6⟩
    · obtain ⟨w, g1, g2, g3⟩ := fr.rep i s h6
      rw [pn i h5, List.getElem?_append_left (by simpa using hi)] at g1
      exact ⟨w, g1, by rw [gi h5]; exact ⟨g2, g3⟩⟩
    · obtain ⟨w, g1, g2, g3⟩ := f0.rep i s (map_at.mpr h4)
      refine ⟨w, g1, ?_⟩
      rw [gn h5]
      refine ⟨g2.keep fun a u e q => st.keep a u e fun o => ?_, g3⟩
      rcases q with q | q
      · cases p : s.f with
        | own => rw [emp h4 p h6] at q; cases q
        | shr =>
          obtain ⟨j, y, z1, z2, z3⟩ := own0 o
          have hij : j ≠ i := fun e => by subst e; rw [map_at.mpr h4] at z1; cases z1; rw [p] at z2; cases z2
          exact f0.sep j i y s hij z1 (map_at.mpr h4) (by rw [z2]; decide) (.inl z2) a z3 q
        | bor => exact nb s (List.mem_of_getElem? h4) p
      · obtain ⟨u', e', n'⟩ := f0.own_mut (own0 o)
        rw [e] at e'; cases e'
        rw [q] at n'; cases n'
  · have so : s.f = .own := by
      cases q : s.f with
      | own => rfl
      | shr => exact absurd q h3
      | bor => exact absurd q (nbor h1)
    have o1 := own2 ⟨i, s, h1, so, m1⟩
    obtain ⟨y, h5, h6⟩ := at_ h1
    obtain ⟨y', h7, h8⟩ := at_ h2
    rcases h6 with ⟨h6, k6⟩ | ⟨h6, rfl, k6⟩
    · rcases h8 with ⟨h8, k8⟩ | ⟨h8, rfl, k8⟩
      · rw [gi h6] at m1
        rw [gi h8] at m2
        exact fr.sep i j s s' hij k6 k8 h3 h4 a m1 m2
      · rw [gn h8] at m2
        cases q : s'.f with
        | own => rw [emp h7 q k8] at m2; cases m2
        | shr => exact apart ⟨j, s', map_at.mpr h7, q, m2⟩ o1
        | bor => exact nb s' (List.mem_of_getElem? h7) q
    · rw [gn h6, emp h5 so k6] at m1; cases m1
  · obtain ⟨y, h4, h5⟩ := at_ h1
    rcases h5 with ⟨h5, h6⟩ | ⟨h5, rfl, h6⟩
    · rw [gi h5] at h3
      exact (st.all a ⟨i, s, h6, h3⟩).imp all0 id
    · rw [gn h5] at h3
      exact .inl ⟨i, s, map_at.mpr h4, h3⟩
  · rcases shr2 h with z | z
    · exact sho0 (st.shr a z)
    · exact .inl z
  · obtain ⟨y, h4, h5⟩ := at_ h1
    rcases h5 with ⟨h5, h6⟩ | ⟨h5, rfl, h6⟩
    · rw [gi h5] at h3
      exact ((t.own e).2 a m).1 ⟨i, s, h6, h3⟩
    · rw [gn h5] at h3
      cases q : s.f with
      | own => rw [emp h4 q h6] at h3; cases h3
      | bor => exact nb s (List.mem_of_getElem? h4) q
      | shr =>
        rcases ((t.own e).2 a m).2 with z | z
        · obtain ⟨j, y, z1, z2, z3⟩ := own0 z
          have hij : j ≠ i := fun e => by subst e; rw [map_at.mpr h4] at z1; cases z1; rw [q] at z2; cases z2
          exact f0.sep j i y s hij z1 (map_at.mpr h4) (by rw [z2]; decide) (.inl z2) a z3 h3
        · exact f0.all_trk ⟨i, s, map_at.mpr h4, h3⟩ z
  · obtain ⟨i, hi⟩ := List.getElem?_of_mem m
    rw [e] at hi
    exact nbor hi
/-- a def's body, run -/
theorem run_ok {df : Def} {vs : List V} {N : List Str} {E : XK} (hns : df.ns = N.length) (hnp : df.np ≤ df.ns) (h : spD K df.np (runD C df) vs H Q E) :
    tSs K { C with pin := df.io } df.body { nx := fun _ H' => Q .non H', rt := Q } (L2.start N vs) H := by
  obtain ⟨hl, xs, Fs, f0, nb, x, fn, h, k⟩ := h
  have lx : vs.length = xs.length := by simpa using f0.len
  unfold runD at h
  split at h
  rotate_left
  · cases h
  rename_i hx
  simp only [Option.bind_eq_some_iff] at h
  obtain ⟨r, h1, h2⟩ := h
  have em : df.ns - df.np = N.length - vs.length := by rw [hns, hl]
  rw [em] at h1
  have f1 : FR K H (L2.start N vs) (xs.map some ++ List.replicate (N.length - vs.length) none) Fs := by
    refine ⟨by simp [L2.start, lx], fun i s e => ?_, fun i j s t hij e1 e2 => f0.sep i j s t hij (map_at.mpr (ext_at.mp e1)) (map_at.mpr (ext_at.mp e2))⟩
    obtain ⟨v, q1, q2⟩ := f0.rep i s (map_at.mpr (ext_at.mp e))
    have hi : i < vs.length := by rw [lx]; exact (List.getElem?_eq_some_iff.mp (ext_at.mp e)).1
    exact ⟨v, by unfold L2.start; rw [List.getElem?_append_left (by simpa using hi)]; exact q1, q2⟩
  refine ⟨_, Fs, f1, r, h1, ?_⟩
  cases r with
  | rt y ρ' =>
    simp only [Option.some.injEq, Prod.mk.injEq] at h2
    obtain ⟨rfl, rfl⟩ := h2
    intro v σ' H' Fs' F fr st kd t nx
    obtain ⟨Fs2, z1, z2, z3, z4⟩ := fins_ok (io := df.io) lx nb f0 fr st kd.pin t nx
    exact k v H' Fs2 F z1 z2 z3 nx z4
  | nx ρ' =>
    simp only [Option.some.injEq, Prod.mk.injEq] at h2
    obtain ⟨rfl, rfl⟩ := h2
    intro σ' H' Fs' fr st kd
    obtain ⟨Fs2, z1, z2, z3, z4⟩ := fins_ok (x := ⟨.own, .non⟩) (v := .non) (F := []) (io := df.io) lx nb f0 fr st kd.pin (.pure .non rfl) (by decide)
    exact k .non H' Fs2 [] z1 z2 z3 (by decide) z4
  | bk ρ' => cases h2
  | ct ρ' => cases h2
end

/-! ### the table -/
structure Ent where
  nm : Str
  N : List Str
  ps : List Str
  df : Def
def fsB (N ps : List Str) (sc : Scope) : Bool :=
  decide (sc.kind = .function) && (!sc.isCoroutine && (!sc.isGenerator && (decide N.Nodup && (decide (N.take ps.length = ps) && ((ps.all fun x => decide (sc.names.lookup x = some .local) || decide (sc.names.lookup x = some .cell)) && (sc.names.all fun y => decide (y.2 ≠ .free)))))))
theorem fsB_ok {N ps : List Str} {sc : Scope} (h : fsB N ps sc = true) : FnScope N ps sc := by
  simp only [fsB, Bool.and_eq_true, decide_eq_true_eq, Bool.not_eq_true', List.all_eq_true, Bool.or_eq_true] at h
  obtain ⟨h1, h2, h3, h4, h5, h6, h7⟩ := h
  exact ⟨h1, h2, h3, h4, h5, h6, h7⟩
def entOk (T : Tb) (e : Ent) (st : Stmt) : Bool :=
  fsB e.N e.ps (defScope st) && (decide (e.df.np = e.ps.length) && (decide (e.df.ns = e.N.length) && chSs ⟨T, e.N, defScope st, fun _ => true⟩ e.df.body (defBody st)))
/-- the def as it stands in the module -/
def Row (K : PySem.W.Frag) (mg : Str → Option Value) (e : Ent) (st : Stmt) : Prop :=
  ∃ fa fd, mg e.nm = some (.ref fa) ∧ FunD K e.nm e.nm (defArgs st) (defBody st) (defScope st) [] [] fa fd ∧ Binds K fd e.ps []
def fnsOf : Nat → List (Ent × Stmt) → List (Str × Nat × Nat)
  | _, [] => []
  | i, p :: r => (p.1.nm, i, p.1.ps.length) :: fnsOf (i + 1) r
theorem fnsOf_at : ∀ {ents : List (Ent × Stmt)} {i : Nat} {y : Str} {f np : Nat}, (fnsOf i ents).lookup y = some (f, np) → ∃ j p, f = i + j ∧ ents[j]? = some p ∧ p.1.nm = y ∧ p.1.ps.length = np
  | [], i, y, f, np, h => by simp [fnsOf] at h
  | p :: r, i, y, f, np, h => by
    unfold fnsOf at h
    rw [List.lookup_cons] at h
    split at h
    · rename_i e
      cases h
      exact ⟨0, p, rfl, rfl, (eq_of_beq e).symm, rfl⟩
    · obtain ⟨j, q, h1, h2, h3⟩ := fnsOf_at h
      exact ⟨j + 1, q, by omega, by simpa using h2, h3⟩
theorem table {P : Program} {w : World} {K : PySem.W.Frag} {mg : Str → Option Value} {base : Heap} {Pg : Pg} {fuel : Nat} {ents : List (Ent × Stmt)} {gl gd : List (Str × Nat)} {nos : List Str}
    (hd : ∀ (f : Nat) (p : Ent × Stmt), ents[f]? = some p → Pg.defs[f]? = some p.1.df) (rows : ∀ p ∈ ents, Row K mg p.1 p.2) (ok : (ents.all fun p => entOk ⟨fnsOf 0 ents, gl, nos, gd⟩ p.1 p.2) = true)
    (gls : ∀ y g, gl.lookup y = some g → ∃ v u d, mg y = some u ∧ RelV v u ∧ Pg.globs[g]? = some d ∧ d.mut = false ∧ ∀ H, Rep K H true [] v d) (hno : ∀ y, nos.contains y = true → mg y = none)
    (gds : ∀ y g, gd.lookup y = some g → ∃ a kvs, mg y = some (.ref a) ∧ Pg.dicts[g]? = some kvs ∧ KD K w a kvs) :
    ∀ (n f : Nat) (p : Ent × Stmt), ents[f]? = some p → ∀ fa fd, mg p.1.nm = some (.ref fa) → FunD K p.1.nm p.1.nm (defArgs p.2) (defBody p.2) (defScope p.2) [] [] fa fd →
      FnX (nos.contains "repr!") P w K mg base CX0 n fa fd p.1.ps (spD K p.1.ps.length ((ctxN Pg fuel n).call f)) := by
  intro n
  induction n with
  | zero =>
    intro f p hp fa fd _ _
    refine ⟨fun vs H Q E h => h.1, fun A outer s H args us vs Q E _ _ _ _ _ h => ?_⟩
    obtain ⟨_, xs, Fs, _, _, x, fn, e, _⟩ := h
    simp [ctxN] at e
  | succ n ih =>
    intro f p hp fa fd hm F
    have pk := List.all_eq_true.mp ok p (List.mem_of_getElem? hp)
    simp only [entOk, Bool.and_eq_true, decide_eq_true_eq] at pk
    obtain ⟨p1, p2, p3, p4⟩ := pk
    have S := fsB_ok p1
    have hpl : p.1.ps.length ≤ p.1.N.length := by have := congrArg List.length S.pre; rw [List.length_take] at this; omega
    have hdf : (Pg.defs)[f]? = some p.1.df := hd f p hp
    refine ⟨fun vs H Q E h => h.1, fun A outer s H args us vs Q E hgu hr0 e0 hb rv h => callG (k := n) F S hr0 e0 hb rv h.1 fun cdv hr => ⟨tSs K { ctxN Pg fuel n with pin := p.1.df.io } p.1.df.body, PSs.nox ?_, ?_⟩⟩
    · refine sSs (n := n) p.1.df.body ⟨⟨fnsOf 0 ents, gl, nos, gd⟩, p.1.N, defScope p.2, fun _ => true⟩ _ p4 (Cx.nox (cxOf CX0 P w K mg base p.1.N p.1.nm (defScope p.2) fa cdv A outer s H E)) ?_
      refine GoodS.pin (C := ctxN Pg fuel n) (n := n) ⟨⟨rfl, rfl, fun _ _ => rfl, S.nd, rfl, hr, fun y f' np e => ?_, ?_, hno, ?_, fun z => hgu z⟩, S.kind, rfl⟩ _
      · obtain ⟨j, q, e1, e2, e3, e4⟩ := fnsOf_at e
        rw [Nat.zero_add] at e1
        subst e1 e3 e4
        obtain ⟨fa', fd', r1, r2, r3⟩ := rows q (List.mem_of_getElem? e2)
        exact ⟨fa', fd', q.1.ps, r1, r2.kp, r3, ih _ q e2 fa' fd' r1 r2⟩
      · intro y g e
        obtain ⟨v, u, d, z1, z2, z3, z4⟩ := gls y g e
        refine ⟨v, u, d, z1, z2, ?_, z4⟩
        cases n <;> exact z3
      · intro y g e
        obtain ⟨a, kvs, z1, z2, z3⟩ := gds y g e
        refine ⟨a, kvs, z1, ?_, z3⟩
        cases n <;> exact z2
    · rw [← p2] at h
      refine run_ok p3 (by rw [p2, p3]; exact hpl) (E := E) ?_
      obtain ⟨h1, xs, Fs, h2, h3, x, fn, h4, h5⟩ := h
      refine ⟨h1, xs, Fs, h2, h3, x, fn, ?_, h5⟩
      simp only [ctxN, hdf, Option.bind_some] at h4
      exact h4
end B
/-! BT: the head's facts, the end. -/
namespace B
open PySem PySem.Spec L2 PyProof.Rows
/-- a table's def as the head knows it -/
def Ent.dd (e : Ent) (st : Stmt) : He.DefD := ⟨(e.nm, none), e.nm, e.nm, defArgs st, defBody st, defScope st, [], []⟩
abbrev KB : Type := PySem.W.Frag → Bool
/-! ### constants of the module -/
mutual
def litB (K : PySem.W.Frag) : D → Value → Bool
  | .non, .none => true
  | .bl b, .bool c => b == c
  | .int i, .int j _ => decide (i = j)
  | .str x, .str y _ => decide (x = y)
  | .tup ds, .ref a => (match K.lookup a with
    | some ⟨.type c, _, .seq its _, _⟩ => decide (c = "tuple") && (decide (its.size ≤ sizeLine) && litL K ds its.toList)
    | _ => false)
  | _, _ => false
def litL (K : PySem.W.Frag) : List D → List Value → Bool
  | [], [] => true
  | d :: ds, v :: vs => litB K d v && litL K ds vs
  | _, _ => false
end
mutual
theorem litB_ok {K : PySem.W.Frag} : ∀ (d : D) (u : Value), litB K d u = true → d.mut = false ∧ ∃ v, RelV v u ∧ ∀ H, Rep K H true [] v d
  | .non, u, h => by
    cases u <;> simp [litB] at h
    exact ⟨rfl, .non, rfl, fun _ => .non⟩
  | .bl b, u, h => by
    cases u <;> simp [litB] at h
    subst h
    exact ⟨rfl, .bl b, rfl, fun _ => .bl⟩
  | .int i, u, h => by
    cases u <;> simp [litB] at h
    subst h
    exact ⟨rfl, .int i, ⟨_, rfl⟩, fun _ => .int⟩
  | .str x, u, h => by
    cases u <;> simp [litB] at h
    subst h
    exact ⟨rfl, .str x, ⟨_, rfl⟩, fun _ => .str⟩
  | .tup ds, u, h => by
    cases u with
    | ref a =>
      simp only [litB] at h
      split at h
      · rename_i c od its n sl q
        simp only [Bool.and_eq_true, decide_eq_true_eq] at h
        obtain ⟨rfl, h1, h2⟩ := h
        obtain ⟨m, vs, r1, r2⟩ := litL_ok ds its.toList h2
        exact ⟨by simpa [D.mut] using m, .ref a, rfl, fun H => .tup (.inr ⟨_, its, n, q, rfl, rfl, h1, r1⟩) (r2 H)⟩
      · cases h
    | _ => simp [litB] at h
  | .lst _, u, h => by cases u <;> simp [litB] at h
  | .clst _, u, h => by cases u <;> simp [litB] at h
  | .dK _, u, h => by cases u <;> simp [litB] at h
  | .dT _, u, h => by cases u <;> simp [litB] at h
theorem litL_ok {K : PySem.W.Frag} : ∀ (ds : List D) (us : List Value), litL K ds us = true → D.mutL ds = false ∧ ∃ vs, Vals vs us ∧ ∀ H, Reps K H true [] vs ds
  | [], [], _ => ⟨rfl, [], .nil, fun _ => .nil⟩
  | [], _ :: _, h => by simp [litL] at h
  | _ :: _, [], h => by simp [litL] at h
  | d :: ds, u :: us, h => by
    simp only [litL, Bool.and_eq_true] at h
    obtain ⟨m1, v, r1, q1⟩ := litB_ok d u h.1
    obtain ⟨m2, vs, r2, q2⟩ := litL_ok ds us h.2
    exact ⟨by simp [D.mutL, m1, m2], v :: vs, .cons r1 r2, fun H => .cons (F := []) (G := []) (q1 H) (q2 H)⟩
end
/-- the name x stands for the tree d -/
def litF (x : Str) (d : D) : KB := fun K => match PySem.W.nsIn K mainGlobals x with
  | some (some u) => litB K d u
  | _ => false
theorem litF_ok {K : PySem.W.Frag} {h : Heap} {mg : Str → Option Value} {x : Str} {d : D} (X : K.In h) (G : h.Ns mainGlobals mg) (c : litF x d K = true) : ∃ v u, mg x = some u ∧ RelV v u ∧ d.mut = false ∧ ∀ H, Rep K H true [] v d := by
  unfold litF at c
  split at c
  · rename_i u e
    obtain ⟨m, v, r, q⟩ := litB_ok d u c
    exact ⟨v, u, PySem.W.mg_of X G e, r, m, q⟩
  · cases c
/-- the name x stands for a dict with these values -/
def dicF (x : Str) (kvs : List (Str × D)) : KB := fun K => kvs.all fun q => match PySem.W.nsIn K (He.ga K x) q.1 with
  | some (some u) => litB K q.2 u
  | _ => false
theorem lookup_mem {α : Type} {kvs : List (Str × α)} {z : Str} {d : α} (h : kvs.lookup z = some d) : (z, d) ∈ kvs := by
  induction kvs with
  | nil => cases h
  | cons q r ih =>
    rw [List.lookup_cons] at h
    split at h
    · rename_i e
      cases h
      rw [eq_of_beq e]
      exact List.mem_cons_self
    · exact List.mem_cons_of_mem _ (ih h)
theorem keys_no {P : Params} {z : Str} : ∀ {l : List DictEntry} {ks : List Str}, l.map He.keyOf = He.keysIn P ks → z ∉ ks → (l.find? fun e => e.key.isStr z) = none ∧ (l.any fun e => e.refKey) = false
  | [], _, _, _ => ⟨rfl, rfl⟩
  | e :: r, [], h, _ => by cases h
  | e :: r, k :: ks, h, n => by
    have h1 : He.keyOf e :: r.map He.keyOf = some (k, PyData.keyHash P k) :: He.keysIn P ks := h
    injection h1 with h2 h3
    obtain ⟨q1, q2⟩ := keys_no h3 fun m => n (List.mem_cons_of_mem _ m)
    unfold He.keyOf at h2
    split at h2
    · rename_i x t q
      have h4 := (Prod.mk.inj (Option.some.inj h2)).1
      have e1 : e.key.isStr z = false := by
        rw [q]
        show (x == z) = false
        rw [h4]
        exact beq_eq_false_iff_ne.mpr fun w => n (w ▸ List.mem_cons_self)
      have e2 : e.refKey = false := by
        unfold DictEntry.refKey
        rw [q]
      exact ⟨by rw [List.find?_cons, e1]; exact q1, by rw [List.any_cons, e2, q2]; rfl⟩
    · cases h2
theorem kd_of {K : PySem.W.Frag} {w : World} {x : Str} {kvs : List (Str × D)} (h1 : He.dicW K (He.ga K x) = some (He.keysIn w.params (kvs.map (·.1)))) (h2 : dicF x kvs K = true) : KD K w (He.ga K x) kvs where
  dict := He.dicW_ok h1
  at_ := fun z d e => by
    have := List.all_eq_true.mp h2 _ (lookup_mem e)
    split at this
    · rename_i u q
      obtain ⟨m, v, r, k⟩ := litB_ok d u this
      exact ⟨u, v, q, r, m, k⟩
    · cases this
  no := fun z e => by
    have hz : z ∉ kvs.map (·.1) := fun m => by
      obtain ⟨q, hq, rfl⟩ := List.mem_map.mp m
      have : ∀ l : List (Str × D), q ∈ l → l.lookup q.1 ≠ none := fun l => by
        induction l with
        | nil => intro h; cases h
        | cons a l ih =>
          intro h
          rw [List.lookup_cons]
          rcases List.mem_cons.mp h with rfl | h
          · simp
          · split
            · simp
            · exact ih h
      exact this kvs hq e
    unfold He.dicW at h1
    unfold PySem.W.nsIn
    split at h1
    · rename_i c es n sl q
      split at h1
      · obtain ⟨k1, k2⟩ := keys_no (Option.some.inj h1) hz
        rw [q]
        simp only [k1, k2]
        rfl
      · cases h1
    · cases h1
/-! ### the Hook -/
/-- facts: any closed check of the written part; ts: dicts, their keys in order -/
def obsB (fa : List KB) (fn : List He.DefD) (ts : List (Str × List Str)) (K : PySem.W.Frag) : He.AlT := (((fa.all fun f => f K) && fn.all fun d => d.ok K, fn.map fun d => He.fnW K d.at_), ts.map fun t => He.dicW K (He.ga K t.1))
def valB (fn : List He.DefD) (ts : List (Str × List Str)) (w : World) : He.AlT := (He.valD fn, ts.map fun t => some (He.keysIn w.params t.2))
def SaysB (fa : List KB) (fn : List He.DefD) (ts : List (Str × List Str)) (w : World) (K : PySem.W.Frag) : Prop := obsB fa fn ts K = valB fn ts w
def obsBG (n : Nat) (fa : List KB) (fn : List He.DefD) (ts : List (Str × List Str)) (g : Addr → Option Obj) : He.AlT := obsB fa fn ts (He.frG g (He.asD g n))
def hookB (n : Nat) (fa : List KB) (fn : List He.DefD) (ts : List (Str × List Str)) : PySem.W.Hook where
  α := He.AlT
  obs := fun s => obsBG n fa fn ts s.heap.get?
  val := fun w => valB fn ts w
  says := fun w h => ∃ K : PySem.W.Frag, K.In h ∧ SaysB fa fn ts w K
  of := fun _ _ e => ⟨_, He.frG_in, e⟩
  keeps := fun _ _ _ ⟨K, hK, c⟩ k => ⟨K, PySem.W.Frag.In.keeps hK k, c⟩
theorem obsBG_eq {n : Nat} {fa : List KB} {fn : List He.DefD} {ts : List (Str × List Str)} {g : Addr → Option Obj} {s : Shared} (h : ∀ a, g a = s.heap.get? a) : obsBG n fa fn ts g = (hookB n fa fn ts).obs s := by
  have e : g = s.heap.get? := funext h
  rw [e] <;> rfl
section
variable {fa : List KB} {fn : List He.DefD} {ts : List (Str × List Str)} {w : World} {K : PySem.W.Frag}
theorem SaysB.facts (c : SaysB fa fn ts w K) : ∀ f ∈ fa, f K = true := by
  have c1 := (He.ba (show ((fa.all fun f => f K) && fn.all fun d => d.ok K) = true from congrArg (fun z : He.AlT => z.1.1) c)).1
  exact List.all_eq_true.mp c1
theorem SaysB.def_ (c : SaysB fa fn ts w K) {i : Nat} {d : He.DefD} (h : fn[i]? = some d) : ∃ fd, FunD K d.name d.qual d.params d.body d.scope (d.dvs K) (d.kws K) (He.fAd K d.at_) fd := by
  have c2 := (He.ba (show ((fa.all fun f => f K) && fn.all fun d => d.ok K) = true from congrArg (fun z : He.AlT => z.1.1) c)).2
  have e : fn.map (fun d => He.fnW K d.at_) = fn.map He.DefD.val := congrArg (fun z : He.AlT => z.1.2) c
  have e2 : (fn.map fun d => He.fnW K d.at_)[i]? = (fn.map He.DefD.val)[i]? := by rw [e]
  rw [List.getElem?_map, List.getElem?_map, h] at e2
  exact He.DefD.funD (Option.some.inj e2) (List.all_eq_true.mp c2 d (List.mem_of_getElem? h))
theorem SaysB.tab (c : SaysB fa fn ts w K) : ∀ t ∈ ts, He.dicW K (He.ga K t.1) = some (He.keysIn w.params t.2) := fun t ht => by
  have e : ts.map (fun t => He.dicW K (He.ga K t.1)) = ts.map fun t => some (He.keysIn w.params t.2) := congrArg (fun z : He.AlT => z.2) c
  exact List.map_inj_left.mp e t ht
end
/-- how a table's defs bind -/
def BindOk (e : Ent) (st : Stmt) : Prop := ∀ (kV doc pm : Value) (an : Option Addr) (cdv ct : Value) (us : List Value), us.length = e.ps.length → bindArgs (PySem.W.fnOf e.nm e.nm (defArgs st) (defBody st) (defScope st) .none kV doc pm an cdv ct) ⟨us, []⟩ = pure (e.ps.zip us)
def gloB (x : Str) : KB := fun K => (He.Fa.glo x).ok K
def freB (x : Str) : KB := fun K => (He.Fa.free x).ok K
def faOf (ents : List (Ent × Stmt)) (nos : List Str) (gl : List (Str × D)) (gd : List (Str × List (Str × D))) : List KB :=
  ents.map (fun p => gloB p.1.nm) ++ (nos.map freB ++ (gl.map (fun p => litF p.1 p.2) ++ (gd.map (fun p => gloB p.1) ++ gd.map fun p => dicF p.1 p.2)))
def fnOfE (ents : List (Ent × Stmt)) : List He.DefD := ents.map fun p => p.1.dd p.2
def tsOf (gd : List (Str × List (Str × D))) : List (Str × List Str) := gd.map fun p => (p.1, p.2.map (·.1))
def namesOf {α : Type} (gl : List (Str × α)) : List (Str × Nat) := (gl.map (·.1)).zipIdx
theorem namesOf_at {α : Type} {gl : List (Str × α)} {y : Str} {g : Nat} (h : (namesOf gl).lookup y = some g) : ∃ d, gl[g]? = some (y, d) := by
  have m := lookup_mem h
  unfold namesOf at m
  have m2 := List.mem_zipIdx_iff_getElem?.mp m
  simp only [List.getElem?_map, Option.map_eq_some_iff] at m2
  obtain ⟨q, h1, h2⟩ := m2
  exact ⟨q.2, by rw [h1, ← h2]⟩
section
variable {ents : List (Ent × Stmt)} {nos : List Str} {gl : List (Str × D)} {gd : List (Str × List (Str × D))} {w : World} {K : PySem.W.Frag} {h : Heap} {mg : Str → Option Value}
theorem rows_of (c : SaysB (faOf ents nos gl gd) (fnOfE ents) (tsOf gd) w K) (X : K.In h) (G : h.Ns mainGlobals mg) (b : ∀ p ∈ ents, BindOk p.1 p.2) : ∀ p ∈ ents, Row K mg p.1 p.2 := fun p hp => by
  obtain ⟨i, hi⟩ := List.getElem?_of_mem hp
  obtain ⟨fd, F⟩ := c.def_ (i := i) (d := p.1.dd p.2) (by unfold fnOfE; rw [List.getElem?_map, hi]; rfl)
  have hg : mg p.1.nm = some (.ref (He.ga K p.1.nm)) := He.glo_ok X G (c.facts (gloB p.1.nm) (by unfold faOf; exact List.mem_append_left _ (List.mem_map.mpr ⟨p, hp, rfl⟩)))
  exact ⟨_, fd, hg, F, FunD.bindsN F (b p hp)⟩
theorem nos_of (c : SaysB (faOf ents nos gl gd) (fnOfE ents) (tsOf gd) w K) (X : K.In h) (G : h.Ns mainGlobals mg) : ∀ y, nos.contains y = true → mg y = none := fun y hy => by
  have hy : y ∈ nos := by simpa using hy
  exact He.free_ok X G (c.facts (freB y) (by unfold faOf; exact List.mem_append_right _ (List.mem_append_left _ (List.mem_map.mpr ⟨y, hy, rfl⟩))))
theorem gls_of (c : SaysB (faOf ents nos gl gd) (fnOfE ents) (tsOf gd) w K) (X : K.In h) (G : h.Ns mainGlobals mg) : ∀ y g, (namesOf gl).lookup y = some g → ∃ v u d, mg y = some u ∧ RelV v u ∧ (gl.map (·.2))[g]? = some d ∧ d.mut = false ∧ ∀ H, Rep K H true [] v d := fun y g e => by
  obtain ⟨d, hd⟩ := namesOf_at e
  obtain ⟨v, u, q1, q2, q3, q4⟩ := litF_ok X G (c.facts (litF y d) (by unfold faOf; exact List.mem_append_right _ (List.mem_append_right _ (List.mem_append_left _ (List.mem_map.mpr ⟨(y, d), List.mem_of_getElem? hd, rfl⟩)))))
  exact ⟨v, u, d, q1, q2, by rw [List.getElem?_map, hd]; rfl, q3, q4⟩
theorem gds_of (c : SaysB (faOf ents nos gl gd) (fnOfE ents) (tsOf gd) w K) (X : K.In h) (G : h.Ns mainGlobals mg) : ∀ y g, (namesOf gd).lookup y = some g → ∃ a kvs, mg y = some (.ref a) ∧ (gd.map (·.2))[g]? = some kvs ∧ KD K w a kvs := fun y g e => by
  obtain ⟨kvs, hd⟩ := namesOf_at e
  have hm := List.mem_of_getElem? hd
  have hg : mg y = some (.ref (He.ga K y)) := He.glo_ok X G (c.facts (gloB y) (by unfold faOf; exact List.mem_append_right _ (List.mem_append_right _ (List.mem_append_right _ (List.mem_append_left _ (List.mem_map.mpr ⟨(y, kvs), hm, rfl⟩))))))
  have hf := c.facts (dicF y kvs) (by unfold faOf; exact List.mem_append_right _ (List.mem_append_right _ (List.mem_append_right _ (List.mem_append_right _ (List.mem_map.mpr ⟨(y, kvs), hm, rfl⟩)))))
  have ht := c.tab (y, kvs.map (·.1)) (by unfold tsOf; exact List.mem_map.mpr ⟨(y, kvs), hm, rfl⟩)
  exact ⟨_, kvs, hg, by rw [List.getElem?_map, hd]; rfl, kd_of ht hf⟩
end
/-- the law's def: from the run over trees -/
theorem sp_of {K : PySem.W.Frag} {run : List FD → Option (FD × Rho)} {H : Hp} {a : Addr} {ns : List Int} {E : XK} (hO : Only H) (hS : SqL K H a (ns.map V.int)) (h : ∃ fn, run [⟨.own, .clst (ns.map D.int)⟩] = some (⟨.own, .bl true⟩, fn)) :
    spD K 1 run [.ref a] H (fun v _ => v = .bl true) E := by
  obtain ⟨fn, h⟩ := h
  have cl : CL K H a (ns.map V.int) := by
    rcases hS with (h1 | ⟨ob, h1⟩) | h1
    · rcases hO a with z | ⟨o, xs, z⟩
      · rw [h1] at z; cases z
      · rw [h1] at z; cases z
    · exact .inl ⟨ob, h1⟩
    · exact .inr h1
  have hints : ∀ ns : List Int, Reps K H true [] (ns.map V.int) (ns.map D.int) := fun ns => by
    induction ns with
    | nil => exact .nil
    | cons n ns ih => exact .cons (F := []) (G := []) .int ih
  refine ⟨rfl, [⟨.own, .clst (ns.map D.int)⟩], fun _ => [], ⟨rfl, fun i s e => ?_, fun i j s t _ _ _ _ _ b m => by cases m⟩, fun x m => ?_, ⟨.own, .bl true⟩, fn, h, fun v H' Fs' F _ _ t _ _ => (rep_bl t.rep).1⟩
  · cases i with
    | zero =>
      simp at e
      subst e
      exact ⟨_, rfl, .clst cl (hints ns), fun _ => .nil⟩
    | succ i => simp at e
  · rw [List.mem_singleton.mp m]
    exact fun z => nomatch z
/-- all together: from a head that says the facts -/
theorem law_of {P : Program} {w : World} {K : PySem.W.Frag} {h : Heap} {mg : Str → Option Value} {fa : Addr} {Pg : Pg} {fuel lvl f : Nat} {ents : List (Ent × Stmt)} {gl : List (Str × D)} {gd : List (Str × List (Str × D))} {nos : List Str} {p : Ent × Stmt} {x : Str}
    (hd : Pg.defs = ents.map (·.1.df)) (hng : nos.contains "repr!" = false) (hgl : Pg.globs = gl.map (·.2)) (hgd : Pg.dicts = gd.map (·.2)) (ok : (ents.all fun p => entOk ⟨fnsOf 0 ents, namesOf gl, nos, namesOf gd⟩ p.1 p.2) = true)
    (bnd : ∀ p ∈ ents, BindOk p.1 p.2) (hp : ents[f]? = some p) (hps : p.1.ps = [x])
    (X : K.In h) (G : h.Ns mainGlobals mg) (hfa : mg p.1.nm = some (.ref fa)) (c : SaysB (faOf ents nos gl gd) (fnOfE ents) (tsOf gd) w K) :
    ∃ fd : FuncData, (∀ (s : Shared) (v : Value), BindsTo s fd ⟨[v], []⟩ [(x, v)]) ∧ ∀ base : Heap, K.In base → base.Ns mainGlobals mg → FnOk P w K mg base CX0 lvl fa fd [x] (spD K 1 ((ctxN Pg fuel lvl).call f)) := by
  have hm : p ∈ ents := List.mem_of_getElem? hp
  obtain ⟨fd, F⟩ := c.def_ (i := f) (d := p.1.dd p.2) (by unfold fnOfE; rw [List.getElem?_map, hp]; rfl)
  have hg : mg p.1.nm = some (.ref (He.ga K p.1.nm)) := He.glo_ok X G (c.facts (gloB p.1.nm) (by unfold faOf; exact List.mem_append_left _ (List.mem_map.mpr ⟨p, hm, rfl⟩)))
  have e := hfa.symm.trans hg
  cases e
  have b := FunD.bindsA (ps := [x]) F fun kV doc pm an cdv ct us hl => by
    have := bnd p hm kV doc pm an cdv ct us (by rw [hps]; exact hl)
    rw [hps] at this
    exact this
  refine ⟨fd, fun s v => b s [v] rfl, fun base Xb Gb => ?_⟩
  have := table (P := P) (w := w) (base := base) (fuel := fuel) (fun f p q => by rw [hd, List.getElem?_map, q]; rfl) (rows_of c Xb Gb bnd) ok (by rw [hgl]; exact gls_of c Xb Gb) (nos_of c Xb Gb) (by rw [hgd]; exact gds_of c Xb Gb) lvl f p hp _ fd hg F
  rw [hps] at this
  exact ⟨this.len, fun A outer s H args us vs Q E hr e0 hb rv h => this.run A outer s H args us vs Q E (fun z => by rw [hng] at z; cases z) hr e0 hb rv h⟩
end B
/-! BTa: the law's own def may ask for texts of data (repr): its context knows that nothing is being shown. -/
namespace B
open PySem PySem.Spec L2 PyProof.Rows
section
variable {P : Program} {w : World} {K : PySem.W.Frag} {mg : Str → Option Value} {base : Heap} {CX : CXT}
/-- the heap ahead of the call with what is tracked taken out: a base -/
theorem startG {s1 : Shared} {mb : Str → Option Value} {H : Hp} {a : Addr} {vs : List Value} (KX : K.In s1.heap) (hns : s1.heap.Ns mainGlobals mg) (hb : s1.heap.Ns builtinsNs mb)
    (hbb : ∀ x : Str, x ≠ "__name__" → mb x = bootBuiltins x) (hlim : s1.heap.NoLimit) (hg : s1.gens = #[]) (ha : s1.heap.get? a = some { cls := .type "list", data := .seq vs.toArray })
    (hok : HOk P w H s1.heap) (one : ∀ b u, H b = some u → b = a ∧ K.lookup a = none) :
    K.In (hidT s1.heap H) ∧ (hidT s1.heap H).Ns mainGlobals mg ∧ Env0 P w K mg (hidT s1.heap H) callerA [] s1 H := by
  have dict : ∀ {b : Addr} {o : Obj} {es : Array DictEntry} {ep : Nat}, s1.heap.get? b = some o → o.data = .dict es ep → H b = none := by
    intro b o es ep e d
    refine Option.eq_none_iff_forall_ne_some.mpr fun u q => ?_
    obtain ⟨rfl, _⟩ := one b u q
    cases ha.symm.trans e
    cases d
  have ns' : ∀ {b : Addr} {m : Str → Option Value}, s1.heap.Ns b m → (hidT s1.heap H).Ns b m := by
    rintro b m ⟨o, es, ep, e, d, r⟩
    exact ⟨o, es, ep, hidT_get e (dict e d), d, r⟩
  have kin : K.In (hidT s1.heap H) := by
    intro b o e
    refine hidT_get (KX b o e) (Option.eq_none_iff_forall_ne_some.mpr fun u q => ?_)
    obtain ⟨rfl, z⟩ := one b u q
    cases z.symm.trans e
  obtain ⟨mc, l1, l2⟩ := hlim
  refine ⟨kin, ns' hns, rfl, ⟨kin, ns' hns, ⟨mb, ns' hb, hbb⟩, mc, ns' l1, l2⟩, fun b o e => of_hidT e, Nat.le_of_eq (hidT_size _ _), trivial, ?_, hok, .of_eq hg⟩
  intro b m
  exact absurd (show b ∈ ([] : List Addr) from m) (by simp)
theorem lawG {s1 : Shared} {mb : Str → Option Value} {fa a : Addr} {vs : List Value} {ns : List Int} (KX : K.In s1.heap) (hns : s1.heap.Ns mainGlobals mg) (hb : s1.heap.Ns builtinsNs mb)
    (hbb : ∀ x : Str, x ≠ "__name__" → mb x = bootBuiltins x) (hlim : s1.heap.NoLimit) (hg : s1.gens = #[]) (ha : s1.heap.get? a = some { cls := .type "list", data := .seq vs.toArray })
    (hi : IntsAre vs ns) (hl : ns.length ≤ sizeLine)
    (F : ∀ base H, K.In base → base.Ns mainGlobals mg → Env0 P w K mg base callerA [] s1 H → Only H → SqL K H a (ns.map V.int) →
      codeAny (model P w) callerA (.call (.ref fa) ⟨[.ref a], []⟩) (CR CX0 [] P w H s1 (fun v _ => v = .bl true) (fun _ _ _ => False)) s1) :
    codeAny (model P w) callerA (.call (.ref fa) ⟨[.ref a], []⟩) (fun r s2 => r = .ok (.ret (.bool true)) ∧ OldK s1.heap s2.heap ∧ s2.os = s1.os ∧ AllBare s2.gens) s1 := by
  have lv := hi.length
  have rv := vals_ints hi
  have go : ∀ H : Hp, Only H → SqL K H a (ns.map V.int) → HOk P w H s1.heap → (∀ b u, H b = some u → b = a ∧ K.lookup a = none) →
      codeAny (model P w) callerA (.call (.ref fa) ⟨[.ref a], []⟩) (fun r s2 => r = .ok (.ret (.bool true)) ∧ OldK s1.heap s2.heap ∧ s2.os = s1.os ∧ AllBare s2.gens) s1 := by
    intro H hO hS hok one
    obtain ⟨b1, b2, b3⟩ := startG KX hns hb hbb hlim hg ha hok one
    refine codeAny_mono (F _ H b1 b2 b3 hO hS) ?_
    rintro (e | fl) s2 z
    · exact (show False from z).elim
    · rcases fl with _ | _ | _ | u
      · exact False.elim z
      · exact False.elim z
      · exact False.elim z
      · obtain ⟨v, H1, os, bare, un, hok1, rel, q⟩ := z
        have q : v = .bl true := q
        subst q
        have rel : u = Value.bool true := rel
        subst rel
        refine ⟨rfl, OldK.of_keep ?_, os, bare⟩
        intro b o e
        rcases hO b with q | ⟨ob, xs, q⟩
        · refine un.keep b o e q ?_ (by simp)
          exact fun z => absurd (show b ∈ ([] : List Addr) from z) (by simp)
        · have k1 := (hok b _ q).1
          have k2 := (hok1 b _ (un.frzs b ob _ q)).1
          rw [e] at k1
          cases k1
          exact k2
  rcases hk : K.lookup a with _ | o
  · let H : Hp := fun b => if b = a then some (.frz { cls := .type "list", data := .seq vs.toArray } (.lst (ns.map V.int))) else none
    have at_ : H a = some (.frz { cls := .type "list", data := .seq vs.toArray } (.lst (ns.map V.int))) := if_pos rfl
    have off : ∀ b, b ≠ a → H b = none := fun b n => if_neg n
    refine go H (fun b => ?_) (.inl (.inr ⟨_, at_⟩)) (fun b u z => ?_) fun b u z => ⟨Classical.byContradiction fun n => (by rw [off b n] at z; cases z), hk⟩
    · by_cases n : b = a
      · exact .inr ⟨_, _, by rw [n]; exact at_⟩
      · exact .inl (off b n)
    · by_cases n : b = a
      · subst n
        cases at_.symm.trans z
        exact ⟨ha, by rw [List.length_map]; exact hl, vs, _, rv, ha⟩
      · rw [off b n] at z
        cases z
  · have e := KX a o hk
    rw [ha] at e
    cases e
    refine go (fun _ => none) (fun _ => .inl rfl) (.inr ⟨_, vs.toArray, _, hk, rfl, rfl, rfl, ?_, by simpa using rv⟩) ?_ ?_
    · rw [List.size_toArray, lv]
      exact hl
    · intro b u z
      cases (show (none : Option HO) = some u from z)
    · intro b u z
      cases (show (none : Option HO) = some u from z)
end
/-- the law's def, where defs ask for texts -/
theorem law_ofG {P : Program} {w : World} {K : PySem.W.Frag} {h : Heap} {mg : Str → Option Value} {fa : Addr} {Pg : Pg} {fuel lvl f : Nat} {ents : List (Ent × Stmt)} {gl : List (Str × D)} {gd : List (Str × List (Str × D))} {nos : List Str} {p : Ent × Stmt} {x : Str}
    (hd : Pg.defs = ents.map (·.1.df)) (hgl : Pg.globs = gl.map (·.2)) (hgd : Pg.dicts = gd.map (·.2)) (ok : (ents.all fun p => entOk ⟨fnsOf 0 ents, namesOf gl, nos, namesOf gd⟩ p.1 p.2) = true)
    (bnd : ∀ p ∈ ents, BindOk p.1 p.2) (hp : ents[f]? = some p) (hps : p.1.ps = [x])
    (X : K.In h) (G : h.Ns mainGlobals mg) (hfa : mg p.1.nm = some (.ref fa)) (c : SaysB (faOf ents nos gl gd) (fnOfE ents) (tsOf gd) w K) (room : Room lvl callerA)
    {base : Heap} {H : Hp} {s1 : Shared} {a : Addr} (Xb : K.In base) (Gb : base.Ns mainGlobals mg) (e0 : Env0 P w K mg base callerA [] s1 H)
    (hsp : spD K 1 ((ctxN Pg fuel lvl).call f) [.ref a] H (fun v _ => v = .bl true) fun _ _ _ => False) :
    codeAny (model P w) callerA (.call (.ref fa) ⟨[.ref a], []⟩) (CR CX0 [] P w H s1 (fun v _ => v = .bl true) (fun _ _ _ => False)) s1 := by
  have hm : p ∈ ents := List.mem_of_getElem? hp
  have rows := rows_of c Xb Gb bnd
  obtain ⟨fa1, fd, r1, F, rb⟩ := rows p hm
  cases hfa.symm.trans r1
  have tab := table (P := P) (w := w) (base := base) (fuel := fuel) (fun f p q => by rw [hd, List.getElem?_map, q]; rfl) rows ok (by rw [hgl]; exact gls_of c Xb Gb) (nos_of c Xb Gb) (by rw [hgd]; exact gds_of c Xb Gb) lvl f p hp _ fd r1 F
  rw [hps] at tab rb
  have bind := rb s1 [.ref a] (e0.mod.kin.keeps fun b o q => (e0.bs b o q).1) rfl
  exact tab.run callerA [] s1 H _ [.ref a] [.ref a] _ _ (fun _ => rfl) room e0 bind (.cons rfl .nil) hsp
/-- the goal of the head -/
theorem walkG {l : PySem.W.OpenLaw} {n : Nat} {q : Program} {loose : List Str} {XP : (Str → Option Value) → Heap → Prop} {YP : World → Heap → Prop} {d : DefRec}
    (hn : l.most = some n) (hn2 : n ≤ sizeLine) (hdf : d.params.defaults = [])
    (F : ∀ (w : World) (mg : Str → Option Value) (fa : Addr) (h : Heap), YP w h → h.Ns mainGlobals mg → mg d.name = some (.ref fa) → ∃ K : PySem.W.Frag, K.In h ∧ ∀ (s1 : Shared) (a : Addr) (ns : List Int), ns.length ≤ n →
      ∀ base H, K.In base → base.Ns mainGlobals mg → Env0 l.prog w K mg base callerA [] s1 H → Only H → SqL K H a (ns.map V.int) →
        codeAny (model l.prog w) callerA (.call (.ref fa) ⟨[.ref a], []⟩) (CR CX0 [] l.prog w H s1 (fun v _ => v = .bl true) (fun _ _ _ => False)) s1) :
    PySem.W.WalkO q loose XP YP l.row.toRowW d [] (fun f vs => PySem.call f vs) := by
  refine Att.attach_call hn hdf ?_
  intro w s0 s1 mg mb fa o pm cd doc a vs ns G Y _ _ _ hmg hobj hints hlen hg
  obtain ⟨K, KX, run⟩ := F w mg fa _ Y G.T.g hmg
  exact lawG KX G.T.g G.T.b G.T.builtins G.T.nolimit hg hobj hints (Nat.le_trans hlen hn2) (run s1 a ns hlen)
end B
/-! BU: runs over trees, by what is wanted behind. -/
namespace B
open PySem
def Wp {α : Type} (o : Option α) (Q : α → Prop) : Prop := ∃ a, o = some a ∧ Q a
section
variable {α β : Type}
theorem wp_some {a : α} {Q : α → Prop} : Wp (some a) Q ↔ Q a := ⟨fun ⟨_, e, q⟩ => by cases e; exact q, fun q => ⟨a, rfl, q⟩⟩
theorem wp_none {Q : α → Prop} : Wp none Q ↔ False := ⟨fun ⟨_, e, _⟩ => (nomatch e), False.elim⟩
theorem wp_bind {o : Option α} {f : α → Option β} {Q : β → Prop} : Wp (o.bind f) Q ↔ Wp o fun a => Wp (f a) Q := by
  constructor
  · rintro ⟨b, e, q⟩
    obtain ⟨a, e1, e2⟩ := Option.bind_eq_some_iff.mp e
    exact ⟨a, e1, b, e2, q⟩
  · rintro ⟨a, e1, b, e2, q⟩
    exact ⟨b, Option.bind_eq_some_iff.mpr ⟨a, e1, e2⟩, q⟩
theorem wp_map {o : Option α} {f : α → β} {Q : β → Prop} : Wp (o.map f) Q ↔ Wp o fun a => Q (f a) := by
  constructor
  · rintro ⟨b, e, q⟩
    obtain ⟨a, e1, rfl⟩ := Option.map_eq_some_iff.mp e
    exact ⟨a, e1, q⟩
  · rintro ⟨a, e1, q⟩
    exact ⟨f a, Option.map_eq_some_iff.mpr ⟨a, e1, rfl⟩, q⟩
theorem wp_ite {c : Prop} [Decidable c] {a b : Option α} {Q : α → Prop} : Wp (if c then a else b) Q ↔ (c → Wp a Q) ∧ (¬ c → Wp b Q) := by
  by_cases h : c <;> simp [h]
theorem Wp.mono {o : Option α} {Q Q' : α → Prop} (h : Wp o Q) (q : ∀ a, Q a → Q' a) : Wp o Q' := let ⟨a, e, z⟩ := h; ⟨a, e, q a z⟩
theorem Wp.of {o : Option α} {a : α} {Q : α → Prop} (e : o = some a) (q : Q a) : Wp o Q := ⟨a, e, q⟩
end
theorem forLoop_wp {bind : D → Rho → Option Rho} {clear : Rho → Rho} {body : Rho → Option Flow} {Q : Flow → Prop} {xs : List D} {ρ : Rho} (I : Nat → Rho → Prop) (h0 : I 0 ρ)
    (step : ∀ i x ρ, xs[i]? = some x → I i ρ → Wp (bind x ρ) fun ρ1 => Wp (body ρ1) fun fl => match fl with
      | .nx ρ2 => I (i + 1) (clear ρ2)
      | .ct ρ2 => I (i + 1) (clear ρ2)
      | .bk ρ2 => Q (.nx (clear ρ2))
      | .rt v ρ2 => Q (.rt v (clear ρ2)))
    (fin : ∀ ρ, I xs.length ρ → Q (.nx ρ)) : Wp (forLoop bind clear body xs ρ) Q := by
  suffices ∀ (ys : List D) (i : Nat) (ρ : Rho), xs.drop i = ys → I i ρ → i ≤ xs.length → Wp (forLoop bind clear body ys ρ) Q from this xs 0 ρ rfl h0 (Nat.zero_le _)
  intro ys
  induction ys with
  | nil =>
    intro i ρ e hi hl
    have : i = xs.length := by
      have := congrArg List.length e
      simp at this
      omega
    subst this
    exact ⟨_, rfl, fin ρ hi⟩
  | cons y ys ih =>
    intro i ρ e hi hl
    have hlt : i < xs.length := by
      have := congrArg List.length e
      simp at this
      omega
    rw [List.drop_eq_getElem_cons hlt] at e
    simp only [List.cons.injEq] at e
    obtain ⟨e1, e2⟩ := e
    obtain ⟨ρ1, b1, fl, b2, q⟩ := step i y ρ (by rw [← e1]; simp [hlt]) hi
    simp only [forLoop, b1, Option.bind_some, b2]
    cases fl with
    | nx ρ2 => exact ih (i + 1) _ e2 q hlt
    | ct ρ2 => exact ih (i + 1) _ e2 q hlt
    | bk ρ2 => exact ⟨_, rfl, q⟩
    | rt v ρ2 => exact ⟨_, rfl, q⟩
theorem lcLoop_wp {turn : D → Rho → Option (Option D × Rho)} {Q : List D × Rho → Prop} {xs : List D} {ρ : Rho} (I : Nat → List D → Rho → Prop) (h0 : I 0 [] ρ)
    (step : ∀ i x acc ρ, xs[i]? = some x → I i acc ρ → Wp (turn x ρ) fun r => match r.1 with
      | some y => I (i + 1) (acc ++ [y]) r.2
      | none => I (i + 1) acc r.2)
    (fin : ∀ acc ρ, I xs.length acc ρ → Q (acc, ρ)) : Wp (lcLoop turn xs ρ) Q := by
  suffices ∀ (ys : List D) (i : Nat) (acc : List D) (ρ : Rho), xs.drop i = ys → I i acc ρ → i ≤ xs.length → Wp (lcLoop turn ys ρ) (fun r => Q (acc ++ r.1, r.2)) by
    have := this xs 0 [] ρ rfl h0 (Nat.zero_le _)
    simpa using this
  intro ys
  induction ys with
  | nil =>
    intro i acc ρ e hi hl
    have : i = xs.length := by
      have := congrArg List.length e
      simp at this
      omega
    subst this
    exact ⟨_, rfl, by simpa using fin acc ρ hi⟩
  | cons y ys ih =>
    intro i acc ρ e hi hl
    have hlt : i < xs.length := by
      have := congrArg List.length e
      simp at this
      omega
    rw [List.drop_eq_getElem_cons hlt] at e
    simp only [List.cons.injEq] at e
    obtain ⟨e1, e2⟩ := e
    obtain ⟨⟨r1, r2⟩, b1, q⟩ := step i y acc ρ (by rw [← e1]; simp [hlt]) hi
    simp only [lcLoop, b1, Option.bind_some]
    cases r1 with
    | none =>
      have := ih (i + 1) _ _ e2 q hlt
      rw [wp_map]
      exact this
    | some y' =>
      have := ih (i + 1) _ _ e2 q hlt
      rw [wp_map]
      refine this.mono fun r z => ?_
      simpa using z
theorem whileLoop_wp {test : Rho → Option (Bool × Rho)} {body : Rho → Option Flow} {Q : Flow → Prop} {n : Nat} {ρ : Rho} (I : Nat → Rho → Prop) (m : Nat) (h0 : I m ρ) (hm : m < n)
    (step : ∀ m ρ, I m ρ → Wp (test ρ) fun r => if r.1 = true then Wp (body r.2) fun fl => (match fl with
      | .nx ρ2 => ∃ m', m' < m ∧ I m' ρ2
      | .ct ρ2 => ∃ m', m' < m ∧ I m' ρ2
      | .bk ρ2 => Q (.nx ρ2)
      | .rt v ρ2 => Q (.rt v ρ2)) else Q (.nx r.2)) : Wp (whileLoop test body n ρ) Q := by
  induction n generalizing m ρ with
  | zero => omega
  | succ n ih =>
    obtain ⟨⟨b, ρ1⟩, e1, h⟩ := step m ρ h0
    simp only [whileLoop, e1, Option.bind_some]
    cases b with
    | false => simp only [Bool.false_eq_true, if_false] at h ⊢; exact ⟨_, rfl, h⟩
    | true =>
      simp only [if_true] at h ⊢
      obtain ⟨fl, e2, h⟩ := h
      simp only [e2, Option.bind_some]
      cases fl with
      | nx ρ2 => obtain ⟨m', h1, h2⟩ := h; exact ih m' h2 (by omega)
      | ct ρ2 => obtain ⟨m', h1, h2⟩ := h; exact ih m' h2 (by omega)
      | bk ρ2 => exact ⟨_, rfl, h⟩
      | rt v ρ2 => exact ⟨_, rfl, h⟩
/-! ### small facts -/
theorem mutL_ints (l : List Int) : D.mutL (l.map D.int) = false := by
  induction l with
  | nil => rfl
  | cons a l ih => simp [D.mutL, D.mut, ih]
theorem mut_int {i : Int} : (D.int i).mut = false := rfl
end B
namespace B
open PySem
def rd : Option (Option FD) → Option FD
  | some (some s) => some (nrm (match s.f with
    | .shr => .shr
    | _ => .bor) s.d)
  | _ => none
section
variable {C : Ctx} {ρ : Rho} {t : Bool} {f g : Fl} {i j : Int} {s z : Str} {b : Bool} {xs ys : List D} {d : D} {x y : FD}
theorem readV_rd {k : Nat} : readV ρ k = rd ρ[k]? := by
  unfold readV rd
  generalize ρ[k]? = o
  rcases o with _ | _ | s <;> rfl
theorem rd_int : rd (some (some ⟨f, .int i⟩)) = some ⟨.own, .int i⟩ := rfl
theorem rd_str : rd (some (some ⟨f, .str s⟩)) = some ⟨.own, .str s⟩ := rfl
theorem rd_bl : rd (some (some ⟨f, .bl b⟩)) = some ⟨.own, .bl b⟩ := rfl
theorem rd_non : rd (some (some ⟨f, .non⟩)) = some ⟨.own, .non⟩ := rfl
theorem rd_lo : rd (some (some ⟨.own, .lst xs⟩)) = some ⟨.bor, .lst xs⟩ := rfl
theorem rd_lb : rd (some (some ⟨.bor, .lst xs⟩)) = some ⟨.bor, .lst xs⟩ := rfl
theorem rd_ls : rd (some (some ⟨.shr, .lst xs⟩)) = some ⟨.shr, .lst xs⟩ := rfl
theorem rd_tup : rd (some (some ⟨f, .tup xs⟩)) = some (nrm (match f with
    | .shr => .shr
    | _ => .bor) (.tup xs)) := rfl
theorem rd_clst : rd (some (some ⟨f, .clst xs⟩)) = some (nrm (match f with
    | .shr => .shr
    | _ => .bor) (.clst xs)) := rfl
theorem nrm_int : nrm f (.int i) = ⟨.own, .int i⟩ := rfl
theorem nrm_str : nrm f (.str s) = ⟨.own, .str s⟩ := rfl
theorem nrm_bl : nrm f (.bl b) = ⟨.own, .bl b⟩ := rfl
theorem nrm_non : nrm f .non = ⟨.own, .non⟩ := rfl
theorem nrm_lst : nrm f (.lst xs) = ⟨f, .lst xs⟩ := rfl
theorem nrm_tupF (h : D.mutL xs = false) : nrm f (.tup xs) = ⟨.own, .tup xs⟩ := nrm_pure (by simpa [D.mut] using h)
theorem nrm_clstF (h : D.mutL xs = false) : nrm f (.clst xs) = ⟨.own, .clst xs⟩ := nrm_pure (by simpa [D.mut] using h)
theorem fin_no : fin false x = some x := rfl
theorem fin_bl : fin true ⟨f, .bl b⟩ = some ⟨.own, .bl b⟩ := rfl
theorem fin_int : fin true ⟨f, .int i⟩ = some ⟨.own, .bl (i != 0)⟩ := rfl
theorem fin_lst : fin true ⟨f, .lst xs⟩ = some ⟨.own, .bl (!xs.isEmpty)⟩ := rfl
theorem fin_clst : fin true ⟨f, .clst xs⟩ = some ⟨.own, .bl (!xs.isEmpty)⟩ := rfl
theorem fin_tup : fin true ⟨f, .tup xs⟩ = some ⟨.own, .bl (!xs.isEmpty)⟩ := rfl
theorem fin_non : fin true ⟨f, .non⟩ = some ⟨.own, .bl false⟩ := rfl
theorem boolD_bl' : boolD ⟨f, .bl b⟩ = some b := rfl
theorem intD_int : intD (.int i) = some i := rfl
/-! operators -/
theorem op_add : opD (.bin .Add) [⟨f, .int i⟩, ⟨g, .int j⟩] = some ⟨.own, .int (i + j)⟩ := rfl
theorem op_sub : opD (.bin .Sub) [⟨f, .int i⟩, ⟨g, .int j⟩] = some ⟨.own, .int (i - j)⟩ := rfl
theorem op_and : opD (.bin .BitAnd) [⟨f, .int i⟩, ⟨g, .int j⟩] = some ⟨.own, .int (Builtin.bitAnd i j)⟩ := rfl
theorem op_or : opD (.bin .BitOr) [⟨f, .int i⟩, ⟨g, .int j⟩] = some ⟨.own, .int (Builtin.bitOr i j)⟩ := rfl
theorem op_xor : opD (.bin .BitXor) [⟨f, .int i⟩, ⟨g, .int j⟩] = some ⟨.own, .int (Builtin.bitXor i j)⟩ := rfl
theorem op_mod : opD (.bin .Mod) [⟨f, .int i⟩, ⟨g, .int j⟩] = if 0 < j then some ⟨.own, .int (i % j)⟩ else none := by
  show (if 0 < j then some (D.int (i % j)) else none).map _ = _
  split <;> rfl
theorem op_div : opD (.bin .FloorDiv) [⟨f, .int i⟩, ⟨g, .int j⟩] = if L2.CDivW i j then some ⟨.own, .int (i / j)⟩ else none := by
  show (if L2.CDivW i j then some (D.int (i / j)) else none).map _ = _
  split <;> rfl
theorem op_mul : opD (.bin .Mult) [⟨f, .int i⟩, ⟨g, .int j⟩] = if L2.CMul i j ∨ L2.CMulW i j then some ⟨.own, .int (i * j)⟩ else none := by
  show (if L2.CMul i j ∨ L2.CMulW i j then some (D.int (i * j)) else none).map _ = _
  split <;> rfl
theorem op_pow : opD (.bin .Pow) [⟨f, .int i⟩, ⟨g, .int j⟩] = if L2.CPow i j then some ⟨.own, .int (i ^ j.toNat)⟩ else none := by
  show (if L2.CPow i j then some (D.int (i ^ j.toNat)) else none).map _ = _
  split <;> rfl
theorem op_shl : opD (.bin .LShift) [⟨f, .int i⟩, ⟨g, .int j⟩] = if L2.CPow i j then some ⟨.own, .int (i * 2 ^ j.toNat)⟩ else none := by
  show (if L2.CPow i j then some (D.int (i * 2 ^ j.toNat)) else none).map _ = _
  split <;> rfl
theorem op_shr : opD (.bin .RShift) [⟨f, .int i⟩, ⟨g, .int j⟩] = if 0 ≤ j then some ⟨.own, .int (i / 2 ^ j.toNat)⟩ else none := by
  show (if 0 ≤ j then some (D.int (i / 2 ^ j.toNat)) else none).map _ = _
  split <;> rfl
theorem op_addL : opD (.bin .Add) [⟨f, .lst xs⟩, ⟨g, .lst ys⟩] = if D.mutL xs = false ∧ D.mutL ys = false ∧ xs.length + ys.length ≤ sizeLine then some ⟨.own, .lst (xs ++ ys)⟩ else none := by
  show (if D.mutL xs = false ∧ D.mutL ys = false ∧ xs.length + ys.length ≤ sizeLine then some (D.lst (xs ++ ys)) else none).map _ = _
  split <;> rfl
theorem op_addS : opD (.bin .Add) [⟨f, .str s⟩, ⟨g, .str z⟩] = if s.length + z.length ≤ sizeLine then some ⟨.own, .str (s ++ z)⟩ else none := by
  show (if s.length + z.length ≤ sizeLine then some (D.str (s ++ z)) else none).map _ = _
  split <;> rfl
theorem op_neg : opD (.un .USub) [⟨f, .int i⟩] = some ⟨.own, .int (-i)⟩ := rfl
theorem op_inv : opD (.un .Invert) [⟨f, .int i⟩] = some ⟨.own, .int (Builtin.bitNot i)⟩ := rfl
theorem op_cmp {o : CmpOp} : opD (.cmp o) [x, y] = (cmpD o x.d y.d).map fun b => ⟨.own, .bl b⟩ := rfl
theorem cmp_lt : cmpD .Lt (.int i) (.int j) = some (decide (i < j)) := rfl
theorem cmp_le : cmpD .LtE (.int i) (.int j) = some (decide (i ≤ j)) := rfl
theorem cmp_gt : cmpD .Gt (.int i) (.int j) = some (decide (j < i)) := rfl
theorem cmp_ge : cmpD .GtE (.int i) (.int j) = some (decide (j ≤ i)) := rfl
theorem cmp_ne {d e : D} : cmpD .NotEq d e = (cmpD .Eq d e).map (!·) := rfl
theorem cmp_is {d : D} : cmpD .Is d .non = some (isNone d) := rfl
theorem cmp_isnt {d : D} : cmpD .IsNot d .non = some (!isNone d) := rfl
theorem cmp_notin {d e : D} : cmpD .NotIn d e = (cmpD .In d e).map (!·) := rfl
theorem op_ixl {k : Int} : opD .ix [⟨f, .lst xs⟩, ⟨g, .int k⟩] = (L2.atI xs k).map (nrm f) := rfl
theorem op_ixt {k : Int} : opD .ix [⟨f, .tup xs⟩, ⟨g, .int k⟩] = (L2.atI xs k).map (nrm f) := rfl
theorem op_ixc {k : Int} : opD .ix [⟨f, .clst xs⟩, ⟨g, .int k⟩] = (L2.atI xs k).map (nrm f) := rfl
theorem op_len : opD (.blt .len) [⟨f, .lst xs⟩] = some ⟨.own, .int xs.length⟩ := rfl
theorem op_lent : opD (.blt .len) [⟨f, .tup xs⟩] = some ⟨.own, .int xs.length⟩ := rfl
theorem op_lenc : opD (.blt .len) [⟨f, .clst xs⟩] = some ⟨.own, .int xs.length⟩ := rfl
theorem op_abs : opD (.blt .abs) [⟨f, .int i⟩] = some ⟨.own, .int (if i < 0 then -i else i)⟩ := rfl
theorem op_int : opD (.blt .int) [⟨f, .int i⟩] = some ⟨.own, .int i⟩ := rfl
theorem op_max : opD (.blt .max2) [⟨f, .int i⟩, ⟨g, .int j⟩] = some ⟨.own, .int (if j > i then j else i)⟩ := rfl
theorem op_min : opD (.blt .min2) [⟨f, .int i⟩, ⟨g, .int j⟩] = some ⟨.own, .int (if j < i then j else i)⟩ := rfl
theorem intsD_map : ∀ ns : List Int, intsD (ns.map D.int) = some ns
  | [] => rfl
  | n :: ns => by simp only [List.map_cons, intsD, intsD_map ns, Option.map_some]
theorem op_maxD {ns : List Int} : opD (.blt .maxD) [⟨f, .lst (ns.map D.int)⟩, ⟨g, .int i⟩] = some ⟨.own, .int (L2.maxDI i ns)⟩ := by
  show ((intsD _).map _).map _ = _
  rw [intsD_map]; rfl
theorem op_minD {ns : List Int} : opD (.blt .minD) [⟨f, .lst (ns.map D.int)⟩, ⟨g, .int i⟩] = some ⟨.own, .int (L2.minDI i ns)⟩ := by
  show ((intsD _).map _).map _ = _
  rw [intsD_map]; rfl
theorem op_max1 {ns : List Int} : opD (.blt .max1) [⟨f, .lst (.int i :: ns.map D.int)⟩] = some ⟨.own, .int (L2.maxI i ns)⟩ := by
  show ((intsD _).map _).map _ = _
  rw [intsD_map]; rfl
theorem op_min1 {ns : List Int} : opD (.blt .min1) [⟨f, .lst (.int i :: ns.map D.int)⟩] = some ⟨.own, .int (L2.minI i ns)⟩ := by
  show ((intsD _).map _).map _ = _
  rw [intsD_map]; rfl
theorem sortX_ints {ns : List Int} (h : ns.length ≤ 1000000) : sortX (ns.map D.int) = some (.lst ((sortN ns).map D.int)) := by
  have e1 : D.pyL (ns.map D.int) = some (ns.map PyData.int) := by
    clear h
    induction ns with
    | nil => rfl
    | cons n ns ih => rw [List.map_cons, D.pyL, ih]; rfl
  have e2 : sortOk (ns.map PyData.int) = true := by
    simp only [sortOk, Bool.and_eq_true, Bool.or_eq_true, List.all_eq_true, decide_eq_true_eq]
    refine ⟨fun p hp q hq => ?_, .inr fun p hp => ?_, fun p hp => ?_⟩
    · obtain ⟨a, _, rfl⟩ := List.mem_map.mp hp
      obtain ⟨b, _, rfl⟩ := List.mem_map.mp hq
      simp [PySem.W.alike]
    · obtain ⟨a, _, rfl⟩ := List.mem_map.mp hp
      rfl
    · obtain ⟨a, _, rfl⟩ := List.mem_map.mp hp
      simp [PyData.depth]
  have e3 : D.mutL (ns.map D.int) = false := by
    clear h e1 e2
    induction ns with
    | nil => rfl
    | cons n ns ih => rw [List.map_cons, D.mutL, ih]; rfl
  have e4 : (ns.map D.int).mergeSort leD = (sortN ns).map D.int := by
    refine (List.map_mergeSort (f := D.int) (r := fun a b => decide (a ≤ b)) (s := leD) fun a _ b _ => ?_).symm
    show decide (a ≤ b) = !PySem.W.dataLt (.int b) (.int a)
    rw [PySem.W.dataLt_int, PySem.W.not_lt_int]
  unfold sortX
  rw [e1, Option.bind_some, if_pos ⟨e2, e3, by rw [List.length_map]; exact Nat.le_trans h (by decide)⟩, e4]
theorem op_sorted {ns : List Int} (h : ns.length ≤ 1000000) : opD (.blt .sorted) [⟨f, .lst (ns.map D.int)⟩] = some ⟨.own, .lst ((sortN ns).map D.int)⟩ := by
  show Option.map _ (sortX (ns.map D.int)) = _
  rw [sortX_ints h]; rfl
theorem op_bitlen : opD (.mth .bitlen) [⟨f, .int i⟩] = some ⟨.own, .int (Builtin.Int.intBits i : Nat)⟩ := rfl
theorem strsD_map {α : Type} {g : α → Str} : ∀ l : List α, strsD (l.map fun x => D.str (g x)) = some (l.map g)
  | [] => rfl
  | n :: ns => by simp only [List.map_cons, strsD, strsD_map ns, Option.map_some]
theorem op_join {a : Str} {ys : List Str} (h : (ys.map (·.length)).sum + ys.length * a.length ≤ 16777216) : opD (.mth .join) [⟨f, .str a⟩, ⟨g, .lst (ys.map D.str)⟩] = some ⟨.own, .str (Txt.join a ys)⟩ := by
  show ((strsD (ys.map fun y => D.str y)).bind _).map _ = _
  rw [strsD_map (g := fun y => y)]
  show Option.map _ (if ((ys.map fun y => y).map (·.length)).sum + (ys.map fun y => y).length * a.length ≤ 16777216 then _ else _) = _
  rw [List.map_id', if_pos h]; rfl
theorem op_strI (h : i.natAbs.log2 < 1920) : opD (.blt .str) [⟨f, .int i⟩] = some ⟨.own, .str (toString i)⟩ := by
  show Option.map _ (if i.natAbs.log2 < 1920 then _ else _) = _
  rw [if_pos h]; rfl
theorem op_strS {a : Str} : opD (.blt .str) [⟨f, .str a⟩] = some ⟨.own, .str a⟩ := rfl
theorem op_list : opD (.blt .list) [⟨f, .lst xs⟩] = if D.mutL xs = false then some ⟨.own, .lst xs⟩ else none := by
  show (if D.mutL xs = false then some (D.lst xs) else none).map _ = _
  split <;> rfl
theorem op_listT : opD (.blt .list) [⟨f, .tup xs⟩] = if D.mutL xs = false then some ⟨.own, .lst xs⟩ else none := by
  show (if D.mutL xs = false then some (D.lst xs) else none).map _ = _
  split <;> rfl
theorem op_listC : opD (.blt .list) [⟨f, .clst xs⟩] = if D.mutL xs = false then some ⟨.own, .lst xs⟩ else none := by
  show (if D.mutL xs = false then some (D.lst xs) else none).map _ = _
  split <;> rfl
theorem op_tupleL : opD (.blt .tuple) [⟨f, .lst xs⟩] = if D.mutL xs = false then some ⟨.own, .tup xs⟩ else none := by
  show (if D.mutL xs = false then some (D.tup xs) else none).map _ = _
  split <;> rfl
theorem op_isi {t : String} : opD (.blt (.isT t)) [⟨f, .int i⟩] = ((L2.kitB "int" t).map D.bl).map fun d => ⟨.own, d⟩ := rfl
theorem op_isl {t : String} : opD (.blt (.isT t)) [⟨f, .lst xs⟩] = ((L2.kitB "list" t).map D.bl).map fun d => ⟨.own, d⟩ := rfl
theorem op_iss {t : String} : opD (.blt (.isT t)) [⟨f, .str s⟩] = ((L2.kitB "str" t).map D.bl).map fun d => ⟨.own, d⟩ := rfl
theorem op_ist {t : String} : opD (.blt (.isT t)) [⟨f, .tup xs⟩] = ((L2.kitB "tuple" t).map D.bl).map fun d => ⟨.own, d⟩ := rfl
theorem op_isn {t : String} : opD (.blt (.isT t)) [⟨f, .non⟩] = ((L2.kitB "NoneType" t).map D.bl).map fun d => ⟨.own, d⟩ := rfl
theorem op_isb {t : String} : opD (.blt (.isT t)) [⟨f, .bl b⟩] = ((L2.kitB "bool" t).map D.bl).map fun d => ⟨.own, d⟩ := rfl
theorem kit_ll : L2.kitB "list" "list" = some true := by decide +kernel
theorem kit_ii : L2.kitB "int" "int" = some true := by decide +kernel
theorem kit_ib : L2.kitB "int" "bool" = some false := by decide +kernel
/-! equality -/
theorem deq_int : cmpD .Eq (.int i) (.int j) = some (decide (i = j)) := by
  show (if SeqAt.shaped (.int i) = true ∧ SeqAt.shaped (.int j) = true then some (PyData.eqv (.int i) (.int j)) else none) = _
  have h : ∀ i : Int, SeqAt.shaped (.int i) = true := fun i => rfl
  rw [if_pos ⟨h i, h j⟩]
  congr 1
end
mutual
/-- a tree that == can tell, at most n deep -/
def D.okd : Nat → D → Bool
  | _, .non => true
  | _, .bl _ => true
  | _, .int _ => true
  | _, .str s => PyData.strOk s
  | 0, .tup _ => false
  | 0, .lst _ => false
  | 0, .clst _ => false
  | n + 1, .tup xs => D.okdL n xs
  | n + 1, .lst xs => D.okdL n xs
  | n + 1, .clst xs => D.okdL n xs
  | _, .dK _ => false
  | _, .dT _ => false
def D.okdL : Nat → List D → Bool
  | _, [] => true
  | n, x :: xs => D.okd n x && D.okdL n xs
end
mutual
theorem okd_py : ∀ (d : D) (n : Nat), D.okd n d = true → ∃ p, D.py d = some p ∧ p.canLay0 = true ∧ p.depth ≤ n ∧ PyData.eqv p p = true
  | .non, n, _ => ⟨_, rfl, rfl, Nat.zero_le _, rfl⟩
  | .bl b, n, _ => ⟨_, rfl, rfl, Nat.zero_le _, by simp [PyData.eqv]⟩
  | .int i, n, _ => ⟨_, rfl, rfl, Nat.zero_le _, by simp [PyData.eqv]⟩
  | .str s, n, h => ⟨_, rfl, by simpa [D.okd, PyData.canLay0] using h, Nat.zero_le _, by simp [PyData.eqv]⟩
  | .tup xs, 0, h => by simp [D.okd] at h
  | .lst xs, 0, h => by simp [D.okd] at h
  | .clst xs, 0, h => by simp [D.okd] at h
  | .tup xs, n + 1, h => by
    obtain ⟨ps, h1, h2, h3, h4⟩ := okd_pyL xs n (by simpa [D.okd] using h)
    exact ⟨.tuple ps, by simp [D.py, h1], by simpa [PyData.canLay0] using h2, by simpa [PyData.depth] using h3, by simpa [PyData.eqv] using h4⟩
  | .lst xs, n + 1, h => by
    obtain ⟨ps, h1, h2, h3, h4⟩ := okd_pyL xs n (by simpa [D.okd] using h)
    exact ⟨.list ps, by simp [D.py, h1], by simpa [PyData.canLay0] using h2, by simpa [PyData.depth] using h3, by simpa [PyData.eqv] using h4⟩
  | .clst xs, n + 1, h => by
    obtain ⟨ps, h1, h2, h3, h4⟩ := okd_pyL xs n (by simpa [D.okd] using h)
    exact ⟨.list ps, by simp [D.py, h1], by simpa [PyData.canLay0] using h2, by simpa [PyData.depth] using h3, by simpa [PyData.eqv] using h4⟩
  | .dK _, n, h => by simp [D.okd] at h
  | .dT _, n, h => by simp [D.okd] at h
theorem okd_pyL : ∀ (xs : List D) (n : Nat), D.okdL n xs = true → ∃ ps, D.pyL xs = some ps ∧ PyData.canLayAll0 ps = true ∧ PyData.depthAll ps ≤ n ∧ PyData.eqvAll ps ps = true
  | [], n, _ => ⟨[], rfl, rfl, Nat.zero_le _, rfl⟩
  | x :: xs, n, h => by
    simp only [D.okdL, Bool.and_eq_true] at h
    obtain ⟨p, h1, h2, h3, h4⟩ := okd_py x n h.1
    obtain ⟨ps, g1, g2, g3, g4⟩ := okd_pyL xs n h.2
    exact ⟨p :: ps, by simp [D.pyL, h1, g1], by simp [PyData.canLayAll0, h2, g2], by simp only [PyData.depthAll]; omega, by simp [PyData.eqvAll, h4, g4]⟩
end
theorem deq_refl {d : D} (h : D.okd 64 d = true) : cmpD .Eq d d = some true := by
  obtain ⟨p, h1, h2, h3, h4⟩ := okd_py d 64 h
  show deq d d = _
  unfold deq
  rw [h1]
  have : SeqAt.shaped p = true := by simp [SeqAt.shaped, h2, h3]
  simp only [this, and_self, if_true, h4]
theorem okdL_ints {n : Nat} (l : List Int) : D.okdL n (l.map D.int) = true := by
  induction l with
  | nil => rfl
  | cons a l ih => simp [D.okdL, D.okd, ih]
end B
namespace B
open PySem
/-! ### the same with the continuation kept shut (simp doesn't look into it) -/
inductive Bx {α : Type} (Q : α → Prop) : Type where
  | mk
def Wq {α : Type} (o : Option α) {Q : α → Prop} (_ : Bx Q) : Prop := Wp o Q
section
variable {α β : Type} {Q : α → Prop} {b : Bx Q}
theorem wq_some {a : α} : Wq (some a) b ↔ Q a := wp_some
theorem wq_none : Wq none b ↔ False := wp_none
theorem wq_bind {o : Option β} {f : β → Option α} : Wq (o.bind f) b ↔ Wq o (Bx.mk (Q := fun a => Wq (f a) b)) := wp_bind
theorem wq_map {o : Option β} {f : β → α} : Wq (o.map f) b ↔ Wq o (Bx.mk (Q := fun a => Q (f a))) := wp_map
theorem wq_ite {c : Prop} [Decidable c] {x y : Option α} : Wq (if c then x else y) b ↔ (c → Wq x b) ∧ (¬ c → Wq y b) := wp_ite
theorem Wq.of {o : Option α} {a : α} (e : o = some a) (q : Q a) : Wq o b := ⟨a, e, q⟩
theorem wq_in {o : Option α} : Wq o (Bx.mk (Q := Q)) → Wp o Q := id
theorem wq_out {o : Option α} : Wp o Q → Wq o b := id
end
end B
namespace B
open PySem
section
variable {α : Type} {xs : List α} {f g : Fl} {i j : Int} {ys : List D} {d : D} {x : FD} {ρ : Rho} {pin : List Nat}
theorem atI_0 : L2.atI xs 0 = xs[0]? := by
  unfold L2.atI L2.ixN
  cases xs with
  | nil => simp
  | cons a l => simp
theorem atI_nat' {n : Nat} : L2.atI xs (n : Int) = xs[n]? := by
  unfold L2.atI L2.ixN
  rw [if_pos (by omega)]
  by_cases h : n < xs.length
  · rw [if_pos (by omega)]; simp
  · rw [if_neg (by omega)]; simp; omega
theorem atI_1 : L2.atI xs 1 = xs[1]? := atI_nat' (n := 1)
theorem atI_2 : L2.atI xs 2 = xs[2]? := atI_nat' (n := 2)
theorem atI_3 : L2.atI xs 3 = xs[3]? := atI_nat' (n := 3)
theorem atI_4 : L2.atI xs 4 = xs[4]? := atI_nat' (n := 4)
theorem atI_5 : L2.atI xs 5 = xs[5]? := atI_nat' (n := 5)
theorem atI_6 : L2.atI xs 6 = xs[6]? := atI_nat' (n := 6)
theorem atI_7 : L2.atI xs 7 = xs[7]? := atI_nat' (n := 7)
theorem atI_last' : L2.atI xs (-1) = xs.getLast? := by
  unfold L2.atI L2.ixN
  rw [if_neg (by omega)]
  cases xs with
  | nil => simp
  | cons a l =>
    rw [if_pos (by simp; omega), List.getLast?_eq_getElem?]
    have : (-1 + ((a :: l).length : Int)).toNat = (a :: l).length - 1 := by simp; omega
    rw [Option.bind_some, this]
theorem atI_map {β : Type} {h : α → β} {i : Int} : L2.atI (xs.map h) i = (L2.atI xs i).map h := by
  unfold L2.atI
  rw [List.length_map]
  cases L2.ixN xs.length i <;> simp
/-- the item at an index in range -/
theorem atI_ok {i : Int} (h0 : 0 ≤ i) (h1 : i < xs.length) : L2.atI xs i = some (xs[i.toNat]'(by omega)) := by
  unfold L2.atI L2.ixN
  rw [if_pos h0, if_pos h1]
  simp
theorem stV_own : stV pin i.toNat ⟨.own, d⟩ ρ = if i.toNat ∈ pin then none else some (ρ.set i.toNat (some ⟨.own, d⟩)) := by
  unfold stV
  simp
theorem stV_o {k : Nat} : stV pin k ⟨.own, d⟩ ρ = if k ∈ pin then none else some (ρ.set k (some ⟨.own, d⟩)) := by
  unfold stV
  simp
theorem stV_s {k : Nat} : stV pin k ⟨.shr, d⟩ ρ = if k ∈ pin then none else some (ρ.set k (some ⟨.shr, d⟩)) := by
  unfold stV
  simp
def mvd (pin : List Nat) (k : Nat) (ρ : Rho) : Option (Option FD) → Option (FD × Rho)
  | some (some s) => if s.d.mut = false then some (⟨.own, s.d⟩, ρ) else (match s.f with
    | .own => if k ∈ pin then none else some (s, ρ.set k none)
    | .shr => some (s, ρ)
    | .bor => none)
  | _ => none
theorem moveV_mvd {k : Nat} : moveV pin ρ k = mvd pin k ρ ρ[k]? := by
  unfold moveV mvd
  generalize ρ[k]? = o
  rcases o with _ | _ | s <;> rfl
section
variable {k : Nat} {s : Str} {b : Bool}
theorem mvd_int : mvd pin k ρ (some (some ⟨f, .int i⟩)) = some (⟨.own, .int i⟩, ρ) := rfl
theorem mvd_str : mvd pin k ρ (some (some ⟨f, .str s⟩)) = some (⟨.own, .str s⟩, ρ) := rfl
theorem mvd_bl : mvd pin k ρ (some (some ⟨f, .bl b⟩)) = some (⟨.own, .bl b⟩, ρ) := rfl
theorem mvd_non : mvd pin k ρ (some (some ⟨f, .non⟩)) = some (⟨.own, .non⟩, ρ) := rfl
theorem mvd_lo : mvd pin k ρ (some (some ⟨.own, .lst ys⟩)) = if k ∈ pin then none else some (⟨.own, .lst ys⟩, ρ.set k none) := rfl
theorem mvd_ls : mvd pin k ρ (some (some ⟨.shr, .lst ys⟩)) = some (⟨.shr, .lst ys⟩, ρ) := rfl
end
def frd (k : Nat) (ρ : Rho) : Option (Option FD) → Option (FD × Rho)
  | some (some s) => if s.d.mut = false then some (⟨.own, s.d⟩, ρ) else (match s.f with
    | .bor => none
    | _ => some (⟨.shr, s.d⟩, ρ.set k (some ⟨.shr, s.d⟩)))
  | _ => none
theorem freezeV_frd {k : Nat} : freezeV ρ k = frd k ρ ρ[k]? := by
  unfold freezeV frd
  generalize ρ[k]? = o
  rcases o with _ | _ | s <;> rfl
section
variable {k : Nat} {s : Str} {b : Bool}
theorem frd_int : frd k ρ (some (some ⟨f, .int i⟩)) = some (⟨.own, .int i⟩, ρ) := rfl
theorem frd_str : frd k ρ (some (some ⟨f, .str s⟩)) = some (⟨.own, .str s⟩, ρ) := rfl
theorem frd_bl : frd k ρ (some (some ⟨f, .bl b⟩)) = some (⟨.own, .bl b⟩, ρ) := rfl
theorem frd_non : frd k ρ (some (some ⟨f, .non⟩)) = some (⟨.own, .non⟩, ρ) := rfl
theorem frd_lo : frd k ρ (some (some ⟨.own, .lst ys⟩)) = some (⟨.shr, .lst ys⟩, ρ.set k (some ⟨.shr, .lst ys⟩)) := rfl
theorem frd_ls : frd k ρ (some (some ⟨.shr, .lst ys⟩)) = some (⟨.shr, .lst ys⟩, ρ.set k (some ⟨.shr, .lst ys⟩)) := rfl
end
/-! stores -/
def putW (root : Nat) (ix v : D) (ps : List D) (ρ : Rho) : Option (Option FD) → Option Flow
  | some (some s) => if s.f = .own then (modP (setD ix v) ps s.d).map fun q => .nx (ρ.set root (some ⟨.own, q.1⟩)) else none
  | _ => none
theorem put_W {root : Nat} {ix v : D} {ps : List D} : (match ρ[root]? with
        | some (some s) => if s.f = .own then (modP (setD ix v) ps s.d).map fun q => Flow.nx (ρ.set root (some ⟨.own, q.1⟩)) else none
        | _ => none) = putW root ix v ps ρ ρ[root]? := by
  unfold putW
  rfl
theorem putW_own {root : Nat} {ix v : D} {ps : List D} {d : D} : putW root ix v ps ρ (some (some ⟨.own, d⟩)) = (modP (setD ix v) ps d).map fun q => .nx (ρ.set root (some ⟨.own, q.1⟩)) := rfl
theorem modP_nil {β : Type} {g : D → Option (D × β)} {d : D} : modP g [] d = g d := rfl
theorem setD_lst {v : D} {xs : List D} {i : Int} : setD (.int i) v (.lst xs) = (L2.ixN xs.length i).map fun j => (.lst (xs.set j v), ()) := rfl
theorem ixN_nat {n k : Nat} : L2.ixN n (k : Int) = if k < n then some k else none := by
  unfold L2.ixN
  rw [if_pos (by omega)]
  by_cases h : k < n
  · rw [if_pos (by omega), if_pos h]; simp
  · rw [if_neg (by omega), if_neg h]
theorem ixN_0 {n : Nat} : L2.ixN n 0 = if 0 < n then some 0 else none := ixN_nat (k := 0)
theorem ixN_1 {n : Nat} : L2.ixN n 1 = if 1 < n then some 1 else none := ixN_nat (k := 1)
theorem ixN_2 {n : Nat} : L2.ixN n 2 = if 2 < n then some 2 else none := ixN_nat (k := 2)
theorem ixN_3 {n : Nat} : L2.ixN n 3 = if 3 < n then some 3 else none := ixN_nat (k := 3)
theorem ixN_ok {n : Nat} {i : Int} (h0 : 0 ≤ i) (h1 : i < n) : L2.ixN n i = some i.toNat := by
  unfold L2.ixN
  rw [if_pos h0, if_pos h1]
theorem op_mod' (h : 0 < j) : opD (.bin .Mod) [⟨f, .int i⟩, ⟨g, .int j⟩] = some ⟨.own, .int (i % j)⟩ := by rw [op_mod, if_pos h]
theorem op_div' (h0 : 0 < j) (h1 : j.natAbs.log2 < 9000) : opD (.bin .FloorDiv) [⟨f, .int i⟩, ⟨g, .int j⟩] = some ⟨.own, .int (i / j)⟩ := by rw [op_div, if_pos ⟨h0, h1⟩]
theorem op_mul' (h : L2.CMul i j ∨ L2.CMulW i j) : opD (.bin .Mult) [⟨f, .int i⟩, ⟨g, .int j⟩] = some ⟨.own, .int (i * j)⟩ := by rw [op_mul, if_pos h]
theorem op_shl' (h0 : 0 ≤ j) (h1 : j ≤ 1000000) (h2 : i.natAbs < 2 ^ 64) : opD (.bin .LShift) [⟨f, .int i⟩, ⟨g, .int j⟩] = some ⟨.own, .int (i * 2 ^ j.toNat)⟩ := by rw [op_shl, if_pos ⟨h0, h1, h2⟩]
theorem op_shr' (h : 0 ≤ j) : opD (.bin .RShift) [⟨f, .int i⟩, ⟨g, .int j⟩] = some ⟨.own, .int (i / 2 ^ j.toNat)⟩ := by rw [op_shr, if_pos h]
theorem op_pow' (h0 : 0 ≤ j) (h1 : j ≤ 1000000) (h2 : i.natAbs < 2 ^ 64) : opD (.bin .Pow) [⟨f, .int i⟩, ⟨g, .int j⟩] = some ⟨.own, .int (i ^ j.toNat)⟩ := by rw [op_pow, if_pos ⟨h0, h1, h2⟩]
end
end B
namespace B
open PySem
section
variable {pin is : List Nat} {i : Nat} {f : Fl} {d : D} {ds : List D} {ρ ρ0 : Rho}
theorem bindT_nm : bindT pin f (.nm i) d ρ = if i ∈ pin then none else some (ρ.set i (some (nrm f d))) := rfl
theorem bindT_tp : bindT pin f (.tp is) (.tup ds) ρ = bindVs pin f ds is ρ := rfl
theorem bindVs_cons {x : D} : bindVs pin f (x :: ds) (i :: is) ρ = if i ∈ pin then none else bindVs pin f ds is (ρ.set i (some (nrm f x))) := by
  show (if i ∈ pin then none else some (ρ.set i (some (nrm f x)))).bind _ = _
  split <;> rfl
theorem bindVs_nil : bindVs pin f [] [] ρ = some ρ := rfl
def cl1 (ρ : Rho) (i : Nat) : Option (Option FD) → Rho
  | some (some s) => if s.f = .bor then ρ.set i none else ρ
  | _ => ρ
theorem clear_nil : clearT [] ρ = ρ := rfl
theorem clear_cons : clearT (i :: is) ρ = clearT is (cl1 ρ i ρ[i]?) := rfl
theorem cl1_own : cl1 ρ i (some (some ⟨.own, d⟩)) = ρ := rfl
theorem cl1_shr : cl1 ρ i (some (some ⟨.shr, d⟩)) = ρ := rfl
theorem cl1_bor : cl1 ρ i (some (some ⟨.bor, d⟩)) = ρ.set i none := rfl
theorem cl1_none : cl1 ρ i (some none) = ρ := rfl
def lk1 (ρ : Rho) (i : Nat) : Option (Option FD) → Rho
  | some (some s) => if s.f = .own then ρ.set i (some ⟨.bor, s.d⟩) else ρ
  | _ => ρ
theorem lock_nil : lock [] ρ = ρ := rfl
theorem lock_cons : lock (i :: is) ρ = lock is (lk1 ρ i ρ[i]?) := rfl
theorem lk1_own : lk1 ρ i (some (some ⟨.own, d⟩)) = ρ.set i (some ⟨.bor, d⟩) := rfl
theorem lk1_bor : lk1 ρ i (some (some ⟨.bor, d⟩)) = ρ := rfl
theorem lk1_shr : lk1 ρ i (some (some ⟨.shr, d⟩)) = ρ := rfl
def ul1 (ρ : Rho) (i : Nat) : Option (Option FD) → Rho
  | some (some s) => if s.f = .bor then ρ.set i (some ⟨.own, s.d⟩) else ρ
  | _ => ρ
theorem unlock_nil : unlock [] ρ = ρ := rfl
theorem unlock_cons : unlock (i :: is) ρ = unlock is (ul1 ρ i ρ[i]?) := rfl
theorem ul1_own : ul1 ρ i (some (some ⟨.own, d⟩)) = ρ := rfl
theorem ul1_bor : ul1 ρ i (some (some ⟨.bor, d⟩)) = ρ.set i (some ⟨.own, d⟩) := rfl
theorem ul1_shr : ul1 ρ i (some (some ⟨.shr, d⟩)) = ρ := rfl
theorem ul1_none : ul1 ρ i (some none) = ρ := rfl
def oa1 : Option (Option FD) → Bool
  | some (some s) => decide (s.f = .own)
  | _ => false
theorem ownAt_oa : ownAt ρ i = oa1 ρ[i]? := rfl
theorem oa_own : oa1 (some (some ⟨.own, d⟩)) = true := rfl
theorem oa_shr : oa1 (some (some ⟨.shr, d⟩)) = false := rfl
theorem oa_bor : oa1 (some (some ⟨.bor, d⟩)) = false := rfl
theorem owned_nil : owned [] ρ = [] := rfl
theorem owned_one : owned [i] ρ = if ownAt ρ i = true then [i] else [] := by
  unfold owned
  cases h : ownAt ρ i <;> simp [List.filter, h, List.eraseDups_cons]
theorem wipe_nil : wipeR ρ [] = ρ := rfl
theorem wipe_cons : wipeR ρ (i :: is) = (wipeR ρ is).set i none := rfl
theorem rest_nil : restR ρ0 ρ [] = ρ := rfl
theorem rest_cons : restR ρ0 ρ (i :: is) = (restR ρ0 ρ is).set i ((ρ0[i]?).getD none) := rfl
def pa1 : Option (Option FD) → Bool
  | some (some s) => !s.d.mut
  | _ => true
theorem pureAt_pa : pureAt ρ i = pa1 ρ[i]? := rfl
theorem pa_none : pa1 (some none) = true := rfl
theorem pa_int {f : Fl} {i : Int} : pa1 (some (some ⟨f, .int i⟩)) = true := rfl
theorem pa_str {f : Fl} {s : Str} : pa1 (some (some ⟨f, .str s⟩)) = true := rfl
theorem pa_bl {f : Fl} {b : Bool} : pa1 (some (some ⟨f, .bl b⟩)) = true := rfl
theorem pa_non {f : Fl} : pa1 (some (some ⟨f, .non⟩)) = true := rfl
theorem slots_nm : (Tg.nm i).slots = [i] := rfl
theorem slots_tp : (Tg.tp is).slots = is := rfl
theorem itemF_own' : itemF .own = .bor := rfl
theorem itemF_bor' : itemF .bor = .bor := rfl
theorem itemF_shr' : itemF .shr = .shr := rfl
theorem Flow_nx {g : Rho → Rho} : Flow.map g (.nx ρ) = .nx (g ρ) := rfl
theorem Flow_rt {g : Rho → Rho} {x : FD} : Flow.map g (.rt x ρ) = .rt x (g ρ) := rfl
/-! sources -/
theorem it_lst : itD .seq [⟨f, .lst ds⟩] = some (f, ds) := rfl
theorem it_clst : itD .seq [⟨f, .clst ds⟩] = some (f, ds) := rfl
theorem it_tup : itD .seq [⟨f, .tup ds⟩] = some (f, ds) := rfl
theorem it_rng1 {j : Int} : itD .rng1 [⟨f, .int j⟩] = if -(2 ^ 62) ≤ j ∧ j < 2 ^ 62 then some (.own, rngD 0 j) else none := rfl
theorem it_rng2 {i j : Int} {g : Fl} : itD .rng2 [⟨f, .int i⟩, ⟨g, .int j⟩] = if -(2 ^ 62) ≤ i ∧ i < 2 ^ 62 ∧ -(2 ^ 62) ≤ j ∧ j < 2 ^ 62 then some (.own, rngD i j) else none := rfl
theorem it_rng1' {j : Int} (h0 : -(2 ^ 62) ≤ j) (h1 : j < 2 ^ 62) : itD .rng1 [⟨f, .int j⟩] = some (.own, rngD 0 j) := by rw [it_rng1, if_pos ⟨h0, h1⟩]
theorem it_rng2' {i j : Int} {g : Fl} (h0 : -(2 ^ 62) ≤ i) (h1 : i < 2 ^ 62) (h2 : -(2 ^ 62) ≤ j) (h3 : j < 2 ^ 62) : itD .rng2 [⟨f, .int i⟩, ⟨g, .int j⟩] = some (.own, rngD i j) := by rw [it_rng2, if_pos ⟨h0, h1, h2, h3⟩]
theorem it_enum : itD .enum [⟨f, .lst ds⟩] = some (f, enumD 0 ds) := rfl
theorem lockVs_nil {xs : List FD} : lockVs [] xs = some [] := rfl
theorem lockVs_own {e : E} {es : List E} {xs : List FD} : lockVs (e :: es) (⟨.own, d⟩ :: xs) = lockVs es xs := by
  show (lockVs es xs).bind _ = _
  cases lockVs es xs <;> rfl
theorem lockVs_shr {e : E} {es : List E} {xs : List FD} : lockVs (e :: es) (⟨.shr, d⟩ :: xs) = lockVs es xs := by
  show (lockVs es xs).bind _ = _
  cases lockVs es xs <;> rfl
theorem lockVs_bor {e : E} {es : List E} {xs : List FD} : lockVs (e :: es) (⟨.bor, d⟩ :: xs) = (lockVs es xs).bind fun r => (rootE e).map fun i => i :: r := rfl
theorem rng_at {i j : Int} {k : Nat} {x : D} (h : (rngD i j)[k]? = some x) : x = .int (i + k) ∧ i + k < j := by
  unfold rngD at h
  rw [List.getElem?_map, Option.map_eq_some_iff] at h
  obtain ⟨m, hm, rfl⟩ := h
  obtain ⟨h1, h2⟩ := List.getElem?_eq_some_iff.mp hm
  simp only [List.length_range, List.getElem_range] at h1 h2
  subst h2
  exact ⟨rfl, by omega⟩
theorem rng_len {i j : Int} : (rngD i j).length = (j - i).toNat := by simp [rngD]
end
end B
namespace B
open PySem
theorem sz1000 {n : Nat} (h : n ≤ 1000) : n ≤ sizeLine := Nat.le_trans h (by decide)
theorem sz1000' {n : Nat} (h : n ≤ 1000) : n < sizeLine := Nat.lt_of_le_of_lt h (by decide)
end B
namespace B
open PySem
theorem szl0 : (0 : Nat) ≤ sizeLine := by decide
theorem szl1 : (1 : Nat) ≤ sizeLine := by decide
theorem szl2 : (2 : Nat) ≤ sizeLine := by decide
theorem szl3 : (3 : Nat) ≤ sizeLine := by decide
theorem szl4 : (4 : Nat) ≤ sizeLine := by decide
theorem szl5 : (5 : Nat) ≤ sizeLine := by decide
theorem szl6 : (6 : Nat) ≤ sizeLine := by decide
theorem szl7 : (7 : Nat) ≤ sizeLine := by decide
theorem szl8 : (8 : Nat) ≤ sizeLine := by decide
theorem szl9 : (9 : Nat) ≤ sizeLine := by decide
theorem szl10 : (10 : Nat) ≤ sizeLine := by decide
theorem szl11 : (11 : Nat) ≤ sizeLine := by decide
theorem szl12 : (12 : Nat) ≤ sizeLine := by decide
theorem szl13 : (13 : Nat) ≤ sizeLine := by decide
theorem szl14 : (14 : Nat) ≤ sizeLine := by decide
theorem szl15 : (15 : Nat) ≤ sizeLine := by decide
theorem szl16 : (16 : Nat) ≤ sizeLine := by decide
theorem szl17 : (17 : Nat) ≤ sizeLine := by decide
theorem szl18 : (18 : Nat) ≤ sizeLine := by decide
theorem szl19 : (19 : Nat) ≤ sizeLine := by decide
theorem szl20 : (20 : Nat) ≤ sizeLine := by decide
end B
namespace B
open PySem
section
variable {d : D} {pin : List Nat} {k : Nat} {ρ : Rho}
theorem rd_mutO (h : d.mut = true) : rd (some (some ⟨.own, d⟩)) = some ⟨.bor, d⟩ := by
  show some (nrm .bor d) = _
  rw [nrm_mut h]
theorem rd_mutB (h : d.mut = true) : rd (some (some ⟨.bor, d⟩)) = some ⟨.bor, d⟩ := by
  show some (nrm .bor d) = _
  rw [nrm_mut h]
theorem rd_mutS (h : d.mut = true) : rd (some (some ⟨.shr, d⟩)) = some ⟨.shr, d⟩ := by
  show some (nrm .shr d) = _
  rw [nrm_mut h]
theorem mvd_mut (h : d.mut = true) : mvd pin k ρ (some (some ⟨.own, d⟩)) = if k ∈ pin then none else some (⟨.own, d⟩, ρ.set k none) := by
  unfold mvd
  simp [h]
end
end B
namespace B
open PySem
theorem evSs_append {C : Ctx} : ∀ (a b : List S) (ρ : Rho), evSs C (a ++ b) ρ = (evSs C a ρ).bind fun r => match r with
    | .nx ρ1 => evSs C b ρ1
    | r => some r
  | [], b, ρ => by simp only [List.nil_append, evSs, Option.bind_some]
  | s :: a, b, ρ => by
    simp only [List.cons_append, evSs, Option.bind_assoc]
    congr 1
    funext r
    cases r with
    | nx ρ1 => exact evSs_append a b ρ1
    | _ => rfl
theorem wq_cut {α : Type} {o : Option α} {Q R : α → Prop} {b : Bx Q} (h : Wp o R) (k : ∀ a, R a → Q a) : Wq o b := h.mono k
end B
namespace B
open PySem
theorem ofString_inj {a b : String} : (Str.ofString a = Str.ofString b) ↔ a = b := by
  constructor
  · intro h
    rw [Str.ofString_eq_toList, Str.ofString_eq_toList] at h
    simp only [Str.mk.injEq] at h
    have h2 := congrArg Array.toList h
    simp only [List.toList_toArray] at h2
    have h3 : a.toList = b.toList := by
      refine (List.map_inj_right fun x y e => ?_).mp h2
      exact Char.toNat_inj.mp e
    exact String.toList_inj.mp h3
  · rintro rfl; rfl
theorem strOk_lit {a : String} : PyData.strOk (Str.ofString a) = true := by
  unfold PyData.strOk
  rw [Str.ofString_eq_toList]
  simp only [List.all_toArray, List.all_map, List.all_eq_true, Function.comp, decide_eq_true_eq]
  intro x _
  have := x.valid
  rcases this with h | ⟨_, h⟩
  · have : x.toNat < 55296 := h
    omega
  · exact h
theorem deq_str {a b : String} : cmpD .Eq (.str (Str.ofString a)) (.str (Str.ofString b)) = some (decide (a = b)) := by
  show (if SeqAt.shaped (.str (Str.ofString a)) = true ∧ SeqAt.shaped (.str (Str.ofString b)) = true then some (PyData.eqv (.str _) (.str _)) else none) = _
  have h : ∀ a : String, SeqAt.shaped (.str (Str.ofString a)) = true := fun a => by
    unfold SeqAt.shaped PyData.canLay0
    rw [strOk_lit]
    rfl
  rw [if_pos ⟨h a, h b⟩]
  congr 1
  simp only [PyData.eqv]
  by_cases e : a = b
  · subst e; simp
  · rw [decide_eq_false e]
    exact beq_eq_false_iff_ne.mpr fun z => e (ofString_inj.mp z)
theorem in_cons {x b : D} {v w : L2.V} {ys : List D} (hx : x.flat = some v) (hb : b.flat = some w) (fv : L2.flatV v = true) (fw : L2.flatV w = true) :
    cmpD .In x (.tup (b :: ys)) = (cmpD .In x (.tup ys)).map fun r => L2.eqV w v || r := by
  show inD x (.tup (b :: ys)) = (inD x (.tup ys)).map _
  simp only [inD, hx, Option.bind_some, flats, hb]
  cases h : flats ys with
  | none => simp
  | some vs =>
    simp only [Option.map_some, Option.bind_some, List.all_cons, fv, fw, Bool.true_and, true_and]
    by_cases q : vs.all L2.flatV = true
    · rw [if_pos q, if_pos q]; rfl
    · rw [if_neg q, if_neg q]; rfl
theorem in_lst {x : D} {ys : List D} : cmpD .In x (.lst ys) = cmpD .In x (.tup ys) := rfl
theorem in_clst {x : D} {ys : List D} : cmpD .In x (.clst ys) = cmpD .In x (.tup ys) := rfl
theorem in_nilS {s : Str} : cmpD .In (.str s) (.tup []) = some false := rfl
theorem in_nilI {i : Int} : cmpD .In (.int i) (.tup []) = some false := rfl
theorem in_str {a b : String} {ys : List D} : cmpD .In (.str (Str.ofString a)) (.tup (.str (Str.ofString b) :: ys)) = (cmpD .In (.str (Str.ofString a)) (.tup ys)).map fun r => decide (b = a) || r := by
  rw [in_cons (v := L2.V.str _) (w := L2.V.str _) rfl rfl rfl rfl]
  have e : L2.eqV (L2.V.str (Str.ofString b)) (L2.V.str (Str.ofString a)) = decide (b = a) := by
    by_cases e : b = a
    · subst e; simp [L2.eqV]
    · rw [decide_eq_false e]
      simp [L2.eqV, ofString_inj, e]
  rw [e]
theorem op_ixd {f g : Fl} {kvs : List (L2.Key × D)} {s : Str} : opD .ix [⟨f, .dK kvs⟩, ⟨g, .str s⟩] = (lookD kvs (.inr s)).map (nrm f) := rfl
theorem lookD_cons {a b : String} {d : D} {r : List (L2.Key × D)} : lookD ((.inr (Str.ofString a), d) :: r) (.inr (Str.ofString b)) = if a = b then some d else lookD r (.inr (Str.ofString b)) := by
  unfold lookD
  rw [List.find?_cons]
  by_cases e : a = b
  · subst e; simp
  · have : decide ((Sum.inr (Str.ofString a) : L2.Key) = Sum.inr (Str.ofString b)) = false := decide_eq_false fun z => e (ofString_inj.mp (Sum.inr.inj z))
    rw [if_neg e]
    simp only [this]
end B
/-! BV: the draws. -/
namespace B
open PySem
theorem lcLoop_map {turn : D → Rho → Option (Option D × Rho)} {ρ : Rho} {f : D → D} : ∀ {xs : List D}, (∀ x ∈ xs, turn x ρ = some (some (f x), ρ)) → lcLoop turn xs ρ = some (xs.map f, ρ)
  | [], _ => rfl
  | x :: xs, h => by
    simp only [lcLoop, h x List.mem_cons_self, Option.bind_some, lcLoop_map fun y m => h y (List.mem_cons_of_mem _ m), Option.map_some, List.map_cons]
theorem lcLoop_filter {turn : D → Rho → Option (Option D × Rho)} {ρ : Rho} {f : D → Option D} : ∀ {xs : List D}, (∀ x ∈ xs, turn x ρ = some (f x, ρ)) → lcLoop turn xs ρ = some (xs.filterMap f, ρ)
  | [], _ => rfl
  | x :: xs, h => by
    simp only [lcLoop, h x List.mem_cons_self, Option.bind_some, lcLoop_filter fun y m => h y (List.mem_cons_of_mem _ m), Option.map_some, List.filterMap_cons]
    cases f x <;> rfl
theorem wq_for {bind : D → Rho → Option Rho} {clear : Rho → Rho} {body : Rho → Option Flow} {Q : Flow → Prop} {b : Bx Q} {xs : List D} {ρ : Rho} (I : Nat → Rho → Prop) (h0 : I 0 ρ)
    (step : ∀ i x ρ, xs[i]? = some x → I i ρ → Wq (bind x ρ) (Bx.mk (Q := fun ρ1 => Wq (body ρ1) (Bx.mk (Q := fun fl => match fl with
      | .nx ρ2 => I (i + 1) (clear ρ2)
      | .ct ρ2 => I (i + 1) (clear ρ2)
      | .bk ρ2 => Q (.nx (clear ρ2))
      | .rt v ρ2 => Q (.rt v (clear ρ2)))))))
    (fin : ∀ ρ, I xs.length ρ → Q (.nx ρ)) : Wq (forLoop bind clear body xs ρ) b := forLoop_wp I h0 step fin
theorem wq_lc {turn : D → Rho → Option (Option D × Rho)} {Q : List D × Rho → Prop} {b : Bx Q} {xs : List D} {ρ : Rho} (I : Nat → List D → Rho → Prop) (h0 : I 0 [] ρ)
    (step : ∀ i x acc ρ, xs[i]? = some x → I i acc ρ → Wq (turn x ρ) (Bx.mk (Q := fun r => match r.1 with
      | some y => I (i + 1) (acc ++ [y]) r.2
      | none => I (i + 1) acc r.2)))
    (fin : ∀ acc ρ, I xs.length acc ρ → Q (acc, ρ)) : Wq (lcLoop turn xs ρ) b := lcLoop_wp I h0 step fin
theorem wq_while {test : Rho → Option (Bool × Rho)} {body : Rho → Option Flow} {Q : Flow → Prop} {b : Bx Q} {n : Nat} {ρ : Rho} (I : Nat → Rho → Prop) (m : Nat) (h0 : I m ρ) (hm : m < n)
    (step : ∀ m ρ, I m ρ → Wq (test ρ) (Bx.mk (Q := fun r => if r.1 = true then Wq (body r.2) (Bx.mk (Q := fun fl => (match fl with
      | .nx ρ2 => ∃ m', m' < m ∧ I m' ρ2
      | .ct ρ2 => ∃ m', m' < m ∧ I m' ρ2
      | .bk ρ2 => Q (.nx ρ2)
      | .rt v ρ2 => Q (.rt v ρ2)))) else Q (.nx r.2)))) : Wq (whileLoop test body n ρ) b := whileLoop_wp I m h0 hm step

/-! ### _law_take, _law_draw -/
def takeB : List S := [.ite (.op (.cmp .Eq) [.op .ix [.var 0, .cst (.int 2)], .cst (.int 0)]) [.put 0 [] (.cst (.int 1)) (.op (.bin .Add) [.op .ix [.var 0, .cst (.int 1)], .cst (.int 1)]), .ite (.op (.cmp .Lt) [.op .ix [.var 0, .cst (.int 1)], .op (.blt .len) [.op .ix [.var 0, .cst (.int 0)]]]) [.put 0 [] (.cst (.int 2)) (.op .ix [.op .ix [.var 0, .cst (.int 0)], .op .ix [.var 0, .cst (.int 1)]])] [], .ite (.op (.cmp .Eq) [.op .ix [.var 0, .cst (.int 2)], .cst (.int 0)]) [.put 0 [] (.cst (.int 3)) (.op (.bin .Mod) [.op (.blt .int) [.op (.bin .Add) [.op (.bin .Mult) [.op .ix [.var 0, .cst (.int 3)], .cst (.int 48271)], .cst (.int 11)]], .cst (.int 2147483647)]), .put 0 [] (.cst (.int 2)) (.op .ix [.var 0, .cst (.int 3)])] []] [],
  .asg 2 (.op (.bin .Mod) [.op (.blt .int) [.op .ix [.var 0, .cst (.int 2)]], .var 1]),
  .put 0 [] (.cst (.int 2)) (.op (.bin .FloorDiv) [.op .ix [.var 0, .cst (.int 2)], .var 1]),
  .ret (.mv 2)]
def takeDef : Def := ⟨2, 3, [0], takeB⟩
def drawL : List S := [.asg 1 (.op (.bin .Mod) [.op (.blt .int) [.op (.bin .Add) [.op (.bin .Add) [.op (.bin .Mult) [.var 1, .cst (.int 48271)], .op (.bin .Mod) [.op (.blt .abs) [.op (.blt .int) [.var 2]], .cst (.int 65521)]], .cst (.int 1)]], .cst (.int 2147483647)])]
def drawQ : E := .op (.blt .abs) [.op (.blt .int) [.var 2]]
def drawB : List S := [.asg 1 (.cst (.int 7)), .for_ (.nm 2) .seq [.var 0] drawL,
  .ret (.lst [.lc [2] .seq [.var 0] (.nm 2) [] drawQ, .op (.un .USub) [.cst (.int 1)], .cst (.int 0), .mv 1])]
def drawDef : Def := ⟨1, 3, [], drawB⟩
def drawD (cells : List Int) (a b c : Int) : D := .lst [.lst (cells.map .int), .int a, .int b, .int c]
def WfD (d : D) : Prop := ∃ cells a b c, d = drawD cells a b c ∧ -1 ≤ a ∧ 0 ≤ b ∧ 0 ≤ c ∧ ∀ x ∈ cells, 0 ≤ x
theorem WfD.mut {d : D} (h : WfD d) : d.mut = true := by
  obtain ⟨_, _, _, _, rfl, _⟩ := h
  rfl
theorem take_ok (C : Ctx) {d : D} {m : Int} (h : WfD d) (hm : 0 < m) (hm2 : m.natAbs.log2 < 9000) :
    ∃ v d', runD C takeDef [⟨.own, d⟩, ⟨.own, .int m⟩] = some (⟨.own, .int v⟩, [some ⟨.own, d'⟩, some ⟨.own, .int m⟩]) ∧ 0 ≤ v ∧ v < m ∧ WfD d' := by
  obtain ⟨cells, a, b, c, rfl, ha, hb, hc, hce⟩ := h
  suffices Wp (runD C takeDef [⟨.own, drawD cells a b c⟩, ⟨.own, .int m⟩]) fun r => ∃ v d', r = (⟨.own, .int v⟩, [some ⟨.own, d'⟩, some ⟨.own, .int m⟩]) ∧ 0 ≤ v ∧ v < m ∧ WfD d' by
    obtain ⟨r, e, v, d', e2, k⟩ := this
    exact ⟨v, d', by rw [e, e2], k⟩
  unfold runD takeDef takeB
  refine wq_in ?_
  have mod0 : ∀ x : Int, 0 ≤ x % m := fun x => Int.emod_nonneg x (by omega)
  have modm : ∀ x : Int, x % m < m := fun x => Int.emod_lt_of_pos x hm
  have div0 : ∀ x : Int, 0 ≤ x → 0 ≤ x / m := fun x hx => Int.ediv_nonneg hx (by omega)
  simp -implicitDefEqProofs only [wq_bind, wq_some, wq_map, wq_none, wq_ite, evSs, evS, ev, evL, evB, List.length_cons, List.length_nil, Nat.reduceAdd, if_true, List.map_cons, List.map_nil, Nat.reduceSub, List.replicate, List.cons_append, List.nil_append, Bool.false_eq_true, if_false,
    readV_rd, moveV_mvd, freezeV_frd, List.getElem?_cons_zero, List.getElem?_cons_succ, List.set_cons_zero, List.set_cons_succ, rd_int, rd_str, rd_bl, rd_non, rd_lo, rd_lb, rd_ls, rd_tup, rd_clst, nrm_int, nrm_str, nrm_bl, nrm_non, nrm_lst, nrm_tupF, nrm_clstF, mutL_ints, fin_no, fin_bl, fin_int, fin_lst, fin_clst, fin_tup, fin_non, boolD_bl', intD_int,
    mvd_int, mvd_str, mvd_bl, mvd_non, mvd_lo, mvd_ls, frd_int, frd_str, frd_bl, frd_non, frd_lo, frd_ls, stV_o, stV_s, putW_own, put_W, modP_nil, setD_lst, ixN_0, ixN_1, ixN_2, ixN_3, List.not_mem_nil, not_false_eq_true,
    op_add, op_sub, op_and, op_or, op_xor, op_mod', op_div', op_mul', op_shl', op_shr', op_pow', op_addL, op_addS, op_neg, op_inv, op_cmp, op_ixl, op_ixt, op_ixc, op_len, op_lent, op_lenc, op_abs, op_int, op_max, op_min, op_list, op_tupleL, op_isi, op_isl, op_iss, op_ist, op_isn, op_isb, kit_ll, kit_ii, kit_ib,
    cmp_lt, cmp_le, cmp_gt, cmp_ge, cmp_ne, cmp_is, cmp_isnt, cmp_notin, deq_int, atI_0, atI_1, atI_2, atI_3, atI_4, atI_5, atI_6, atI_7, atI_last',
    reduceCtorEq, false_and, and_false, and_true, true_and, E.quiet, E.quiet.E.quietL, Bool.and_self, Bool.and_true, Bool.true_and, decide_eq_true_eq, decide_eq_false_iff_not, Bool.not_eq_true', Bool.not_eq_false', Option.map_some, Option.bind_some, Option.map_none, Option.bind_none, L2.CMul, L2.CDivW, L2.CPow, or_true, true_or, ne_eq, packF, List.isEmpty_nil, List.isEmpty_cons, not_true_eq_false, false_implies, true_implies, forall_const, List.head?_cons, Option.getD_some, Option.getD_none, and_self, or_self, List.mem_cons, or_false, false_or, Nat.reduceEqDiff, Nat.reduceLT, Nat.reduceLeDiff, Int.reducePow, Int.reduceNeg, Int.reduceLT, Int.reduceLE, Int.reduceMul, Int.reduceAdd, Int.reduceSub, Int.reduceToNat, Int.reduceEq, Nat.reducePow, Nat.reduceMul, Nat.reduceBEq, not_false_eq_true, decide_true, decide_false, Bool.not_true, Bool.not_false, List.length_map, imp_self, List.length_append, List.length_set, List.contains_nil, List.elem_eq_mem, Nat.zero_add, bindT_nm, bindT_tp, bindVs_cons, bindVs_nil, clear_nil, clear_cons, cl1_own, cl1_shr, cl1_bor, cl1_none, lock_nil, lock_cons, lk1_own, lk1_bor, lk1_shr, unlock_nil, unlock_cons, ul1_own, ul1_bor, ul1_shr, ul1_none, ownAt_oa, oa_own, oa_shr, oa_bor, owned_nil, owned_one, wipe_nil, wipe_cons, rest_nil, rest_cons, pureAt_pa, pa_none, pa_int, pa_str, pa_bl, pa_non, slots_nm, slots_tp, itemF_own', itemF_bor', itemF_shr', Flow_nx, Flow_rt, it_lst, it_clst, it_tup, it_rng1', it_rng2', it_enum, lockVs_nil, lockVs_own, lockVs_shr, lockVs_bor, rootE, List.all_cons, List.all_nil, finsD, callD, ioVars, leVars, lends, argSl, putBack, ownFin, leOk, List.nodup_cons, List.nodup_nil, Option.some.injEq, Bool.or_false, Bool.false_or, Bool.or_true, Bool.true_or, Bool.and_false, Bool.false_and, Int.reduceNeg, szl0, szl1, szl2, szl3, szl4, szl5, szl6, szl7, szl8, szl9, szl10, szl11, szl12, szl13, szl14, szl15, szl16, szl17, szl18, szl19, szl20, D.mut, rd_mutO, rd_mutB, rd_mutS, mvd_mut, deq_str, in_lst, in_clst, in_str, in_nilS, in_nilI, op_ixd, lookD_cons, String.reduceEq, dictF, unz, D.key, Sum.inr.injEq, Sum.inl.injEq, ofString_inj, not_or, isNone, Nat.reduceAdd, drawD, hm, hm2, finsD]
  have fin : ∀ x a' c' : Int, 0 ≤ x → -1 ≤ a' → 0 ≤ c' → ∃ v d', ((⟨.own, .int (x % m)⟩, [some ⟨.own, .lst [.lst (cells.map .int), .int a', .int (x / m), .int c']⟩, some ⟨.own, .int m⟩]) : FD × Rho) = (⟨.own, .int v⟩, [some ⟨.own, d'⟩, some ⟨.own, .int m⟩]) ∧ 0 ≤ v ∧ v < m ∧ WfD d' :=
    fun x a' c' hx ha' hc' => ⟨_, _, rfl, mod0 _, modm _, cells, a', x / m, c', rfl, ha', div0 _ hx, hc', hce⟩
  refine ⟨fun hb0 => ⟨fun hlt => ?_, fun hge => ⟨fun _ => ?_, fun z => absurd hb0 z⟩⟩, fun _ => ?_⟩
  · rw [atI_map, atI_ok (by omega) hlt]
    have hx := hce _ (List.getElem_mem (l := cells) (n := (a + 1).toNat) (by omega))
    generalize cells[(a + 1).toNat]'(by omega) = x at hx ⊢
    simp -implicitDefEqProofs only [wq_bind, wq_some, wq_map, wq_none, wq_ite, evSs, evS, ev, evL, evB, List.length_cons, List.length_nil, Nat.reduceAdd, if_true, List.map_cons, List.map_nil, Nat.reduceSub, List.replicate, List.cons_append, List.nil_append, Bool.false_eq_true, if_false,
    readV_rd, moveV_mvd, freezeV_frd, List.getElem?_cons_zero, List.getElem?_cons_succ, List.set_cons_zero, List.set_cons_succ, rd_int, rd_str, rd_bl, rd_non, rd_lo, rd_lb, rd_ls, rd_tup, rd_clst, nrm_int, nrm_str, nrm_bl, nrm_non, nrm_lst, nrm_tupF, nrm_clstF, mutL_ints, fin_no, fin_bl, fin_int, fin_lst, fin_clst, fin_tup, fin_non, boolD_bl', intD_int,
    mvd_int, mvd_str, mvd_bl, mvd_non, mvd_lo, mvd_ls, frd_int, frd_str, frd_bl, frd_non, frd_lo, frd_ls, stV_o, stV_s, putW_own, put_W, modP_nil, setD_lst, ixN_0, ixN_1, ixN_2, ixN_3, List.not_mem_nil, not_false_eq_true,
    op_add, op_sub, op_and, op_or, op_xor, op_mod', op_div', op_mul', op_shl', op_shr', op_pow', op_addL, op_addS, op_neg, op_inv, op_cmp, op_ixl, op_ixt, op_ixc, op_len, op_lent, op_lenc, op_abs, op_int, op_max, op_min, op_list, op_tupleL, op_isi, op_isl, op_iss, op_ist, op_isn, op_isb, kit_ll, kit_ii, kit_ib,
    cmp_lt, cmp_le, cmp_gt, cmp_ge, cmp_ne, cmp_is, cmp_isnt, cmp_notin, deq_int, atI_0, atI_1, atI_2, atI_3, atI_4, atI_5, atI_6, atI_7, atI_last',
    reduceCtorEq, false_and, and_false, and_true, true_and, E.quiet, E.quiet.E.quietL, Bool.and_self, Bool.and_true, Bool.true_and, decide_eq_true_eq, decide_eq_false_iff_not, Bool.not_eq_true', Bool.not_eq_false', Option.map_some, Option.bind_some, Option.map_none, Option.bind_none, L2.CMul, L2.CDivW, L2.CPow, or_true, true_or, ne_eq, packF, List.isEmpty_nil, List.isEmpty_cons, not_true_eq_false, false_implies, true_implies, forall_const, List.head?_cons, Option.getD_some, Option.getD_none, and_self, or_self, List.mem_cons, or_false, false_or, Nat.reduceEqDiff, Nat.reduceLT, Nat.reduceLeDiff, Int.reducePow, Int.reduceNeg, Int.reduceLT, Int.reduceLE, Int.reduceMul, Int.reduceAdd, Int.reduceSub, Int.reduceToNat, Int.reduceEq, Nat.reducePow, Nat.reduceMul, Nat.reduceBEq, not_false_eq_true, decide_true, decide_false, Bool.not_true, Bool.not_false, List.length_map, imp_self, List.length_append, List.length_set, List.contains_nil, List.elem_eq_mem, Nat.zero_add, bindT_nm, bindT_tp, bindVs_cons, bindVs_nil, clear_nil, clear_cons, cl1_own, cl1_shr, cl1_bor, cl1_none, lock_nil, lock_cons, lk1_own, lk1_bor, lk1_shr, unlock_nil, unlock_cons, ul1_own, ul1_bor, ul1_shr, ul1_none, ownAt_oa, oa_own, oa_shr, oa_bor, owned_nil, owned_one, wipe_nil, wipe_cons, rest_nil, rest_cons, pureAt_pa, pa_none, pa_int, pa_str, pa_bl, pa_non, slots_nm, slots_tp, itemF_own', itemF_bor', itemF_shr', Flow_nx, Flow_rt, it_lst, it_clst, it_tup, it_rng1', it_rng2', it_enum, lockVs_nil, lockVs_own, lockVs_shr, lockVs_bor, rootE, List.all_cons, List.all_nil, finsD, callD, ioVars, leVars, lends, argSl, putBack, ownFin, leOk, List.nodup_cons, List.nodup_nil, Option.some.injEq, Bool.or_false, Bool.false_or, Bool.or_true, Bool.true_or, Bool.and_false, Bool.false_and, Int.reduceNeg, szl0, szl1, szl2, szl3, szl4, szl5, szl6, szl7, szl8, szl9, szl10, szl11, szl12, szl13, szl14, szl15, szl16, szl17, szl18, szl19, szl20, D.mut, rd_mutO, rd_mutB, rd_mutS, mvd_mut, deq_str, in_lst, in_clst, in_str, in_nilS, in_nilI, op_ixd, lookD_cons, String.reduceEq, dictF, unz, D.key, Sum.inr.injEq, Sum.inl.injEq, ofString_inj, not_or, isNone, Nat.reduceAdd, drawD, hm, hm2, finsD]
    exact ⟨fun _ => fin _ _ _ (by omega) (by omega) (by omega), fun _ => fin _ _ _ hx (by omega) hc⟩
  · exact fin _ _ _ (by omega) (by omega) (by omega)
  · exact fin _ _ _ hb ha hc
theorem draw_ok (C : Ctx) (ns : List Int) (hns : ns.length ≤ 63) : ∃ d, runD C drawDef [⟨.own, .clst (ns.map .int)⟩] = some (⟨.own, d⟩, [some ⟨.own, .clst (ns.map .int)⟩]) ∧ WfD d := by
  suffices Wp (runD C drawDef [⟨.own, .clst (ns.map .int)⟩]) fun r => ∃ d, r = (⟨.own, d⟩, [some ⟨.own, .clst (ns.map .int)⟩]) ∧ WfD d by
    obtain ⟨r, e, d, e2, k⟩ := this
    exact ⟨d, by rw [e, e2], k⟩
  unfold runD drawDef drawB
  refine wq_in ?_
  simp -implicitDefEqProofs only [wq_bind, wq_some, wq_map, wq_none, wq_ite, evSs, evS, ev, evL, evB, List.length_cons, List.length_nil, Nat.reduceAdd, if_true, List.map_cons, List.map_nil, Nat.reduceSub, List.replicate, List.cons_append, List.nil_append, Bool.false_eq_true, if_false,
    readV_rd, moveV_mvd, freezeV_frd, List.getElem?_cons_zero, List.getElem?_cons_succ, List.set_cons_zero, List.set_cons_succ, rd_int, rd_str, rd_bl, rd_non, rd_lo, rd_lb, rd_ls, rd_tup, rd_clst, nrm_int, nrm_str, nrm_bl, nrm_non, nrm_lst, nrm_tupF, nrm_clstF, mutL_ints, fin_no, fin_bl, fin_int, fin_lst, fin_clst, fin_tup, fin_non, boolD_bl', intD_int,
    mvd_int, mvd_str, mvd_bl, mvd_non, mvd_lo, mvd_ls, frd_int, frd_str, frd_bl, frd_non, frd_lo, frd_ls, stV_o, stV_s, putW_own, put_W, modP_nil, setD_lst, ixN_0, ixN_1, ixN_2, ixN_3, List.not_mem_nil, not_false_eq_true,
    op_add, op_sub, op_and, op_or, op_xor, op_mod', op_div', op_mul', op_shl', op_shr', op_pow', op_addL, op_addS, op_neg, op_inv, op_cmp, op_ixl, op_ixt, op_ixc, op_len, op_lent, op_lenc, op_abs, op_int, op_max, op_min, op_list, op_tupleL, op_isi, op_isl, op_iss, op_ist, op_isn, op_isb, kit_ll, kit_ii, kit_ib,
    cmp_lt, cmp_le, cmp_gt, cmp_ge, cmp_ne, cmp_is, cmp_isnt, cmp_notin, deq_int, atI_0, atI_1, atI_2, atI_3, atI_4, atI_5, atI_6, atI_7, atI_last',
    reduceCtorEq, false_and, and_false, and_true, true_and, E.quiet, E.quiet.E.quietL, Bool.and_self, Bool.and_true, Bool.true_and, decide_eq_true_eq, decide_eq_false_iff_not, Bool.not_eq_true', Bool.not_eq_false', Option.map_some, Option.bind_some, Option.map_none, Option.bind_none, L2.CMul, L2.CDivW, L2.CPow, or_true, true_or, ne_eq, packF, List.isEmpty_nil, List.isEmpty_cons, not_true_eq_false, false_implies, true_implies, forall_const, List.head?_cons, Option.getD_some, Option.getD_none, and_self, or_self, List.mem_cons, or_false, false_or, Nat.reduceEqDiff, Nat.reduceLT, Nat.reduceLeDiff, Int.reducePow, Int.reduceNeg, Int.reduceLT, Int.reduceLE, Int.reduceMul, Int.reduceAdd, Int.reduceSub, Int.reduceToNat, Int.reduceEq, Nat.reducePow, Nat.reduceMul, Nat.reduceBEq, not_false_eq_true, decide_true, decide_false, Bool.not_true, Bool.not_false, List.length_map, imp_self, List.length_append, List.length_set, List.contains_nil, List.elem_eq_mem, Nat.zero_add, bindT_nm, bindT_tp, bindVs_cons, bindVs_nil, clear_nil, clear_cons, cl1_own, cl1_shr, cl1_bor, cl1_none, lock_nil, lock_cons, lk1_own, lk1_bor, lk1_shr, unlock_nil, unlock_cons, ul1_own, ul1_bor, ul1_shr, ul1_none, ownAt_oa, oa_own, oa_shr, oa_bor, owned_nil, owned_one, wipe_nil, wipe_cons, rest_nil, rest_cons, pureAt_pa, pa_none, pa_int, pa_str, pa_bl, pa_non, slots_nm, slots_tp, itemF_own', itemF_bor', itemF_shr', Flow_nx, Flow_rt, it_lst, it_clst, it_tup, it_rng1', it_rng2', it_enum, lockVs_nil, lockVs_own, lockVs_shr, lockVs_bor, rootE, List.all_cons, List.all_nil, finsD, callD, ioVars, leVars, lends, argSl, putBack, ownFin, leOk, List.nodup_cons, List.nodup_nil, Option.some.injEq, Bool.or_false, Bool.false_or, Bool.or_true, Bool.true_or, Bool.and_false, Bool.false_and, Int.reduceNeg, szl0, szl1, szl2, szl3, szl4, szl5, szl6, szl7, szl8, szl9, szl10, szl11, szl12, szl13, szl14, szl15, szl16, szl17, szl18, szl19, szl20, D.mut, rd_mutO, rd_mutB, rd_mutS, mvd_mut, deq_str, in_lst, in_clst, in_str, in_nilS, in_nilI, op_ixd, lookD_cons, String.reduceEq, dictF, unz, D.key, Sum.inr.injEq, Sum.inl.injEq, ofString_inj, not_or, isNone, Nat.reduceAdd]
  refine wq_for (I := fun _ ρ => ∃ c o, 0 ≤ c ∧ ρ = [some ⟨.own, .clst (ns.map .int)⟩, some ⟨.own, .int c⟩, o] ∧ pa1 (some o) = true) ⟨7, none, by decide, rfl, rfl⟩ ?_ ?_
  · rintro i x ρ hx ⟨c, o, hc, rfl, ho⟩
    rw [List.getElem?_map, Option.map_eq_some_iff] at hx
    obtain ⟨z, hz, rfl⟩ := hx
    unfold drawL
    simp -implicitDefEqProofs only [wq_bind, wq_some, wq_map, wq_none, wq_ite, evSs, evS, ev, evL, evB, List.length_cons, List.length_nil, Nat.reduceAdd, if_true, List.map_cons, List.map_nil, Nat.reduceSub, List.replicate, List.cons_append, List.nil_append, Bool.false_eq_true, if_false,
    readV_rd, moveV_mvd, freezeV_frd, List.getElem?_cons_zero, List.getElem?_cons_succ, List.set_cons_zero, List.set_cons_succ, rd_int, rd_str, rd_bl, rd_non, rd_lo, rd_lb, rd_ls, rd_tup, rd_clst, nrm_int, nrm_str, nrm_bl, nrm_non, nrm_lst, nrm_tupF, nrm_clstF, mutL_ints, fin_no, fin_bl, fin_int, fin_lst, fin_clst, fin_tup, fin_non, boolD_bl', intD_int,
    mvd_int, mvd_str, mvd_bl, mvd_non, mvd_lo, mvd_ls, frd_int, frd_str, frd_bl, frd_non, frd_lo, frd_ls, stV_o, stV_s, putW_own, put_W, modP_nil, setD_lst, ixN_0, ixN_1, ixN_2, ixN_3, List.not_mem_nil, not_false_eq_true,
    op_add, op_sub, op_and, op_or, op_xor, op_mod', op_div', op_mul', op_shl', op_shr', op_pow', op_addL, op_addS, op_neg, op_inv, op_cmp, op_ixl, op_ixt, op_ixc, op_len, op_lent, op_lenc, op_abs, op_int, op_max, op_min, op_list, op_tupleL, op_isi, op_isl, op_iss, op_ist, op_isn, op_isb, kit_ll, kit_ii, kit_ib,
    cmp_lt, cmp_le, cmp_gt, cmp_ge, cmp_ne, cmp_is, cmp_isnt, cmp_notin, deq_int, atI_0, atI_1, atI_2, atI_3, atI_4, atI_5, atI_6, atI_7, atI_last',
    reduceCtorEq, false_and, and_false, and_true, true_and, E.quiet, E.quiet.E.quietL, Bool.and_self, Bool.and_true, Bool.true_and, decide_eq_true_eq, decide_eq_false_iff_not, Bool.not_eq_true', Bool.not_eq_false', Option.map_some, Option.bind_some, Option.map_none, Option.bind_none, L2.CMul, L2.CDivW, L2.CPow, or_true, true_or, ne_eq, packF, List.isEmpty_nil, List.isEmpty_cons, not_true_eq_false, false_implies, true_implies, forall_const, List.head?_cons, Option.getD_some, Option.getD_none, and_self, or_self, List.mem_cons, or_false, false_or, Nat.reduceEqDiff, Nat.reduceLT, Nat.reduceLeDiff, Int.reducePow, Int.reduceNeg, Int.reduceLT, Int.reduceLE, Int.reduceMul, Int.reduceAdd, Int.reduceSub, Int.reduceToNat, Int.reduceEq, Nat.reducePow, Nat.reduceMul, Nat.reduceBEq, not_false_eq_true, decide_true, decide_false, Bool.not_true, Bool.not_false, List.length_map, imp_self, List.length_append, List.length_set, List.contains_nil, List.elem_eq_mem, Nat.zero_add, bindT_nm, bindT_tp, bindVs_cons, bindVs_nil, clear_nil, clear_cons, cl1_own, cl1_shr, cl1_bor, cl1_none, lock_nil, lock_cons, lk1_own, lk1_bor, lk1_shr, unlock_nil, unlock_cons, ul1_own, ul1_bor, ul1_shr, ul1_none, ownAt_oa, oa_own, oa_shr, oa_bor, owned_nil, owned_one, wipe_nil, wipe_cons, rest_nil, rest_cons, pureAt_pa, pa_none, pa_int, pa_str, pa_bl, pa_non, slots_nm, slots_tp, itemF_own', itemF_bor', itemF_shr', Flow_nx, Flow_rt, it_lst, it_clst, it_tup, it_rng1', it_rng2', it_enum, lockVs_nil, lockVs_own, lockVs_shr, lockVs_bor, rootE, List.all_cons, List.all_nil, finsD, callD, ioVars, leVars, lends, argSl, putBack, ownFin, leOk, List.nodup_cons, List.nodup_nil, Option.some.injEq, Bool.or_false, Bool.false_or, Bool.or_true, Bool.true_or, Bool.and_false, Bool.false_and, Int.reduceNeg, szl0, szl1, szl2, szl3, szl4, szl5, szl6, szl7, szl8, szl9, szl10, szl11, szl12, szl13, szl14, szl15, szl16, szl17, szl18, szl19, szl20, D.mut, rd_mutO, rd_mutB, rd_mutS, mvd_mut, deq_str, in_lst, in_clst, in_str, in_nilS, in_nilI, op_ixd, lookD_cons, String.reduceEq, dictF, unz, D.key, Sum.inr.injEq, Sum.inl.injEq, ofString_inj, not_or, isNone, Nat.reduceAdd]
    exact ⟨_, _, by omega, rfl, rfl⟩
  · rintro ρ ⟨c, o, hc, rfl, ho⟩
    simp -implicitDefEqProofs only [wq_bind, wq_some, wq_map, wq_none, wq_ite, evSs, evS, ev, evL, evB, List.length_cons, List.length_nil, Nat.reduceAdd, if_true, List.map_cons, List.map_nil, Nat.reduceSub, List.replicate, List.cons_append, List.nil_append, Bool.false_eq_true, if_false,
    readV_rd, moveV_mvd, freezeV_frd, List.getElem?_cons_zero, List.getElem?_cons_succ, List.set_cons_zero, List.set_cons_succ, rd_int, rd_str, rd_bl, rd_non, rd_lo, rd_lb, rd_ls, rd_tup, rd_clst, nrm_int, nrm_str, nrm_bl, nrm_non, nrm_lst, nrm_tupF, nrm_clstF, mutL_ints, fin_no, fin_bl, fin_int, fin_lst, fin_clst, fin_tup, fin_non, boolD_bl', intD_int,
    mvd_int, mvd_str, mvd_bl, mvd_non, mvd_lo, mvd_ls, frd_int, frd_str, frd_bl, frd_non, frd_lo, frd_ls, stV_o, stV_s, putW_own, put_W, modP_nil, setD_lst, ixN_0, ixN_1, ixN_2, ixN_3, List.not_mem_nil, not_false_eq_true,
    op_add, op_sub, op_and, op_or, op_xor, op_mod', op_div', op_mul', op_shl', op_shr', op_pow', op_addL, op_addS, op_neg, op_inv, op_cmp, op_ixl, op_ixt, op_ixc, op_len, op_lent, op_lenc, op_abs, op_int, op_max, op_min, op_list, op_tupleL, op_isi, op_isl, op_iss, op_ist, op_isn, op_isb, kit_ll, kit_ii, kit_ib,
    cmp_lt, cmp_le, cmp_gt, cmp_ge, cmp_ne, cmp_is, cmp_isnt, cmp_notin, deq_int, atI_0, atI_1, atI_2, atI_3, atI_4, atI_5, atI_6, atI_7, atI_last',
    reduceCtorEq, false_and, and_false, and_true, true_and, E.quiet, E.quiet.E.quietL, Bool.and_self, Bool.and_true, Bool.true_and, decide_eq_true_eq, decide_eq_false_iff_not, Bool.not_eq_true', Bool.not_eq_false', Option.map_some, Option.bind_some, Option.map_none, Option.bind_none, L2.CMul, L2.CDivW, L2.CPow, or_true, true_or, ne_eq, packF, List.isEmpty_nil, List.isEmpty_cons, not_true_eq_false, false_implies, true_implies, forall_const, List.head?_cons, Option.getD_some, Option.getD_none, and_self, or_self, List.mem_cons, or_false, false_or, Nat.reduceEqDiff, Nat.reduceLT, Nat.reduceLeDiff, Int.reducePow, Int.reduceNeg, Int.reduceLT, Int.reduceLE, Int.reduceMul, Int.reduceAdd, Int.reduceSub, Int.reduceToNat, Int.reduceEq, Nat.reducePow, Nat.reduceMul, Nat.reduceBEq, not_false_eq_true, decide_true, decide_false, Bool.not_true, Bool.not_false, List.length_map, imp_self, List.length_append, List.length_set, List.contains_nil, List.elem_eq_mem, Nat.zero_add, bindT_nm, bindT_tp, bindVs_cons, bindVs_nil, clear_nil, clear_cons, cl1_own, cl1_shr, cl1_bor, cl1_none, lock_nil, lock_cons, lk1_own, lk1_bor, lk1_shr, unlock_nil, unlock_cons, ul1_own, ul1_bor, ul1_shr, ul1_none, ownAt_oa, oa_own, oa_shr, oa_bor, owned_nil, owned_one, wipe_nil, wipe_cons, rest_nil, rest_cons, pureAt_pa, pa_none, pa_int, pa_str, pa_bl, pa_non, slots_nm, slots_tp, itemF_own', itemF_bor', itemF_shr', Flow_nx, Flow_rt, it_lst, it_clst, it_tup, it_rng1', it_rng2', it_enum, lockVs_nil, lockVs_own, lockVs_shr, lockVs_bor, rootE, List.all_cons, List.all_nil, finsD, callD, ioVars, leVars, lends, argSl, putBack, ownFin, leOk, List.nodup_cons, List.nodup_nil, Option.some.injEq, Bool.or_false, Bool.false_or, Bool.or_true, Bool.true_or, Bool.and_false, Bool.false_and, Int.reduceNeg, szl0, szl1, szl2, szl3, szl4, szl5, szl6, szl7, szl8, szl9, szl10, szl11, szl12, szl13, szl14, szl15, szl16, szl17, szl18, szl19, szl20, D.mut, rd_mutO, rd_mutB, rd_mutS, mvd_mut, deq_str, in_lst, in_clst, in_str, in_nilS, in_nilI, op_ixd, lookD_cons, String.reduceEq, dictF, unz, D.key, Sum.inr.injEq, Sum.inl.injEq, ofString_inj, not_or, isNone, Nat.reduceAdd, ho]
    refine wq_lc (I := fun i acc ρ => ρ = [some ⟨.own, .clst (ns.map .int)⟩, some ⟨.own, .int c⟩, none] ∧ acc.length = i ∧ ∃ cells, acc = cells.map D.int ∧ ∀ x ∈ cells, 0 ≤ x) ⟨rfl, rfl, [], rfl, by simp⟩ ?_ ?_
    · rintro i x acc ρ hx ⟨rfl, hl, cells, rfl, hce⟩
      rw [List.getElem?_map, Option.map_eq_some_iff] at hx
      obtain ⟨z, hz, rfl⟩ := hx
      unfold drawQ
      simp -implicitDefEqProofs only [wq_bind, wq_some, wq_map, wq_none, wq_ite, evSs, evS, ev, evL, evB, List.length_cons, List.length_nil, Nat.reduceAdd, if_true, List.map_cons, List.map_nil, Nat.reduceSub, List.replicate, List.cons_append, List.nil_append, Bool.false_eq_true, if_false,
    readV_rd, moveV_mvd, freezeV_frd, List.getElem?_cons_zero, List.getElem?_cons_succ, List.set_cons_zero, List.set_cons_succ, rd_int, rd_str, rd_bl, rd_non, rd_lo, rd_lb, rd_ls, rd_tup, rd_clst, nrm_int, nrm_str, nrm_bl, nrm_non, nrm_lst, nrm_tupF, nrm_clstF, mutL_ints, fin_no, fin_bl, fin_int, fin_lst, fin_clst, fin_tup, fin_non, boolD_bl', intD_int,
    mvd_int, mvd_str, mvd_bl, mvd_non, mvd_lo, mvd_ls, frd_int, frd_str, frd_bl, frd_non, frd_lo, frd_ls, stV_o, stV_s, putW_own, put_W, modP_nil, setD_lst, ixN_0, ixN_1, ixN_2, ixN_3, List.not_mem_nil, not_false_eq_true,
    op_add, op_sub, op_and, op_or, op_xor, op_mod', op_div', op_mul', op_shl', op_shr', op_pow', op_addL, op_addS, op_neg, op_inv, op_cmp, op_ixl, op_ixt, op_ixc, op_len, op_lent, op_lenc, op_abs, op_int, op_max, op_min, op_list, op_tupleL, op_isi, op_isl, op_iss, op_ist, op_isn, op_isb, kit_ll, kit_ii, kit_ib,
    cmp_lt, cmp_le, cmp_gt, cmp_ge, cmp_ne, cmp_is, cmp_isnt, cmp_notin, deq_int, atI_0, atI_1, atI_2, atI_3, atI_4, atI_5, atI_6, atI_7, atI_last',
    reduceCtorEq, false_and, and_false, and_true, true_and, E.quiet, E.quiet.E.quietL, Bool.and_self, Bool.and_true, Bool.true_and, decide_eq_true_eq, decide_eq_false_iff_not, Bool.not_eq_true', Bool.not_eq_false', Option.map_some, Option.bind_some, Option.map_none, Option.bind_none, L2.CMul, L2.CDivW, L2.CPow, or_true, true_or, ne_eq, packF, List.isEmpty_nil, List.isEmpty_cons, not_true_eq_false, false_implies, true_implies, forall_const, List.head?_cons, Option.getD_some, Option.getD_none, and_self, or_self, List.mem_cons, or_false, false_or, Nat.reduceEqDiff, Nat.reduceLT, Nat.reduceLeDiff, Int.reducePow, Int.reduceNeg, Int.reduceLT, Int.reduceLE, Int.reduceMul, Int.reduceAdd, Int.reduceSub, Int.reduceToNat, Int.reduceEq, Nat.reducePow, Nat.reduceMul, Nat.reduceBEq, not_false_eq_true, decide_true, decide_false, Bool.not_true, Bool.not_false, List.length_map, imp_self, List.length_append, List.length_set, List.contains_nil, List.elem_eq_mem, Nat.zero_add, bindT_nm, bindT_tp, bindVs_cons, bindVs_nil, clear_nil, clear_cons, cl1_own, cl1_shr, cl1_bor, cl1_none, lock_nil, lock_cons, lk1_own, lk1_bor, lk1_shr, unlock_nil, unlock_cons, ul1_own, ul1_bor, ul1_shr, ul1_none, ownAt_oa, oa_own, oa_shr, oa_bor, owned_nil, owned_one, wipe_nil, wipe_cons, rest_nil, rest_cons, pureAt_pa, pa_none, pa_int, pa_str, pa_bl, pa_non, slots_nm, slots_tp, itemF_own', itemF_bor', itemF_shr', Flow_nx, Flow_rt, it_lst, it_clst, it_tup, it_rng1', it_rng2', it_enum, lockVs_nil, lockVs_own, lockVs_shr, lockVs_bor, rootE, List.all_cons, List.all_nil, finsD, callD, ioVars, leVars, lends, argSl, putBack, ownFin, leOk, List.nodup_cons, List.nodup_nil, Option.some.injEq, Bool.or_false, Bool.false_or, Bool.or_true, Bool.true_or, Bool.and_false, Bool.false_and, Int.reduceNeg, szl0, szl1, szl2, szl3, szl4, szl5, szl6, szl7, szl8, szl9, szl10, szl11, szl12, szl13, szl14, szl15, szl16, szl17, szl18, szl19, szl20, D.mut, rd_mutO, rd_mutB, rd_mutS, mvd_mut, deq_str, in_lst, in_clst, in_str, in_nilS, in_nilI, op_ixd, lookD_cons, String.reduceEq, dictF, unz, D.key, Sum.inr.injEq, Sum.inl.injEq, ofString_inj, not_or, isNone, Nat.reduceAdd]
      refine ⟨by simpa using hl, cells ++ [if z < 0 then -z else z], by simp, fun x hx => ?_⟩
      rcases List.mem_append.mp hx with m | m
      · exact hce x m
      · rw [List.mem_singleton.mp m]
        split <;> omega
    · rintro acc ρ ⟨rfl, hl, cells, rfl, hce⟩
      have hl' : cells.length ≤ sizeLine := sz1000 <| by
        simp only [List.length_map] at hl
        omega
      simp -implicitDefEqProofs only [wq_bind, wq_some, wq_map, wq_none, wq_ite, evSs, evS, ev, evL, evB, List.length_cons, List.length_nil, Nat.reduceAdd, if_true, List.map_cons, List.map_nil, Nat.reduceSub, List.replicate, List.cons_append, List.nil_append, Bool.false_eq_true, if_false,
    readV_rd, moveV_mvd, freezeV_frd, List.getElem?_cons_zero, List.getElem?_cons_succ, List.set_cons_zero, List.set_cons_succ, rd_int, rd_str, rd_bl, rd_non, rd_lo, rd_lb, rd_ls, rd_tup, rd_clst, nrm_int, nrm_str, nrm_bl, nrm_non, nrm_lst, nrm_tupF, nrm_clstF, mutL_ints, fin_no, fin_bl, fin_int, fin_lst, fin_clst, fin_tup, fin_non, boolD_bl', intD_int,
    mvd_int, mvd_str, mvd_bl, mvd_non, mvd_lo, mvd_ls, frd_int, frd_str, frd_bl, frd_non, frd_lo, frd_ls, stV_o, stV_s, putW_own, put_W, modP_nil, setD_lst, ixN_0, ixN_1, ixN_2, ixN_3, List.not_mem_nil, not_false_eq_true,
    op_add, op_sub, op_and, op_or, op_xor, op_mod', op_div', op_mul', op_shl', op_shr', op_pow', op_addL, op_addS, op_neg, op_inv, op_cmp, op_ixl, op_ixt, op_ixc, op_len, op_lent, op_lenc, op_abs, op_int, op_max, op_min, op_list, op_tupleL, op_isi, op_isl, op_iss, op_ist, op_isn, op_isb, kit_ll, kit_ii, kit_ib,
    cmp_lt, cmp_le, cmp_gt, cmp_ge, cmp_ne, cmp_is, cmp_isnt, cmp_notin, deq_int, atI_0, atI_1, atI_2, atI_3, atI_4, atI_5, atI_6, atI_7, atI_last',
    reduceCtorEq, false_and, and_false, and_true, true_and, E.quiet, E.quiet.E.quietL, Bool.and_self, Bool.and_true, Bool.true_and, decide_eq_true_eq, decide_eq_false_iff_not, Bool.not_eq_true', Bool.not_eq_false', Option.map_some, Option.bind_some, Option.map_none, Option.bind_none, L2.CMul, L2.CDivW, L2.CPow, or_true, true_or, ne_eq, packF, List.isEmpty_nil, List.isEmpty_cons, not_true_eq_false, false_implies, true_implies, forall_const, List.head?_cons, Option.getD_some, Option.getD_none, and_self, or_self, List.mem_cons, or_false, false_or, Nat.reduceEqDiff, Nat.reduceLT, Nat.reduceLeDiff, Int.reducePow, Int.reduceNeg, Int.reduceLT, Int.reduceLE, Int.reduceMul, Int.reduceAdd, Int.reduceSub, Int.reduceToNat, Int.reduceEq, Nat.reducePow, Nat.reduceMul, Nat.reduceBEq, not_false_eq_true, decide_true, decide_false, Bool.not_true, Bool.not_false, List.length_map, imp_self, List.length_append, List.length_set, List.contains_nil, List.elem_eq_mem, Nat.zero_add, bindT_nm, bindT_tp, bindVs_cons, bindVs_nil, clear_nil, clear_cons, cl1_own, cl1_shr, cl1_bor, cl1_none, lock_nil, lock_cons, lk1_own, lk1_bor, lk1_shr, unlock_nil, unlock_cons, ul1_own, ul1_bor, ul1_shr, ul1_none, ownAt_oa, oa_own, oa_shr, oa_bor, owned_nil, owned_one, wipe_nil, wipe_cons, rest_nil, rest_cons, pureAt_pa, pa_none, pa_int, pa_str, pa_bl, pa_non, slots_nm, slots_tp, itemF_own', itemF_bor', itemF_shr', Flow_nx, Flow_rt, it_lst, it_clst, it_tup, it_rng1', it_rng2', it_enum, lockVs_nil, lockVs_own, lockVs_shr, lockVs_bor, rootE, List.all_cons, List.all_nil, finsD, callD, ioVars, leVars, lends, argSl, putBack, ownFin, leOk, List.nodup_cons, List.nodup_nil, Option.some.injEq, Bool.or_false, Bool.false_or, Bool.or_true, Bool.true_or, Bool.and_false, Bool.false_and, Int.reduceNeg, szl0, szl1, szl2, szl3, szl4, szl5, szl6, szl7, szl8, szl9, szl10, szl11, szl12, szl13, szl14, szl15, szl16, szl17, szl18, szl19, szl20, D.mut, rd_mutO, rd_mutB, rd_mutS, mvd_mut, deq_str, in_lst, in_clst, in_str, in_nilS, in_nilI, op_ixd, lookD_cons, String.reduceEq, dictF, unz, D.key, Sum.inr.injEq, Sum.inl.injEq, ofString_inj, not_or, isNone, Nat.reduceAdd, hl']
      exact ⟨_, rfl, cells, -1, 0, c, rfl, by decide, by decide, hc, hce⟩
end B
/-! BW: laws whose conditions are plain inequalities. -/
namespace B
open PySem
abbrev pv (d : D) : FD := ⟨.own, d⟩
abbrev sh (d : D) : FD := ⟨.shr, d⟩
/-- a local that a loop over numbers stores -/
def oi (o : Option Int) : Option FD := o.map fun i => ⟨.own, .int i⟩
section
variable {f g : Fl} {i j : Int} {xs : List D} {α : Type}
theorem pa_oi {o : Option Int} : pa1 (some (oi o)) = true := by cases o <;> rfl
theorem getD_ok {l : List α} {a : α} {k : Nat} (h : k < l.length) : l[k]? = some (l.getD k a) := by
  rw [List.getD_eq_getElem?_getD, List.getElem?_eq_getElem h]; rfl
theorem atI_getD {l : List α} (a : α) (h0 : 0 ≤ i) (h1 : i < l.length) : L2.atI l i = some (l.getD i.toNat a) := by
  rw [atI_ok h0 h1, List.getD_eq_getElem?_getD, List.getElem?_eq_getElem (by omega)]; rfl
theorem atI_D {l : List D} (h0 : 0 ≤ i) (h1 : i < l.length) : L2.atI l i = some (l.getD i.toNat .non) := atI_getD _ h0 h1
theorem atI_ints {l : List Int} (h0 : 0 ≤ i) (h1 : i < l.length) : L2.atI (l.map D.int) i = some (.int (l.getD i.toNat 0)) := by
  rw [atI_map, atI_getD 0 h0 h1]; rfl
theorem op_divO (h0 : 0 < j) (h1 : j < 18446744073709551616) : opD (.bin .FloorDiv) [⟨f, .int i⟩, ⟨g, .int j⟩] = some ⟨.own, .int (i / j)⟩ := op_div' h0 <| by
  have : j.natAbs.log2 < 64 := (Nat.log2_lt (by omega)).mpr (by omega)
  omega
theorem op_mulL (h0 : -18446744073709551616 < i) (h1 : i < 18446744073709551616) : opD (.bin .Mult) [⟨f, .int i⟩, ⟨g, .int j⟩] = some ⟨.own, .int (i * j)⟩ := op_mul' (.inl (.inl ⟨by simpa using h0, by simpa using h1⟩))
theorem op_mulR (h0 : -18446744073709551616 < j) (h1 : j < 18446744073709551616) : opD (.bin .Mult) [⟨f, .int i⟩, ⟨g, .int j⟩] = some ⟨.own, .int (i * j)⟩ := op_mul' (.inl (.inr ⟨by simpa using h0, by simpa using h1⟩))
theorem op_shlO (h0 : 0 ≤ j) (h1 : j ≤ 1000000) (h2 : -18446744073709551616 < i) (h3 : i < 18446744073709551616) : opD (.bin .LShift) [⟨f, .int i⟩, ⟨g, .int j⟩] = some ⟨.own, .int (i * 2 ^ j.toNat)⟩ := op_shl' h0 h1 (by omega)
theorem op_powO (h0 : 0 ≤ j) (h1 : j ≤ 1000000) (h2 : -18446744073709551616 < i) (h3 : i < 18446744073709551616) : opD (.bin .Pow) [⟨f, .int i⟩, ⟨g, .int j⟩] = some ⟨.own, .int (i ^ j.toNat)⟩ := op_pow' h0 h1 (by omega)
theorem it_rng1O (h0 : -4611686018427387904 ≤ j) (h1 : j < 4611686018427387904) : itD .rng1 [⟨f, .int j⟩] = some (.own, rngD 0 j) := it_rng1' (by simpa using h0) (by simpa using h1)
theorem it_rng2O (h0 : -4611686018427387904 ≤ i) (h1 : i < 4611686018427387904) (h2 : -4611686018427387904 ≤ j) (h3 : j < 4611686018427387904) : itD .rng2 [⟨f, .int i⟩, ⟨g, .int j⟩] = some (.own, rngD i j) := it_rng2' (by simpa using h0) (by simpa using h1) (by simpa using h2) (by simpa using h3)
theorem szO {n : Nat} (h : n ≤ 1000000) : (n ≤ sizeLine) = True := eq_true (Nat.le_trans h (by decide))
theorem szO' {n : Nat} (h : n ≤ 1000000) : (n < sizeLine) = True := eq_true (Nat.lt_of_le_of_lt h (by decide))
/-! types -/
theorem kt_list_list : L2.kitB "list" "list" = some true := by decide +kernel
theorem kt_list_tuple : L2.kitB "list" "tuple" = some false := by decide +kernel
theorem kt_list_int : L2.kitB "list" "int" = some false := by decide +kernel
theorem kt_list_str : L2.kitB "list" "str" = some false := by decide +kernel
theorem kt_list_bool : L2.kitB "list" "bool" = some false := by decide +kernel
theorem kt_tuple_list : L2.kitB "tuple" "list" = some false := by decide +kernel
theorem kt_tuple_tuple : L2.kitB "tuple" "tuple" = some true := by decide +kernel
theorem kt_tuple_int : L2.kitB "tuple" "int" = some false := by decide +kernel
theorem kt_tuple_str : L2.kitB "tuple" "str" = some false := by decide +kernel
theorem kt_tuple_bool : L2.kitB "tuple" "bool" = some false := by decide +kernel
theorem kt_int_list : L2.kitB "int" "list" = some false := by decide +kernel
theorem kt_int_tuple : L2.kitB "int" "tuple" = some false := by decide +kernel
theorem kt_int_int : L2.kitB "int" "int" = some true := by decide +kernel
theorem kt_int_str : L2.kitB "int" "str" = some false := by decide +kernel
theorem kt_int_bool : L2.kitB "int" "bool" = some false := by decide +kernel
theorem kt_str_list : L2.kitB "str" "list" = some false := by decide +kernel
theorem kt_str_tuple : L2.kitB "str" "tuple" = some false := by decide +kernel
theorem kt_str_int : L2.kitB "str" "int" = some false := by decide +kernel
theorem kt_str_str : L2.kitB "str" "str" = some true := by decide +kernel
theorem kt_str_bool : L2.kitB "str" "bool" = some false := by decide +kernel
theorem kt_bool_list : L2.kitB "bool" "list" = some false := by decide +kernel
theorem kt_bool_tuple : L2.kitB "bool" "tuple" = some false := by decide +kernel
theorem kt_bool_int : L2.kitB "bool" "int" = some true := by decide +kernel
theorem kt_bool_str : L2.kitB "bool" "str" = some false := by decide +kernel
theorem kt_bool_bool : L2.kitB "bool" "bool" = some true := by decide +kernel
theorem kt_NoneType_list : L2.kitB "NoneType" "list" = some false := by decide +kernel
theorem kt_NoneType_tuple : L2.kitB "NoneType" "tuple" = some false := by decide +kernel
theorem kt_NoneType_int : L2.kitB "NoneType" "int" = some false := by decide +kernel
theorem kt_NoneType_str : L2.kitB "NoneType" "str" = some false := by decide +kernel
theorem kt_NoneType_bool : L2.kitB "NoneType" "bool" = some false := by decide +kernel
/-! trees that can be compared: at most so deep, no list too long -/
mutual
def D.fit : Nat → D → Bool
  | _, .non => true
  | _, .bl _ => true
  | _, .int _ => true
  | _, .str s => PyData.strOk s
  | 0, .tup _ => false
  | 0, .lst _ => false
  | 0, .clst _ => false
  | n + 1, .tup xs => decide (xs.length ≤ 1000000) && D.fitL n xs
  | n + 1, .lst xs => decide (xs.length ≤ 1000000) && D.fitL n xs
  | n + 1, .clst xs => decide (xs.length ≤ 1000000) && D.fitL n xs
  | _, .dK _ => false
  | _, .dT _ => false
def D.fitL : Nat → List D → Bool
  | _, [] => true
  | n, x :: xs => D.fit n x && D.fitL n xs
end
mutual
theorem fit_okd : ∀ (d : D) (n : Nat), D.fit n d = true → D.okd n d = true
  | .non, n, _ => by unfold D.okd; rfl
  | .bl b, n, _ => by unfold D.okd; rfl
  | .int i, n, _ => by unfold D.okd; rfl
  | .str s, n, h => by
    unfold D.fit at h
    unfold D.okd
    exact h
  | .tup xs, 0, h => by simp [D.fit] at h
  | .lst xs, 0, h => by simp [D.fit] at h
  | .clst xs, 0, h => by simp [D.fit] at h
  | .tup xs, n + 1, h => by
    simp only [D.fit, Bool.and_eq_true] at h
    simpa only [D.okd] using fit_okdL xs n h.2
  | .lst xs, n + 1, h => by
    simp only [D.fit, Bool.and_eq_true] at h
    simpa only [D.okd] using fit_okdL xs n h.2
  | .clst xs, n + 1, h => by
    simp only [D.fit, Bool.and_eq_true] at h
    simpa only [D.okd] using fit_okdL xs n h.2
  | .dK _, n, h => by simp [D.fit] at h
  | .dT _, n, h => by simp [D.fit] at h
theorem fit_okdL : ∀ (xs : List D) (n : Nat), D.fitL n xs = true → D.okdL n xs = true
  | [], n, _ => by unfold D.okdL; rfl
  | x :: xs, n, h => by
    simp only [D.fitL, Bool.and_eq_true] at h
    simp only [D.okdL, Bool.and_eq_true]
    exact ⟨fit_okd x n h.1, fit_okdL xs n h.2⟩
end
theorem fitL_mem {n : Nat} {xs : List D} : D.fitL n xs = true ↔ ∀ x ∈ xs, D.fit n x = true := by
  induction xs with
  | nil => simp [D.fitL]
  | cons x xs ih => simp [D.fitL, ih]
theorem fitL_map {α : Type} {n : Nat} {l : List α} {f : α → D} (h : ∀ x ∈ l, D.fit n (f x) = true) : D.fitL n (l.map f) = true := fitL_mem.mpr fun y m => by
  obtain ⟨x, hx, rfl⟩ := List.mem_map.mp m
  exact h x hx
theorem mutL_map {α : Type} {l : List α} {f : α → D} (h : ∀ x ∈ l, (f x).mut = false) : D.mutL (l.map f) = false := by
  induction l with
  | nil => rfl
  | cons x l ih => simp [D.mutL, h x List.mem_cons_self, ih fun y m => h y (List.mem_cons_of_mem _ m)]
theorem deq_fit {d : D} {k : Nat} (h : D.fit k d = true) (hk : k ≤ 64) : cmpD .Eq d d = some true := by
  obtain ⟨p, h1, h2, h3, h4⟩ := okd_py d k (fit_okd d k h)
  show deq d d = _
  unfold deq
  rw [h1]
  have : SeqAt.shaped p = true := by simp [SeqAt.shaped, h2]; omega
  simp only [this, and_self, if_true, h4]
theorem deq_bl {a b : Bool} : cmpD .Eq (.bl a) (.bl b) = some (a == b) := by
  cases a <;> cases b <;> rfl
theorem nrm_rd {f : Fl} {d : D} : ∃ g, rd (some (some ⟨f, d⟩)) = some ⟨g, d⟩ := by
  refine ⟨(nrm (match f with
    | .shr => .shr
    | _ => .bor) d).f, ?_⟩
  show some (nrm _ d) = _
  unfold nrm
  split <;> rfl
theorem pickS {i : Int} (L : List String) (h0 : 0 ≤ i) (h1 : i < L.length) : ∃ s ∈ L, (L.map fun s => D.str (Str.ofString s)).getD i.toNat .non = .str (Str.ofString s) := by
  have h2 : i.toNat < L.length := by omega
  refine ⟨L[i.toNat], List.getElem_mem h2, ?_⟩
  rw [List.getD_eq_getElem?_getD, List.getElem?_map, List.getElem?_eq_getElem h2]
  rfl
theorem pickT {i : Int} (L : List String) (k : Nat) (h0 : 0 ≤ i) (h1 : i < k) (h2 : k ≤ L.length) : ∃ s ∈ L.take k, (L.map fun s => D.str (Str.ofString s)).getD i.toNat .non = .str (Str.ofString s) := by
  have h3 : i.toNat < L.length := by omega
  have h4 : i.toNat < (L.take k).length := by rw [List.length_take]; omega
  refine ⟨(L.take k)[i.toNat], List.getElem_mem h4, ?_⟩
  rw [List.getD_eq_getElem?_getD, List.getElem?_map, List.getElem?_eq_getElem h3, List.getElem_take]
  rfl
theorem nn_getD {l : List Int} (h : ∀ x ∈ l, 0 ≤ x) (i : Nat) : 0 ≤ l.getD i 0 := by
  rw [List.getD_eq_getElem?_getD]
  by_cases q : i < l.length
  · rw [List.getElem?_eq_getElem q]; exact h _ (List.getElem_mem q)
  · rw [List.getElem?_eq_none (by omega)]; exact Int.le_refl _
theorem getD_map {α : Type} {l : List α} {f : α → D} {i : Nat} (a : α) (h : i < l.length) : (l.map f).getD i .non = f (l.getD i a) := by
  rw [List.getD_eq_getElem?_getD, List.getD_eq_getElem?_getD, List.getElem?_map, List.getElem?_eq_getElem h]
  rfl
theorem getD_ints {l : List Int} {i : Nat} (h : i < l.length) : (l.map D.int).getD i .non = .int (l.getD i 0) := getD_map 0 h
theorem mu_nil : D.mutL [] = false := rfl
theorem mu_cons {x : D} {xs : List D} : D.mutL (x :: xs) = (x.mut || D.mutL xs) := rfl
theorem mu_int {i : Int} : (D.int i).mut = false := rfl
theorem mu_str {i : Str} : (D.str i).mut = false := rfl
theorem mu_bl {i : Bool} : (D.bl i).mut = false := rfl
theorem mu_non : D.non.mut = false := rfl
theorem mu_tup {xs : List D} : (D.tup xs).mut = D.mutL xs := rfl
theorem mu_clst {xs : List D} : (D.clst xs).mut = D.mutL xs := rfl
theorem mu_lst {xs : List D} : (D.lst xs).mut = true := rfl
theorem mu_app {xs ys : List D} : D.mutL (xs ++ ys) = (D.mutL xs || D.mutL ys) := by
  induction xs with
  | nil => rfl
  | cons x xs ih => rw [List.cons_append, mu_cons, mu_cons, ih, Bool.or_assoc]
theorem rd_pure {f : Fl} {d : D} (h : d.mut = false) : rd (some (some ⟨f, d⟩)) = some ⟨.own, d⟩ := by
  show some (nrm _ d) = _
  rw [nrm_pure h]
theorem mvd_pure {pin : List Nat} {k : Nat} {ρ : Rho} {f : Fl} {d : D} (h : d.mut = false) : mvd pin k ρ (some (some ⟨f, d⟩)) = some (⟨.own, d⟩, ρ) := by
  unfold mvd
  simp [h]
theorem frd_pure {k : Nat} {ρ : Rho} {f : Fl} {d : D} (h : d.mut = false) : frd k ρ (some (some ⟨f, d⟩)) = some (⟨.own, d⟩, ρ) := by
  unfold frd
  simp [h]
theorem nrm_pureO {f : Fl} {d : D} (h : d.mut = false) : nrm f d = ⟨.own, d⟩ := nrm_pure h
section
variable {f g : Fl} {xs ys : List D} {i j : Int}
theorem op_addT : opD (.bin .Add) [⟨f, .tup xs⟩, ⟨g, .tup ys⟩] = if D.mutL xs = false ∧ D.mutL ys = false ∧ xs.length + ys.length ≤ sizeLine then some ⟨.own, .tup (xs ++ ys)⟩ else none := by
  show (if D.mutL xs = false ∧ D.mutL ys = false ∧ xs.length + ys.length ≤ sizeLine then some (D.tup (xs ++ ys)) else none).map _ = _
  split <;> rfl
theorem cut_to (h : 0 ≤ i) : cutD xs none (some i) = xs.take i.toNat := by
  obtain ⟨k, rfl⟩ := Int.eq_ofNat_of_zero_le h
  unfold cutD
  rw [HT.sIx_none, HT.sIx_nat, Int.toNat_natCast, List.drop_zero, Nat.sub_zero]
  exact (List.take_eq_take_iff).mpr (by omega)
theorem cut_from (h : 0 ≤ i) : cutD xs (some i) none = xs.drop i.toNat := by
  obtain ⟨k, rfl⟩ := Int.eq_ofNat_of_zero_le h
  unfold cutD
  rw [HT.sIx_none, HT.sIx_nat, Int.toNat_natCast]
  by_cases q : k ≤ xs.length
  · rw [Nat.min_eq_left q, List.take_of_length_le (by simp)]
  · rw [Nat.min_eq_right (by omega), List.drop_of_length_le (Nat.le_refl _), List.drop_of_length_le (by omega)]
    simp
theorem op_toT (h : 0 ≤ i) : opD (.sl false true) [⟨f, .tup xs⟩, ⟨g, .int i⟩] = if D.mutL xs = false then some ⟨.own, .tup (xs.take i.toNat)⟩ else none := by
  show (if D.mutL xs = false then some (D.tup (cutD xs none (some i))) else none).map _ = _
  rw [cut_to h]
  split <;> rfl
theorem op_fromT (h : 0 ≤ i) : opD (.sl true false) [⟨f, .tup xs⟩, ⟨g, .int i⟩] = if D.mutL xs = false then some ⟨.own, .tup (xs.drop i.toNat)⟩ else none := by
  show (if D.mutL xs = false then some (D.tup (cutD xs (some i) none)) else none).map _ = _
  rw [cut_from h]
  split <;> rfl
theorem op_toL (h : 0 ≤ i) : opD (.sl false true) [⟨f, .lst xs⟩, ⟨g, .int i⟩] = if D.mutL xs = false then some ⟨.own, .lst (xs.take i.toNat)⟩ else none := by
  show (if D.mutL xs = false then some (D.lst (cutD xs none (some i))) else none).map _ = _
  rw [cut_to h]
  split <;> rfl
theorem op_fromL (h : 0 ≤ i) : opD (.sl true false) [⟨f, .lst xs⟩, ⟨g, .int i⟩] = if D.mutL xs = false then some ⟨.own, .lst (xs.drop i.toNat)⟩ else none := by
  show (if D.mutL xs = false then some (D.lst (cutD xs (some i) none)) else none).map _ = _
  rw [cut_from h]
  split <;> rfl
theorem it_enumT : itD .enum [⟨f, .tup xs⟩] = some (f, enumD 0 xs) := rfl
theorem mu_take {n : Nat} (h : D.mutL xs = false) : D.mutL (xs.take n) = false := mutL_sub h fun x m => List.mem_of_mem_take m
theorem mu_drop {n : Nat} (h : D.mutL xs = false) : D.mutL (xs.drop n) = false := mutL_sub h fun x m => List.mem_of_mem_drop m
end
theorem pickI {i : Int} (L : List Int) (h0 : 0 ≤ i) (h1 : i < L.length) : ∃ s ∈ L, (L.map D.int).getD i.toNat .non = .int s := by
  have h2 : i.toNat < L.length := by omega
  refine ⟨L[i.toNat], List.getElem_mem h2, ?_⟩
  rw [List.getD_eq_getElem?_getD, List.getElem?_map, List.getElem?_eq_getElem h2]
  rfl
theorem atI_mapD {α : Type} {l : List α} {f : α → D} {i : Int} (a : α) (h0 : 0 ≤ i) (h1 : i < l.length) : L2.atI (l.map f) i = some (f (l.getD i.toNat a)) := by
  rw [atI_map, atI_getD a h0 h1]; rfl
/-! rounds whose state is a frame with some slots stored anew -/
theorem wq_forS {bind : D → Rho → Option Rho} {clear : Rho → Rho} {body : Rho → Option Flow} {Q : Flow → Prop} {b : Bx Q} {xs : List D} {ρ : Rho} (st : α → Rho) (J : Nat → α → Prop) (a0 : α) (h : st a0 = ρ) (h0 : J 0 a0)
    (step : ∀ i x a, xs[i]? = some x → i < xs.length → J i a → Wq (bind x (st a)) (Bx.mk (Q := fun ρ1 => Wq (body ρ1) (Bx.mk (Q := fun fl => match fl with
      | .nx ρ2 => ∃ a', st a' = clear ρ2 ∧ J (i + 1) a'
      | .ct ρ2 => ∃ a', st a' = clear ρ2 ∧ J (i + 1) a'
      | .bk ρ2 => Q (.nx (clear ρ2))
      | .rt v ρ2 => Q (.rt v (clear ρ2)))))))
    (fin : ∀ a, J xs.length a → Q (.nx (st a))) : Wq (forLoop bind clear body xs ρ) b := by
  refine wq_for (I := fun i ρ => ∃ a, st a = ρ ∧ J i a) ⟨a0, h, h0⟩ ?_ ?_
  · rintro i x ρ hx ⟨a, rfl, hj⟩
    exact step i x a hx (List.getElem?_eq_some_iff.mp hx).1 hj
  · rintro ρ ⟨a, rfl, hj⟩
    exact fin a hj
/-- .. over a counted range from 0 -/
theorem wq_forR {bind : D → Rho → Option Rho} {clear : Rho → Rho} {body : Rho → Option Flow} {Q : Flow → Prop} {b : Bx Q} {n : Int} {ρ : Rho} (st : α → Rho) (J : Nat → α → Prop) (a0 : α) (h : st a0 = ρ) (h0 : J 0 a0)
    (step : ∀ (i : Nat) a, (i : Int) < n → J i a → Wq (bind (.int i) (st a)) (Bx.mk (Q := fun ρ1 => Wq (body ρ1) (Bx.mk (Q := fun fl => match fl with
      | .nx ρ2 => ∃ a', st a' = clear ρ2 ∧ J (i + 1) a'
      | .ct ρ2 => ∃ a', st a' = clear ρ2 ∧ J (i + 1) a'
      | .bk ρ2 => Q (.nx (clear ρ2))
      | .rt v ρ2 => Q (.rt v (clear ρ2)))))))
    (fin : ∀ a, J n.toNat a → Q (.nx (st a))) : Wq (forLoop bind clear body (rngD 0 n) ρ) b := by
  refine wq_forS st J a0 h h0 (fun i x a hx hl hj => ?_) fun a hj => fin a (by rwa [rng_len, Int.sub_zero] at hj)
  obtain ⟨rfl, hlt⟩ := rng_at hx
  rw [Int.zero_add] at hlt ⊢
  exact step i a hlt hj
/-- a list of answers, the frame as it was but for a state's slots -/
theorem wq_lcS {turn : D → Rho → Option (Option D × Rho)} {Q : List D × Rho → Prop} {b : Bx Q} {xs : List D} {ρ : Rho} (st : α → Rho) (J : Nat → List D → α → Prop) (a0 : α) (h : st a0 = ρ) (h0 : J 0 [] a0)
    (step : ∀ i x acc a, xs[i]? = some x → i < xs.length → J i acc a → Wq (turn x (st a)) (Bx.mk (Q := fun r => ∃ a', st a' = r.2 ∧ match r.1 with
      | some y => J (i + 1) (acc ++ [y]) a'
      | none => J (i + 1) acc a')))
    (fin : ∀ acc a, J xs.length acc a → Q (acc, st a)) : Wq (lcLoop turn xs ρ) b := by
  refine wq_lc (I := fun i acc ρ => ∃ a, st a = ρ ∧ J i acc a) ⟨a0, h, h0⟩ ?_ ?_
  · rintro i x acc ρ hx ⟨a, rfl, hj⟩
    refine wq_cut (step i x acc a hx (List.getElem?_eq_some_iff.mp hx).1 hj) ?_
    rintro ⟨r, ρ2⟩ ⟨a', e, k⟩
    cases r <;> exact ⟨a', e, k⟩
  · rintro acc ρ ⟨a, rfl, hj⟩
    exact fin acc a hj
theorem wq_lcR {turn : D → Rho → Option (Option D × Rho)} {Q : List D × Rho → Prop} {b : Bx Q} {n : Int} {ρ : Rho} (st : α → Rho) (J : Nat → List D → α → Prop) (a0 : α) (h : st a0 = ρ) (h0 : J 0 [] a0)
    (step : ∀ (i : Nat) acc a, (i : Int) < n → J i acc a → Wq (turn (.int i) (st a)) (Bx.mk (Q := fun r => ∃ a', st a' = r.2 ∧ match r.1 with
      | some y => J (i + 1) (acc ++ [y]) a'
      | none => J (i + 1) acc a')))
    (fin : ∀ acc a, J n.toNat acc a → Q (acc, st a)) : Wq (lcLoop turn (rngD 0 n) ρ) b := by
  refine wq_lcS st J a0 h h0 (fun i x acc a hx hl hj => ?_) fun acc a hj => fin acc a (by rwa [rng_len, Int.sub_zero] at hj)
  obtain ⟨rfl, hlt⟩ := rng_at hx
  rw [Int.zero_add] at hlt ⊢
  exact step i acc a hlt hj
/-- a plain map -/
theorem wq_lcM {turn : D → Rho → Option (Option D × Rho)} {Q : List D × Rho → Prop} {b : Bx Q} {ys : List α} {h : α → D} {ρ : Rho} (f : α → D)
    (step : ∀ y ∈ ys, turn (h y) ρ = some (some (f y), ρ)) (fin : Q (ys.map f, ρ)) : Wq (lcLoop turn (ys.map h) ρ) b := by
  have : ∀ ys : List α, (∀ y ∈ ys, turn (h y) ρ = some (some (f y), ρ)) → lcLoop turn (ys.map h) ρ = some (ys.map f, ρ) := fun ys => by
    induction ys with
    | nil => exact fun _ => rfl
    | cons y ys ih =>
      intro k
      simp only [List.map_cons, lcLoop, k y List.mem_cons_self, Option.bind_some, ih fun z m => k z (List.mem_cons_of_mem _ m), Option.map_some]
  exact ⟨_, this ys step, fin⟩
end
end B
/-! BX: runs step by step, what comes behind kept shut. -/
namespace B
open PySem
def seqS (C : Ctx) (ss : List S) : Flow → Option Flow
  | .nx ρ1 => evSs C ss ρ1
  | r => some r
def retD (io : List Nat) (args : List FD) : Flow → Option (FD × Rho)
  | .rt x ρ => some (x, finsD io args ρ 0 args)
  | .nx ρ => some (⟨.own, .non⟩, finsD io args ρ 0 args)
  | _ => none
def parS (pin : List Nat) (i j : Nat) (ρ : Rho) : List FD → Option Flow
  | [x, y] => (stV pin i x ρ).bind fun ρ => (stV pin j y ρ).map .nx
  | _ => none
def asgTS (pin is : List Nat) (ρ : Rho) : D → Option Flow
  | .tup ds => if D.mutL ds = false then (bindVs pin .own ds is ρ).map .nx else none
  | _ => none
def cstF (t : Bool) : D → Option FD
  | .tup _ => none
  | .lst _ => none
  | .clst _ => none
  | .dK _ => none
  | .dT _ => none
  | c => fin t ⟨.own, c⟩
def sdaW (C : Ctx) (root : Nat) (v : E) (key : L2.Key) (ρ : Rho) : Option (Option FD) → Option Flow
  | some (some s) => (match s.d with
      | .dK kvs => if s.f = .own ∧ kvs.length < sizeLine then (evL C [v] (ρ.set root (some ⟨.own, .dK (sdfD kvs key)⟩))).bind fun rv => (mutR root .append [⟨.own, kD key⟩] rv.1 rv.2).map fun q => .nx q.2 else none
      | _ => none)
  | _ => none
theorem and_ite {p q : Prop} : (p → q) ∧ (¬ p → False) ↔ p ∧ q := by
  by_cases h : p <;> simp [h]
section
variable {C : Ctx} {t : Bool} {ρ : Rho} {α β : Type} {ss : List S} {s : S}
theorem seq_nx : seqS C ss (.nx ρ) = evSs C ss ρ := rfl
theorem seq_rt {x : FD} : seqS C ss (.rt x ρ) = some (.rt x ρ) := rfl
theorem seq_bk : seqS C ss (.bk ρ) = some (.bk ρ) := rfl
theorem seq_ct : seqS C ss (.ct ρ) = some (.ct ρ) := rfl
theorem ret_rt {io : List Nat} {args : List FD} {x : FD} : retD io args (.rt x ρ) = some (x, finsD io args ρ 0 args) := rfl
theorem ret_nx {io : List Nat} {args : List FD} : retD io args (.nx ρ) = some (⟨.own, .non⟩, finsD io args ρ 0 args) := rfl
theorem par_2 {pin : List Nat} {i j : Nat} {x y : FD} : parS pin i j ρ [x, y] = (stV pin i x ρ).bind fun ρ => (stV pin j y ρ).map .nx := rfl
theorem asgT_t {pin is : List Nat} {ds : List D} : asgTS pin is ρ (.tup ds) = if D.mutL ds = false then (bindVs pin .own ds is ρ).map .nx else none := rfl
theorem cstF_non : cstF t .non = fin t ⟨.own, .non⟩ := rfl
theorem cstF_bl {b : Bool} : cstF t (.bl b) = fin t ⟨.own, .bl b⟩ := rfl
theorem cstF_int {i : Int} : cstF t (.int i) = fin t ⟨.own, .int i⟩ := rfl
theorem cstF_str {i : Str} : cstF t (.str i) = fin t ⟨.own, .str i⟩ := rfl
section
variable {Q : Flow → Prop} {b : Bx Q}
theorem x_nil : Wq (evSs C [] ρ) b ↔ Q (.nx ρ) := by
  simp only [evSs]
  exact wq_some
theorem x_cons : Wq (evSs C (s :: ss) ρ) b ↔ Wq (evS C s ρ) (Bx.mk (Q := fun fl => Wq (seqS C ss fl) b)) := by
  simp only [evSs]
  rw [wq_bind]
  apply iff_of_eq
  congr
theorem x_asg {i : Nat} {e : E} : Wq (evS C (.asg i e) ρ) b ↔ Wq (ev C false e ρ) (Bx.mk (Q := fun r => Wq ((stV C.pin i r.1 r.2).map .nx) b)) := by
  simp only [evS]
  exact wq_bind
theorem x_asgS {i : Nat} {e : E} : Wq (evS C (.asgS i e) ρ) b ↔ Wq (ev C false e ρ) (Bx.mk (Q := fun r => Wq ((stV C.pin i ⟨shO r.1.f, r.1.d⟩ r.2).map .nx) b)) := by
  simp only [evS]
  exact wq_bind
theorem shO_own : shO .own = .shr := rfl
theorem shO_shr : shO .shr = .shr := rfl
theorem x_asgT {is : List Nat} {e : E} : Wq (evS C (.asgT is e) ρ) b ↔ Wq (ev C false e ρ) (Bx.mk (Q := fun r => Wq (asgTS C.pin is r.2 r.1.d) b)) := by
  simp only [evS]
  exact wq_bind
theorem x_par {i j : Nat} {e f : E} : Wq (evS C (.par i j e f) ρ) b ↔ Wq (evL C [e, f] ρ) (Bx.mk (Q := fun r => Wq (parS C.pin i j r.2 r.1) b)) := by
  simp only [evS]
  exact wq_bind
theorem x_put {root : Nat} {path : List E} {ix e : E} : Wq (evS C (.put root path ix e) ρ) b ↔ Wq (ev C false e ρ) (Bx.mk (Q := fun r => Wq (if r.1.f = .own ∧ E.quiet.E.quietL path = true ∧ (E.quiet ix = true ∨ (path.isEmpty = true ∧ ownAt r.2 root = true)) then
      (evL C path r.2).bind fun rp => (ev C false ix r.2).bind fun ri => putW root ri.1.d r.1.d (rp.1.map FD.d) ri.2 ri.2[root]? else none) b)) := by
  simp only [evS]
  rw [wq_bind]
  apply iff_of_eq
  congr
theorem x_aug {i : Nat} {o : Operator} {e : E} : Wq (evS C (.aug i o e) ρ) b ↔ Wq (rd ρ[i]?) (Bx.mk (Q := fun x => Wq (ev C false e ρ) (Bx.mk (Q := fun r => Wq (augD o x.d r.1.d) (Bx.mk (Q := fun d => Wq ((stV C.pin i ⟨.own, d⟩ r.2).map .nx) b)))))) := by
  simp only [Wq, evS, readV_rd, wp_bind]
theorem x_expr {e : E} : Wq (evS C (.expr e) ρ) b ↔ Wq (ev C false e ρ) (Bx.mk (Q := fun r => Q (.nx r.2))) := by
  simp only [evS]
  exact wq_map
theorem x_sda {root : Nat} {k v : E} : Wq (evS C (.sda root k v) ρ) b ↔ (E.quiet k = true ∧ E.quiet v = true) ∧ Wq (ev C false k ρ) (Bx.mk (Q := fun rk => Wq (D.key rk.1.d) (Bx.mk (Q := fun key => Wq (sdaW C root v key ρ ρ[root]?) b)))) := by
  have e : evS C (.sda root k v) ρ = if E.quiet k = true ∧ E.quiet v = true then (ev C false k ρ).bind fun rk => (D.key rk.1.d).bind fun key => sdaW C root v key ρ ρ[root]? else none := by
    first
      | (simp only [evS, sdaW]; done)
      | (simp only [evS, sdaW]; congr)
  rw [e]
  simp only [Wq, wp_ite, wp_bind, wp_none]
  exact and_ite
theorem x_ite {c : E} {x y : List S} : Wq (evS C (.ite c x y) ρ) b ↔ Wq (ev C true c ρ) (Bx.mk (Q := fun r => Wq (boolD r.1) (Bx.mk (Q := fun k => Wq (if k = true then evSs C x r.2 else evSs C y r.2) b)))) := by
  simp only [Wq, evS, wp_bind]
theorem x_for {tg : Tg} {k : ItK} {its : List E} {body : List S} : Wq (evS C (.for_ tg k its body) ρ) b ↔ Wq (evL C its ρ) (Bx.mk (Q := fun r => Wq (itD k r.1) (Bx.mk (Q := fun it => Wq (lockVs its r.1) (Bx.mk (Q := fun ls =>
      Wq (forLoop (bindT C.pin (itemF it.1) tg) (clearT tg.slots) (evSs C body) it.2 (lock (owned ls r.2) r.2)) (Bx.mk (Q := fun fl => Q (fl.map (unlock (owned ls r.2)))))))))))  := by
  simp only [Wq, evS, wp_bind, wp_map]
theorem x_while {c : E} {body : List S} : Wq (evS C (.while_ c body) ρ) b ↔ Wq (whileLoop (fun ρ => (ev C true c ρ).bind fun r => (boolD r.1).map fun b => (b, r.2)) (evSs C body) C.fuel ρ) b := by
  simp only [evS]
theorem x_ret {e : E} : Wq (evS C (.ret e) ρ) b ↔ Wq (ev C false e ρ) (Bx.mk (Q := fun r => Wq (if r.1.f = .bor then none else some (.rt r.1 r.2)) b)) := by
  simp only [evS]
  exact wq_bind
theorem x_retN : Wq (evS C .retN ρ) b ↔ Q (.rt ⟨.own, .non⟩ ρ) := by
  simp only [evS]
  exact wq_some
theorem x_brk : Wq (evS C .brk ρ) b ↔ Q (.bk ρ) := by
  simp only [evS]
  exact wq_some
theorem x_cnt : Wq (evS C .cnt ρ) b ↔ Q (.ct ρ) := by
  simp only [evS]
  exact wq_some
theorem x_pass : Wq (evS C .pass ρ) b ↔ Q (.nx ρ) := by
  simp only [evS]
  exact wq_some
theorem x_doc : Wq (evS C .doc ρ) b ↔ Q (.nx ρ) := by
  simp only [evS]
  exact wq_some
end
section
variable {Q : FD × Rho → Prop} {b : Bx Q}
theorem x_run {df : Def} {args : List FD} : Wq (runD C df args) b ↔ args.length = df.np ∧ Wq (evSs { C with pin := df.io } df.body (args.map some ++ List.replicate (df.ns - df.np) none)) (Bx.mk (Q := fun fl => Wq (retD df.io args fl) b)) := by
  have e : runD C df args = if args.length = df.np then (evSs { C with pin := df.io } df.body (args.map some ++ List.replicate (df.ns - df.np) none)).bind (retD df.io args) else none := by
    unfold runD
    congr
  rw [e]
  simp only [Wq, wp_ite, wp_bind, wp_none]
  exact and_ite
theorem y_var {i : Nat} : Wq (ev C t (.var i) ρ) b ↔ Wq (rd ρ[i]?) (Bx.mk (Q := fun x => Wq (fin t x) (Bx.mk (Q := fun y => Q (y, ρ))))) := by
  simp only [Wq, ev, readV_rd, wp_bind, wp_map]
theorem y_mv {i : Nat} : Wq (ev C false (.mv i) ρ) b ↔ Wq (mvd C.pin i ρ ρ[i]?) b := by
  simp only [ev, moveV_mvd, Bool.false_eq_true, if_false]
theorem y_fr {i : Nat} : Wq (ev C false (.fr i) ρ) b ↔ Wq (frd i ρ ρ[i]?) b := by
  simp only [ev, freezeV_frd, Bool.false_eq_true, if_false]
theorem y_cst {c : D} : Wq (ev C t (.cst c) ρ) b ↔ Wq (cstF t c) (Bx.mk (Q := fun y => Q (y, ρ))) := by
  cases c <;> simp only [ev, cstF, wq_map, wq_none]
theorem y_glob {g : Nat} : Wq (ev C t (.glob g) ρ) b ↔ Wq (C.glob g) (Bx.mk (Q := fun d => Wq (fin t (nrm .shr d)) (Bx.mk (Q := fun y => Q (y, ρ))))) := by
  simp only [Wq, ev, wp_bind, wp_map]
theorem y_op {o : OpK} {args : List E} : Wq (ev C t (.op o args) ρ) b ↔ Wq (evL C args ρ) (Bx.mk (Q := fun r => Wq (opD o r.1) (Bx.mk (Q := fun x => Wq (fin t x) (Bx.mk (Q := fun y => Q (y, r.2))))))) := by
  simp only [Wq, ev, wp_bind, wp_map]
theorem y_tup {args : List E} : Wq (ev C false (.tup args) ρ) b ↔ Wq (evL C args ρ) (Bx.mk (Q := fun r => Wq (packF r.1) (Bx.mk (Q := fun f => Wq (if r.1.length ≤ sizeLine then some (⟨f, .tup (r.1.map (·.d))⟩, r.2) else none) b)))) := by
  simp only [Wq, ev, wp_bind, Bool.false_eq_true, if_false]
theorem y_lst {args : List E} : Wq (ev C false (.lst args) ρ) b ↔ Wq (evL C args ρ) (Bx.mk (Q := fun r => Wq (packF r.1) (Bx.mk (Q := fun f => Wq (if r.1.length ≤ sizeLine then some (⟨f, .lst (r.1.map (·.d))⟩, r.2) else none) b)))) := by
  simp only [Wq, ev, wp_bind, Bool.false_eq_true, if_false]
theorem y_call {f : Nat} {args : List E} : Wq (ev C t (.call f args) ρ) b ↔ Wq (evL C args ρ) (Bx.mk (Q := fun r => Wq (callD C f args r.1 r.2) (Bx.mk (Q := fun q => Wq (fin t q.1) (Bx.mk (Q := fun y => Q (y, q.2))))))) := by
  simp only [Wq, ev, wp_bind, wp_map]
theorem y_callD {f : Nat} {es : List E} {xs : List FD} : Wq (callD C f es xs ρ) b ↔ Wq (ioVars (C.io f) 0 es xs) (Bx.mk (Q := fun iv => (iv.all (fun p => ownAt ρ p.2) = true ∧ (iv.map (·.2)).Nodup ∧ leOk iv (leVars (C.io f) 0 es xs) = true) ∧
      Wq (C.call f (argSl (C.io f) 0 xs)) (Bx.mk (Q := fun r => Wq (if lends (C.io f) 0 xs = false ∨ (r.1.f = .own ∧ iv.all (fun p => ownFin r.2 p.1) = true) then some (r.1, putBack r.2 iv ρ) else none) b)))) := by
  simp only [Wq, callD, wp_bind, wp_ite, wp_none]
  refine exists_congr fun iv => and_congr_right fun _ => ?_
  exact and_ite
theorem y_bool {a : Bool} {args : List E} : Wq (ev C t (.bool a args) ρ) b ↔ Wq (evB C t a args ρ) b := by
  simp only [ev]
theorem y_not {e : E} : Wq (ev C t (.not_ e) ρ) b ↔ Wq (ev C t e ρ) (Bx.mk (Q := fun r => Wq (if t = true then boolD r.1 else truthD r.1.d) (Bx.mk (Q := fun k => Q (⟨.own, .bl (!k)⟩, r.2))))) := by
  simp only [Wq, ev, wp_bind, wp_map]
theorem y_ife {c x y : E} : Wq (ev C false (.ife c x y) ρ) b ↔ Wq (ev C true c ρ) (Bx.mk (Q := fun r => Wq (boolD r.1) (Bx.mk (Q := fun k => Wq (if k = true then ev C false x r.2 else ev C false y r.2) b)))) := by
  simp only [Wq, ev, wp_bind, Bool.false_eq_true, if_false]
theorem y_chain {o1 o2 : CmpOp} {x y z : E} : Wq (ev C t (.chain o1 o2 x y z) ρ) b ↔ Wq (ev C false x ρ) (Bx.mk (Q := fun r1 => Wq (intD r1.1.d) (Bx.mk (Q := fun i => Wq (ev C false y r1.2) (Bx.mk (Q := fun r2 => Wq (intD r2.1.d) (Bx.mk (Q := fun j => Wq (cmpD o1 (.int i) (.int j)) (Bx.mk (Q := fun k =>
      Wq (if k = true then (ev C false z r2.2).bind fun r3 => (intD r3.1.d).bind fun l => (cmpD o2 (.int j) (.int l)).map fun k => (⟨.own, .bl k⟩, r3.2) else some (⟨.own, .bl false⟩, r2.2)) b)))))))))) := by
  simp only [Wq, ev, wp_bind]
theorem y_mut {root : Nat} {path args : List E} {m : MuK} : Wq (ev C false (.mut root path m args) ρ) b ↔ (E.quiet.E.quietL path = true ∧ ownAt ρ root = true) ∧ Wq (evL C path ρ) (Bx.mk (Q := fun rp => nodeLst ρ[root]? (rp.1.map FD.d) = true ∧
      Wq (if path.isEmpty = true then (evL C args ρ).bind fun ra => mutR root m rp.1 ra.1 ra.2
          else (evL C args (lock [root] ρ)).bind fun ra => if borAt ra.2 root = true then mutR root m rp.1 ra.1 (unlock [root] ra.2) else none) b)) := by
  simp only [ev, Bool.false_eq_true, if_false]
  rw [wq_ite]
  constructor
  · rintro ⟨h1, h2⟩
    by_cases h : E.quiet.E.quietL path = true ∧ ownAt ρ root = true
    · refine ⟨h, ?_⟩
      obtain ⟨rp, e, k⟩ := wq_bind.mp (h1 h)
      refine ⟨rp, e, ?_⟩
      replace k := wq_ite.mp k
      by_cases q : nodeLst ρ[root]? (rp.1.map FD.d) = true
      · exact ⟨q, k.1 q⟩
      · exact (wq_none.mp (k.2 q)).elim
    · exact (wq_none.mp (h2 h)).elim
  · rintro ⟨h, k⟩
    refine ⟨fun _ => wq_bind.mpr ?_, fun z => absurd h z⟩
    obtain ⟨rp, e, q, k⟩ := k
    exact ⟨rp, e, wq_ite.mpr ⟨fun _ => k, fun z => absurd q z⟩⟩
theorem y_lc {own : List Nat} {k : ItK} {its cond : List E} {tg : Tg} {elt : E} : Wq (ev C false (.lc own k its tg cond elt) ρ) b ↔ Wq (evL C its ρ) (Bx.mk (Q := fun r => Wq (itD k r.1) (Bx.mk (Q := fun it => Wq (lockVs its r.1) (Bx.mk (Q := fun ls =>
      (own.all (pureAt r.2) = true ∧ tg.slots.all (fun i => own.contains i) = true) ∧
        Wq (lcLoop (fun x ρ => (bindT [] (itemF it.1) tg x ρ).bind fun ρ => (evB C true true cond ρ).bind fun c => (boolD c.1).bind fun b =>
            if b = true then (ev C false elt c.2).bind fun y => if y.1.f = .own then some (some y.1.d, wipeR y.2 own) else none else some (none, wipeR c.2 own))
          it.2 (wipeR (lock (owned ls r.2) r.2) own)) (Bx.mk (Q := fun q =>
        Wq (if q.1.length ≤ sizeLine then some (⟨.own, .lst q.1⟩, unlock (owned ls r.2) (restR (lock (owned ls r.2) r.2) q.2 own)) else none) b)))))))) := by
  simp only [Wq, ev, wp_bind, Bool.false_eq_true, if_false]
  refine exists_congr fun r => and_congr_right fun _ => exists_congr fun it => and_congr_right fun _ => exists_congr fun ls => and_congr_right fun _ => ?_
  dsimp only
  rw [wp_ite, wp_none]
  simp only [wp_bind]
  exact and_ite
theorem y_dc {own : List Nat} {k : ItK} {its cond : List E} {tg : Tg} {key val : E} : Wq (ev C false (.dc own k its tg cond key val) ρ) b ↔ Wq (evL C its ρ) (Bx.mk (Q := fun r => Wq (itD k r.1) (Bx.mk (Q := fun it => Wq (lockVs its r.1) (Bx.mk (Q := fun ls =>
      ((own.all (pureAt r.2) = true ∧ tg.slots.all (fun i => own.contains i) = true) ∧ it.2.length ≤ sizeLine) ∧
        Wq (dcLoop (fun x ρ => (bindT [] (itemF it.1) tg x ρ).bind fun ρ => (evB C true true cond ρ).bind fun c => (boolD c.1).bind fun b =>
            if b = true then (ev C false key c.2).bind fun kx => (D.key kx.1.d).bind fun kk => (ev C false val kx.2).bind fun y => if y.1.f = .own then some (some (kk, y.1.d), wipeR y.2 own) else none else some (none, wipeR c.2 own))
          it.2 [] (wipeR (lock (owned ls r.2) r.2) own)) (Bx.mk (Q := fun q =>
        Q (⟨.own, .dK q.1⟩, unlock (owned ls r.2) (restR (lock (owned ls r.2) r.2) q.2 own)))))))))) := by
  simp only [Wq, ev, wp_bind, Bool.false_eq_true, if_false]
  refine exists_congr fun r => and_congr_right fun _ => exists_congr fun it => and_congr_right fun _ => exists_congr fun ls => and_congr_right fun _ => ?_
  dsimp only
  rw [wp_ite, wp_none]
  simp only [wp_bind, wp_some]
  exact and_ite
theorem y_dict {kvs : List E} {isT : Bool} : Wq (ev C false (.dict kvs isT) ρ) b ↔ Wq (evL C kvs ρ) (Bx.mk (Q := fun r => Wq (dictF isT r.1) (Bx.mk (Q := fun x => Q (x, r.2))))) := by
  simp only [Wq, ev, wp_bind, wp_map, Bool.false_eq_true, if_false]
theorem y_kop {m : KM} {g : Nat} {args : List E} : Wq (ev C t (.kop m g args) ρ) b ↔ Wq (C.gdict g) (Bx.mk (Q := fun kvs => Wq (evL C args ρ) (Bx.mk (Q := fun r => Wq (kopD m kvs (r.1.map (·.d))) (Bx.mk (Q := fun d => Wq (fin t ⟨.own, d⟩) (Bx.mk (Q := fun y => Q (y, r.2))))))))) := by
  simp only [Wq, ev, wp_bind, wp_map]
theorem b_nil {a : Bool} : Wq (evB C t a [] ρ) b ↔ Wq (if t = true ∧ a = true then some (⟨.own, .bl true⟩, ρ) else none) b := by
  simp only [evB]
theorem b_one {a : Bool} {e : E} : Wq (evB C t a [e] ρ) b ↔ Wq (ev C t e ρ) b := by
  simp only [evB]
theorem b_cons {a : Bool} {e e' : E} {es : List E} : Wq (evB C t a (e :: e' :: es) ρ) b ↔ Wq (ev C t e ρ) (Bx.mk (Q := fun r => Wq (boolD r.1) (Bx.mk (Q := fun k => Wq (if k = a then evB C t a (e' :: es) r.2 else some (⟨.own, .bl k⟩, r.2)) b)))) := by
  simp only [Wq, evB, wp_bind]
end
section
variable {Q : List FD × Rho → Prop} {b : Bx Q} {es : List E}
theorem l_nil : Wq (evL C [] ρ) b ↔ Q ([], ρ) := by
  simp only [evL]
  exact wq_some
theorem l_var {i : Nat} : Wq (evL C (.var i :: es) ρ) b ↔ Wq (rd ρ[i]?) (Bx.mk (Q := fun _ => Wq (evL C es ρ) (Bx.mk (Q := fun r => Wq (rd r.2[i]?) (Bx.mk (Q := fun x => Q (x :: r.1, r.2))))))) := by
  simp only [Wq, evL, readV_rd, wp_bind, wp_map]

theorem l_mv {i : Nat} : Wq (evL C (.mv i :: es) ρ) b ↔ Wq (ev C false (.mv i) ρ) (Bx.mk (Q := fun r => Wq (if r.1.f = .bor ∧ E.quiet.E.quietL es = false then none else (evL C es r.2).map fun q => (r.1 :: q.1, q.2)) b)) := by
  rw [evL]
  · exact wq_bind
  · intro _ h; cases h
theorem l_fr {i : Nat} : Wq (evL C (.fr i :: es) ρ) b ↔ Wq (ev C false (.fr i) ρ) (Bx.mk (Q := fun r => Wq (if r.1.f = .bor ∧ E.quiet.E.quietL es = false then none else (evL C es r.2).map fun q => (r.1 :: q.1, q.2)) b)) := by
  rw [evL]
  · exact wq_bind
  · intro _ h; cases h
theorem l_cst {c : D} : Wq (evL C (.cst c :: es) ρ) b ↔ Wq (ev C false (.cst c) ρ) (Bx.mk (Q := fun r => Wq (if r.1.f = .bor ∧ E.quiet.E.quietL es = false then none else (evL C es r.2).map fun q => (r.1 :: q.1, q.2)) b)) := by
  rw [evL]
  · exact wq_bind
  · intro _ h; cases h
theorem l_glob {i : Nat} : Wq (evL C (.glob i :: es) ρ) b ↔ Wq (ev C false (.glob i) ρ) (Bx.mk (Q := fun r => Wq (if r.1.f = .bor ∧ E.quiet.E.quietL es = false then none else (evL C es r.2).map fun q => (r.1 :: q.1, q.2)) b)) := by
  rw [evL]
  · exact wq_bind
  · intro _ h; cases h
theorem l_op {o : OpK} {a : List E} : Wq (evL C (.op o a :: es) ρ) b ↔ Wq (ev C false (.op o a) ρ) (Bx.mk (Q := fun r => Wq (if r.1.f = .bor ∧ E.quiet.E.quietL es = false then none else (evL C es r.2).map fun q => (r.1 :: q.1, q.2)) b)) := by
  rw [evL]
  · exact wq_bind
  · intro _ h; cases h
theorem l_tup {a : List E} : Wq (evL C (.tup a :: es) ρ) b ↔ Wq (ev C false (.tup a) ρ) (Bx.mk (Q := fun r => Wq (if r.1.f = .bor ∧ E.quiet.E.quietL es = false then none else (evL C es r.2).map fun q => (r.1 :: q.1, q.2)) b)) := by
  rw [evL]
  · exact wq_bind
  · intro _ h; cases h
theorem l_lst {a : List E} : Wq (evL C (.lst a :: es) ρ) b ↔ Wq (ev C false (.lst a) ρ) (Bx.mk (Q := fun r => Wq (if r.1.f = .bor ∧ E.quiet.E.quietL es = false then none else (evL C es r.2).map fun q => (r.1 :: q.1, q.2)) b)) := by
  rw [evL]
  · exact wq_bind
  · intro _ h; cases h
theorem l_call {f : Nat} {a : List E} : Wq (evL C (.call f a :: es) ρ) b ↔ Wq (ev C false (.call f a) ρ) (Bx.mk (Q := fun r => Wq (if r.1.f = .bor ∧ E.quiet.E.quietL es = false then none else (evL C es r.2).map fun q => (r.1 :: q.1, q.2)) b)) := by
  rw [evL]
  · exact wq_bind
  · intro _ h; cases h
theorem l_bool {k : Bool} {a : List E} : Wq (evL C (.bool k a :: es) ρ) b ↔ Wq (ev C false (.bool k a) ρ) (Bx.mk (Q := fun r => Wq (if r.1.f = .bor ∧ E.quiet.E.quietL es = false then none else (evL C es r.2).map fun q => (r.1 :: q.1, q.2)) b)) := by
  rw [evL]
  · exact wq_bind
  · intro _ h; cases h
theorem l_not {e : E} : Wq (evL C (.not_ e :: es) ρ) b ↔ Wq (ev C false (.not_ e) ρ) (Bx.mk (Q := fun r => Wq (if r.1.f = .bor ∧ E.quiet.E.quietL es = false then none else (evL C es r.2).map fun q => (r.1 :: q.1, q.2)) b)) := by
  rw [evL]
  · exact wq_bind
  · intro _ h; cases h
theorem l_ife {e x y : E} : Wq (evL C (.ife e x y :: es) ρ) b ↔ Wq (ev C false (.ife e x y) ρ) (Bx.mk (Q := fun r => Wq (if r.1.f = .bor ∧ E.quiet.E.quietL es = false then none else (evL C es r.2).map fun q => (r.1 :: q.1, q.2)) b)) := by
  rw [evL]
  · exact wq_bind
  · intro _ h; cases h
theorem l_chain {o1 o2 : CmpOp} {e x y : E} : Wq (evL C (.chain o1 o2 e x y :: es) ρ) b ↔ Wq (ev C false (.chain o1 o2 e x y) ρ) (Bx.mk (Q := fun r => Wq (if r.1.f = .bor ∧ E.quiet.E.quietL es = false then none else (evL C es r.2).map fun q => (r.1 :: q.1, q.2)) b)) := by
  rw [evL]
  · exact wq_bind
  · intro _ h; cases h
theorem l_mut {root : Nat} {p a : List E} {m : MuK} : Wq (evL C (.mut root p m a :: es) ρ) b ↔ Wq (ev C false (.mut root p m a) ρ) (Bx.mk (Q := fun r => Wq (if r.1.f = .bor ∧ E.quiet.E.quietL es = false then none else (evL C es r.2).map fun q => (r.1 :: q.1, q.2)) b)) := by
  rw [evL]
  · exact wq_bind
  · intro _ h; cases h
theorem l_lc {own : List Nat} {k : ItK} {its c : List E} {tg : Tg} {e : E} : Wq (evL C (.lc own k its tg c e :: es) ρ) b ↔ Wq (ev C false (.lc own k its tg c e) ρ) (Bx.mk (Q := fun r => Wq (if r.1.f = .bor ∧ E.quiet.E.quietL es = false then none else (evL C es r.2).map fun q => (r.1 :: q.1, q.2)) b)) := by
  rw [evL]
  · exact wq_bind
  · intro _ h; cases h
theorem l_dict {a : List E} {k : Bool} : Wq (evL C (.dict a k :: es) ρ) b ↔ Wq (ev C false (.dict a k) ρ) (Bx.mk (Q := fun r => Wq (if r.1.f = .bor ∧ E.quiet.E.quietL es = false then none else (evL C es r.2).map fun q => (r.1 :: q.1, q.2)) b)) := by
  rw [evL]
  · exact wq_bind
  · intro _ h; cases h
theorem l_dc {own : List Nat} {k : ItK} {its c : List E} {tg : Tg} {e v : E} : Wq (evL C (.dc own k its tg c e v :: es) ρ) b ↔ Wq (ev C false (.dc own k its tg c e v) ρ) (Bx.mk (Q := fun r => Wq (if r.1.f = .bor ∧ E.quiet.E.quietL es = false then none else (evL C es r.2).map fun q => (r.1 :: q.1, q.2)) b)) := by
  rw [evL]
  · exact wq_bind
  · intro _ h; cases h
theorem l_kop {m : KM} {g : Nat} {a : List E} : Wq (evL C (.kop m g a :: es) ρ) b ↔ Wq (ev C false (.kop m g a) ρ) (Bx.mk (Q := fun r => Wq (if r.1.f = .bor ∧ E.quiet.E.quietL es = false then none else (evL C es r.2).map fun q => (r.1 :: q.1, q.2)) b)) := by
  rw [evL]
  · exact wq_bind
  · intro _ h; cases h
end
end
section
variable {kvs : List (Str × D)} {z : Str} {d : D}
theorem kop_ix : kopD .ix kvs [.str z] = kvs.lookup z := rfl
theorem kop_in : kopD .isin kvs [.str z] = some (.bl (kvs.lookup z).isSome) := rfl
theorem kop_ni : kopD .notin kvs [.str z] = some (.bl (!(kvs.lookup z).isSome)) := rfl
theorem kop_g1 : kopD .get1 kvs [.str z] = some ((kvs.lookup z).getD .non) := rfl
theorem look_nil : ([] : List (Str × D)).lookup z = none := rfl
theorem look_cons {a b : String} : ((Str.ofString a, d) :: kvs).lookup (Str.ofString b) = if a = b then some d else kvs.lookup (Str.ofString b) := by
  rw [List.lookup_cons]
  by_cases h : a = b
  · subst h; simp
  · rw [if_neg h]
    have : (Str.ofString b == Str.ofString a) = false := beq_eq_false_iff_ne.mpr fun w => h (ofString_inj.mp w).symm
    rw [this]
end
theorem wp_eq {α : Type} {o : Option α} {a : α} (h : Wp o fun r => r = a) : o = some a := by
  obtain ⟨r, e, rfl⟩ := h
  exact e
end B
/-! BY: texts as lists of codes. -/
namespace B
open PySem SX L2
/-- a text -/
def tx (l : List Nat) : D := .str (SX.S l)
theorem tx_mut {l : List Nat} : (tx l).mut = false := id rfl
section
variable {f g h : Fl} {i j : Int} {l a b : List Nat}
theorem op_lenX (hl : l.length ≤ 1000000) : opD (.blt .len) [⟨f, tx l⟩] = some ⟨.own, .int l.length⟩ := by
  show Option.map _ (if (SX.S l).length ≤ sizeLine then some (D.int (SX.S l).length) else none) = _
  rw [S_len, if_pos (Nat.le_trans hl (by decide))]; rfl
theorem op_ixX (hl : l.length ≤ 1000000) (h0 : 0 ≤ i) (h1 : i < l.length) : opD .ix [⟨f, tx l⟩, ⟨g, .int i⟩] = some ⟨.own, tx [l.getD i.toNat 0]⟩ := by
  show Option.map _ (if (SX.S l).length ≤ sizeLine then (L2.atI (SX.S l).cps.toList i).map fun c => D.str ⟨#[c]⟩ else none) = _
  rw [S_len, if_pos (Nat.le_trans hl (by decide))]
  show Option.map _ ((L2.atI l i).map _) = _
  rw [atI_getD 0 h0 h1]; rfl
theorem op_slX (hl : l.length ≤ 1000000) (h0 : 0 ≤ i) (h1 : i ≤ j) (h2 : j ≤ l.length) : opD (.sl true true) [⟨f, tx l⟩, ⟨g, .int i⟩, ⟨h, .int j⟩] = some ⟨.own, tx ((l.drop i.toNat).take (j.toNat - i.toNat))⟩ := by
  show Option.map _ (if (SX.S l).length ≤ sizeLine then some (D.str (cutS (SX.S l) (some i) (some j))) else none) = _
  rw [S_len, if_pos (Nat.le_trans hl (by decide))]
  obtain ⟨i, rfl⟩ := Int.eq_ofNat_of_zero_le h0
  obtain ⟨j, rfl⟩ := Int.eq_ofNat_of_zero_le (Int.le_trans h0 h1)
  unfold cutS
  rw [HT.sIx_nat, HT.sIx_nat, S_len, Nat.min_eq_left (by omega), Nat.min_eq_left (by omega)]
  rfl
theorem op_addX (hl : a.length + b.length ≤ 1000000) : opD (.bin .Add) [⟨f, tx a⟩, ⟨g, tx b⟩] = some ⟨.own, tx (a ++ b)⟩ := by
  show Option.map _ (if (SX.S a).length + (SX.S b).length ≤ sizeLine then some (D.str (SX.S a ++ SX.S b)) else none) = _
  rw [S_len, S_len, if_pos (Nat.le_trans hl (by decide)), S_cat]; rfl
theorem in_X {c : Nat} : cmpD .In (tx [c]) (tx l) = some (decide (c ∈ l)) := congrArg some (in_one l c)
/-- signs that a text may have -/
def okX (l : List Nat) : Prop := ∀ c ∈ l, c < 1114112
theorem okX_app (h : okX a) (k : okX b) : okX (a ++ b) := fun c m => (List.mem_append.mp m).elim (h c) (k c)
theorem okX_sub (h : okX a) (k : ∀ c ∈ b, c ∈ a) : okX b := fun c m => h c (k c m)
theorem strOkX (h : okX l) : PyData.strOk (SX.S l) = true := by
  unfold PyData.strOk
  rw [← Array.all_toList, List.all_eq_true]
  intro c m
  simpa using h c m
theorem tx_fit (k : Nat) (h : okX l) : D.fit k (tx l) = true := by
  unfold tx D.fit
  exact strOkX h
theorem deq_X (ha : okX a) (hb : okX b) : cmpD .Eq (tx a) (tx b) = some (decide (a = b)) := by
  show (if SeqAt.shaped (.str (SX.S a)) = true ∧ SeqAt.shaped (.str (SX.S b)) = true then some (PyData.eqv (.str _) (.str _)) else none) = _
  have q : ∀ l, okX l → SeqAt.shaped (.str (SX.S l)) = true := fun l h => by
    unfold SeqAt.shaped PyData.canLay0
    rw [strOkX h]
    rfl
  rw [if_pos ⟨q a ha, q b hb⟩]
  congr 1
  simp only [PyData.eqv]
  exact S_beq_eq
theorem tx_inj (h : tx a = tx b) : a = b := S_inj (by unfold tx at h; injection h)
end
theorem aug_add {i j : Int} : augD .Add (.int i) (.int j) = some (.int (i + j)) := rfl
theorem aug_sub {i j : Int} : augD .Sub (.int i) (.int j) = some (.int (i - j)) := rfl
/-- while, the frame by a state -/
theorem wq_whileS {α : Type} {test : Rho → Option (Bool × Rho)} {body : Rho → Option Flow} {Q : Flow → Prop} {b : Bx Q} {n : Nat} {ρ : Rho} (st : α → Rho) (J : α → Prop) (μ : α → Nat) (a0 : α) (h : st a0 = ρ) (h0 : J a0) (hm : μ a0 < n)
    (step : ∀ a, J a → Wq (test (st a)) (Bx.mk (Q := fun r => if r.1 = true then Wq (body r.2) (Bx.mk (Q := fun fl => (match fl with
      | .nx ρ2 => ∃ a', st a' = ρ2 ∧ J a' ∧ μ a' < μ a
      | .ct ρ2 => ∃ a', st a' = ρ2 ∧ J a' ∧ μ a' < μ a
      | .bk ρ2 => Q (.nx ρ2)
      | .rt v ρ2 => Q (.rt v ρ2)))) else Q (.nx r.2)))) : Wq (whileLoop test body n ρ) b := by
  refine wq_while (fun m ρ => ∃ a, st a = ρ ∧ J a ∧ μ a = m) (μ a0) ⟨a0, h, h0, rfl⟩ hm ?_
  rintro m ρ ⟨a, rfl, hj, rfl⟩
  refine wq_cut (step a hj) ?_
  rintro ⟨c, ρ1⟩ w
  cases c with
  | false =>
    simp only [Bool.false_eq_true, if_false] at w ⊢
    exact w
  | true =>
    simp only [if_true] at w ⊢
    refine wq_cut w ?_
    intro fl k
    cases fl with
    | nx ρ2 => obtain ⟨a', rfl, k1, k2⟩ := k; exact ⟨_, k2, a', rfl, k1, rfl⟩
    | ct ρ2 => obtain ⟨a', rfl, k1, k2⟩ := k; exact ⟨_, k2, a', rfl, k1, rfl⟩
    | bk ρ2 => exact k
    | rt v ρ2 => exact k
end B
/-! BZ: dicts whose keys are ints, as lists of pairs. -/
namespace B
open PySem L2
section
variable {α β : Type} {p q r : Fl} {k i : Int} {f : α → D} {l : List (Int × α)} {v : α}
/-- a dict with int keys -/
def dM (f : α → D) (l : List (Int × α)) : D := .dK (l.map fun x => (Sum.inl x.1, f x.2))
theorem dM_mut : (dM f l).mut = true := id rfl
/-- l[k] = v -/
def putI (l : List (Int × α)) (k : Int) (v : α) : List (Int × α) := if (l.lookup k).isSome then l.map (fun x => if x.1 = k then (x.1, v) else x) else l ++ [(k, v)]
theorem look_dM : lookD (l.map fun x => ((Sum.inl x.1 : Key), f x.2)) (.inl k) = (l.lookup k).map f := by
  induction l with
  | nil => rfl
  | cons x l ih =>
    unfold lookD at ih ⊢
    rw [List.map_cons, List.find?_cons, List.lookup_cons]
    by_cases h : x.1 = k
    · subst h; simp
    · have : (k == x.1) = false := beq_eq_false_iff_ne.mpr (Ne.symm h)
      rw [this]
      simp only [Sum.inl.injEq, h, decide_false]
      exact ih
theorem any_dM : ((l.map fun x => ((Sum.inl x.1 : Key), f x.2)).any fun kv => decide (kv.1 = .inl k)) = (l.lookup k).isSome := by
  induction l with
  | nil => rfl
  | cons x l ih =>
    rw [List.map_cons, List.any_cons, ih, List.lookup_cons]
    by_cases h : x.1 = k
    · subst h; simp
    · have : (k == x.1) = false := beq_eq_false_iff_ne.mpr (Ne.symm h)
      rw [this]
      simp [h]
theorem put_dM : putD (l.map fun x => ((Sum.inl x.1 : Key), f x.2)) (.inl k) (f v) = (putI l k v).map fun x => (Sum.inl x.1, f x.2) := by
  unfold putD putI
  rw [any_dM]
  split
  · rw [List.map_map, List.map_map]
    refine List.map_congr_left fun x _ => ?_
    show (if (Sum.inl x.1 : Key) = .inl k then _ else _) = _
    by_cases h : x.1 = k
    · subst h; simp
    · simp [h]
  · rw [List.map_append]; rfl
theorem putI_look {j : Int} : (putI l k v).lookup j = if j = k then some v else l.lookup j := by
  unfold putI
  split
  · rename_i h
    induction l with
    | nil => simp at h
    | cons x l ih =>
      rw [List.lookup_cons] at h
      rw [List.map_cons]
      by_cases e : x.1 = k
      · subst e
        simp only [if_true]
        rw [List.lookup_cons, List.lookup_cons]
        by_cases e2 : j = x.1
        · subst e2; simp
        · have : (j == x.1) = false := beq_eq_false_iff_ne.mpr e2
          rw [if_neg e2]
          clear h ih
          induction l with
          | nil => rw [this]; rfl
          | cons y l ih =>
            simp only [this] at ih ⊢
            rw [List.map_cons, List.lookup_cons]
            by_cases e3 : y.1 = x.1
            · rw [if_pos e3, List.lookup_cons, e3, this]
              exact ih
            · rw [if_neg e3, List.lookup_cons]
              cases j == y.1 with
              | true => rfl
              | false => exact ih
      · rw [if_neg e]
        have hk : (k == x.1) = false := beq_eq_false_iff_ne.mpr (Ne.symm e)
        rw [hk] at h
        rw [List.lookup_cons, List.lookup_cons]
        by_cases e2 : j = x.1
        · subst e2; simp [e]
        · have : (j == x.1) = false := beq_eq_false_iff_ne.mpr e2
          rw [this]
          exact ih h
  · rename_i h
    induction l with
    | nil =>
      rw [List.nil_append, List.lookup_cons]
      by_cases e : j = k
      · subst e; simp
      · have : (j == k) = false := beq_eq_false_iff_ne.mpr e
        rw [this, if_neg e]
    | cons x l ih =>
      rw [List.lookup_cons] at h
      have hk : (k == x.1) = false := by
        cases q : k == x.1 with
        | false => rfl
        | true => rw [q] at h; simp at h
      rw [hk] at h
      rw [List.cons_append, List.lookup_cons, List.lookup_cons]
      by_cases e2 : j = x.1
      · subst e2
        have : ¬ x.1 = k := fun z => by rw [z] at hk; simp at hk
        simp [this]
      · have : (j == x.1) = false := beq_eq_false_iff_ne.mpr e2
        rw [this]
        exact ih h
theorem putI_keys : (putI l k v).map (·.1) = if (l.lookup k).isSome then l.map (·.1) else l.map (·.1) ++ [k] := by
  unfold putI
  split
  · rw [List.map_map]
    refine List.map_congr_left fun x _ => ?_
    show (if x.1 = k then (x.1, v) else x).1 = x.1
    split <;> rfl
  · rw [List.map_append]; rfl
theorem putI_new (h : l.lookup k = none) : putI l k v = l ++ [(k, v)] := by
  unfold putI; rw [h]; rfl
theorem putI_len : (putI l k v).length ≤ l.length + 1 := by
  unfold putI
  split
  · rw [List.length_map]; omega
  · simp
theorem look_iff : (l.lookup k).isSome = true ↔ k ∈ l.map (·.1) := by
  induction l with
  | nil => simp
  | cons x l ih =>
    rw [List.lookup_cons, List.map_cons, List.mem_cons]
    by_cases e : k = x.1
    · subst e; simp
    · have : (k == x.1) = false := beq_eq_false_iff_ne.mpr e
      rw [this]
      simp only [e, false_or]
      exact ih
theorem look_mem (h : l.lookup k = some v) : (k, v) ∈ l := by
  induction l with
  | nil => cases h
  | cons x l ih =>
    rw [List.lookup_cons] at h
    by_cases e : k = x.1
    · subst e
      simp at h
      subst h
      exact List.mem_cons_self
    · have : (k == x.1) = false := beq_eq_false_iff_ne.mpr e
      rw [this] at h
      exact List.mem_cons_of_mem _ (ih h)
theorem look_of (hn : (l.map (·.1)).Nodup) (h : (k, v) ∈ l) : l.lookup k = some v := by
  induction l with
  | nil => cases h
  | cons x l ih =>
    rw [List.map_cons, List.nodup_cons] at hn
    rw [List.lookup_cons]
    rcases List.mem_cons.mp h with e | h
    · subst e; simp
    · have : (k == x.1) = false := beq_eq_false_iff_ne.mpr fun z => hn.1 (z ▸ List.mem_map_of_mem (f := (·.1)) h)
      rw [this]
      exact ih hn.2 h
/-! operators -/
theorem op_ixM : opD .ix [⟨p, dM f l⟩, ⟨q, .int k⟩] = (l.lookup k).map fun v => nrm p (f v) := by
  simp only [opD, ixD, dM, D.key, Option.bind_some, look_dM, Option.map_map]; rfl
theorem in_M : cmpD .In (.int k) (dM f l) = some (l.lookup k).isSome := by
  simp only [cmpD, inD, dM, D.key, Option.map_some, look_dM, Option.isSome_map]
theorem op_lenM : opD (.blt .len) [⟨p, dM f l⟩] = some ⟨.own, .int l.length⟩ := by
  show some (⟨.own, .int ((l.map _).length : Nat)⟩ : FD) = _
  rw [List.length_map]
theorem it_keysM : itD .keys [⟨p, dM f l⟩] = some (p, l.map fun x => .int x.1) := by
  show some (p, List.map _ (List.map _ l)) = _
  rw [List.map_map]; rfl
theorem it_valsM : itD .vals [⟨p, dM f l⟩] = some (p, l.map fun x => f x.2) := by
  show some (p, List.map _ (List.map _ l)) = _
  rw [List.map_map]; rfl
theorem it_itemsM : itD .items [⟨p, dM f l⟩] = some (p, l.map fun x => .tup [.int x.1, f x.2]) := by
  show some (p, List.map _ (List.map _ l)) = _
  rw [List.map_map]; rfl
theorem set_M (h : l.length < 1000000) : setD (.int k) (f v) (dM f l) = some (dM f (putI l k v), ()) := by
  have : l.length < sizeLine := Nat.lt_of_lt_of_le h (by decide)
  simp only [setD, dM, D.key, Option.bind_some, List.length_map, this, if_true, put_dM]
theorem op_dg1 : opD .dget [⟨p, dM f l⟩, ⟨q, .int k⟩] = some ((l.lookup k).elim ⟨.own, .non⟩ fun v => nrm p (f v)) := by
  simp only [opD, dgD, dM, D.key, Option.map_some, look_dM]
  cases l.lookup k <;> rfl
theorem op_dg2 {z : FD} : opD .dget [⟨p, dM f l⟩, ⟨q, .int k⟩, z] = some ((l.lookup k).elim z fun v => nrm p (f v)) := by
  simp only [opD, dgD, dM, D.key, Option.map_some, look_dM]
  cases l.lookup k <;> rfl
theorem op_sortedM (h : l.length < 64) : opD (.blt .sorted) [⟨p, dM f l⟩] = some ⟨.own, .lst ((sortN (l.map (·.1))).map .int)⟩ := by
  have e : ikeysD (l.map fun x => ((Sum.inl x.1 : Key), f x.2)) = some (l.map (·.1)) := by
    clear h
    induction l with
    | nil => rfl
    | cons x l ih =>
      rw [List.map_cons, List.map_cons, ikeysD, ih]; rfl
  show Option.map _ ((ikeysD _).bind _) = _
  rw [e]
  show Option.map _ (if (l.map (·.1)).length < 64 then _ else _) = _
  rw [List.length_map, if_pos h]; rfl
theorem get_M {ks : List D} : getP (.int k :: ks) (dM f l) = ((l.lookup k).map f).bind (getP ks) := by
  simp only [getP, stepD, dM, D.key, Option.bind_some, look_dM]
theorem mod_M {g : D → Option (D × β)} {ks : List D} : modP g (.int k :: ks) (dM f l) = ((l.lookup k).map f).bind fun c => (modP g ks c).map fun r => (.dK (putD (l.map fun x => ((Sum.inl x.1 : Key), f x.2)) (Sum.inl k) r.1), r.2) := by
  simp only [modP, dM, D.key, Option.bind_some, look_dM]
theorem key_int : D.key (.int k) = some (.inl k) := rfl
theorem op_lrg {n : Int} (h0 : 0 ≤ n) (h1 : n ≤ 100000) : opD .lrg [⟨p, .int n⟩] = some ⟨.own, .lst (rngD 0 n)⟩ := by
  show Option.map _ (if 0 ≤ n ∧ n ≤ 100000 then some (D.lst _) else none) = _
  rw [if_pos ⟨h0, h1⟩]; rfl
theorem op_rev {xs : List D} : opD .rev [⟨p, .lst xs⟩] = if D.mutL xs = false then some ⟨.own, .lst xs.reverse⟩ else none := by
  show (if D.mutL xs = false then some (D.lst xs.reverse) else none).map _ = _
  split <;> rfl
theorem bools_map {bs : List Bool} : boolsD (bs.map D.bl) = some bs := by
  induction bs with
  | nil => rfl
  | cons b bs ih => rw [List.map_cons, boolsD, ih]; rfl
theorem op_all {bs : List Bool} : opD (.blt .all) [⟨p, .lst (bs.map D.bl)⟩] = some ⟨.own, .bl (bs.all id)⟩ := by
  show ((boolsD _).map _).map _ = _
  rw [bools_map]; rfl
theorem op_any {bs : List Bool} : opD (.blt .any) [⟨p, .lst (bs.map D.bl)⟩] = some ⟨.own, .bl (bs.any id)⟩ := by
  show ((boolsD _).map _).map _ = _
  rw [bools_map]; rfl
theorem isb_bl {a b : Bool} : cmpD .Is (.bl a) (.bl b) = some (decide (a = b)) := rfl
theorem isntb_bl {a b : Bool} : cmpD .IsNot (.bl a) (.bl b) = some (!decide (a = b)) := rfl
end
theorem in_intsT {x : Int} {l : List Int} : cmpD .In (.int x) (.tup (l.map .int)) = some (decide (x ∈ l)) := by
  induction l with
  | nil => rfl
  | cons a l ih =>
    rw [List.map_cons, in_cons (v := L2.V.int x) (w := L2.V.int a) rfl rfl rfl rfl, ih]
    show some (L2.eqV (L2.V.int a) (L2.V.int x) || decide (x ∈ l)) = _
    have e : L2.eqV (L2.V.int a) (L2.V.int x) = decide (a = x) := by
      by_cases e : a = x
      · subst e; simp [L2.eqV]
      · rw [decide_eq_false e]
        simp [L2.eqV, e]
    rw [e]
    by_cases h1 : a = x
    · subst h1; simp
    · by_cases h2 : x ∈ l
      · simp [h1, h2]
      · simp [h1, h2, Ne.symm h1]
theorem in_ints {x : Int} {l : List Int} : cmpD .In (.int x) (.lst (l.map .int)) = some (decide (x ∈ l)) := by
  rw [in_lst, in_intsT]
/-! a dict comprehension's rounds -/
section
variable {α : Type}
theorem dcLoop_wp {turn : D → Rho → Option (Option (Key × D) × Rho)} {Q : List (Key × D) × Rho → Prop} {xs : List D} {ρ : Rho} {acc : List (Key × D)} (I : Nat → List (Key × D) → Rho → Prop) (h0 : I 0 acc ρ)
    (step : ∀ i x acc ρ, xs[i]? = some x → I i acc ρ → Wp (turn x ρ) fun r => match r.1 with
      | some y => I (i + 1) (putD acc y.1 y.2) r.2
      | none => I (i + 1) acc r.2)
    (fin : ∀ acc ρ, I xs.length acc ρ → Q (acc, ρ)) : Wp (dcLoop turn xs acc ρ) Q := by
  suffices ∀ (ys : List D) (i : Nat) (acc : List (Key × D)) (ρ : Rho), xs.drop i = ys → I i acc ρ → i ≤ xs.length → Wp (dcLoop turn ys acc ρ) Q from this xs 0 acc ρ rfl h0 (Nat.zero_le _)
  intro ys
  induction ys with
  | nil =>
    intro i acc ρ e hi hl
    have : i = xs.length := by
      have := congrArg List.length e
      simp at this
      omega
    subst this
    exact ⟨_, rfl, fin acc ρ hi⟩
  | cons y ys ih =>
    intro i acc ρ e hi hl
    have hlt : i < xs.length := by
      have := congrArg List.length e
      simp at this
      omega
    rw [List.drop_eq_getElem_cons hlt] at e
    simp only [List.cons.injEq] at e
    obtain ⟨e1, e2⟩ := e
    obtain ⟨⟨r1, r2⟩, b1, q⟩ := step i y acc ρ (by rw [← e1]; simp [hlt]) hi
    simp only [dcLoop, b1, Option.bind_some]
    cases r1 with
    | none => exact ih (i + 1) _ _ e2 q hlt
    | some y' => exact ih (i + 1) _ _ e2 q hlt
/-- a plain map of those that a test lets through -/
theorem wq_lcF {turn : D → Rho → Option (Option D × Rho)} {Q : List D × Rho → Prop} {b : Bx Q} {ys : List α} {h : α → D} {ρ : Rho} (p : α → Bool) (f : α → D)
    (step : ∀ y ∈ ys, turn (h y) ρ = some (if p y = true then some (f y) else none, ρ)) (fin : Q ((ys.filter p).map f, ρ)) : Wq (lcLoop turn (ys.map h) ρ) b := by
  have : ∀ ys : List α, (∀ y ∈ ys, turn (h y) ρ = some (if p y = true then some (f y) else none, ρ)) → lcLoop turn (ys.map h) ρ = some ((ys.filter p).map f, ρ) := fun ys => by
    induction ys with
    | nil => exact fun _ => rfl
    | cons y ys ih =>
      intro k
      have k0 := k y List.mem_cons_self
      cases q : p y with
      | true =>
        rw [q] at k0
        simp only [List.map_cons, lcLoop, k0, if_true, Option.bind_some, ih fun z m => k z (List.mem_cons_of_mem _ m), Option.map_some, List.filter_cons_of_pos q]
      | false =>
        rw [q] at k0
        simp only [List.map_cons, lcLoop, k0, Bool.false_eq_true, if_false, Option.bind_some, ih fun z m => k z (List.mem_cons_of_mem _ m), Option.map_some, List.filter_cons_of_neg (show ¬ p y = true by rw [q]; decide)]
  exact ⟨_, this ys step, fin⟩
theorem kt_dict_dict : L2.kitB "dict" "dict" = some true := by decide +kernel
theorem op_isM {β : Type} {p : Fl} {f : β → D} {l : List (Int × β)} : opD (.blt (.isT "dict")) [⟨p, dM f l⟩] = some ⟨.own, .bl true⟩ := by
  show ((L2.kitB "dict" "dict").map D.bl).map (fun d => (⟨.own, d⟩ : FD)) = _
  rw [kt_dict_dict]; rfl
theorem mu_appO {v : D} {xs : List D} (h : xs.length < 1000000) : muD .append [v] (.lst xs) = some (.lst (xs ++ [v]), .non) := by
  show (if xs.length < sizeLine then some (D.lst (xs ++ [v]), D.non) else none) = _
  rw [if_pos (Nat.lt_of_lt_of_le h (by decide))]
/-! dicts of lists of ints -/
def lstI (l : List Int) : D := .lst (l.map .int)
def tb (ks : List Int) (g : Int → List Int) : List (Int × List Int) := ks.map fun o => (o, g o)
theorem tb_look {ks : List Int} {g : Int → List Int} {o : Int} : (tb ks g).lookup o = if o ∈ ks then some (g o) else none := by
  unfold tb
  induction ks with
  | nil => rfl
  | cons k ks ih =>
    rw [List.map_cons, List.lookup_cons]
    by_cases h : o = k
    · subst h; simp
    · have : (o == k) = false := beq_eq_false_iff_ne.mpr h
      rw [this]
      simp only [ih, List.mem_cons, h, false_or]
theorem tb_put {ks : List Int} {g : Int → List Int} {o : Int} {v : List Int} (h : o ∈ ks) : putI (tb ks g) o v = tb ks (fun z => if z = o then v else g z) := by
  unfold putI
  rw [tb_look, if_pos h]
  simp only [Option.isSome_some, if_true]
  unfold tb
  rw [List.map_map]
  refine List.map_congr_left fun z _ => ?_
  show (if z = o then (z, v) else (z, g z)) = (z, if z = o then v else g z)
  split <;> rfl
theorem tb_len {ks : List Int} {g : Int → List Int} : (tb ks g).length = ks.length := by unfold tb; rw [List.length_map]
/-- the frame by a state, the dict by a list of pairs -/
theorem wq_dcS {β : Type} {f : β → D} {turn : D → Rho → Option (Option (Key × D) × Rho)} {Q : List (Key × D) × Rho → Prop} {b : Bx Q} {xs : List D} {ρ : Rho} (st : α → Rho) (J : Nat → List (Int × β) → α → Prop) (a0 : α) (h : st a0 = ρ) (h0 : J 0 [] a0)
    (step : ∀ i x l a, xs[i]? = some x → i < xs.length → J i l a → Wq (turn x (st a)) (Bx.mk (Q := fun r => ∃ a', st a' = r.2 ∧ match r.1 with
      | some y => ∃ k v, y = (.inl k, f v) ∧ J (i + 1) (putI l k v) a'
      | none => J (i + 1) l a')))
    (fin : ∀ l a, J xs.length l a → Q (l.map fun x => (Sum.inl x.1, f x.2), st a)) : Wq (dcLoop turn xs [] ρ) b := by
  refine dcLoop_wp (I := fun i acc ρ => ∃ l a, acc = (l.map fun x => ((Sum.inl x.1 : Key), f x.2)) ∧ st a = ρ ∧ J i l a) ⟨[], a0, rfl, h, h0⟩ ?_ ?_
  · rintro i x acc ρ hx ⟨l, a, rfl, rfl, hj⟩
    refine Wp.mono (step i x l a hx (List.getElem?_eq_some_iff.mp hx).1 hj) ?_
    rintro ⟨r, ρ2⟩ ⟨a', e, k⟩
    cases r with
    | none => exact ⟨l, a', rfl, e, k⟩
    | some y =>
      obtain ⟨k, v, rfl, kj⟩ := k
      exact ⟨putI l k v, a', put_dM, e, kj⟩
  · rintro acc ρ ⟨l, a, rfl, rfl, hj⟩
    exact fin l a hj
end
end B
/-! CA: == of trees without truth values is equality. -/
namespace B
open PySem
mutual
/-- no truth values, no dicts, no frozen lists -/
def D.nb : D → Bool
  | .non => true
  | .bl _ => false
  | .int _ => true
  | .str _ => true
  | .tup xs => D.nbL xs
  | .lst xs => D.nbL xs
  | .clst _ => false
  | .dK _ => false
  | .dT _ => false
def D.nbL : List D → Bool
  | [] => true
  | x :: xs => D.nb x && D.nbL xs
end
theorem str_beq {a b : Str} : (a == b) = true ↔ a = b := by
  cases a; cases b
  exact ⟨fun h => by simpa using eq_of_beq h, fun h => by rw [h]; exact beq_self_eq_true _⟩
mutual
theorem eqv_tree : ∀ (x y : D) (p q : PyData), D.nb x = true → D.nb y = true → D.py x = some p → D.py y = some q → (PyData.eqv p q = true ↔ x = y)
  | x, y, p, q, hx, hy, ep, eq => by
    cases x with
    | bl _ => cases hx
    | clst _ => cases hx
    | dK _ => cases hx
    | dT _ => cases hx
    | non =>
      cases ep
      cases y with
      | bl _ => cases hy
      | clst _ => cases hy
      | dK _ => cases hy
      | dT _ => cases hy
      | non => cases eq; simp [PyData.eqv]
      | int j => cases eq; simp [PyData.eqv]
      | str t => cases eq; simp [PyData.eqv]
      | tup ys => simp only [D.py, Option.map_eq_some_iff] at eq; obtain ⟨_, _, rfl⟩ := eq; simp [PyData.eqv]
      | lst ys => simp only [D.py, Option.map_eq_some_iff] at eq; obtain ⟨_, _, rfl⟩ := eq; simp [PyData.eqv]
    | int i =>
      cases ep
      cases y with
      | bl _ => cases hy
      | clst _ => cases hy
      | dK _ => cases hy
      | dT _ => cases hy
      | non => cases eq; simp [PyData.eqv]
      | int j => cases eq; simp [PyData.eqv]
      | str t => cases eq; simp [PyData.eqv]
      | tup ys => simp only [D.py, Option.map_eq_some_iff] at eq; obtain ⟨_, _, rfl⟩ := eq; simp [PyData.eqv]
      | lst ys => simp only [D.py, Option.map_eq_some_iff] at eq; obtain ⟨_, _, rfl⟩ := eq; simp [PyData.eqv]
    | str s =>
      cases ep
      cases y with
      | bl _ => cases hy
      | clst _ => cases hy
      | dK _ => cases hy
      | dT _ => cases hy
      | non => cases eq; simp [PyData.eqv]
      | int j => cases eq; simp [PyData.eqv]
      | str t => cases eq; simp only [PyData.eqv, D.str.injEq]; exact str_beq
      | tup ys => simp only [D.py, Option.map_eq_some_iff] at eq; obtain ⟨_, _, rfl⟩ := eq; simp [PyData.eqv]
      | lst ys => simp only [D.py, Option.map_eq_some_iff] at eq; obtain ⟨_, _, rfl⟩ := eq; simp [PyData.eqv]
    | tup xs =>
      simp only [D.py, Option.map_eq_some_iff] at ep
      obtain ⟨ps, eps, rfl⟩ := ep
      cases y with
      | bl _ => cases hy
      | clst _ => cases hy
      | dK _ => cases hy
      | dT _ => cases hy
      | non => cases eq; simp [PyData.eqv]
      | int j => cases eq; simp [PyData.eqv]
      | str t => cases eq; simp [PyData.eqv]
      | tup ys =>
        simp only [D.py, Option.map_eq_some_iff] at eq; obtain ⟨qs, eqs, rfl⟩ := eq
        simp only [PyData.eqv, D.tup.injEq]
        exact eqv_treeL xs ys ps qs (by simpa [D.nb] using hx) (by simpa [D.nb] using hy) eps eqs
      | lst ys => simp only [D.py, Option.map_eq_some_iff] at eq; obtain ⟨_, _, rfl⟩ := eq; simp [PyData.eqv]
    | lst xs =>
      simp only [D.py, Option.map_eq_some_iff] at ep
      obtain ⟨ps, eps, rfl⟩ := ep
      cases y with
      | bl _ => cases hy
      | clst _ => cases hy
      | dK _ => cases hy
      | dT _ => cases hy
      | non => cases eq; simp [PyData.eqv]
      | int j => cases eq; simp [PyData.eqv]
      | str t => cases eq; simp [PyData.eqv]
      | lst ys =>
        simp only [D.py, Option.map_eq_some_iff] at eq; obtain ⟨qs, eqs, rfl⟩ := eq
        simp only [PyData.eqv, D.lst.injEq]
        exact eqv_treeL xs ys ps qs (by simpa [D.nb] using hx) (by simpa [D.nb] using hy) eps eqs
      | tup ys => simp only [D.py, Option.map_eq_some_iff] at eq; obtain ⟨_, _, rfl⟩ := eq; simp [PyData.eqv]
theorem eqv_treeL : ∀ (xs ys : List D) (ps qs : List PyData), D.nbL xs = true → D.nbL ys = true → D.pyL xs = some ps → D.pyL ys = some qs → (PyData.eqvAll ps qs = true ↔ xs = ys)
  | [], ys, ps, qs, hx, hy, ep, eq => by
    cases ep
    cases ys with
    | nil => cases eq; simp [PyData.eqvAll]
    | cons y ys =>
      simp only [D.pyL, Option.bind_eq_some_iff, Option.map_eq_some_iff] at eq
      obtain ⟨_, _, _, _, rfl⟩ := eq
      simp [PyData.eqvAll]
  | x :: xs, ys, ps, qs, hx, hy, ep, eq => by
    simp only [D.pyL, Option.bind_eq_some_iff, Option.map_eq_some_iff] at ep
    obtain ⟨p, e1, ps, e2, rfl⟩ := ep
    simp only [D.nbL, Bool.and_eq_true] at hx
    cases ys with
    | nil => cases eq; simp [PyData.eqvAll]
    | cons y ys =>
      simp only [D.pyL, Option.bind_eq_some_iff, Option.map_eq_some_iff] at eq
      obtain ⟨q, g1, qs, g2, rfl⟩ := eq
      simp only [D.nbL, Bool.and_eq_true] at hy
      simp only [PyData.eqvAll, Bool.and_eq_true, List.cons.injEq]
      exact and_congr (eqv_tree x y p q hx.1 hy.1 e1 g1) (eqv_treeL xs ys ps qs hx.2 hy.2 e2 g2)
end
/-- the answer of == -/
theorem deq_tree {x y : D} (fx : D.fit 60 x = true) (fy : D.fit 60 y = true) (hx : D.nb x = true) (hy : D.nb y = true) : ∃ b, cmpD .Eq x y = some b ∧ (b = true ↔ x = y) := by
  obtain ⟨p, h1, h2, h3, h4⟩ := okd_py x 60 (fit_okd x 60 fx)
  obtain ⟨q, g1, g2, g3, g4⟩ := okd_py y 60 (fit_okd y 60 fy)
  refine ⟨PyData.eqv p q, ?_, eqv_tree x y p q hx hy h1 g1⟩
  show deq x y = _
  unfold deq
  rw [h1, g1]
  have s1 : SeqAt.shaped p = true := by simp [SeqAt.shaped, h2]; omega
  have s2 : SeqAt.shaped q = true := by simp [SeqAt.shaped, g2]; omega
  simp only [s1, s2, and_self, if_true]
/-- .. by an equality of what the trees stand for -/
theorem deq_of {x y : D} {P : Prop} [Decidable P] (fx : D.fit 60 x = true) (fy : D.fit 60 y = true) (hx : D.nb x = true) (hy : D.nb y = true) (h : x = y ↔ P) : cmpD .Eq x y = some (decide P) := by
  obtain ⟨b, e, k⟩ := deq_tree fx fy hx hy
  rw [e]
  congr 1
  rw [Bool.eq_iff_iff, decide_eq_true_iff]
  exact k.trans h
theorem nbL_map {α : Type} {l : List α} {f : α → D} (h : ∀ x ∈ l, D.nb (f x) = true) : D.nbL (l.map f) = true := by
  induction l with
  | nil => rfl
  | cons a l ih =>
    rw [List.map_cons, D.nbL, h a List.mem_cons_self, ih fun x m => h x (List.mem_cons_of_mem _ m)]; rfl
theorem fit_lst {k : Nat} {xs : List D} (h : xs.length ≤ 1000000) (q : D.fitL k xs = true) : D.fit (k + 1) (.lst xs) = true := by
  unfold D.fit
  simp only [Bool.and_eq_true, decide_eq_true_eq]
  first | exact ⟨h, q⟩ | exact ⟨q, h⟩
theorem fit_tup {k : Nat} {xs : List D} (h : xs.length ≤ 1000000) (q : D.fitL k xs = true) : D.fit (k + 1) (.tup xs) = true := by
  unfold D.fit
  simp only [Bool.and_eq_true, decide_eq_true_eq]
  first | exact ⟨h, q⟩ | exact ⟨q, h⟩
theorem fit_int (k : Nat) (i : Int) : D.fit k (.int i) = true := by unfold D.fit; rfl
theorem map_inj {α : Type} {f : α → D} (h : ∀ a b, f a = f b → a = b) : ∀ {l m : List α}, l.map f = m.map f ↔ l = m
  | [], [] => by simp
  | [], _ :: _ => by simp
  | _ :: _, [] => by simp
  | a :: l, b :: m => by
    rw [List.map_cons, List.map_cons, List.cons.injEq, List.cons.injEq, map_inj h]
    exact and_congr_left fun _ => ⟨h a b, fun e => by rw [e]⟩
theorem int_inj (a b : Int) (h : D.int a = D.int b) : a = b := by injection h
/-- a list of ints against a list of ints -/
theorem deq_ints {a b : List Int} (ha : a.length ≤ 1000000) (hb : b.length ≤ 1000000) : cmpD .Eq (.lst (a.map .int)) (.lst (b.map .int)) = some (decide (a = b)) :=
  deq_of (fit_lst (by simpa using ha) (fitL_map fun x _ => fit_int _ _)) (fit_lst (by simpa using hb) (fitL_map fun x _ => fit_int _ _)) (by unfold D.nb; exact nbL_map fun _ _ => rfl) (by unfold D.nb; exact nbL_map fun _ _ => rfl)
    (by rw [D.lst.injEq]; exact map_inj int_inj)
theorem deq_ints0 {a : List Int} (ha : a.length ≤ 1000000) : cmpD .Eq (.lst (a.map .int)) (.lst []) = some (decide (a = [])) := deq_ints (b := []) ha (by simp)
end B
/-! CB: index, setdefault, sorted rows, dicts in hand. -/
namespace B
open PySem L2
section
variable {α : Type} {p q : Fl} {k i : Int} {f : α → D} {l : List (Int × α)} {ρ : Rho}
theorem flats_ints {l : List Int} : flats (l.map D.int) = some (l.map L2.V.int) := by
  induction l with
  | nil => rfl
  | cons a l ih => rw [List.map_cons, flats, ih]; rfl
theorem eqV_int {a b : Int} : L2.eqV (.int a) (.int b) = decide (a = b) := by
  by_cases e : a = b
  · subst e; simp [L2.eqV]
  · rw [decide_eq_false e]; simp [L2.eqV, e]
theorem find_ints {l : List Int} {x : Int} (h : x ∈ l) : (l.map L2.V.int).findIdx? (fun z => L2.eqV z (.int x)) = some (l.idxOf x) := by
  induction l with
  | nil => cases h
  | cons a l ih =>
    rw [List.map_cons, List.findIdx?_cons, eqV_int, List.idxOf_cons]
    by_cases e : a = x
    · subst e; simp
    · have h2 : x ∈ l := by
        rcases List.mem_cons.mp h with h | h
        · exact absurd h.symm e
        · exact h
      rw [decide_eq_false e, ih h2]
      have : (a == x) = false := beq_eq_false_iff_ne.mpr e
      simp [this]
theorem op_ixofI {l : List Int} {x : Int} (h : x ∈ l) : opD .ixof [⟨p, .lst (l.map .int)⟩, ⟨q, .int x⟩] = some ⟨.own, .int (l.idxOf x)⟩ := by
  have h1 : (l.map L2.V.int).all flatV = true := List.all_eq_true.mpr fun y m => by
    obtain ⟨a, _, rfl⟩ := List.mem_map.mp m
    rfl
  have e : ixofD (.lst (l.map .int)) (.int x) = some (.int (l.idxOf x)) := by
    show ((flats (l.map D.int)).bind fun vs => if flatV (V.int x) = true ∧ vs.all flatV = true then (vs.findIdx? fun z => L2.eqV z (.int x)).map fun (j : Nat) => D.int j else none) = _
    rw [flats_ints]
    show (if flatV (V.int x) = true ∧ _ then _ else _) = _
    rw [if_pos ⟨rfl, h1⟩, find_ints h]; rfl
  show (ixofD _ _).map _ = _
  rw [e]; rfl
/-! dicts in hand -/
theorem it_keysTM : itD .keysT [⟨.own, dM f l⟩] = some (.shr, l.map fun x => .int x.1) := by
  show (if some Fl.own = some Fl.own then some (Fl.shr, List.map _ (List.map _ l)) else none) = _
  rw [if_pos rfl, List.map_map]; rfl
theorem it_valsTM : itD .valsT [⟨.own, dM f l⟩] = some (.shr, l.map fun x => f x.2) := by
  show (if some Fl.own = some Fl.own then some (Fl.shr, List.map _ (List.map _ l)) else none) = _
  rw [if_pos rfl, List.map_map]; rfl
theorem it_itemsTM : itD .itemsT [⟨.own, dM f l⟩] = some (.shr, l.map fun x => .tup [.int x.1, f x.2]) := by
  show (if some Fl.own = some Fl.own then some (Fl.shr, List.map _ (List.map _ l)) else none) = _
  rw [if_pos rfl, List.map_map]; rfl
/-! setdefault of an empty list -/
def sdfI (l : List (Int × List Int)) (k : Int) : List (Int × List Int) := if (l.lookup k).isSome then l else l ++ [(k, [])]
theorem sdf_dM {l : List (Int × List Int)} : sdfD (l.map fun x => ((Sum.inl x.1 : Key), lstI x.2)) (.inl k) = (sdfI l k).map fun x => (Sum.inl x.1, lstI x.2) := by
  unfold sdfD sdfI
  rw [look_dM]
  cases e : l.lookup k with
  | some v => rfl
  | none =>
    have := put_dM (f := lstI) (l := l) (k := k) (v := ([] : List Int))
    rw [putI_new e] at this
    exact this
theorem sda_dM {C : Ctx} {root : Nat} {v : E} {l : List (Int × List Int)} (h : l.length < 1000000) : sdaW C root v (.inl k) ρ (some (some ⟨.own, dM lstI l⟩)) = (evL C [v] (ρ.set root (some ⟨.own, dM lstI (sdfI l k)⟩))).bind fun rv => (mutR root .append [⟨.own, .int k⟩] rv.1 rv.2).map fun q => .nx q.2 := by
  have hz : l.length < sizeLine := Nat.lt_of_lt_of_le h (by decide)
  show (if Fl.own = .own ∧ (l.map _).length < sizeLine then (evL C [v] (ρ.set root (some ⟨.own, .dK (sdfD _ _)⟩))).bind _ else none) = _
  rw [if_pos ⟨rfl, by rw [List.length_map]; exact hz⟩, sdf_dM]
  rfl
/-! rows in the order of their first parts -/
theorem sortX_rows (hn : (l.map (·.1)).Nodup) (hl : l.length ≤ 1000000) (hm : ∀ r ∈ l, (f r.2).mut = false) (hp : ∀ r ∈ l, ∃ P, D.py (f r.2) = some P ∧ P.depth ≤ 40)
    (ha : ∀ r ∈ l, ∀ s ∈ l, PySem.W.alike (pyd (f r.2)) (pyd (f s.2)) = true) :
    sortX (l.map fun r => .tup [.int r.1, f r.2]) = some (.lst ((l.mergeSort fun a b => decide (a.1 ≤ b.1)).map fun r => .tup [.int r.1, f r.2])) := by
  have hpy : ∀ r ∈ l, D.py (.tup [.int r.1, f r.2]) = some (.tuple [.int r.1, pyd (f r.2)]) := fun r m => by
    obtain ⟨P, h1, _⟩ := hp r m
    have : pyd (f r.2) = P := by unfold pyd; rw [h1]; rfl
    rw [this]
    simp only [D.py, D.pyL, h1, Option.bind_some, Option.map_some]
  have e1 : D.pyL (l.map fun r => D.tup [.int r.1, f r.2]) = some (l.map fun r => .tuple [.int r.1, pyd (f r.2)]) := by
    clear hn hl hm hp ha
    induction l with
    | nil => rfl
    | cons r l ih =>
      rw [List.map_cons, D.pyL, hpy r List.mem_cons_self, ih fun x m => hpy x (List.mem_cons_of_mem _ m)]; rfl
  have al : ∀ r ∈ l, ∀ s ∈ l, PySem.W.alike (.tuple [.int r.1, pyd (f r.2)]) (.tuple [.int s.1, pyd (f s.2)]) = true := fun r m s m' => by
    simp only [PySem.W.alike, PySem.W.alikeAll, ha r m s m', Bool.and_true]
  have e2 : sortOk (l.map fun r => PyData.tuple [.int r.1, pyd (f r.2)]) = true := by
    simp only [sortOk, Bool.and_eq_true, Bool.or_eq_true, List.all_eq_true, decide_eq_true_eq]
    refine ⟨fun p hp q hq => ?_, .inl fun p hp => ?_, fun p hq => ?_⟩
    · obtain ⟨a, m, rfl⟩ := List.mem_map.mp hp
      obtain ⟨b, m', rfl⟩ := List.mem_map.mp hq
      exact al a m b m'
    · obtain ⟨a, _, rfl⟩ := List.mem_map.mp hp
      rfl
    · obtain ⟨a, m, rfl⟩ := List.mem_map.mp hq
      obtain ⟨P, h1, h2⟩ := hp a m
      have : pyd (f a.2) = P := by unfold pyd; rw [h1]; rfl
      rw [this]
      simp only [PyData.depth, PyData.depthAll]
      omega
  have e3 : D.mutL (l.map fun r => D.tup [.int r.1, f r.2]) = false := mutL_map fun r m => by
    simp only [D.mut, D.mutL, hm r m, Bool.or_self]
  have e4 : (l.map fun r => D.tup [.int r.1, f r.2]).mergeSort leD = (l.mergeSort fun a b => decide (a.1 ≤ b.1)).map fun r => D.tup [.int r.1, f r.2] := by
    refine (List.map_mergeSort (f := fun r : Int × α => D.tup [.int r.1, f r.2]) (r := fun a b => decide (a.1 ≤ b.1)) (s := leD) fun a m b m' => ?_).symm
    have ea : pyd (.tup [.int a.1, f a.2]) = .tuple [.int a.1, pyd (f a.2)] := by
      show (D.py _).getD .none = _
      rw [hpy a m]; rfl
    have eb : pyd (.tup [.int b.1, f b.2]) = .tuple [.int b.1, pyd (f b.2)] := by
      show (D.py _).getD .none = _
      rw [hpy b m']; rfl
    show decide (a.1 ≤ b.1) = !PySem.W.dataLt (pyd _) (pyd _)
    rw [ea, eb, PySem.W.dataLt_pair (by simp [PySem.W.alike]) (ha b m' a m), PySem.W.dataLt_int]
    by_cases e : a.1 = b.1
    · have eab : a = b := by
        clear ea eb e3 e2 al e1 hpy ha hp hm hl
        induction l with
        | nil => cases m
        | cons r l ih =>
          rw [List.map_cons, List.nodup_cons] at hn
          rcases List.mem_cons.mp m with h1 | h1
          · rcases List.mem_cons.mp m' with h2 | h2
            · rw [h1, h2]
            · exact absurd (List.mem_map.mpr ⟨b, h2, by rw [← e, h1]⟩) hn.1
          · rcases List.mem_cons.mp m' with h2 | h2
            · exact absurd (List.mem_map.mpr ⟨a, h1, by rw [e, h2]⟩) hn.1
            · exact ih hn.2 h1 h2
      subst eab
      have er : PyData.eqv (pyd (f a.2)) (pyd (f a.2)) = true := PySem.W.eqv_refl_alike _ (ha a m a m)
      simp [PyData.eqv, er]
    · have e2 : (PyData.eqv (PyData.int b.1) (.int a.1)) = false := by
        simp only [PyData.eqv]
        exact beq_eq_false_iff_ne.mpr (Ne.symm e)
      rw [e2]
      simp only [Bool.false_eq_true, if_false]
      by_cases h : b.1 < a.1
      · rw [decide_eq_true h, decide_eq_false (by omega)]; rfl
      · rw [decide_eq_false h, decide_eq_true (by omega)]; rfl
  unfold sortX
  rw [e1, Option.bind_some, if_pos ⟨e2, e3, by rw [List.length_map]; exact Nat.le_trans hl (by decide)⟩, e4]
/-- a tuple of ints -/
def tupI (l : List Int) : D := .tup (l.map .int)
theorem tupI_mut {l : List Int} : (tupI l).mut = false := by
  show D.mutL _ = false
  exact mutL_map fun _ _ => rfl
theorem pyL_ints {l : List Int} : D.pyL (l.map D.int) = some (l.map PyData.int) := by
  induction l with
  | nil => rfl
  | cons n ns ih => rw [List.map_cons, D.pyL, ih]; rfl
theorem py_tupI {l : List Int} : D.py (tupI l) = some (.tuple (l.map .int)) := by
  show (D.pyL _).map _ = _
  rw [pyL_ints]; rfl
/-- rows of an int and a tuple of ints -/
def rowD (r : Int × List Int) : D := .tup [.int r.1, tupI r.2]
theorem rowD_mut {r : Int × List Int} : (rowD r).mut = false := by
  simp [rowD, D.mut, D.mutL, tupI_mut]
theorem sortX_rowD {l : List (Int × List Int)} (hn : (l.map (·.1)).Nodup) (hl : l.length ≤ 1000000) : sortX (l.map rowD) = some (.lst ((l.mergeSort fun a b => decide (a.1 ≤ b.1)).map rowD)) := by
  refine sortX_rows (f := tupI) hn hl (fun _ _ => tupI_mut) (fun r _ => ⟨_, py_tupI, ?_⟩) fun r _ s _ => ?_
  · simp only [PyData.depth, PySem.W.depth_ints]; omega
  · unfold pyd
    rw [py_tupI, py_tupI]
    simp only [Option.getD_some, PySem.W.alike, PySem.W.alike_ints]
theorem op_sortedT {l : List (Int × List Int)} (hn : (l.map (·.1)).Nodup) (hl : l.length ≤ 1000000) : opD (.blt .sorted) [⟨p, .tup (l.map rowD)⟩] = some ⟨.own, .lst ((l.mergeSort fun a b => decide (a.1 ≤ b.1)).map rowD)⟩ := by
  show Option.map _ (sortX (l.map rowD)) = _
  rw [sortX_rowD hn hl]; rfl
theorem rd_dMo : rd (some (some ⟨.own, dM f l⟩)) = some ⟨.bor, dM f l⟩ := rd_mutO rfl
theorem rd_dMb : rd (some (some ⟨.bor, dM f l⟩)) = some ⟨.bor, dM f l⟩ := rd_mutB rfl
theorem rd_dMs : rd (some (some ⟨.shr, dM f l⟩)) = some ⟨.shr, dM f l⟩ := rd_mutS rfl
theorem nrm_dM : nrm p (dM f l) = ⟨p, dM f l⟩ := nrm_mut rfl
theorem nrm_lstI {l : List Int} : nrm p (lstI l) = ⟨p, lstI l⟩ := nrm_mut rfl
theorem mvd_dMo {pin : List Nat} {i : Nat} : mvd pin i ρ (some (some ⟨.own, dM f l⟩)) = if i ∈ pin then none else some (⟨.own, dM f l⟩, ρ.set i none) := rfl
theorem op_listM : opD (.blt .list) [⟨p, dM f l⟩] = some ⟨.own, .lst ((l.map (·.1)).map .int)⟩ := by
  show Option.map _ (some (D.lst _)) = _
  rw [List.map_map, List.map_map]; rfl
theorem dictF_bl {k : Int} {b : Bool} : dictF false [⟨p, .int k⟩, ⟨.own, .bl b⟩] = some ⟨.own, dM D.bl [(k, b)]⟩ := by
  have e : ([Sum.inl k] : List L2.Key).Nodup ∧ 1 ≤ 15 := ⟨by simp, by decide⟩
  show (if ([Sum.inl k] : List L2.Key).Nodup ∧ 1 ≤ 15 then some (⟨.own, .dK [(Sum.inl k, .bl b)]⟩ : FD) else none) = _
  rw [if_pos e]; rfl
theorem dictF_int {k i : Int} : dictF false [⟨p, .int k⟩, ⟨.own, .int i⟩] = some ⟨.own, dM D.int [(k, i)]⟩ := by
  have e : ([Sum.inl k] : List L2.Key).Nodup ∧ 1 ≤ 15 := ⟨by simp, by decide⟩
  show (if ([Sum.inl k] : List L2.Key).Nodup ∧ 1 ≤ 15 then some (⟨.own, .dK [(Sum.inl k, .int i)]⟩ : FD) else none) = _
  rw [if_pos e]; rfl
theorem dK_lstI {l : List (Int × List Int)} : D.dK (l.map fun x => (Sum.inl x.1, lstI x.2)) = dM lstI l := rfl
theorem dK_tupI {l : List (Int × List Int)} : D.dK (l.map fun x => (Sum.inl x.1, tupI x.2)) = dM tupI l := rfl
theorem dK_int {l : List (Int × Int)} : D.dK (l.map fun x => (Sum.inl x.1, D.int x.2)) = dM D.int l := rfl
theorem dK_bl {l : List (Int × Bool)} : D.dK (l.map fun x => (Sum.inl x.1, D.bl x.2)) = dM D.bl l := rfl
end
end B
/-! CC: texts of data (repr). -/
namespace B
open PySem PySem.Spec L2 PyProof.Rows
theorem strOk_app {a b : Str} (ha : PyData.strOk a = true) (hb : PyData.strOk b = true) : PyData.strOk (a ++ b) = true := by
  unfold PyData.strOk at ha hb ⊢
  show (a.cps ++ b.cps).all _ = true
  rw [Array.all_append, ha, hb]; rfl
theorem strOk_join {sep : Str} (hs : PyData.strOk sep = true) : ∀ ts : List Str, (∀ t ∈ ts, PyData.strOk t = true) → PyData.strOk (Str.join sep ts) = true
  | [], _ => (show PyData.strOk Str.empty = true by decide +kernel)
  | [t], h => h t (by simp)
  | t :: u :: ts, h => by
    show PyData.strOk (t ++ sep ++ Str.join sep (u :: ts)) = true
    exact strOk_app (strOk_app (h t (by simp)) hs) (strOk_join hs (u :: ts) fun x m => h x (List.mem_cons_of_mem _ m))
/-- a tree whose text is short: k its depth, m its weight -/
def Shw (d : D) (k m : Nat) : Prop := ∃ p, D.py d = some p ∧ p.showable = true ∧ p.hasDict = false ∧ p.depth ≤ k ∧ p.leavesShort 30 = true ∧ PyData.strOk p.shown = true ∧ p.weight ≤ m
theorem Shw.mono {d : D} {k k' m m' : Nat} (h : Shw d k m) (hk : k ≤ k') (hm : m ≤ m') : Shw d k' m' := by
  obtain ⟨p, h1, h2, h3, h4, h5, h6, h7⟩ := h
  exact ⟨p, h1, h2, h3, Nat.le_trans h4 hk, h5, h6, Nat.le_trans h7 hm⟩
theorem Shw.non : Shw .non 0 0 := ⟨.none, rfl, rfl, rfl, Nat.le_refl _, rfl, by decide +kernel, Nat.le_refl _⟩
theorem Shw.bl {b : Bool} : Shw (.bl b) 0 0 := ⟨.bool b, rfl, rfl, rfl, Nat.le_refl _, rfl, by cases b <;> decide +kernel, Nat.le_refl _⟩
theorem Shw.int {i : Int} (h1 : -18446744073709551616 ≤ i) (h2 : i ≤ 18446744073709551616) : Shw (.int i) 0 80 := by
  have k : ∀ n : Nat, n ≤ 18446744073709551616 → n.repr.length ≤ 28 := fun n h => (Nat.length_repr_le_iff (by decide)).mpr (Nat.lt_of_le_of_lt h (by decide +kernel))
  have lg : i.natAbs.log2 ≤ 64 := by
    by_cases z : i.natAbs = 0
    · rw [z]; decide
    · have := (Nat.log2_lt z (k := 65)).mpr (by omega)
      omega
  have tl : (toString i).length ≤ 30 := by
    cases i with
    | ofNat m =>
      have := k m (by have : ((m : Nat) : Int) ≤ 18446744073709551616 := h2; omega)
      show (Nat.repr m).length ≤ 30
      omega
    | negSucc m =>
      have := k (m + 1) (by omega)
      show ("-" ++ Nat.repr (m + 1)).length ≤ 30
      rw [String.length_append]
      have : "-".length = 1 := by decide
      omega
  refine ⟨.int i, rfl, decide_eq_true (by omega), rfl, Nat.zero_le _, decide_eq_true ?_, strOk_lit, ?_⟩
  · show (Str.ofString (toString i)).length ≤ 30
    have : (Str.ofString (toString i)).length = (toString i).length := by
      rw [Str.ofString_eq_toList, SX.S_len, List.length_map, String.length_toList]
    rw [this]
    exact tl
  · show (if (i == 0) = true then 0 else i.natAbs.log2 + 1) ≤ 80
    split <;> omega
def shwS (s : Str) : Bool := PyData.strOk (reprText s) && s.cps.toList.all fun c => decide (c < 16 ^ 8)
theorem Shw.str {s : Str} (h : shwS s = true) : Shw (.str s) 0 s.length := by
  unfold shwS at h
  rw [Bool.and_eq_true] at h
  exact ⟨.str s, rfl, rfl, rfl, Nat.le_refl _, h.2, h.1, Nat.le_refl _⟩
theorem Shw.all {k m : Nat} : ∀ xs : List D, (∀ x ∈ xs, Shw x k m) → ∃ ps, D.pyL xs = some ps ∧ PyData.showableAll ps = true ∧ PyData.hasDictAll ps = false ∧ PyData.depthAll ps ≤ k ∧ PyData.leavesShortAll 30 ps = true ∧ (∀ t ∈ PyData.shownAll ps, PyData.strOk t = true) ∧ PyData.weightAll ps ≤ xs.length * (m + 1)
  | [], _ => ⟨[], rfl, rfl, rfl, Nat.zero_le _, rfl, (fun t m => by cases m), Nat.zero_le _⟩
  | x :: xs, h => by
    obtain ⟨p, h1, h2, h3, h4, h5, h6, h7⟩ := h x (by simp)
    obtain ⟨ps, k1, k2, k3, k4, k5, k6, k7⟩ := Shw.all xs fun y m => h y (List.mem_cons_of_mem _ m)
    refine ⟨p :: ps, by simp only [D.pyL, h1, k1, Option.bind_some, Option.map_some], by simp only [PyData.showableAll, h2, k2, Bool.and_self], by simp only [PyData.hasDictAll, h3, k3, Bool.or_self], ?_, by simp only [PyData.leavesShortAll, h5, k5, Bool.and_self], fun t m => ?_, ?_⟩
    · show max (PyData.depth p) (PyData.depthAll ps) ≤ k
      omega
    · rcases List.mem_cons.mp m with rfl | m
      · exact h6
      · exact k6 t m
    · show p.weight + 1 + PyData.weightAll ps ≤ (xs.length + 1) * (m + 1)
      rw [Nat.succ_mul]
      omega
theorem Shw.tup {k m l : Nat} {xs : List D} (hl : xs.length ≤ l) (h : ∀ x ∈ xs, Shw x k m) : Shw (.tup xs) (k + 1) (l * (m + 1)) := by
  obtain ⟨ps, k1, k2, k3, k4, k5, k6, k7⟩ := Shw.all xs h
  refine ⟨.tuple ps, by simp only [D.py, k1, Option.map_some], k2, k3, ?_, k5, ?_, Nat.le_trans k7 (Nat.mul_le_mul_right _ hl)⟩
  · show PyData.depthAll ps + 1 ≤ k + 1
    omega
  · show PyData.strOk (tupleText (PyData.shownAll ps)) = true
    unfold tupleText
    refine strOk_app (strOk_app strOk_lit (strOk_join strOk_lit _ k6)) ?_
    exact strOk_lit
/-- repr answers a text, which is itself -/
theorem repr_shw {f : Fl} {xs : List D} {k m : Nat} (h : Shw (.tup xs) k m) (hk : k ≤ 50) (hm : m ≤ 500000) : ∃ s, (∀ f : Fl, opD (.blt .repr) [⟨f, .tup xs⟩] = some ⟨.own, .str s⟩) ∧ cmpD .Eq (.str s) (.str s) = some true ∧ cmpD .NotEq (.str s) (.str s) = some false := by
  obtain ⟨p, h1, h2, h3, h4, h5, h6, h7⟩ := h
  have sl : p.shown.length ≤ sizeLine := by
    have := PyData.shown_le 30 (by decide) p h5
    have : p.shown.length ≤ 32 * 500000 + 30 := Nat.le_trans this (by omega)
    exact Nat.le_trans this (by decide)
  have e : cmpD .Eq (.str p.shown) (.str p.shown) = some true := deq_fit (k := 0) (by unfold D.fit; exact h6) (by decide)
  refine ⟨p.shown, fun f => ?_, e, ?_⟩
  · show (bltD .repr [.tup xs]).map _ = _
    have : bltD .repr [.tup xs] = some (.str p.shown) := by
      show (D.py (.tup xs)).bind _ = _
      rw [h1, Option.bind_some, if_pos ⟨h2, h3, Nat.le_trans h4 hk, sl⟩]
    rw [this]; rfl
  · show (deq _ _).map _ = _
    have e : deq (.str p.shown) (.str p.shown) = some true := e
    rw [e]; rfl
end B
namespace B.k16
open PySem PySem.Spec L2 PyProof.Rows
def fuel : Nat := 1000000
/-- with_object: 0 memory, 1 number, 2 item -/
def s_p_with_object_0 : S := .ret (.op (.bin .Add) [.op (.bin .Add) [.op (.sl false true) [.var 0, .var 1], .tup [.mv 2]], .op (.sl true false) [.var 0, .op (.bin .Add) [.var 1, .cst (.int 1)]]])
def b_p_with_object : List S := [s_p_with_object_0]
def e_p_with_object : Ent := ⟨"with_object", ["memory", "number", "item"], ["memory", "number", "item"], ⟨3, 3, [], b_p_with_object⟩⟩
theorem np_p_with_object : e_p_with_object.df.np = 3 := rfl
theorem ns_p_with_object : e_p_with_object.df.ns = 3 := rfl
theorem ios_p_with_object : e_p_with_object.df.io = [] := rfl
theorem body_p_with_object : e_p_with_object.df.body = [s_p_with_object_0] := rfl
/-- add_object: 0 memory, 1 sort, 2 cells -/
def s_p_add_object_0 : S := .ret (.tup [.op (.bin .Add) [.var 0, .tup [.tup [.mv 1, .cst (.bl true), .op (.blt .tuple) [.var 2]]]], .tup [.cst (.str "at"), .op (.blt .len) [.var 0], .cst (.int 0)]])
def b_p_add_object : List S := [s_p_add_object_0]
def e_p_add_object : Ent := ⟨"add_object", ["memory", "sort", "cells"], ["memory", "sort", "cells"], ⟨3, 3, [], b_p_add_object⟩⟩
theorem np_p_add_object : e_p_add_object.df.np = 3 := rfl
theorem ns_p_add_object : e_p_add_object.df.ns = 3 := rfl
theorem ios_p_add_object : e_p_add_object.df.io = [] := rfl
theorem body_p_add_object : e_p_add_object.df.body = [s_p_add_object_0] := rfl
/-- end_life: 0 memory, 1 number, 2 sort, 3 _, 4 cells -/
def s_p_end_life_0 : S := .asgT [2, 3, 4] (.op .ix [.var 0, .var 1])
def s_p_end_life_1 : S := .ret (.call 0 [.var 0, .var 1, .tup [.mv 2, .cst (.bl false), .mv 4]])
def b_p_end_life : List S := [s_p_end_life_0, s_p_end_life_1]
def e_p_end_life : Ent := ⟨"end_life", ["memory", "number", "sort", "_", "cells"], ["memory", "number"], ⟨2, 5, [], b_p_end_life⟩⟩
theorem np_p_end_life : e_p_end_life.df.np = 2 := rfl
theorem ns_p_end_life : e_p_end_life.df.ns = 5 := rfl
theorem ios_p_end_life : e_p_end_life.df.io = [] := rfl
theorem body_p_end_life : e_p_end_life.df.body = [s_p_end_life_0, s_p_end_life_1] := rfl
/-- move_pointer: 0 pointer, 1 amount -/
def s_p_move_pointer_0 : S := .ite (.op (.cmp .Eq) [.var 0, .glob 0]) [.ret (.glob 0)] []
def s_p_move_pointer_1 : S := .ret (.tup [.cst (.str "at"), .op .ix [.var 0, .cst (.int 1)], .op (.bin .Mod) [.op (.bin .Add) [.op .ix [.var 0, .cst (.int 2)], .var 1], .op (.bin .Pow) [.cst (.int 2), .cst (.int 64)]]])
def b_p_move_pointer : List S := [s_p_move_pointer_0, s_p_move_pointer_1]
def e_p_move_pointer : Ent := ⟨"move_pointer", ["pointer", "amount"], ["pointer", "amount"], ⟨2, 2, [], b_p_move_pointer⟩⟩
theorem np_p_move_pointer : e_p_move_pointer.df.np = 2 := rfl
theorem ns_p_move_pointer : e_p_move_pointer.df.ns = 2 := rfl
theorem ios_p_move_pointer : e_p_move_pointer.df.io = [] := rfl
theorem body_p_move_pointer : e_p_move_pointer.df.body = [s_p_move_pointer_0, s_p_move_pointer_1] := rfl
/-- first_memory: 0 module, 1 memory, 2 _, 3 constant, 4 values -/
def s_p_first_memory_0 : S := .asg 1 (.tup [])
def w_p_first_memory_0 : List S := [.asgT [1, 2] (.call 1 [.var 1, .ife (.var 3) (.cst (.str "constant")) (.cst (.str "global")), .var 4])]
def s_p_first_memory_1 : S := .for_ (.tp [2, 3, 4]) .seq [.op .ix [.var 0, .cst (.int 0)]] w_p_first_memory_0
def s_p_first_memory_2 : S := .ret (.mv 1)
def b_p_first_memory : List S := [s_p_first_memory_0, s_p_first_memory_1, s_p_first_memory_2]
def e_p_first_memory : Ent := ⟨"first_memory", ["module", "memory", "_", "constant", "values"], ["module"], ⟨1, 5, [], b_p_first_memory⟩⟩
theorem np_p_first_memory : e_p_first_memory.df.np = 1 := rfl
theorem ns_p_first_memory : e_p_first_memory.df.ns = 5 := rfl
theorem ios_p_first_memory : e_p_first_memory.df.io = [] := rfl
theorem body_p_first_memory : e_p_first_memory.df.body = [s_p_first_memory_0, s_p_first_memory_1, s_p_first_memory_2] := rfl
/-- _law_draw: 0 _law_script, 1 _law_seed, 2 _law_cell -/
def s_l_draw_0 : S := .asg 1 (.cst (.int 7))
def w_l_draw_0 : List S := [.asg 1 (.op (.bin .Mod) [.op (.blt .int) [.op (.bin .Add) [.op (.bin .Add) [.op (.bin .Mult) [.var 1, .cst (.int 48271)], .op (.bin .Mod) [.op (.blt .abs) [.op (.blt .int) [.var 2]], .cst (.int 65521)]], .cst (.int 1)]], .cst (.int 2147483647)])]
def s_l_draw_1 : S := .for_ (.nm 2) .seq [.var 0] w_l_draw_0
def q_l_draw_1 : E := .op (.blt .abs) [.op (.blt .int) [.var 2]]
def s_l_draw_2 : S := .ret (.lst [.lc [2] .seq [.var 0] (.nm 2) [] q_l_draw_1, .op (.un .USub) [.cst (.int 1)], .cst (.int 0), .mv 1])
def b_l_draw : List S := [s_l_draw_0, s_l_draw_1, s_l_draw_2]
def e_l_draw : Ent := ⟨"_law_draw", ["_law_script", "_law_seed", "_law_cell"], ["_law_script"], ⟨1, 3, [], b_l_draw⟩⟩
theorem np_l_draw : e_l_draw.df.np = 1 := rfl
theorem ns_l_draw : e_l_draw.df.ns = 3 := rfl
theorem ios_l_draw : e_l_draw.df.io = [] := rfl
theorem body_l_draw : e_l_draw.df.body = [s_l_draw_0, s_l_draw_1, s_l_draw_2] := rfl
/-- _law_take: 0 _law_draw_here, 1 _law_many, 2 _law_found -/
def s_l_take_0 : S := .ite (.op (.cmp .Eq) [.op .ix [.var 0, .cst (.int 2)], .cst (.int 0)]) [.put 0 [] (.cst (.int 1)) (.op (.bin .Add) [.op .ix [.var 0, .cst (.int 1)], .cst (.int 1)]), .ite (.op (.cmp .Lt) [.op .ix [.var 0, .cst (.int 1)], .op (.blt .len) [.op .ix [.var 0, .cst (.int 0)]]]) [.put 0 [] (.cst (.int 2)) (.op .ix [.op .ix [.var 0, .cst (.int 0)], .op .ix [.var 0, .cst (.int 1)]])] [], .ite (.op (.cmp .Eq) [.op .ix [.var 0, .cst (.int 2)], .cst (.int 0)]) [.put 0 [] (.cst (.int 3)) (.op (.bin .Mod) [.op (.blt .int) [.op (.bin .Add) [.op (.bin .Mult) [.op .ix [.var 0, .cst (.int 3)], .cst (.int 48271)], .cst (.int 11)]], .cst (.int 2147483647)]), .put 0 [] (.cst (.int 2)) (.op .ix [.var 0, .cst (.int 3)])] []] []
def s_l_take_1 : S := .asg 2 (.op (.bin .Mod) [.op (.blt .int) [.op .ix [.var 0, .cst (.int 2)]], .var 1])
def s_l_take_2 : S := .put 0 [] (.cst (.int 2)) (.op (.bin .FloorDiv) [.op .ix [.var 0, .cst (.int 2)], .var 1])
def s_l_take_3 : S := .ret (.mv 2)
def b_l_take : List S := [s_l_take_0, s_l_take_1, s_l_take_2, s_l_take_3]
def e_l_take : Ent := ⟨"_law_take", ["_law_draw_here", "_law_many", "_law_found"], ["_law_draw_here", "_law_many"], ⟨2, 3, [0], b_l_take⟩⟩
theorem np_l_take : e_l_take.df.np = 2 := rfl
theorem ns_l_take : e_l_take.df.ns = 3 := rfl
theorem ios_l_take : e_l_take.df.io = [0] := rfl
theorem body_l_take : e_l_take.df.body = [s_l_take_0, s_l_take_1, s_l_take_2, s_l_take_3] := rfl
/-- _law_same: 0 _law_one, 1 _law_two, 2 _law_k -/
def q_l_same_0 : E := .call 7 [.op .ix [.var 0, .var 2], .op .ix [.var 1, .var 2]]
def s_l_same_0 : S := .ite (.bool true [.op (.blt (.isT "tuple")) [.var 0], .op (.blt (.isT "tuple")) [.var 1]]) [.ite (.op (.cmp .NotEq) [.op (.blt .len) [.var 0], .op (.blt .len) [.var 1]]) [.ret (.cst (.bl false))] [], .ret (.op (.blt .all) [.lc [2] .rng1 [.op (.blt .len) [.var 0]] (.nm 2) [] q_l_same_0])] []
def s_l_same_1 : S := .ite (.bool false [.op (.cmp .NotEq) [.op (.blt (.isT "bool")) [.var 0], .op (.blt (.isT "bool")) [.var 1]], .op (.cmp .NotEq) [.op (.blt (.isT "tuple")) [.var 0], .op (.blt (.isT "tuple")) [.var 1]]]) [.ret (.cst (.bl false))] []
def s_l_same_2 : S := .ret (.op (.cmp .Eq) [.var 0, .var 1])
def b_l_same : List S := [s_l_same_0, s_l_same_1, s_l_same_2]
def e_l_same : Ent := ⟨"_law_same", ["_law_one", "_law_two", "_law_k"], ["_law_one", "_law_two"], ⟨2, 3, [], b_l_same⟩⟩
theorem np_l_same : e_l_same.df.np = 2 := rfl
theorem ns_l_same : e_l_same.df.ns = 3 := rfl
theorem ios_l_same : e_l_same.df.io = [] := rfl
theorem body_l_same : e_l_same.df.body = [s_l_same_0, s_l_same_1, s_l_same_2] := rfl
/-- _law_bytes: 0 _law_draw_here, 1 _law_most, 2 _law_size, 3 _law_k -/
def s_l_bytes_0 : S := .asg 2 (.call 6 [.var 0, .op (.bin .Add) [.var 1, .cst (.int 1)]])
def q_l_bytes_0 : E := .call 6 [.var 0, .cst (.int 256)]
def s_l_bytes_1 : S := .ret (.op (.blt .tuple) [.lc [3] .rng1 [.var 2] (.nm 3) [] q_l_bytes_0])
def b_l_bytes : List S := [s_l_bytes_0, s_l_bytes_1]
def e_l_bytes : Ent := ⟨"_law_bytes", ["_law_draw_here", "_law_most", "_law_size", "_law_k"], ["_law_draw_here", "_law_most"], ⟨2, 4, [0], b_l_bytes⟩⟩
theorem np_l_bytes : e_l_bytes.df.np = 2 := rfl
theorem ns_l_bytes : e_l_bytes.df.ns = 4 := rfl
theorem ios_l_bytes : e_l_bytes.df.io = [0] := rfl
theorem body_l_bytes : e_l_bytes.df.body = [s_l_bytes_0, s_l_bytes_1] := rfl
/-- _law_deed: 0 _law_draw_here, 1 _law_memory, 2 _law_told, 3 _law_before, 4 _law_due, 5 _law_item, 6 _law_sort, 7 _law_cells, 8 _law_actual, 9 _law_number -/
def s_l_deed_0 : S := .asg 3 (.op (.blt .repr) [.var 1])
def q_l_deed_0 : E := .fr 5
def s_l_deed_1 : S := .asg 4 (.lc [5] .seq [.var 1] (.nm 5) [] q_l_deed_0)
def s_l_deed_2 : S := .ite (.bool false [.op (.cmp .Eq) [.var 1, .tup []], .op (.cmp .Eq) [.call 6 [.var 0, .cst (.int 2)], .cst (.int 0)]]) [.asg 6 (.op .ix [.lst [.cst (.str "heap"), .cst (.str "stack"), .cst (.str "global"), .cst (.str "constant")], .call 6 [.var 0, .cst (.int 4)]]), .asg 7 (.op (.bin .Add) [.tup [.call 6 [.var 0, .cst (.int 256)]], .call 8 [.var 0, .cst (.int 40)]]), .expr (.mut 4 [] .append [.tup [.fr 6, .cst (.bl true), .fr 7]]), .asg 8 (.call 1 [.var 1, .var 6, .var 7]), .ite (.not_ (.call 7 [.var 8, .tup [.op (.blt .tuple) [.var 4], .tup [.cst (.str "at"), .op (.blt .len) [.var 1], .cst (.int 0)]]])) [.expr (.mut 2 [] .append [.cst (.bl false)])] []] [.asg 9 (.call 6 [.var 0, .op (.blt .len) [.var 1]]), .put 4 [] (.var 9) (.tup [.op .ix [.op .ix [.var 4, .var 9], .cst (.int 0)], .cst (.bl false), .op .ix [.op .ix [.var 4, .var 9], .cst (.int 2)]]), .ite (.not_ (.call 7 [.call 2 [.var 1, .var 9], .op (.blt .tuple) [.var 4]])) [.expr (.mut 2 [] .append [.cst (.bl false)])] []]
def s_l_deed_3 : S := .ite (.op (.cmp .NotEq) [.op (.blt .repr) [.var 1], .var 3]) [.expr (.mut 2 [] .append [.cst (.bl false)])] []
def s_l_deed_4 : S := .ret (.op (.blt .tuple) [.var 4])
def b_l_deed : List S := [s_l_deed_0, s_l_deed_1, s_l_deed_2, s_l_deed_3, s_l_deed_4]
def e_l_deed : Ent := ⟨"_law_deed", ["_law_draw_here", "_law_memory", "_law_told", "_law_before", "_law_due", "_law_item", "_law_sort", "_law_cells", "_law_actual", "_law_number"], ["_law_draw_here", "_law_memory", "_law_told"], ⟨3, 10, [0, 2], b_l_deed⟩⟩
theorem np_l_deed : e_l_deed.df.np = 3 := rfl
theorem ns_l_deed : e_l_deed.df.ns = 10 := rfl
theorem ios_l_deed : e_l_deed.df.io = [0, 2] := rfl
theorem body_l_deed : e_l_deed.df.body = [s_l_deed_0, s_l_deed_1, s_l_deed_2, s_l_deed_3, s_l_deed_4] := rfl
/-- _law_moves: 0 _law_draw_here, 1 _law_amount, 2 _law_offset, 3 _law_number, 4 _law_due -/
def s_l_moves_0 : S := .asg 1 (.op .ix [.lst [.cst (.int 0), .cst (.int 1), .op (.un .USub) [.cst (.int 1)], .op (.bin .Pow) [.cst (.int 2), .cst (.int 63)], .op (.bin .Add) [.op (.bin .Pow) [.cst (.int 2), .cst (.int 64)], .cst (.int 5)], .call 6 [.var 0, .op (.bin .Pow) [.cst (.int 2), .cst (.int 61)]], .op (.un .USub) [.call 6 [.var 0, .op (.bin .Pow) [.cst (.int 2), .cst (.int 61)]]]], .call 6 [.var 0, .cst (.int 7)]])
def s_l_moves_1 : S := .asg 2 (.op .ix [.lst [.cst (.int 0), .cst (.int 9), .op (.bin .Sub) [.op (.bin .Pow) [.cst (.int 2), .cst (.int 64)], .cst (.int 1)], .call 6 [.var 0, .op (.bin .Pow) [.cst (.int 2), .cst (.int 61)]]], .call 6 [.var 0, .cst (.int 4)]])
def s_l_moves_2 : S := .asg 3 (.call 6 [.var 0, .cst (.int 7)])
def s_l_moves_3 : S := .asg 4 (.tup [.cst (.str "at"), .fr 3, .op (.bin .Mod) [.op (.blt .int) [.op (.bin .Add) [.var 2, .var 1]], .op (.bin .Pow) [.cst (.int 2), .cst (.int 64)]]])
def s_l_moves_4 : S := .ite (.not_ (.call 7 [.call 3 [.tup [.cst (.str "at"), .mv 3, .mv 2], .var 1], .var 4])) [.ret (.cst (.bl false))] []
def s_l_moves_5 : S := .ret (.op (.cmp .Eq) [.call 3 [.tup [.cst (.str "null")], .var 1], .tup [.cst (.str "null")]])
def b_l_moves : List S := [s_l_moves_0, s_l_moves_1, s_l_moves_2, s_l_moves_3, s_l_moves_4, s_l_moves_5]
def e_l_moves : Ent := ⟨"_law_moves", ["_law_draw_here", "_law_amount", "_law_offset", "_law_number", "_law_due"], ["_law_draw_here"], ⟨1, 5, [0], b_l_moves⟩⟩
theorem np_l_moves : e_l_moves.df.np = 1 := rfl
theorem ns_l_moves : e_l_moves.df.ns = 5 := rfl
theorem ios_l_moves : e_l_moves.df.io = [0] := rfl
theorem body_l_moves : e_l_moves.df.body = [s_l_moves_0, s_l_moves_1, s_l_moves_2, s_l_moves_3, s_l_moves_4, s_l_moves_5] := rfl
/-- law: 0 _law_script, 1 _law_draw_here, 2 _law_memory, 3 _law_told, 4 _law_turn, 5 _law_globs, 6 _law_due, 7 _law_k, 8 _law_fixed, 9 _law_values, 10 _law_module -/
def s_law_0 : S := .asg 1 (.call 5 [.var 0])
def s_law_1 : S := .asg 2 (.tup [])
def s_law_2 : S := .asg 3 (.lst [])
def w_law_0_0 : S := .asg 2 (.call 9 [.var 1, .var 2, .var 3])
def w_law_0_1 : S := .ite (.bool false [.op (.cmp .NotEq) [.var 3, .lst []], .not_ (.call 10 [.var 1])]) [.ret (.cst (.bl false))] []
def w_law_0 : List S := [w_law_0_0, w_law_0_1]
def s_law_3 : S := .for_ (.nm 4) .rng1 [.op (.bin .Add) [.cst (.int 1), .call 6 [.var 1, .cst (.int 10)]]] w_law_0
def s_law_4 : S := .asg 5 (.lst [])
def s_law_5 : S := .asg 6 (.lst [])
def w_law_4_0 : S := .asg 8 (.op (.cmp .Eq) [.call 6 [.var 1, .cst (.int 2)], .cst (.int 1)])
def w_law_4_1 : S := .asg 9 (.op (.bin .Add) [.tup [.cst (.int 7)], .call 8 [.var 1, .cst (.int 12)]])
def w_law_4_2 : S := .expr (.mut 5 [] .append [.tup [.op .ix [.lst [.cst (.str "g"), .cst (.str "b2"), .cst (.str "table")], .var 7], .fr 8, .fr 9]])
def w_law_4_3 : S := .expr (.mut 6 [] .append [.tup [.op .ix [.lst [.cst (.str "global"), .cst (.str "constant")], .op (.blt .int) [.var 8]], .cst (.bl true), .mv 9]])
def w_law_4 : List S := [w_law_4_0, w_law_4_1, w_law_4_2, w_law_4_3]
def s_law_6 : S := .for_ (.nm 7) .rng1 [.call 6 [.var 1, .cst (.int 4)]] w_law_4
def s_law_7 : S := .asg 10 (.tup [.op (.blt .tuple) [.var 5], .tup [.tup [.cst (.str "main"), .cst (.str "i32"), .cst (.bl false), .tup [.tup [.cst (.int 0), .tup [], .tup [], .tup [.cst (.str "stop"), .cst (.int 3)]]]]]])
def s_law_8 : S := .ret (.call 7 [.call 4 [.var 10], .op (.blt .tuple) [.var 6]])
def b_law : List S := [s_law_0, s_law_1, s_law_2, s_law_3, s_law_4, s_law_5, s_law_6, s_law_7, s_law_8]
def e_law : Ent := ⟨"law", ["_law_script", "_law_draw_here", "_law_memory", "_law_told", "_law_turn", "_law_globs", "_law_due", "_law_k", "_law_fixed", "_law_values", "_law_module"], ["_law_script"], ⟨1, 11, [], b_law⟩⟩
theorem np_law : e_law.df.np = 1 := rfl
theorem ns_law : e_law.df.ns = 11 := rfl
theorem ios_law : e_law.df.io = [] := rfl
theorem body_law : e_law.df.body = [s_law_0, s_law_1, s_law_2, s_law_3, s_law_4, s_law_5, s_law_6, s_law_7, s_law_8] := rfl
def glv_0 : D := .tup [.str "null"]
def gls : List (Str × D) := [("NULL", glv_0)]
def gds : List (Str × List (Str × D)) := []
def pg : Pg := ⟨[e_p_with_object.df, e_p_add_object.df, e_p_end_life.df, e_p_move_pointer.df, e_p_first_memory.df, e_l_draw.df, e_l_take.df, e_l_same.df, e_l_bytes.df, e_l_deed.df, e_l_moves.df, e_law.df], [glv_0], []⟩
def nos : List Str := ["abs", "all", "bool", "int", "isinstance", "len", "range", "repr", "tuple"]
def names : List PySem.Str := (["NULL", "with_object", "add_object", "end_life", "move_pointer", "first_memory", "_law_draw", "_law_take", "_law_same", "_law_bytes", "_law_deed", "_law_moves"] : List PySem.Str)
theorem io_p_with_object {n : Nat} : (ctxN pg fuel n).io 0 = [] := by cases n <;> rfl
theorem call_p_with_object {n : Nat} (h : 1 ≤ n) {args : List FD} : (ctxN pg fuel n).call 0 args = runD (ctxN pg fuel (n - 1)) e_p_with_object.df args := by
  obtain ⟨n, rfl⟩ : ∃ j, n = j + 1 := ⟨n - 1, by omega⟩
  rfl
theorem io_p_add_object {n : Nat} : (ctxN pg fuel n).io 1 = [] := by cases n <;> rfl
theorem call_p_add_object {n : Nat} (h : 1 ≤ n) {args : List FD} : (ctxN pg fuel n).call 1 args = runD (ctxN pg fuel (n - 1)) e_p_add_object.df args := by
  obtain ⟨n, rfl⟩ : ∃ j, n = j + 1 := ⟨n - 1, by omega⟩
  rfl
theorem io_p_end_life {n : Nat} : (ctxN pg fuel n).io 2 = [] := by cases n <;> rfl
theorem call_p_end_life {n : Nat} (h : 1 ≤ n) {args : List FD} : (ctxN pg fuel n).call 2 args = runD (ctxN pg fuel (n - 1)) e_p_end_life.df args := by
  obtain ⟨n, rfl⟩ : ∃ j, n = j + 1 := ⟨n - 1, by omega⟩
  rfl
theorem io_p_move_pointer {n : Nat} : (ctxN pg fuel n).io 3 = [] := by cases n <;> rfl
theorem call_p_move_pointer {n : Nat} (h : 1 ≤ n) {args : List FD} : (ctxN pg fuel n).call 3 args = runD (ctxN pg fuel (n - 1)) e_p_move_pointer.df args := by
  obtain ⟨n, rfl⟩ : ∃ j, n = j + 1 := ⟨n - 1, by omega⟩
  rfl
theorem io_p_first_memory {n : Nat} : (ctxN pg fuel n).io 4 = [] := by cases n <;> rfl
theorem call_p_first_memory {n : Nat} (h : 1 ≤ n) {args : List FD} : (ctxN pg fuel n).call 4 args = runD (ctxN pg fuel (n - 1)) e_p_first_memory.df args := by
  obtain ⟨n, rfl⟩ : ∃ j, n = j + 1 := ⟨n - 1, by omega⟩
  rfl
theorem io_l_draw {n : Nat} : (ctxN pg fuel n).io 5 = [] := by cases n <;> rfl
theorem call_l_draw {n : Nat} (h : 1 ≤ n) {args : List FD} : (ctxN pg fuel n).call 5 args = runD (ctxN pg fuel (n - 1)) e_l_draw.df args := by
  obtain ⟨n, rfl⟩ : ∃ j, n = j + 1 := ⟨n - 1, by omega⟩
  rfl
theorem io_l_take {n : Nat} : (ctxN pg fuel n).io 6 = [0] := by cases n <;> rfl
theorem call_l_take {n : Nat} (h : 1 ≤ n) {args : List FD} : (ctxN pg fuel n).call 6 args = runD (ctxN pg fuel (n - 1)) e_l_take.df args := by
  obtain ⟨n, rfl⟩ : ∃ j, n = j + 1 := ⟨n - 1, by omega⟩
  rfl
theorem io_l_same {n : Nat} : (ctxN pg fuel n).io 7 = [] := by cases n <;> rfl
theorem call_l_same {n : Nat} (h : 1 ≤ n) {args : List FD} : (ctxN pg fuel n).call 7 args = runD (ctxN pg fuel (n - 1)) e_l_same.df args := by
  obtain ⟨n, rfl⟩ : ∃ j, n = j + 1 := ⟨n - 1, by omega⟩
  rfl
theorem io_l_bytes {n : Nat} : (ctxN pg fuel n).io 8 = [0] := by cases n <;> rfl
theorem call_l_bytes {n : Nat} (h : 1 ≤ n) {args : List FD} : (ctxN pg fuel n).call 8 args = runD (ctxN pg fuel (n - 1)) e_l_bytes.df args := by
  obtain ⟨n, rfl⟩ : ∃ j, n = j + 1 := ⟨n - 1, by omega⟩
  rfl
theorem io_l_deed {n : Nat} : (ctxN pg fuel n).io 9 = [0, 2] := by cases n <;> rfl
theorem call_l_deed {n : Nat} (h : 1 ≤ n) {args : List FD} : (ctxN pg fuel n).call 9 args = runD (ctxN pg fuel (n - 1)) e_l_deed.df args := by
  obtain ⟨n, rfl⟩ : ∃ j, n = j + 1 := ⟨n - 1, by omega⟩
  rfl
theorem io_l_moves {n : Nat} : (ctxN pg fuel n).io 10 = [0] := by cases n <;> rfl
theorem call_l_moves {n : Nat} (h : 1 ≤ n) {args : List FD} : (ctxN pg fuel n).call 10 args = runD (ctxN pg fuel (n - 1)) e_l_moves.df args := by
  obtain ⟨n, rfl⟩ : ∃ j, n = j + 1 := ⟨n - 1, by omega⟩
  rfl
theorem io_law {n : Nat} : (ctxN pg fuel n).io 11 = [] := by cases n <;> rfl
theorem call_law {n : Nat} (h : 1 ≤ n) {args : List FD} : (ctxN pg fuel n).call 11 args = runD (ctxN pg fuel (n - 1)) e_law.df args := by
  obtain ⟨n, rfl⟩ : ∃ j, n = j + 1 := ⟨n - 1, by omega⟩
  rfl
theorem gl_0 {n : Nat} : (ctxN pg fuel n).glob 0 = some (.tup [.str "null"]) := by cases n <;> rfl
end B.k16
namespace B.k16
open PySem
local macro_rules | `(tactic| simp_arith [$xs,*]) => `(tactic| simp -implicitDefEqProofs (disch := first | (simp only [reduceCtorEq, false_implies, implies_true, imp_self, forall_const, IsEmpty.forall_iff]; done) | (simp -implicitDefEqProofs only [mu_nil, mu_cons, mu_int, mu_str, mu_bl, mu_non, mu_tup, mu_clst, mu_app, mutL_ints, Bool.or_self, Bool.or_false]; first | done | assumption | (simp -implicitDefEqProofs only [*, Bool.or_self, Bool.or_false]; done)) | omega | assumption | (simp -implicitDefEqProofs only [List.length_cons, List.length_nil, List.length_map, List.length_append, List.length_set, D.mutL, D.mut, mutL_ints, Bool.or_self, Nat.zero_add, Nat.reduceAdd]; done) | (simp only [List.length_cons, List.length_nil, List.length_map, List.length_append, List.length_set, List.length_reverse, List.length_take, List.length_drop, String.length_append, Nat.zero_add, Nat.reduceAdd]; omega)) only [↓x_nil, ↓x_cons, ↓x_asg, ↓x_asgS, ↓x_asgT, ↓x_par, ↓x_put, ↓x_aug, ↓x_expr, ↓x_sda, ↓x_ite, ↓x_for, ↓x_while, ↓x_ret, ↓x_retN, ↓x_brk, ↓x_cnt, ↓x_pass, ↓x_doc, ↓x_run, ↓y_var, ↓y_mv, ↓y_fr, ↓y_cst, ↓y_glob, ↓y_op, ↓y_tup, ↓y_lst, ↓y_call, ↓y_callD, ↓y_bool, ↓y_not, ↓y_ife, ↓y_chain, ↓y_mut, ↓y_lc, ↓y_dc, ↓y_dict, ↓y_kop, ↓b_nil, ↓b_one, ↓b_cons, ↓l_nil, ↓l_var, ↓l_mv, ↓l_fr, ↓l_cst, ↓l_glob, ↓l_op, ↓l_tup, ↓l_lst, ↓l_call, ↓l_bool, ↓l_not, ↓l_ife, ↓l_chain, ↓l_mut, ↓l_lc, ↓l_dict, ↓l_dc, ↓l_kop, ↓wq_bind, ↓wq_map, wq_some, seq_nx, seq_rt, seq_bk, seq_ct, ret_rt, ret_nx, par_2, asgT_t, cstF_non, cstF_bl, cstF_int, cstF_str, kop_ix, kop_in, kop_ni, kop_g1, look_nil, look_cons, wq_none, wq_ite, List.length_cons, List.length_nil, Nat.reduceAdd, if_true, List.map_cons, List.map_nil, Nat.reduceSub, List.replicate, List.cons_append, List.nil_append, Bool.false_eq_true, if_false, List.getElem?_cons_zero, List.getElem?_cons_succ, List.set_cons_zero, List.set_cons_succ, rd_int, rd_str, rd_bl, rd_non, rd_lo, rd_lb, rd_ls, rd_tup, rd_clst, nrm_int, nrm_str, nrm_bl, nrm_non, nrm_lst, nrm_tupF, nrm_clstF, mutL_ints, fin_no, fin_bl, fin_int, fin_lst, fin_clst, fin_tup, fin_non, boolD_bl', intD_int, mvd_int, mvd_str, mvd_bl, mvd_non, mvd_lo, mvd_ls, frd_int, frd_str, frd_bl, frd_non, frd_lo, frd_ls, stV_o, stV_s, putW_own, modP_nil, setD_lst, ixN_0, ixN_1, ixN_2, ixN_3, List.not_mem_nil, not_false_eq_true, op_add, op_sub, op_and, op_or, op_xor, op_addL, op_addS, op_neg, op_inv, op_cmp, op_ixl, op_ixt, op_ixc, op_len, op_lent, op_lenc, op_abs, op_int, op_max, op_min, op_list, op_tupleL, op_isi, op_isl, op_iss, op_ist, op_isn, op_isb, cmp_lt, cmp_le, cmp_gt, cmp_ge, cmp_ne, cmp_is, cmp_isnt, cmp_notin, deq_int, atI_0, atI_1, atI_2, atI_3, atI_4, atI_5, atI_6, atI_7, atI_last', reduceCtorEq, false_and, and_false, and_true, true_and, E.quiet, E.quiet.E.quietL, Bool.and_self, Bool.and_true, Bool.true_and, decide_eq_true_eq, decide_eq_false_iff_not, Bool.not_eq_true', Bool.not_eq_false', Option.map_some, Option.bind_some, Option.map_none, Option.bind_none, L2.CMul, L2.CDivW, L2.CPow, or_true, true_or, ne_eq, packF, List.isEmpty_nil, List.isEmpty_cons, not_true_eq_false, false_implies, true_implies, forall_const, List.head?_cons, Option.getD_some, Option.getD_none, and_self, or_self, List.mem_cons, or_false, false_or, Nat.reduceEqDiff, Nat.reduceLT, Nat.reduceLeDiff, Int.reducePow, Int.reduceNeg, Int.reduceLT, Int.reduceLE, Int.reduceMul, Int.reduceAdd, Int.reduceSub, Int.reduceToNat, Int.reduceEq, Nat.reducePow, Nat.reduceMul, Nat.reduceBEq, decide_true, decide_false, Bool.not_true, Bool.not_false, List.length_map, imp_self, List.length_append, List.length_set, List.contains_nil, List.elem_eq_mem, Nat.zero_add, bindT_nm, bindT_tp, bindVs_cons, bindVs_nil, clear_nil, clear_cons, cl1_own, cl1_shr, cl1_bor, cl1_none, lock_nil, lock_cons, lk1_own, lk1_bor, lk1_shr, unlock_nil, unlock_cons, ul1_own, ul1_bor, ul1_shr, ul1_none, ownAt_oa, oa_own, oa_shr, oa_bor, owned_nil, owned_one, wipe_nil, wipe_cons, rest_nil, rest_cons, pureAt_pa, pa_none, pa_int, pa_str, pa_bl, pa_non, slots_nm, slots_tp, itemF_own', itemF_bor', itemF_shr', Flow_nx, Flow_rt, it_lst, it_clst, it_tup, it_enum, lockVs_nil, lockVs_own, lockVs_shr, lockVs_bor, rootE, List.all_cons, List.all_nil, finsD, ioVars, leVars, lends, argSl, putBack, ownFin, leOk, List.nodup_cons, List.nodup_nil, Option.some.injEq, Bool.or_false, Bool.false_or, Bool.or_true, Bool.true_or, Bool.and_false, Bool.false_and, D.mut, rd_mutO, rd_mutB, rd_mutS, mvd_mut, deq_str, in_lst, in_clst, in_str, in_nilS, in_nilI, op_ixd, lookD_cons, String.reduceEq, dictF, unz, D.key, Sum.inr.injEq, Sum.inl.injEq, ofString_inj, not_or, isNone, op_mod', op_divO, op_mulL, op_mulR, op_shlO, op_shr', op_powO, it_rng1O, it_rng2O, szO, szO', atI_ints, atI_D, List.getD_cons_zero, List.getD_cons_succ, ixN_ok, deq_bl, beq_self_eq_true, getD_ints, mu_nil, mu_cons, mu_int, mu_str, mu_bl, mu_non, mu_tup, mu_clst, mu_lst, mu_app, rd_pure, mvd_pure, frd_pure, nrm_pureO, op_addT, op_maxD, op_minD, op_max1, op_min1, op_sorted, aug_add, aug_sub, op_bitlen, op_join, op_strI, op_strS, op_listT, op_listC, op_toT, op_fromT, op_toL, op_fromL, it_enumT, op_ixM, in_M, op_lenM, it_keysM, it_valsM, it_itemsM, set_M, op_dg1, op_dg2, op_sortedM, get_M, mod_M, op_rev, op_all, op_any, isb_bl, isntb_bl, key_int, mu_appO, op_isM, in_ints, in_intsT, deq_ints, deq_ints0, op_ixofI, it_keysTM, it_valsTM, it_itemsTM, sda_dM, op_sortedT, op_listM, rd_dMo, rd_dMb, rd_dMs, nrm_dM, nrm_lstI, mvd_dMo, dictF_bl, dictF_int, dK_lstI, dK_tupI, dK_int, dK_bl, Option.elim_some, Option.elim_none, List.take_succ_cons, List.take_zero, List.drop_succ_cons, List.drop_zero, kt_list_list, kt_list_tuple, kt_list_int, kt_list_str, kt_list_bool, kt_tuple_list, kt_tuple_tuple, kt_tuple_int, kt_tuple_str, kt_tuple_bool, kt_int_list, kt_int_tuple, kt_int_int, kt_int_str, kt_int_bool, kt_str_list, kt_str_tuple, kt_str_int, kt_str_str, kt_str_bool, kt_bool_list, kt_bool_tuple, kt_bool_int, kt_bool_str, kt_bool_bool, kt_NoneType_list, kt_NoneType_tuple, kt_NoneType_int, kt_NoneType_str, kt_NoneType_bool, io_p_with_object, io_p_add_object, io_p_end_life, io_p_move_pointer, io_p_first_memory, io_l_draw, io_l_take, io_l_same, io_l_bytes, io_l_deed, io_l_moves, io_law, gl_0, $xs,*])
theorem take_w {n : Nat} (hn : 1 ≤ n) {d : D} {m : Int} (h : WfD d) (hm : 0 < m) (hm2 : m < 18446744073709551616) : Wp ((ctxN pg fuel n).call 6 [⟨.own, d⟩, ⟨.own, .int m⟩]) fun r => ∃ v d', r = (⟨.own, .int v⟩, [some ⟨.own, d'⟩, some ⟨.own, .int m⟩]) ∧ 0 ≤ v ∧ v < m ∧ WfD d' ∧ d'.mut = true := by
  obtain ⟨v, d', e, h1, h2, h3⟩ := take_ok (ctxN pg fuel (n - 1)) h hm (by
    have : m.natAbs.log2 < 64 := (Nat.log2_lt (by omega)).mpr (by omega)
    omega)
  rw [call_l_take hn]
  exact ⟨_, e, v, d', rfl, h1, h2, h3, h3.mut⟩
theorem draw_w {n : Nat} (hn : 1 ≤ n) (ns : List Int) (h : ns.length ≤ 63) : Wp ((ctxN pg fuel n).call 5 [⟨.own, .clst (ns.map .int)⟩]) fun r => ∃ d, r = (⟨.own, d⟩, [some ⟨.own, .clst (ns.map .int)⟩]) ∧ WfD d ∧ d.mut = true := by
  obtain ⟨d, e, k⟩ := draw_ok (ctxN pg fuel (n - 1)) ns h
  rw [call_l_draw hn]
  exact ⟨_, e, d, rfl, k, k.mut⟩

end B.k16
namespace B.k16
open PySem
local macro_rules | `(tactic| simp_arith [$xs,*]) => `(tactic| simp -implicitDefEqProofs (disch := first | (simp only [reduceCtorEq, false_implies, implies_true, imp_self, forall_const, IsEmpty.forall_iff]; done) | (simp -implicitDefEqProofs only [mu_nil, mu_cons, mu_int, mu_str, mu_bl, mu_non, mu_tup, mu_clst, mu_app, mutL_ints, Bool.or_self, Bool.or_false]; first | done | assumption | (simp -implicitDefEqProofs only [*, Bool.or_self, Bool.or_false]; done)) | omega | assumption | (simp -implicitDefEqProofs only [List.length_cons, List.length_nil, List.length_map, List.length_append, List.length_set, D.mutL, D.mut, mutL_ints, Bool.or_self, Nat.zero_add, Nat.reduceAdd]; done) | (simp only [List.length_cons, List.length_nil, List.length_map, List.length_append, List.length_set, List.length_reverse, List.length_take, List.length_drop, String.length_append, Nat.zero_add, Nat.reduceAdd]; omega)) only [↓x_nil, ↓x_cons, ↓x_asg, ↓x_asgS, ↓x_asgT, ↓x_par, ↓x_put, ↓x_aug, ↓x_expr, ↓x_sda, ↓x_ite, ↓x_for, ↓x_while, ↓x_ret, ↓x_retN, ↓x_brk, ↓x_cnt, ↓x_pass, ↓x_doc, ↓x_run, ↓y_var, ↓y_mv, ↓y_fr, ↓y_cst, ↓y_glob, ↓y_op, ↓y_tup, ↓y_lst, ↓y_call, ↓y_callD, ↓y_bool, ↓y_not, ↓y_ife, ↓y_chain, ↓y_mut, ↓y_lc, ↓y_dc, ↓y_dict, ↓y_kop, ↓b_nil, ↓b_one, ↓b_cons, ↓l_nil, ↓l_var, ↓l_mv, ↓l_fr, ↓l_cst, ↓l_glob, ↓l_op, ↓l_tup, ↓l_lst, ↓l_call, ↓l_bool, ↓l_not, ↓l_ife, ↓l_chain, ↓l_mut, ↓l_lc, ↓l_dict, ↓l_dc, ↓l_kop, ↓wq_bind, ↓wq_map, wq_some, seq_nx, seq_rt, seq_bk, seq_ct, ret_rt, ret_nx, par_2, asgT_t, cstF_non, cstF_bl, cstF_int, cstF_str, kop_ix, kop_in, kop_ni, kop_g1, look_nil, look_cons, wq_none, wq_ite, List.length_cons, List.length_nil, Nat.reduceAdd, if_true, List.map_cons, List.map_nil, Nat.reduceSub, List.replicate, List.cons_append, List.nil_append, Bool.false_eq_true, if_false, List.getElem?_cons_zero, List.getElem?_cons_succ, List.set_cons_zero, List.set_cons_succ, rd_int, rd_str, rd_bl, rd_non, rd_lo, rd_lb, rd_ls, rd_tup, rd_clst, nrm_int, nrm_str, nrm_bl, nrm_non, nrm_lst, nrm_tupF, nrm_clstF, mutL_ints, fin_no, fin_bl, fin_int, fin_lst, fin_clst, fin_tup, fin_non, boolD_bl', intD_int, mvd_int, mvd_str, mvd_bl, mvd_non, mvd_lo, mvd_ls, frd_int, frd_str, frd_bl, frd_non, frd_lo, frd_ls, stV_o, stV_s, putW_own, modP_nil, setD_lst, ixN_0, ixN_1, ixN_2, ixN_3, List.not_mem_nil, not_false_eq_true, op_add, op_sub, op_and, op_or, op_xor, op_addL, op_addS, op_neg, op_inv, op_cmp, op_ixl, op_ixt, op_ixc, op_len, op_lent, op_lenc, op_abs, op_int, op_max, op_min, op_list, op_tupleL, op_isi, op_isl, op_iss, op_ist, op_isn, op_isb, cmp_lt, cmp_le, cmp_gt, cmp_ge, cmp_ne, cmp_is, cmp_isnt, cmp_notin, deq_int, atI_0, atI_1, atI_2, atI_3, atI_4, atI_5, atI_6, atI_7, atI_last', reduceCtorEq, false_and, and_false, and_true, true_and, E.quiet, E.quiet.E.quietL, Bool.and_self, Bool.and_true, Bool.true_and, decide_eq_true_eq, decide_eq_false_iff_not, Bool.not_eq_true', Bool.not_eq_false', Option.map_some, Option.bind_some, Option.map_none, Option.bind_none, L2.CMul, L2.CDivW, L2.CPow, or_true, true_or, ne_eq, packF, List.isEmpty_nil, List.isEmpty_cons, not_true_eq_false, false_implies, true_implies, forall_const, List.head?_cons, Option.getD_some, Option.getD_none, and_self, or_self, List.mem_cons, or_false, false_or, Nat.reduceEqDiff, Nat.reduceLT, Nat.reduceLeDiff, Int.reducePow, Int.reduceNeg, Int.reduceLT, Int.reduceLE, Int.reduceMul, Int.reduceAdd, Int.reduceSub, Int.reduceToNat, Int.reduceEq, Nat.reducePow, Nat.reduceMul, Nat.reduceBEq, decide_true, decide_false, Bool.not_true, Bool.not_false, List.length_map, imp_self, List.length_append, List.length_set, List.contains_nil, List.elem_eq_mem, Nat.zero_add, bindT_nm, bindT_tp, bindVs_cons, bindVs_nil, clear_nil, clear_cons, cl1_own, cl1_shr, cl1_bor, cl1_none, lock_nil, lock_cons, lk1_own, lk1_bor, lk1_shr, unlock_nil, unlock_cons, ul1_own, ul1_bor, ul1_shr, ul1_none, ownAt_oa, oa_own, oa_shr, oa_bor, owned_nil, owned_one, wipe_nil, wipe_cons, rest_nil, rest_cons, pureAt_pa, pa_none, pa_int, pa_str, pa_bl, pa_non, slots_nm, slots_tp, itemF_own', itemF_bor', itemF_shr', Flow_nx, Flow_rt, it_lst, it_clst, it_tup, it_enum, lockVs_nil, lockVs_own, lockVs_shr, lockVs_bor, rootE, List.all_cons, List.all_nil, finsD, ioVars, leVars, lends, argSl, putBack, ownFin, leOk, List.nodup_cons, List.nodup_nil, Option.some.injEq, Bool.or_false, Bool.false_or, Bool.or_true, Bool.true_or, Bool.and_false, Bool.false_and, D.mut, rd_mutO, rd_mutB, rd_mutS, mvd_mut, deq_str, in_lst, in_clst, in_str, in_nilS, in_nilI, op_ixd, lookD_cons, String.reduceEq, dictF, unz, D.key, Sum.inr.injEq, Sum.inl.injEq, ofString_inj, not_or, isNone, op_mod', op_divO, op_mulL, op_mulR, op_shlO, op_shr', op_powO, it_rng1O, it_rng2O, szO, szO', atI_ints, atI_D, List.getD_cons_zero, List.getD_cons_succ, ixN_ok, deq_bl, beq_self_eq_true, getD_ints, mu_nil, mu_cons, mu_int, mu_str, mu_bl, mu_non, mu_tup, mu_clst, mu_lst, mu_app, rd_pure, mvd_pure, frd_pure, nrm_pureO, op_addT, op_maxD, op_minD, op_max1, op_min1, op_sorted, aug_add, aug_sub, op_bitlen, op_join, op_strI, op_strS, op_listT, op_listC, op_toT, op_fromT, op_toL, op_fromL, it_enumT, op_ixM, in_M, op_lenM, it_keysM, it_valsM, it_itemsM, set_M, op_dg1, op_dg2, op_sortedM, get_M, mod_M, op_rev, op_all, op_any, isb_bl, isntb_bl, key_int, mu_appO, op_isM, in_ints, in_intsT, deq_ints, deq_ints0, op_ixofI, it_keysTM, it_valsTM, it_itemsTM, sda_dM, op_sortedT, op_listM, rd_dMo, rd_dMb, rd_dMs, nrm_dM, nrm_lstI, mvd_dMo, dictF_bl, dictF_int, dK_lstI, dK_tupI, dK_int, dK_bl, Option.elim_some, Option.elim_none, List.take_succ_cons, List.take_zero, List.drop_succ_cons, List.drop_zero, kt_list_list, kt_list_tuple, kt_list_int, kt_list_str, kt_list_bool, kt_tuple_list, kt_tuple_tuple, kt_tuple_int, kt_tuple_str, kt_tuple_bool, kt_int_list, kt_int_tuple, kt_int_int, kt_int_str, kt_int_bool, kt_str_list, kt_str_tuple, kt_str_int, kt_str_str, kt_str_bool, kt_bool_list, kt_bool_tuple, kt_bool_int, kt_bool_str, kt_bool_bool, kt_NoneType_list, kt_NoneType_tuple, kt_NoneType_int, kt_NoneType_str, kt_NoneType_bool, io_p_with_object, io_p_add_object, io_p_end_life, io_p_move_pointer, io_p_first_memory, io_l_draw, io_l_take, io_l_same, io_l_bytes, io_l_deed, io_l_moves, io_law, gl_0, $xs,*])
theorem mutL_mem {xs : List D} (h : D.mutL xs = false) {x : D} (m : x ∈ xs) : x.mut = false := by
  induction xs with
  | nil => cases m
  | cons a l ih =>
    rw [mu_cons, Bool.or_eq_false_iff] at h
    rcases List.mem_cons.mp m with rfl | m
    · exact h.1
    · exact ih h.2 m
theorem same_w : ∀ (k : Nat) (d : D) {n : Nat}, D.fit k d = true → d.mut = false → k ≤ 60 → k + 1 ≤ n → Wp ((ctxN pg fuel n).call 7 [⟨.own, d⟩, ⟨.own, d⟩]) fun r => r.1 = ⟨.own, .bl true⟩ := by
  intro k
  induction k with
  | zero =>
    intro d n h hm hk hn
    have eq := deq_fit h (by omega)
    cases d with
    | non => (rw [call_l_same (by omega)]; refine wq_in ?_; simp_arith [np_l_same, body_l_same, ns_l_same, ios_l_same, q_l_same_0, s_l_same_0, s_l_same_1, s_l_same_2, eq])
    | bl b => (rw [call_l_same (by omega)]; refine wq_in ?_; simp_arith [np_l_same, body_l_same, ns_l_same, ios_l_same, q_l_same_0, s_l_same_0, s_l_same_1, s_l_same_2, eq])
    | int i => (rw [call_l_same (by omega)]; refine wq_in ?_; simp_arith [np_l_same, body_l_same, ns_l_same, ios_l_same, q_l_same_0, s_l_same_0, s_l_same_1, s_l_same_2, eq])
    | str s => (rw [call_l_same (by omega)]; refine wq_in ?_; simp_arith [np_l_same, body_l_same, ns_l_same, ios_l_same, q_l_same_0, s_l_same_0, s_l_same_1, s_l_same_2, eq])
    | _ => simp [D.fit] at h
  | succ k ih =>
    intro d n h hm hk hn
    have eq := deq_fit h (by omega)
    cases d with
    | non => (rw [call_l_same (by omega)]; refine wq_in ?_; simp_arith [np_l_same, body_l_same, ns_l_same, ios_l_same, q_l_same_0, s_l_same_0, s_l_same_1, s_l_same_2, eq])
    | bl b => (rw [call_l_same (by omega)]; refine wq_in ?_; simp_arith [np_l_same, body_l_same, ns_l_same, ios_l_same, q_l_same_0, s_l_same_0, s_l_same_1, s_l_same_2, eq])
    | int i => (rw [call_l_same (by omega)]; refine wq_in ?_; simp_arith [np_l_same, body_l_same, ns_l_same, ios_l_same, q_l_same_0, s_l_same_0, s_l_same_1, s_l_same_2, eq])
    | str s => (rw [call_l_same (by omega)]; refine wq_in ?_; simp_arith [np_l_same, body_l_same, ns_l_same, ios_l_same, q_l_same_0, s_l_same_0, s_l_same_1, s_l_same_2, eq])
    | tup xs =>
      have hx : xs.length ≤ 1000000 ∧ D.fitL k xs = true := by simpa [D.fit] using h
      have hm : D.mutL xs = false := hm
      (rw [call_l_same (by omega)]; refine wq_in ?_; simp_arith [np_l_same, body_l_same, ns_l_same, ios_l_same, s_l_same_0, hm])
      refine wq_lcR (st := fun (_ : Unit) => [some ⟨.own, .tup xs⟩, some ⟨.own, .tup xs⟩, none]) (J := fun j acc _ => acc = (List.replicate j true).map .bl) () rfl rfl ?_ ?_
      · rintro j acc _ hj rfl
        have hx2 : xs[j]? = some (xs.getD j .non) := getD_ok (by omega)
        have mx : xs.getD j .non ∈ xs := List.mem_of_getElem? hx2
        have fx := fitL_mem.mp hx.2 _ mx
        have xm : (xs.getD j .non).mut = false := mutL_mem hm mx
        have at_ : L2.atI xs (j : Int) = some (xs.getD j .non) := by rw [atI_nat', hx2]
        generalize xs.getD j .non = x at *
        simp_arith [np_l_same, body_l_same, ns_l_same, ios_l_same, q_l_same_0, at_, nrm_pureO xm, xm]
        refine wq_cut (ih x fx xm (by omega) (by omega)) ?_
        rintro ⟨_, fn⟩ rfl
        simp_arith [np_l_same, body_l_same, ns_l_same, ios_l_same]
        exact ⟨(), by rw [show D.bl true :: List.map D.bl (List.replicate j true) = List.map D.bl (List.replicate (j + 1) true) from rfl, List.replicate_succ', List.map_append]; rfl⟩
      rintro acc _ hacc
      rw [Int.toNat_natCast] at hacc
      subst hacc
      have al : (List.replicate xs.length true).all id = true := by simp
      have rl : (List.replicate xs.length true).length = xs.length := by simp
      simp_arith [np_l_same, body_l_same, ns_l_same, ios_l_same, al, rl]
    | lst xs => cases hm
    | clst xs =>
      have hm : D.mutL xs = false := hm
      have h1 : ∀ f : Fl, opD (.blt (.isT "tuple")) [⟨f, .clst xs⟩] = some ⟨.own, .bl false⟩ := fun f => by show ((L2.kitB "list" "tuple").map D.bl).map (fun d => (⟨.own, d⟩ : FD)) = _; rw [kt_list_tuple]; rfl
      have h2 : ∀ f : Fl, opD (.blt (.isT "bool")) [⟨f, .clst xs⟩] = some ⟨.own, .bl false⟩ := fun f => by show ((L2.kitB "list" "bool").map D.bl).map (fun d => (⟨.own, d⟩ : FD)) = _; rw [kt_list_bool]; rfl
      (rw [call_l_same (by omega)]; refine wq_in ?_; simp_arith [np_l_same, body_l_same, ns_l_same, ios_l_same, q_l_same_0, s_l_same_0, s_l_same_1, s_l_same_2, eq, h1, h2, hm])
    | _ => simp [D.fit] at h

end B.k16
namespace B.k16
open PySem
local macro_rules | `(tactic| simp_arith [$xs,*]) => `(tactic| simp -implicitDefEqProofs (disch := first | (simp only [reduceCtorEq, false_implies, implies_true, imp_self, forall_const, IsEmpty.forall_iff]; done) | (simp -implicitDefEqProofs only [mu_nil, mu_cons, mu_int, mu_str, mu_bl, mu_non, mu_tup, mu_clst, mu_app, mutL_ints, Bool.or_self, Bool.or_false]; first | done | assumption | (simp -implicitDefEqProofs only [*, Bool.or_self, Bool.or_false]; done)) | omega | assumption | (simp -implicitDefEqProofs only [List.length_cons, List.length_nil, List.length_map, List.length_append, List.length_set, D.mutL, D.mut, mutL_ints, Bool.or_self, Nat.zero_add, Nat.reduceAdd]; done) | (simp only [List.length_cons, List.length_nil, List.length_map, List.length_append, List.length_set, List.length_reverse, List.length_take, List.length_drop, String.length_append, Nat.zero_add, Nat.reduceAdd]; omega)) only [↓x_nil, ↓x_cons, ↓x_asg, ↓x_asgS, ↓x_asgT, ↓x_par, ↓x_put, ↓x_aug, ↓x_expr, ↓x_sda, ↓x_ite, ↓x_for, ↓x_while, ↓x_ret, ↓x_retN, ↓x_brk, ↓x_cnt, ↓x_pass, ↓x_doc, ↓x_run, ↓y_var, ↓y_mv, ↓y_fr, ↓y_cst, ↓y_glob, ↓y_op, ↓y_tup, ↓y_lst, ↓y_call, ↓y_callD, ↓y_bool, ↓y_not, ↓y_ife, ↓y_chain, ↓y_mut, ↓y_lc, ↓y_dc, ↓y_dict, ↓y_kop, ↓b_nil, ↓b_one, ↓b_cons, ↓l_nil, ↓l_var, ↓l_mv, ↓l_fr, ↓l_cst, ↓l_glob, ↓l_op, ↓l_tup, ↓l_lst, ↓l_call, ↓l_bool, ↓l_not, ↓l_ife, ↓l_chain, ↓l_mut, ↓l_lc, ↓l_dict, ↓l_dc, ↓l_kop, ↓wq_bind, ↓wq_map, wq_some, seq_nx, seq_rt, seq_bk, seq_ct, ret_rt, ret_nx, par_2, asgT_t, cstF_non, cstF_bl, cstF_int, cstF_str, kop_ix, kop_in, kop_ni, kop_g1, look_nil, look_cons, wq_none, wq_ite, List.length_cons, List.length_nil, Nat.reduceAdd, if_true, List.map_cons, List.map_nil, Nat.reduceSub, List.replicate, List.cons_append, List.nil_append, Bool.false_eq_true, if_false, List.getElem?_cons_zero, List.getElem?_cons_succ, List.set_cons_zero, List.set_cons_succ, rd_int, rd_str, rd_bl, rd_non, rd_lo, rd_lb, rd_ls, rd_tup, rd_clst, nrm_int, nrm_str, nrm_bl, nrm_non, nrm_lst, nrm_tupF, nrm_clstF, mutL_ints, fin_no, fin_bl, fin_int, fin_lst, fin_clst, fin_tup, fin_non, boolD_bl', intD_int, mvd_int, mvd_str, mvd_bl, mvd_non, mvd_lo, mvd_ls, frd_int, frd_str, frd_bl, frd_non, frd_lo, frd_ls, stV_o, stV_s, putW_own, modP_nil, setD_lst, ixN_0, ixN_1, ixN_2, ixN_3, List.not_mem_nil, not_false_eq_true, op_add, op_sub, op_and, op_or, op_xor, op_addL, op_addS, op_neg, op_inv, op_cmp, op_ixl, op_ixt, op_ixc, op_len, op_lent, op_lenc, op_abs, op_int, op_max, op_min, op_list, op_tupleL, op_isi, op_isl, op_iss, op_ist, op_isn, op_isb, cmp_lt, cmp_le, cmp_gt, cmp_ge, cmp_ne, cmp_is, cmp_isnt, cmp_notin, deq_int, atI_0, atI_1, atI_2, atI_3, atI_4, atI_5, atI_6, atI_7, atI_last', reduceCtorEq, false_and, and_false, and_true, true_and, E.quiet, E.quiet.E.quietL, Bool.and_self, Bool.and_true, Bool.true_and, decide_eq_true_eq, decide_eq_false_iff_not, Bool.not_eq_true', Bool.not_eq_false', Option.map_some, Option.bind_some, Option.map_none, Option.bind_none, L2.CMul, L2.CDivW, L2.CPow, or_true, true_or, ne_eq, packF, List.isEmpty_nil, List.isEmpty_cons, not_true_eq_false, false_implies, true_implies, forall_const, List.head?_cons, Option.getD_some, Option.getD_none, and_self, or_self, List.mem_cons, or_false, false_or, Nat.reduceEqDiff, Nat.reduceLT, Nat.reduceLeDiff, Int.reducePow, Int.reduceNeg, Int.reduceLT, Int.reduceLE, Int.reduceMul, Int.reduceAdd, Int.reduceSub, Int.reduceToNat, Int.reduceEq, Nat.reducePow, Nat.reduceMul, Nat.reduceBEq, decide_true, decide_false, Bool.not_true, Bool.not_false, List.length_map, imp_self, List.length_append, List.length_set, List.contains_nil, List.elem_eq_mem, Nat.zero_add, bindT_nm, bindT_tp, bindVs_cons, bindVs_nil, clear_nil, clear_cons, cl1_own, cl1_shr, cl1_bor, cl1_none, lock_nil, lock_cons, lk1_own, lk1_bor, lk1_shr, unlock_nil, unlock_cons, ul1_own, ul1_bor, ul1_shr, ul1_none, ownAt_oa, oa_own, oa_shr, oa_bor, owned_nil, owned_one, wipe_nil, wipe_cons, rest_nil, rest_cons, pureAt_pa, pa_none, pa_int, pa_str, pa_bl, pa_non, slots_nm, slots_tp, itemF_own', itemF_bor', itemF_shr', Flow_nx, Flow_rt, it_lst, it_clst, it_tup, it_enum, lockVs_nil, lockVs_own, lockVs_shr, lockVs_bor, rootE, List.all_cons, List.all_nil, finsD, ioVars, leVars, lends, argSl, putBack, ownFin, leOk, List.nodup_cons, List.nodup_nil, Option.some.injEq, Bool.or_false, Bool.false_or, Bool.or_true, Bool.true_or, Bool.and_false, Bool.false_and, D.mut, rd_mutO, rd_mutB, rd_mutS, mvd_mut, deq_str, in_lst, in_clst, in_str, in_nilS, in_nilI, op_ixd, lookD_cons, String.reduceEq, dictF, unz, D.key, Sum.inr.injEq, Sum.inl.injEq, ofString_inj, not_or, isNone, op_mod', op_divO, op_mulL, op_mulR, op_shlO, op_shr', op_powO, it_rng1O, it_rng2O, szO, szO', atI_ints, atI_D, List.getD_cons_zero, List.getD_cons_succ, ixN_ok, deq_bl, beq_self_eq_true, getD_ints, mu_nil, mu_cons, mu_int, mu_str, mu_bl, mu_non, mu_tup, mu_clst, mu_lst, mu_app, rd_pure, mvd_pure, frd_pure, nrm_pureO, op_addT, op_maxD, op_minD, op_max1, op_min1, op_sorted, aug_add, aug_sub, op_bitlen, op_join, op_strI, op_strS, op_listT, op_listC, op_toT, op_fromT, op_toL, op_fromL, it_enumT, op_ixM, in_M, op_lenM, it_keysM, it_valsM, it_itemsM, set_M, op_dg1, op_dg2, op_sortedM, get_M, mod_M, op_rev, op_all, op_any, isb_bl, isntb_bl, key_int, mu_appO, op_isM, in_ints, in_intsT, deq_ints, deq_ints0, op_ixofI, it_keysTM, it_valsTM, it_itemsTM, sda_dM, op_sortedT, op_listM, rd_dMo, rd_dMb, rd_dMs, nrm_dM, nrm_lstI, mvd_dMo, dictF_bl, dictF_int, dK_lstI, dK_tupI, dK_int, dK_bl, Option.elim_some, Option.elim_none, List.take_succ_cons, List.take_zero, List.drop_succ_cons, List.drop_zero, kt_list_list, kt_list_tuple, kt_list_int, kt_list_str, kt_list_bool, kt_tuple_list, kt_tuple_tuple, kt_tuple_int, kt_tuple_str, kt_tuple_bool, kt_int_list, kt_int_tuple, kt_int_int, kt_int_str, kt_int_bool, kt_str_list, kt_str_tuple, kt_str_int, kt_str_str, kt_str_bool, kt_bool_list, kt_bool_tuple, kt_bool_int, kt_bool_str, kt_bool_bool, kt_NoneType_list, kt_NoneType_tuple, kt_NoneType_int, kt_NoneType_str, kt_NoneType_bool, io_p_with_object, io_p_add_object, io_p_end_life, io_p_move_pointer, io_p_first_memory, io_l_draw, io_l_take, io_l_same, io_l_bytes, io_l_deed, io_l_moves, io_law, gl_0, $xs,*])
def sD (s : String) : D := .str (Str.ofString s)
structure Ob where
  sort : String
  alive : Bool
  cells : List Int
def Ob.toD (o : Ob) : D := .tup [sD o.sort, .bl o.alive, .tup (o.cells.map .int)]
theorem Ob.toD_mut (o : Ob) : o.toD.mut = false := by
  show D.mutL [sD o.sort, .bl o.alive, .tup (o.cells.map .int)] = false
  simp [mu_cons, mu_nil, mu_tup, mu_bl, mutL_ints, sD, mu_str]
theorem obs_mut (l : List Ob) : D.mutL (l.map Ob.toD) = false := mutL_map fun o _ => o.toD_mut
local macro_rules | `(tactic| simp_arith [$xs,*]) => `(tactic| simp -implicitDefEqProofs (disch := first | (simp only [reduceCtorEq, false_implies, implies_true, imp_self, forall_const, IsEmpty.forall_iff]; done) | (simp -implicitDefEqProofs only [mu_nil, mu_cons, mu_int, mu_str, mu_bl, mu_non, mu_tup, mu_clst, mu_app, mutL_ints, Bool.or_self, Bool.or_false, Ob.toD_mut, obs_mut]; first | done | assumption | (simp -implicitDefEqProofs only [*, Bool.or_self, Bool.or_false]; done)) | omega | assumption | (simp -implicitDefEqProofs only [List.length_cons, List.length_nil, List.length_map, List.length_append, List.length_set, D.mutL, D.mut, mutL_ints, Bool.or_self, Nat.zero_add, Nat.reduceAdd]; done) | (simp only [List.length_cons, List.length_nil, List.length_map, List.length_append, List.length_set, List.length_reverse, List.length_take, List.length_drop, String.length_append, Nat.zero_add, Nat.reduceAdd]; omega)) only [↓x_nil, ↓x_cons, ↓x_asg, ↓x_asgS, ↓x_asgT, ↓x_par, ↓x_put, ↓x_aug, ↓x_expr, ↓x_sda, ↓x_ite, ↓x_for, ↓x_while, ↓x_ret, ↓x_retN, ↓x_brk, ↓x_cnt, ↓x_pass, ↓x_doc, ↓x_run, ↓y_var, ↓y_mv, ↓y_fr, ↓y_cst, ↓y_glob, ↓y_op, ↓y_tup, ↓y_lst, ↓y_call, ↓y_callD, ↓y_bool, ↓y_not, ↓y_ife, ↓y_chain, ↓y_mut, ↓y_lc, ↓y_dc, ↓y_dict, ↓y_kop, ↓b_nil, ↓b_one, ↓b_cons, ↓l_nil, ↓l_var, ↓l_mv, ↓l_fr, ↓l_cst, ↓l_glob, ↓l_op, ↓l_tup, ↓l_lst, ↓l_call, ↓l_bool, ↓l_not, ↓l_ife, ↓l_chain, ↓l_mut, ↓l_lc, ↓l_dict, ↓l_dc, ↓l_kop, ↓wq_bind, ↓wq_map, wq_some, seq_nx, seq_rt, seq_bk, seq_ct, ret_rt, ret_nx, par_2, asgT_t, cstF_non, cstF_bl, cstF_int, cstF_str, kop_ix, kop_in, kop_ni, kop_g1, look_nil, look_cons, wq_none, wq_ite, List.length_cons, List.length_nil, Nat.reduceAdd, if_true, List.map_cons, List.map_nil, Nat.reduceSub, List.replicate, List.cons_append, List.nil_append, Bool.false_eq_true, if_false, List.getElem?_cons_zero, List.getElem?_cons_succ, List.set_cons_zero, List.set_cons_succ, rd_int, rd_str, rd_bl, rd_non, rd_lo, rd_lb, rd_ls, rd_tup, rd_clst, nrm_int, nrm_str, nrm_bl, nrm_non, nrm_lst, nrm_tupF, nrm_clstF, mutL_ints, fin_no, fin_bl, fin_int, fin_lst, fin_clst, fin_tup, fin_non, boolD_bl', intD_int, mvd_int, mvd_str, mvd_bl, mvd_non, mvd_lo, mvd_ls, frd_int, frd_str, frd_bl, frd_non, frd_lo, frd_ls, stV_o, stV_s, putW_own, modP_nil, setD_lst, ixN_0, ixN_1, ixN_2, ixN_3, List.not_mem_nil, not_false_eq_true, op_add, op_sub, op_and, op_or, op_xor, op_addL, op_addS, op_neg, op_inv, op_cmp, op_ixl, op_ixt, op_ixc, op_len, op_lent, op_lenc, op_abs, op_int, op_max, op_min, op_list, op_tupleL, op_isi, op_isl, op_iss, op_ist, op_isn, op_isb, cmp_lt, cmp_le, cmp_gt, cmp_ge, cmp_ne, cmp_is, cmp_isnt, cmp_notin, deq_int, atI_0, atI_1, atI_2, atI_3, atI_4, atI_5, atI_6, atI_7, atI_last', reduceCtorEq, false_and, and_false, and_true, true_and, E.quiet, E.quiet.E.quietL, Bool.and_self, Bool.and_true, Bool.true_and, decide_eq_true_eq, decide_eq_false_iff_not, Bool.not_eq_true', Bool.not_eq_false', Option.map_some, Option.bind_some, Option.map_none, Option.bind_none, L2.CMul, L2.CDivW, L2.CPow, or_true, true_or, ne_eq, packF, List.isEmpty_nil, List.isEmpty_cons, not_true_eq_false, false_implies, true_implies, forall_const, List.head?_cons, Option.getD_some, Option.getD_none, and_self, or_self, List.mem_cons, or_false, false_or, Nat.reduceEqDiff, Nat.reduceLT, Nat.reduceLeDiff, Int.reducePow, Int.reduceNeg, Int.reduceLT, Int.reduceLE, Int.reduceMul, Int.reduceAdd, Int.reduceSub, Int.reduceToNat, Int.reduceEq, Nat.reducePow, Nat.reduceMul, Nat.reduceBEq, decide_true, decide_false, Bool.not_true, Bool.not_false, List.length_map, imp_self, List.length_append, List.length_set, List.contains_nil, List.elem_eq_mem, Nat.zero_add, bindT_nm, bindT_tp, bindVs_cons, bindVs_nil, clear_nil, clear_cons, cl1_own, cl1_shr, cl1_bor, cl1_none, lock_nil, lock_cons, lk1_own, lk1_bor, lk1_shr, unlock_nil, unlock_cons, ul1_own, ul1_bor, ul1_shr, ul1_none, ownAt_oa, oa_own, oa_shr, oa_bor, owned_nil, owned_one, wipe_nil, wipe_cons, rest_nil, rest_cons, pureAt_pa, pa_none, pa_int, pa_str, pa_bl, pa_non, slots_nm, slots_tp, itemF_own', itemF_bor', itemF_shr', Flow_nx, Flow_rt, it_lst, it_clst, it_tup, it_enum, lockVs_nil, lockVs_own, lockVs_shr, lockVs_bor, rootE, List.all_cons, List.all_nil, finsD, ioVars, leVars, lends, argSl, putBack, ownFin, leOk, List.nodup_cons, List.nodup_nil, Option.some.injEq, Bool.or_false, Bool.false_or, Bool.or_true, Bool.true_or, Bool.and_false, Bool.false_and, D.mut, rd_mutO, rd_mutB, rd_mutS, mvd_mut, deq_str, in_lst, in_clst, in_str, in_nilS, in_nilI, op_ixd, lookD_cons, String.reduceEq, dictF, unz, D.key, Sum.inr.injEq, Sum.inl.injEq, ofString_inj, not_or, isNone, op_mod', op_divO, op_mulL, op_mulR, op_shlO, op_shr', op_powO, it_rng1O, it_rng2O, szO, szO', atI_ints, atI_D, List.getD_cons_zero, List.getD_cons_succ, ixN_ok, deq_bl, beq_self_eq_true, getD_ints, mu_nil, mu_cons, mu_int, mu_str, mu_bl, mu_non, mu_tup, mu_clst, mu_lst, mu_app, rd_pure, mvd_pure, frd_pure, nrm_pureO, op_addT, op_maxD, op_minD, op_max1, op_min1, op_sorted, aug_add, aug_sub, op_bitlen, op_join, op_strI, op_strS, op_listT, op_listC, op_toT, op_fromT, op_toL, op_fromL, it_enumT, op_ixM, in_M, op_lenM, it_keysM, it_valsM, it_itemsM, set_M, op_dg1, op_dg2, op_sortedM, get_M, mod_M, op_rev, op_all, op_any, isb_bl, isntb_bl, key_int, mu_appO, op_isM, in_ints, in_intsT, deq_ints, deq_ints0, op_ixofI, it_keysTM, it_valsTM, it_itemsTM, sda_dM, op_sortedT, op_listM, rd_dMo, rd_dMb, rd_dMs, nrm_dM, nrm_lstI, mvd_dMo, dictF_bl, dictF_int, dK_lstI, dK_tupI, dK_int, dK_bl, Option.elim_some, Option.elim_none, List.take_succ_cons, List.take_zero, List.drop_succ_cons, List.drop_zero, kt_list_list, kt_list_tuple, kt_list_int, kt_list_str, kt_list_bool, kt_tuple_list, kt_tuple_tuple, kt_tuple_int, kt_tuple_str, kt_tuple_bool, kt_int_list, kt_int_tuple, kt_int_int, kt_int_str, kt_int_bool, kt_str_list, kt_str_tuple, kt_str_int, kt_str_str, kt_str_bool, kt_bool_list, kt_bool_tuple, kt_bool_int, kt_bool_str, kt_bool_bool, kt_NoneType_list, kt_NoneType_tuple, kt_NoneType_int, kt_NoneType_str, kt_NoneType_bool, io_p_with_object, io_p_add_object, io_p_end_life, io_p_move_pointer, io_p_first_memory, io_l_draw, io_l_take, io_l_same, io_l_bytes, io_l_deed, io_l_moves, io_law, gl_0, Ob.toD_mut, obs_mut, $xs,*])
def SO : List String := ["heap", "stack", "global", "constant"]
structure Ob.Ok (o : Ob) : Prop where
  sort : o.sort ∈ SO
  len : o.cells.length ≤ 41
  lo : ∀ c ∈ o.cells, 0 ≤ c ∧ c < 256
theorem bl_fit (k : Nat) (i : Bool) : D.fit k (.bl i) = true := by unfold D.fit; rfl
theorem sD_fit (k : Nat) (s : String) : D.fit k (sD s) = true := by
  unfold sD D.fit
  exact strOk_lit
theorem Ob.fit (k : Nat) {o : Ob} (h : o.Ok) : D.fit (k + 2) o.toD = true := by
  have hl := h.len
  refine fit_tup (by simp) ?_
  have e : D.fit (k + 1) (.tup (o.cells.map .int)) = true := fit_tup (by rw [List.length_map]; omega) (fitL_map fun x _ => fit_int _ _)
  simp only [D.fitL, sD_fit, e, bl_fit, Bool.and_self]
theorem obs_fit (k : Nat) {l : List Ob} (h : ∀ o ∈ l, o.Ok) (hl : l.length ≤ 1000) : D.fit (k + 3) (.tup (l.map Ob.toD)) = true := fit_tup (by rw [List.length_map]; omega) (fitL_map fun o m => Ob.fit k (h o m))
theorem sort_shw {s : String} (h : s ∈ SO) : Shw (sD s) 0 10 := by
  simp only [SO, List.mem_cons, List.not_mem_nil, or_false] at h
  rcases h with rfl | rfl | rfl | rfl <;> exact (Shw.str (by decide +kernel)).mono (Nat.le_refl _) (by decide +kernel)
theorem Ob.shw {o : Ob} (h : o.Ok) : Shw o.toD 2 11000 := by
  refine (Shw.tup (k := 1) (m := 3400) (l := 3) (xs := [sD o.sort, .bl o.alive, .tup (o.cells.map .int)]) (Nat.le_refl _) fun x m => ?_).mono (Nat.le_refl _) (by decide)
  simp only [List.mem_cons, List.not_mem_nil, or_false] at m
  rcases m with rfl | rfl | rfl
  · exact (sort_shw h.sort).mono (by decide) (by decide)
  · exact Shw.bl.mono (by decide) (by decide)
  · refine (Shw.tup (k := 0) (m := 80) (l := 41) (by rw [List.length_map]; exact h.len) fun y m => ?_).mono (Nat.le_refl _) (by decide)
    obtain ⟨c, hc, rfl⟩ := List.mem_map.mp m
    have := h.lo c hc
    exact Shw.int (by omega) (by omega)
theorem obs_shw {l : List Ob} (h : ∀ o ∈ l, o.Ok) (hl : l.length ≤ 12) : Shw (.tup (l.map Ob.toD)) 3 (12 * 11001) := Shw.tup (by rw [List.length_map]; exact hl) fun x m => by
  obtain ⟨o, ho, rfl⟩ := List.mem_map.mp m
  exact Ob.shw (h o ho)
theorem deq_nil {k : Nat} {xs : List D} (h : D.fit k (.tup xs) = true) (hk : k ≤ 64) : cmpD .Eq (.tup xs) (.tup []) = some (decide (xs = [])) := by
  obtain ⟨p, h1, h2, h3, h4⟩ := okd_py _ k (fit_okd _ k h)
  show deq _ _ = _
  unfold deq
  rw [h1]
  have s1 : SeqAt.shaped p = true := by simp [SeqAt.shaped, h2]; omega
  have s2 : SeqAt.shaped (.tuple []) = true := by decide +kernel
  have e : D.py (.tup []) = some (.tuple []) := rfl
  rw [e]
  simp only [s1, s2, and_self, if_true]
  simp only [D.py, Option.map_eq_some_iff] at h1
  obtain ⟨ps, e1, rfl⟩ := h1
  congr 1
  cases xs with
  | nil =>
    cases e1
    rfl
  | cons x xs =>
    simp only [D.pyL] at e1
    cases q : D.py x with
    | none => rw [q] at e1; cases e1
    | some y =>
      rw [q, Option.bind_some, Option.map_eq_some_iff] at e1
      obtain ⟨z, _, rfl⟩ := e1
      rw [decide_eq_false (by simp)]
      rfl

end B.k16
namespace B.k16
open PySem
local macro_rules | `(tactic| simp_arith [$xs,*]) => `(tactic| simp -implicitDefEqProofs (disch := first | (simp only [reduceCtorEq, false_implies, implies_true, imp_self, forall_const, IsEmpty.forall_iff]; done) | (simp -implicitDefEqProofs only [mu_nil, mu_cons, mu_int, mu_str, mu_bl, mu_non, mu_tup, mu_clst, mu_app, mutL_ints, Bool.or_self, Bool.or_false, Ob.toD_mut, obs_mut]; first | done | assumption | (simp -implicitDefEqProofs only [*, Bool.or_self, Bool.or_false]; done)) | omega | assumption | (simp -implicitDefEqProofs only [List.length_cons, List.length_nil, List.length_map, List.length_append, List.length_set, D.mutL, D.mut, mutL_ints, Bool.or_self, Nat.zero_add, Nat.reduceAdd]; done) | (simp only [List.length_cons, List.length_nil, List.length_map, List.length_append, List.length_set, List.length_reverse, List.length_take, List.length_drop, String.length_append, Nat.zero_add, Nat.reduceAdd]; omega)) only [↓x_nil, ↓x_cons, ↓x_asg, ↓x_asgS, ↓x_asgT, ↓x_par, ↓x_put, ↓x_aug, ↓x_expr, ↓x_sda, ↓x_ite, ↓x_for, ↓x_while, ↓x_ret, ↓x_retN, ↓x_brk, ↓x_cnt, ↓x_pass, ↓x_doc, ↓x_run, ↓y_var, ↓y_mv, ↓y_fr, ↓y_cst, ↓y_glob, ↓y_op, ↓y_tup, ↓y_lst, ↓y_call, ↓y_callD, ↓y_bool, ↓y_not, ↓y_ife, ↓y_chain, ↓y_mut, ↓y_lc, ↓y_dc, ↓y_dict, ↓y_kop, ↓b_nil, ↓b_one, ↓b_cons, ↓l_nil, ↓l_var, ↓l_mv, ↓l_fr, ↓l_cst, ↓l_glob, ↓l_op, ↓l_tup, ↓l_lst, ↓l_call, ↓l_bool, ↓l_not, ↓l_ife, ↓l_chain, ↓l_mut, ↓l_lc, ↓l_dict, ↓l_dc, ↓l_kop, ↓wq_bind, ↓wq_map, wq_some, seq_nx, seq_rt, seq_bk, seq_ct, ret_rt, ret_nx, par_2, asgT_t, cstF_non, cstF_bl, cstF_int, cstF_str, kop_ix, kop_in, kop_ni, kop_g1, look_nil, look_cons, wq_none, wq_ite, List.length_cons, List.length_nil, Nat.reduceAdd, if_true, List.map_cons, List.map_nil, Nat.reduceSub, List.replicate, List.cons_append, List.nil_append, Bool.false_eq_true, if_false, List.getElem?_cons_zero, List.getElem?_cons_succ, List.set_cons_zero, List.set_cons_succ, rd_int, rd_str, rd_bl, rd_non, rd_lo, rd_lb, rd_ls, rd_tup, rd_clst, nrm_int, nrm_str, nrm_bl, nrm_non, nrm_lst, nrm_tupF, nrm_clstF, mutL_ints, fin_no, fin_bl, fin_int, fin_lst, fin_clst, fin_tup, fin_non, boolD_bl', intD_int, mvd_int, mvd_str, mvd_bl, mvd_non, mvd_lo, mvd_ls, frd_int, frd_str, frd_bl, frd_non, frd_lo, frd_ls, stV_o, stV_s, putW_own, modP_nil, setD_lst, ixN_0, ixN_1, ixN_2, ixN_3, List.not_mem_nil, not_false_eq_true, op_add, op_sub, op_and, op_or, op_xor, op_addL, op_addS, op_neg, op_inv, op_cmp, op_ixl, op_ixt, op_ixc, op_len, op_lent, op_lenc, op_abs, op_int, op_max, op_min, op_list, op_tupleL, op_isi, op_isl, op_iss, op_ist, op_isn, op_isb, cmp_lt, cmp_le, cmp_gt, cmp_ge, cmp_ne, cmp_is, cmp_isnt, cmp_notin, deq_int, atI_0, atI_1, atI_2, atI_3, atI_4, atI_5, atI_6, atI_7, atI_last', reduceCtorEq, false_and, and_false, and_true, true_and, E.quiet, E.quiet.E.quietL, Bool.and_self, Bool.and_true, Bool.true_and, decide_eq_true_eq, decide_eq_false_iff_not, Bool.not_eq_true', Bool.not_eq_false', Option.map_some, Option.bind_some, Option.map_none, Option.bind_none, L2.CMul, L2.CDivW, L2.CPow, or_true, true_or, ne_eq, packF, List.isEmpty_nil, List.isEmpty_cons, not_true_eq_false, false_implies, true_implies, forall_const, List.head?_cons, Option.getD_some, Option.getD_none, and_self, or_self, List.mem_cons, or_false, false_or, Nat.reduceEqDiff, Nat.reduceLT, Nat.reduceLeDiff, Int.reducePow, Int.reduceNeg, Int.reduceLT, Int.reduceLE, Int.reduceMul, Int.reduceAdd, Int.reduceSub, Int.reduceToNat, Int.reduceEq, Nat.reducePow, Nat.reduceMul, Nat.reduceBEq, decide_true, decide_false, Bool.not_true, Bool.not_false, List.length_map, imp_self, List.length_append, List.length_set, List.contains_nil, List.elem_eq_mem, Nat.zero_add, bindT_nm, bindT_tp, bindVs_cons, bindVs_nil, clear_nil, clear_cons, cl1_own, cl1_shr, cl1_bor, cl1_none, lock_nil, lock_cons, lk1_own, lk1_bor, lk1_shr, unlock_nil, unlock_cons, ul1_own, ul1_bor, ul1_shr, ul1_none, ownAt_oa, oa_own, oa_shr, oa_bor, owned_nil, owned_one, wipe_nil, wipe_cons, rest_nil, rest_cons, pureAt_pa, pa_none, pa_int, pa_str, pa_bl, pa_non, slots_nm, slots_tp, itemF_own', itemF_bor', itemF_shr', Flow_nx, Flow_rt, it_lst, it_clst, it_tup, it_enum, lockVs_nil, lockVs_own, lockVs_shr, lockVs_bor, rootE, List.all_cons, List.all_nil, finsD, ioVars, leVars, lends, argSl, putBack, ownFin, leOk, List.nodup_cons, List.nodup_nil, Option.some.injEq, Bool.or_false, Bool.false_or, Bool.or_true, Bool.true_or, Bool.and_false, Bool.false_and, D.mut, rd_mutO, rd_mutB, rd_mutS, mvd_mut, deq_str, in_lst, in_clst, in_str, in_nilS, in_nilI, op_ixd, lookD_cons, String.reduceEq, dictF, unz, D.key, Sum.inr.injEq, Sum.inl.injEq, ofString_inj, not_or, isNone, op_mod', op_divO, op_mulL, op_mulR, op_shlO, op_shr', op_powO, it_rng1O, it_rng2O, szO, szO', atI_ints, atI_D, List.getD_cons_zero, List.getD_cons_succ, ixN_ok, deq_bl, beq_self_eq_true, getD_ints, mu_nil, mu_cons, mu_int, mu_str, mu_bl, mu_non, mu_tup, mu_clst, mu_lst, mu_app, rd_pure, mvd_pure, frd_pure, nrm_pureO, op_addT, op_maxD, op_minD, op_max1, op_min1, op_sorted, aug_add, aug_sub, op_bitlen, op_join, op_strI, op_strS, op_listT, op_listC, op_toT, op_fromT, op_toL, op_fromL, it_enumT, op_ixM, in_M, op_lenM, it_keysM, it_valsM, it_itemsM, set_M, op_dg1, op_dg2, op_sortedM, get_M, mod_M, op_rev, op_all, op_any, isb_bl, isntb_bl, key_int, mu_appO, op_isM, in_ints, in_intsT, deq_ints, deq_ints0, op_ixofI, it_keysTM, it_valsTM, it_itemsTM, sda_dM, op_sortedT, op_listM, rd_dMo, rd_dMb, rd_dMs, nrm_dM, nrm_lstI, mvd_dMo, dictF_bl, dictF_int, dK_lstI, dK_tupI, dK_int, dK_bl, Option.elim_some, Option.elim_none, List.take_succ_cons, List.take_zero, List.drop_succ_cons, List.drop_zero, kt_list_list, kt_list_tuple, kt_list_int, kt_list_str, kt_list_bool, kt_tuple_list, kt_tuple_tuple, kt_tuple_int, kt_tuple_str, kt_tuple_bool, kt_int_list, kt_int_tuple, kt_int_int, kt_int_str, kt_int_bool, kt_str_list, kt_str_tuple, kt_str_int, kt_str_str, kt_str_bool, kt_bool_list, kt_bool_tuple, kt_bool_int, kt_bool_str, kt_bool_bool, kt_NoneType_list, kt_NoneType_tuple, kt_NoneType_int, kt_NoneType_str, kt_NoneType_bool, io_p_with_object, io_p_add_object, io_p_end_life, io_p_move_pointer, io_p_first_memory, io_l_draw, io_l_take, io_l_same, io_l_bytes, io_l_deed, io_l_moves, io_law, gl_0, Ob.toD_mut, obs_mut, $xs,*])
section
variable {n : Nat} {d : D} {M : List Ob} {o : Ob} {s : String} {cs : List Int}
theorem bytes_w (hn : 2 ≤ n) (hd : WfD d) {m : Int} (h0 : 0 ≤ m) (h1 : m ≤ 100) : Wp ((ctxN pg fuel n).call 8 [⟨.own, d⟩, ⟨.own, .int m⟩]) fun r => ∃ (l : List Int) (d' : D), r.1 = ⟨.own, .tup (l.map .int)⟩ ∧ (∃ o, r.2 = some ⟨.own, d'⟩ :: o) ∧ (l.length : Int) ≤ m ∧ (∀ c ∈ l, 0 ≤ c ∧ c < 256) ∧ WfD d' ∧ d'.mut = true := by
  have hm := hd.mut
  rw [call_l_bytes (by omega)]
  refine wq_in ?_
  simp_arith [np_l_bytes, body_l_bytes, ns_l_bytes, ios_l_bytes, s_l_bytes_0]
  refine wq_cut (take_w (by omega) hd (by omega) (by omega)) ?_
  rintro _ ⟨v, d, rfl, v0, v1, hd, hm⟩
  simp_arith [np_l_bytes, body_l_bytes, ns_l_bytes, ios_l_bytes, s_l_bytes_1]
  refine wq_lcR (st := fun (d : D) => [some ⟨.own, d⟩, some ⟨.own, .int m⟩, some ⟨.own, .int v⟩, none]) (J := fun j acc d => WfD d ∧ ∃ l : List Int, acc = l.map .int ∧ l.length = j ∧ ∀ c ∈ l, 0 ≤ c ∧ c < 256) d rfl ⟨hd, [], rfl, rfl, by simp⟩ ?_ ?_
  · rintro j acc d hj ⟨hd, l, rfl, hl, hc⟩
    have hm := hd.mut
    simp_arith [np_l_bytes, body_l_bytes, ns_l_bytes, ios_l_bytes, q_l_bytes_0]
    refine wq_cut (take_w (by omega) hd (by decide) (by decide)) ?_
    rintro _ ⟨c, d, rfl, c0, c1, hd, hm⟩
    simp_arith [np_l_bytes, body_l_bytes, ns_l_bytes, ios_l_bytes]
    refine ⟨d, rfl, hd, l ++ [c], by rw [List.map_append]; rfl, by rw [List.length_append, hl]; rfl, fun x m => ?_⟩
    rcases List.mem_append.mp m with m | m
    · exact hc x m
    · rw [List.mem_singleton.mp m]; exact ⟨c0, c1⟩
  · rintro acc d ⟨hd, l, rfl, hl, hc⟩
    have hm := hd.mut
    simp_arith [np_l_bytes, body_l_bytes, ns_l_bytes, ios_l_bytes]
    exact ⟨l, d, rfl, ⟨_, rfl⟩, by omega, hc, hd, hm⟩
theorem add_w (hn : 1 ≤ n) (hl : M.length ≤ 1000) (hc : cs.length ≤ 1000) : Wp ((ctxN pg fuel n).call 1 [⟨.own, .tup (M.map Ob.toD)⟩, ⟨.own, sD s⟩, ⟨.own, .tup (cs.map .int)⟩]) fun r => ∃ fn, r = (⟨.own, .tup [.tup ((M ++ [Ob.mk s true cs]).map Ob.toD), .tup [sD "at", .int M.length, .int 0]]⟩, fn) := by
  have om := obs_mut M
  have e : (M ++ [Ob.mk s true cs]).map Ob.toD = M.map Ob.toD ++ [.tup [sD s, .bl true, .tup (cs.map .int)]] := by rw [List.map_append]; rfl
  rw [e]
  have sm : (sD s).mut = false := id rfl
  have tt : opD (.blt .tuple) [⟨.own, .tup (cs.map .int)⟩] = some ⟨.own, .tup (cs.map .int)⟩ := by
    show (if D.mutL (cs.map D.int) = false then some (D.tup (cs.map .int)) else none).map _ = _
    rw [if_pos (mutL_ints cs)]; rfl
  rw [call_p_add_object (by omega)]
  refine wq_in ?_
  simp_arith [np_p_add_object, body_p_add_object, ns_p_add_object, ios_p_add_object, s_p_add_object_0, om, sm, tt]
  exact ⟨_, rfl⟩
theorem with_w (hn : 1 ≤ n) (hl : M.length ≤ 1000) {k : Nat} (hk : k < M.length) : Wp ((ctxN pg fuel n).call 0 [⟨.own, .tup (M.map Ob.toD)⟩, ⟨.own, .int k⟩, ⟨.own, o.toD⟩]) fun r => ∃ fn, r = (⟨.own, .tup ((M.set k o).map Ob.toD)⟩, fn) := by
  have om := obs_mut M
  have e : (M.set k o).map Ob.toD = (M.map Ob.toD).take (k : Int).toNat ++ [o.toD] ++ (M.map Ob.toD).drop ((k : Int) + 1).toNat := by
    have e1 : ((k : Int) + 1).toNat = k + 1 := by omega
    rw [e1, Int.toNat_natCast, ← List.map_take, ← List.map_drop, List.set_eq_take_append_cons_drop, if_pos hk, List.map_append, List.map_cons, List.append_assoc]; rfl
  rw [e]
  have tm := mu_take (n := (k : Int).toNat) om
  have dm := mu_drop (n := ((k : Int) + 1).toNat) om
  have tl : ((M.map Ob.toD).take (k : Int).toNat).length ≤ 1000 := by rw [List.length_take, List.length_map]; omega
  have dl : ((M.map Ob.toD).drop ((k : Int) + 1).toNat).length ≤ 1000 := by rw [List.length_drop, List.length_map]; omega
  have o0 := o.toD_mut
  rw [call_p_with_object (by omega)]
  refine wq_in ?_
  simp_arith [np_p_with_object, body_p_with_object, ns_p_with_object, ios_p_with_object, s_p_with_object_0, om, tm, dm, o0]
  exact ⟨_, rfl⟩
theorem end_w (hn : 2 ≤ n) (hl : M.length ≤ 1000) {k : Nat} (hk : M[k]? = some o) : Wp ((ctxN pg fuel n).call 2 [⟨.own, .tup (M.map Ob.toD)⟩, ⟨.own, .int k⟩]) fun r => ∃ fn, r = (⟨.own, .tup ((M.set k ⟨o.sort, false, o.cells⟩).map Ob.toD)⟩, fn) := by
  have om := obs_mut M
  have o0 := o.toD_mut
  have at_ : L2.atI (M.map Ob.toD) (k : Int) = some o.toD := by rw [atI_nat', List.getElem?_map, hk]; rfl
  have oe : o.toD = .tup [sD o.sort, .bl o.alive, .tup (o.cells.map .int)] := rfl
  have sm : (sD o.sort).mut = false := id rfl
  have ne : D.tup [sD o.sort, .bl false, .tup (o.cells.map .int)] = (Ob.mk o.sort false o.cells).toD := rfl
  rw [call_p_end_life (by omega)]
  refine wq_in ?_
  simp_arith [np_p_end_life, body_p_end_life, ns_p_end_life, ios_p_end_life, s_p_end_life_0, om, at_, nrm_pureO o0, oe, sm, s_p_end_life_1, ne]
  refine wq_cut (with_w (by omega) hl (List.getElem?_eq_some_iff.mp hk).1) ?_
  rintro _ ⟨fn, rfl⟩
  simp_arith [np_p_end_life, body_p_end_life, ns_p_end_life, ios_p_end_life]
  exact ⟨_, rfl⟩
end

end B.k16
namespace B.k16
open PySem
local macro_rules | `(tactic| simp_arith [$xs,*]) => `(tactic| simp -implicitDefEqProofs (disch := first | (simp only [reduceCtorEq, false_implies, implies_true, imp_self, forall_const, IsEmpty.forall_iff]; done) | (simp -implicitDefEqProofs only [mu_nil, mu_cons, mu_int, mu_str, mu_bl, mu_non, mu_tup, mu_clst, mu_app, mutL_ints, Bool.or_self, Bool.or_false, Ob.toD_mut, obs_mut]; first | done | assumption | (simp -implicitDefEqProofs only [*, Bool.or_self, Bool.or_false]; done)) | omega | assumption | (simp -implicitDefEqProofs only [List.length_cons, List.length_nil, List.length_map, List.length_append, List.length_set, D.mutL, D.mut, mutL_ints, Bool.or_self, Nat.zero_add, Nat.reduceAdd]; done) | (simp only [List.length_cons, List.length_nil, List.length_map, List.length_append, List.length_set, List.length_reverse, List.length_take, List.length_drop, String.length_append, Nat.zero_add, Nat.reduceAdd]; omega)) only [↓x_nil, ↓x_cons, ↓x_asg, ↓x_asgS, ↓x_asgT, ↓x_par, ↓x_put, ↓x_aug, ↓x_expr, ↓x_sda, ↓x_ite, ↓x_for, ↓x_while, ↓x_ret, ↓x_retN, ↓x_brk, ↓x_cnt, ↓x_pass, ↓x_doc, ↓x_run, ↓y_var, ↓y_mv, ↓y_fr, ↓y_cst, ↓y_glob, ↓y_op, ↓y_tup, ↓y_lst, ↓y_call, ↓y_callD, ↓y_bool, ↓y_not, ↓y_ife, ↓y_chain, ↓y_mut, ↓y_lc, ↓y_dc, ↓y_dict, ↓y_kop, ↓b_nil, ↓b_one, ↓b_cons, ↓l_nil, ↓l_var, ↓l_mv, ↓l_fr, ↓l_cst, ↓l_glob, ↓l_op, ↓l_tup, ↓l_lst, ↓l_call, ↓l_bool, ↓l_not, ↓l_ife, ↓l_chain, ↓l_mut, ↓l_lc, ↓l_dict, ↓l_dc, ↓l_kop, ↓wq_bind, ↓wq_map, wq_some, seq_nx, seq_rt, seq_bk, seq_ct, ret_rt, ret_nx, par_2, asgT_t, cstF_non, cstF_bl, cstF_int, cstF_str, kop_ix, kop_in, kop_ni, kop_g1, look_nil, look_cons, wq_none, wq_ite, List.length_cons, List.length_nil, Nat.reduceAdd, if_true, List.map_cons, List.map_nil, Nat.reduceSub, List.replicate, List.cons_append, List.nil_append, Bool.false_eq_true, if_false, List.getElem?_cons_zero, List.getElem?_cons_succ, List.set_cons_zero, List.set_cons_succ, rd_int, rd_str, rd_bl, rd_non, rd_lo, rd_lb, rd_ls, rd_tup, rd_clst, nrm_int, nrm_str, nrm_bl, nrm_non, nrm_lst, nrm_tupF, nrm_clstF, mutL_ints, fin_no, fin_bl, fin_int, fin_lst, fin_clst, fin_tup, fin_non, boolD_bl', intD_int, mvd_int, mvd_str, mvd_bl, mvd_non, mvd_lo, mvd_ls, frd_int, frd_str, frd_bl, frd_non, frd_lo, frd_ls, stV_o, stV_s, putW_own, modP_nil, setD_lst, ixN_0, ixN_1, ixN_2, ixN_3, List.not_mem_nil, not_false_eq_true, op_add, op_sub, op_and, op_or, op_xor, op_addL, op_addS, op_neg, op_inv, op_cmp, op_ixl, op_ixt, op_ixc, op_len, op_lent, op_lenc, op_abs, op_int, op_max, op_min, op_list, op_tupleL, op_isi, op_isl, op_iss, op_ist, op_isn, op_isb, cmp_lt, cmp_le, cmp_gt, cmp_ge, cmp_ne, cmp_is, cmp_isnt, cmp_notin, deq_int, atI_0, atI_1, atI_2, atI_3, atI_4, atI_5, atI_6, atI_7, atI_last', reduceCtorEq, false_and, and_false, and_true, true_and, E.quiet, E.quiet.E.quietL, Bool.and_self, Bool.and_true, Bool.true_and, decide_eq_true_eq, decide_eq_false_iff_not, Bool.not_eq_true', Bool.not_eq_false', Option.map_some, Option.bind_some, Option.map_none, Option.bind_none, L2.CMul, L2.CDivW, L2.CPow, or_true, true_or, ne_eq, packF, List.isEmpty_nil, List.isEmpty_cons, not_true_eq_false, false_implies, true_implies, forall_const, List.head?_cons, Option.getD_some, Option.getD_none, and_self, or_self, List.mem_cons, or_false, false_or, Nat.reduceEqDiff, Nat.reduceLT, Nat.reduceLeDiff, Int.reducePow, Int.reduceNeg, Int.reduceLT, Int.reduceLE, Int.reduceMul, Int.reduceAdd, Int.reduceSub, Int.reduceToNat, Int.reduceEq, Nat.reducePow, Nat.reduceMul, Nat.reduceBEq, decide_true, decide_false, Bool.not_true, Bool.not_false, List.length_map, imp_self, List.length_append, List.length_set, List.contains_nil, List.elem_eq_mem, Nat.zero_add, bindT_nm, bindT_tp, bindVs_cons, bindVs_nil, clear_nil, clear_cons, cl1_own, cl1_shr, cl1_bor, cl1_none, lock_nil, lock_cons, lk1_own, lk1_bor, lk1_shr, unlock_nil, unlock_cons, ul1_own, ul1_bor, ul1_shr, ul1_none, ownAt_oa, oa_own, oa_shr, oa_bor, owned_nil, owned_one, wipe_nil, wipe_cons, rest_nil, rest_cons, pureAt_pa, pa_none, pa_int, pa_str, pa_bl, pa_non, slots_nm, slots_tp, itemF_own', itemF_bor', itemF_shr', Flow_nx, Flow_rt, it_lst, it_clst, it_tup, it_enum, lockVs_nil, lockVs_own, lockVs_shr, lockVs_bor, rootE, List.all_cons, List.all_nil, finsD, ioVars, leVars, lends, argSl, putBack, ownFin, leOk, List.nodup_cons, List.nodup_nil, Option.some.injEq, Bool.or_false, Bool.false_or, Bool.or_true, Bool.true_or, Bool.and_false, Bool.false_and, D.mut, rd_mutO, rd_mutB, rd_mutS, mvd_mut, deq_str, in_lst, in_clst, in_str, in_nilS, in_nilI, op_ixd, lookD_cons, String.reduceEq, dictF, unz, D.key, Sum.inr.injEq, Sum.inl.injEq, ofString_inj, not_or, isNone, op_mod', op_divO, op_mulL, op_mulR, op_shlO, op_shr', op_powO, it_rng1O, it_rng2O, szO, szO', atI_ints, atI_D, List.getD_cons_zero, List.getD_cons_succ, ixN_ok, deq_bl, beq_self_eq_true, getD_ints, mu_nil, mu_cons, mu_int, mu_str, mu_bl, mu_non, mu_tup, mu_clst, mu_lst, mu_app, rd_pure, mvd_pure, frd_pure, nrm_pureO, op_addT, op_maxD, op_minD, op_max1, op_min1, op_sorted, aug_add, aug_sub, op_bitlen, op_join, op_strI, op_strS, op_listT, op_listC, op_toT, op_fromT, op_toL, op_fromL, it_enumT, op_ixM, in_M, op_lenM, it_keysM, it_valsM, it_itemsM, set_M, op_dg1, op_dg2, op_sortedM, get_M, mod_M, op_rev, op_all, op_any, isb_bl, isntb_bl, key_int, mu_appO, op_isM, in_ints, in_intsT, deq_ints, deq_ints0, op_ixofI, it_keysTM, it_valsTM, it_itemsTM, sda_dM, op_sortedT, op_listM, rd_dMo, rd_dMb, rd_dMs, nrm_dM, nrm_lstI, mvd_dMo, dictF_bl, dictF_int, dK_lstI, dK_tupI, dK_int, dK_bl, Option.elim_some, Option.elim_none, List.take_succ_cons, List.take_zero, List.drop_succ_cons, List.drop_zero, kt_list_list, kt_list_tuple, kt_list_int, kt_list_str, kt_list_bool, kt_tuple_list, kt_tuple_tuple, kt_tuple_int, kt_tuple_str, kt_tuple_bool, kt_int_list, kt_int_tuple, kt_int_int, kt_int_str, kt_int_bool, kt_str_list, kt_str_tuple, kt_str_int, kt_str_str, kt_str_bool, kt_bool_list, kt_bool_tuple, kt_bool_int, kt_bool_str, kt_bool_bool, kt_NoneType_list, kt_NoneType_tuple, kt_NoneType_int, kt_NoneType_str, kt_NoneType_bool, io_p_with_object, io_p_add_object, io_p_end_life, io_p_move_pointer, io_p_first_memory, io_l_draw, io_l_take, io_l_same, io_l_bytes, io_l_deed, io_l_moves, io_law, gl_0, Ob.toD_mut, obs_mut, $xs,*])
section
variable {n : Nat} {d : D} {M : List Ob} {o : Ob} {s : String} {cs : List Int}
theorem deed_w (hn : 12 ≤ n) (hd : WfD d) (hM : ∀ o ∈ M, o.Ok) (hl : M.length ≤ 11) : Wp ((ctxN pg fuel n).call 9 [⟨.own, d⟩, ⟨.own, .tup (M.map Ob.toD)⟩, ⟨.own, .lst []⟩]) fun r => ∃ (M' : List Ob) (d' : D), r.1 = ⟨.own, .tup (M'.map Ob.toD)⟩ ∧ (∃ o o', r.2 = some ⟨.own, d'⟩ :: o :: some ⟨.own, .lst []⟩ :: o') ∧ (∀ o ∈ M', o.Ok) ∧ M'.length ≤ M.length + 1 ∧ WfD d' ∧ d'.mut = true := by
  have hm := hd.mut
  have om := obs_mut M
  obtain ⟨before, rp, re, rn⟩ := repr_shw (f := .own) (obs_shw hM (by omega)) (by decide) (by decide)
  have rpo := rp .own
  have dq := deq_nil (obs_fit 5 hM (by omega)) (by decide)
  have dqe : decide (M.map Ob.toD = []) = decide (M = []) := by simp
  rw [dqe] at dq
  rw [call_l_deed (by omega)]
  refine wq_in ?_
  simp_arith [np_l_deed, body_l_deed, ns_l_deed, ios_l_deed, s_l_deed_0, rpo, om, s_l_deed_1]
  refine wq_lcM (ys := M) (h := Ob.toD) (fun o => o.toD) (fun o _ => ?_) ?_
  · have o0 := o.toD_mut
    refine wp_eq (wq_in ?_)
    simp_arith [np_l_deed, body_l_deed, ns_l_deed, ios_l_deed, q_l_deed_0, o0]
  by_cases hm0 : M = []
  · have hT : (M = []) = True := eq_true hm0
    simp_arith [np_l_deed, body_l_deed, ns_l_deed, ios_l_deed, s_l_deed_2, dq, hT]
    refine wq_cut (take_w (by omega) hd (by decide) (by decide)) ?_
    rintro _ ⟨v, d, rfl, v0, v1, hd, hm⟩
    obtain ⟨s, hs, es⟩ := pickS (i := v) SO v0 (by simp [SO]; omega)
    have es : ([.str (Str.ofString "heap"), .str (Str.ofString "stack"), .str (Str.ofString "global"), .str (Str.ofString "constant")] : List D).getD v.toNat .non = sD s := es
    have sm : (sD s).mut = false := id rfl
    simp_arith [np_l_deed, body_l_deed, ns_l_deed, ios_l_deed, es, sm]
    refine wq_cut (take_w (by omega) hd (by decide) (by decide)) ?_
    rintro _ ⟨c, d, rfl, c0, c1, hd, hm⟩
    simp_arith [np_l_deed, body_l_deed, ns_l_deed, ios_l_deed]
    refine wq_cut (bytes_w (by omega) hd (by decide) (by decide)) ?_
    rintro ⟨_, _⟩ ⟨bs, d, rfl, ⟨o1, rfl⟩, bl, bc, hd, hm⟩
    have bl : bs.length ≤ 40 := by omega
    have ok : (Ob.mk s true (c :: bs)).Ok := ⟨hs, by show bs.length + 1 ≤ 41; omega, fun x m => (List.mem_cons.mp m).elim (fun e => by rw [e]; exact ⟨c0, c1⟩) (bc x)⟩
    have hM2 : ∀ o ∈ M ++ [Ob.mk s true (c :: bs)], o.Ok := fun o m => (List.mem_append.mp m).elim (hM o) fun m => by rw [List.mem_singleton.mp m]; exact ok
    have hl2 : (M ++ [Ob.mk s true (c :: bs)]).length ≤ M.length + 1 := by rw [List.length_append]; exact Nat.le_refl _
    have ap : (M.map Ob.toD) ++ [.tup [sD s, .bl true, .tup (.int c :: bs.map .int)]] = (M ++ [Ob.mk s true (c :: bs)]).map Ob.toD := by rw [List.map_append]; rfl
    have bm := mutL_ints bs
    have om2 := obs_mut (M ++ [Ob.mk s true (c :: bs)])
    simp_arith [np_l_deed, body_l_deed, ns_l_deed, ios_l_deed, mutR, muOk, nodeLst, getP, ap, sm]
    refine wq_cut (add_w (s := s) (cs := c :: bs) (by omega) (by omega) (by show bs.length + 1 ≤ 1000; omega)) ?_
    rintro _ ⟨fn, rfl⟩
    have am : (D.tup [.tup ((M ++ [Ob.mk s true (c :: bs)]).map Ob.toD), .tup [sD "at", .int M.length, .int 0]]).mut = false := by
      show D.mutL [_, _] = false
      rw [mu_cons, mu_tup, om2]; rfl
    simp_arith [np_l_deed, body_l_deed, ns_l_deed, ios_l_deed, om2, sm, am]
    refine wq_cut (same_w 10 (.tup [.tup ((M ++ [Ob.mk s true (c :: bs)]).map Ob.toD), .tup [sD "at", .int M.length, .int 0]]) (fit_tup (by simp) ?_) am (by decide) (by omega)) ?_
    · have e1 : D.fit 9 (.tup ((M ++ [Ob.mk s true (c :: bs)]).map Ob.toD)) = true := obs_fit 6 hM2 (by omega)
      have e2 : D.fit 9 (.tup [sD "at", .int M.length, .int 0]) = true := fit_tup (by simp) (by simp [D.fitL, sD_fit, fit_int])
      simp only [D.fitL, e1, e2, Bool.and_self]
    rintro ⟨_, fn⟩ rfl
    simp_arith [np_l_deed, body_l_deed, ns_l_deed, ios_l_deed, s_l_deed_3, rpo, rn, re, s_l_deed_4, om2]
    
    exact ⟨M ++ [Ob.mk s true (c :: bs)], d, rfl, ⟨_, _, rfl⟩, hM2, hl2, hd, hm⟩
  · simp_arith [np_l_deed, body_l_deed, ns_l_deed, ios_l_deed, s_l_deed_2, dq, hm0]
    refine wq_cut (take_w (by omega) hd (by decide) (by decide)) ?_
    rintro _ ⟨w, d, rfl, w0, w1, hd, hm⟩
    by_cases hw : w = 0
    · simp_arith [np_l_deed, body_l_deed, ns_l_deed, ios_l_deed, hw]
      refine wq_cut (take_w (by omega) hd (by decide) (by decide)) ?_
      rintro _ ⟨v, d, rfl, v0, v1, hd, hm⟩
      obtain ⟨s, hs, es⟩ := pickS (i := v) SO v0 (by simp [SO]; omega)
      have es : ([.str (Str.ofString "heap"), .str (Str.ofString "stack"), .str (Str.ofString "global"), .str (Str.ofString "constant")] : List D).getD v.toNat .non = sD s := es
      have sm : (sD s).mut = false := id rfl
      simp_arith [np_l_deed, body_l_deed, ns_l_deed, ios_l_deed, es, sm]
      refine wq_cut (take_w (by omega) hd (by decide) (by decide)) ?_
      rintro _ ⟨c, d, rfl, c0, c1, hd, hm⟩
      simp_arith [np_l_deed, body_l_deed, ns_l_deed, ios_l_deed]
      refine wq_cut (bytes_w (by omega) hd (by decide) (by decide)) ?_
      rintro ⟨_, _⟩ ⟨bs, d, rfl, ⟨o1, rfl⟩, bl, bc, hd, hm⟩
      have bl : bs.length ≤ 40 := by omega
      have ok : (Ob.mk s true (c :: bs)).Ok := ⟨hs, by show bs.length + 1 ≤ 41; omega, fun x m => (List.mem_cons.mp m).elim (fun e => by rw [e]; exact ⟨c0, c1⟩) (bc x)⟩
      have hM2 : ∀ o ∈ M ++ [Ob.mk s true (c :: bs)], o.Ok := fun o m => (List.mem_append.mp m).elim (hM o) fun m => by rw [List.mem_singleton.mp m]; exact ok
      have hl2 : (M ++ [Ob.mk s true (c :: bs)]).length ≤ M.length + 1 := by rw [List.length_append]; exact Nat.le_refl _
      have ap : (M.map Ob.toD) ++ [.tup [sD s, .bl true, .tup (.int c :: bs.map .int)]] = (M ++ [Ob.mk s true (c :: bs)]).map Ob.toD := by rw [List.map_append]; rfl
      have bm := mutL_ints bs
      have om2 := obs_mut (M ++ [Ob.mk s true (c :: bs)])
      simp_arith [np_l_deed, body_l_deed, ns_l_deed, ios_l_deed, mutR, muOk, nodeLst, getP, ap, sm]
      refine wq_cut (add_w (s := s) (cs := c :: bs) (by omega) (by omega) (by show bs.length + 1 ≤ 1000; omega)) ?_
      rintro _ ⟨fn, rfl⟩
      have am : (D.tup [.tup ((M ++ [Ob.mk s true (c :: bs)]).map Ob.toD), .tup [sD "at", .int M.length, .int 0]]).mut = false := by
        show D.mutL [_, _] = false
        rw [mu_cons, mu_tup, om2]; rfl
      simp_arith [np_l_deed, body_l_deed, ns_l_deed, ios_l_deed, om2, sm, am]
      refine wq_cut (same_w 10 (.tup [.tup ((M ++ [Ob.mk s true (c :: bs)]).map Ob.toD), .tup [sD "at", .int M.length, .int 0]]) (fit_tup (by simp) ?_) am (by decide) (by omega)) ?_
      · have e1 : D.fit 9 (.tup ((M ++ [Ob.mk s true (c :: bs)]).map Ob.toD)) = true := obs_fit 6 hM2 (by omega)
        have e2 : D.fit 9 (.tup [sD "at", .int M.length, .int 0]) = true := fit_tup (by simp) (by simp [D.fitL, sD_fit, fit_int])
        simp only [D.fitL, e1, e2, Bool.and_self]
      rintro ⟨_, fn⟩ rfl
      simp_arith [np_l_deed, body_l_deed, ns_l_deed, ios_l_deed, s_l_deed_3, rpo, rn, re, s_l_deed_4, om2]
      
      exact ⟨M ++ [Ob.mk s true (c :: bs)], d, rfl, ⟨_, _, rfl⟩, hM2, hl2, hd, hm⟩
    · have ml : 0 < M.length := List.length_pos_iff.mpr hm0
      simp_arith [np_l_deed, body_l_deed, ns_l_deed, ios_l_deed, hw]
      refine wq_cut (take_w (by omega) hd (by omega) (by omega)) ?_
      rintro _ ⟨v, d, rfl, v0, v1, hd, hm⟩
      obtain ⟨k, rfl⟩ := Int.eq_ofNat_of_zero_le v0
      obtain ⟨o, ho⟩ : ∃ o, M[k]? = some o := ⟨_, List.getElem?_eq_getElem (by omega)⟩
      have at_ : L2.atI (M.map Ob.toD) (k : Int) = some o.toD := by rw [atI_nat', List.getElem?_map, ho]; rfl
      have o0 := o.toD_mut
      have oo := hM o (List.mem_of_getElem? ho)
      have ok : (Ob.mk o.sort false o.cells).Ok := ⟨oo.sort, oo.len, oo.lo⟩
      have hM2 : ∀ x ∈ M.set k (Ob.mk o.sort false o.cells), x.Ok := fun x m => (List.mem_or_eq_of_mem_set m).elim (hM x) fun e => by rw [e]; exact ok
      have hl2 : (M.set k (Ob.mk o.sort false o.cells)).length ≤ M.length + 1 := by rw [List.length_set]; omega
      have x0 : opD .ix [⟨.own, o.toD⟩, ⟨.own, .int 0⟩] = some ⟨.own, sD o.sort⟩ := rfl
      have x2 : opD .ix [⟨.own, o.toD⟩, ⟨.own, .int 2⟩] = some ⟨.own, .tup (o.cells.map .int)⟩ := by
        show Option.map _ (some (D.tup (o.cells.map .int))) = _
        exact congrArg some (nrm_pureO (mutL_ints _))
      have sm : (sD o.sort).mut = false := id rfl
      have se : (M.map Ob.toD).set k (.tup [sD o.sort, .bl false, .tup (o.cells.map .int)]) = (M.set k (Ob.mk o.sort false o.cells)).map Ob.toD := by rw [List.map_set]; rfl
      have om2 := obs_mut (M.set k (Ob.mk o.sort false o.cells))
      simp_arith [np_l_deed, body_l_deed, ns_l_deed, ios_l_deed, at_, nrm_pureO o0, x0, x2, sm, Int.toNat_natCast, se, om]
      refine wq_cut (end_w (by omega) (by omega) ho) ?_
      rintro _ ⟨fn, rfl⟩
      have am : (D.tup ((M.set k (Ob.mk o.sort false o.cells)).map Ob.toD)).mut = false := om2
      simp_arith [np_l_deed, body_l_deed, ns_l_deed, ios_l_deed, om2]
      refine wq_cut (same_w 10 (.tup ((M.set k (Ob.mk o.sort false o.cells)).map Ob.toD)) (obs_fit 7 hM2 (by omega)) am (by decide) (by omega)) ?_
      rintro ⟨_, fn⟩ rfl
      simp_arith [np_l_deed, body_l_deed, ns_l_deed, ios_l_deed, s_l_deed_3, rpo, rn, re, s_l_deed_4, om2]
      exact ⟨M.set k (Ob.mk o.sort false o.cells), d, rfl, ⟨_, _, rfl⟩, hM2, hl2, hd, hm⟩
end

end B.k16
namespace B.k16
open PySem
local macro_rules | `(tactic| simp_arith [$xs,*]) => `(tactic| simp -implicitDefEqProofs (disch := first | (simp only [reduceCtorEq, false_implies, implies_true, imp_self, forall_const, IsEmpty.forall_iff]; done) | (simp -implicitDefEqProofs only [mu_nil, mu_cons, mu_int, mu_str, mu_bl, mu_non, mu_tup, mu_clst, mu_app, mutL_ints, Bool.or_self, Bool.or_false, Ob.toD_mut, obs_mut]; first | done | assumption | (simp -implicitDefEqProofs only [*, Bool.or_self, Bool.or_false]; done)) | omega | assumption | (simp -implicitDefEqProofs only [List.length_cons, List.length_nil, List.length_map, List.length_append, List.length_set, D.mutL, D.mut, mutL_ints, Bool.or_self, Nat.zero_add, Nat.reduceAdd]; done) | (simp only [List.length_cons, List.length_nil, List.length_map, List.length_append, List.length_set, List.length_reverse, List.length_take, List.length_drop, String.length_append, Nat.zero_add, Nat.reduceAdd]; omega)) only [↓x_nil, ↓x_cons, ↓x_asg, ↓x_asgS, ↓x_asgT, ↓x_par, ↓x_put, ↓x_aug, ↓x_expr, ↓x_sda, ↓x_ite, ↓x_for, ↓x_while, ↓x_ret, ↓x_retN, ↓x_brk, ↓x_cnt, ↓x_pass, ↓x_doc, ↓x_run, ↓y_var, ↓y_mv, ↓y_fr, ↓y_cst, ↓y_glob, ↓y_op, ↓y_tup, ↓y_lst, ↓y_call, ↓y_callD, ↓y_bool, ↓y_not, ↓y_ife, ↓y_chain, ↓y_mut, ↓y_lc, ↓y_dc, ↓y_dict, ↓y_kop, ↓b_nil, ↓b_one, ↓b_cons, ↓l_nil, ↓l_var, ↓l_mv, ↓l_fr, ↓l_cst, ↓l_glob, ↓l_op, ↓l_tup, ↓l_lst, ↓l_call, ↓l_bool, ↓l_not, ↓l_ife, ↓l_chain, ↓l_mut, ↓l_lc, ↓l_dict, ↓l_dc, ↓l_kop, ↓wq_bind, ↓wq_map, wq_some, seq_nx, seq_rt, seq_bk, seq_ct, ret_rt, ret_nx, par_2, asgT_t, cstF_non, cstF_bl, cstF_int, cstF_str, kop_ix, kop_in, kop_ni, kop_g1, look_nil, look_cons, wq_none, wq_ite, List.length_cons, List.length_nil, Nat.reduceAdd, if_true, List.map_cons, List.map_nil, Nat.reduceSub, List.replicate, List.cons_append, List.nil_append, Bool.false_eq_true, if_false, List.getElem?_cons_zero, List.getElem?_cons_succ, List.set_cons_zero, List.set_cons_succ, rd_int, rd_str, rd_bl, rd_non, rd_lo, rd_lb, rd_ls, rd_tup, rd_clst, nrm_int, nrm_str, nrm_bl, nrm_non, nrm_lst, nrm_tupF, nrm_clstF, mutL_ints, fin_no, fin_bl, fin_int, fin_lst, fin_clst, fin_tup, fin_non, boolD_bl', intD_int, mvd_int, mvd_str, mvd_bl, mvd_non, mvd_lo, mvd_ls, frd_int, frd_str, frd_bl, frd_non, frd_lo, frd_ls, stV_o, stV_s, putW_own, modP_nil, setD_lst, ixN_0, ixN_1, ixN_2, ixN_3, List.not_mem_nil, not_false_eq_true, op_add, op_sub, op_and, op_or, op_xor, op_addL, op_addS, op_neg, op_inv, op_cmp, op_ixl, op_ixt, op_ixc, op_len, op_lent, op_lenc, op_abs, op_int, op_max, op_min, op_list, op_tupleL, op_isi, op_isl, op_iss, op_ist, op_isn, op_isb, cmp_lt, cmp_le, cmp_gt, cmp_ge, cmp_ne, cmp_is, cmp_isnt, cmp_notin, deq_int, atI_0, atI_1, atI_2, atI_3, atI_4, atI_5, atI_6, atI_7, atI_last', reduceCtorEq, false_and, and_false, and_true, true_and, E.quiet, E.quiet.E.quietL, Bool.and_self, Bool.and_true, Bool.true_and, decide_eq_true_eq, decide_eq_false_iff_not, Bool.not_eq_true', Bool.not_eq_false', Option.map_some, Option.bind_some, Option.map_none, Option.bind_none, L2.CMul, L2.CDivW, L2.CPow, or_true, true_or, ne_eq, packF, List.isEmpty_nil, List.isEmpty_cons, not_true_eq_false, false_implies, true_implies, forall_const, List.head?_cons, Option.getD_some, Option.getD_none, and_self, or_self, List.mem_cons, or_false, false_or, Nat.reduceEqDiff, Nat.reduceLT, Nat.reduceLeDiff, Int.reducePow, Int.reduceNeg, Int.reduceLT, Int.reduceLE, Int.reduceMul, Int.reduceAdd, Int.reduceSub, Int.reduceToNat, Int.reduceEq, Nat.reducePow, Nat.reduceMul, Nat.reduceBEq, decide_true, decide_false, Bool.not_true, Bool.not_false, List.length_map, imp_self, List.length_append, List.length_set, List.contains_nil, List.elem_eq_mem, Nat.zero_add, bindT_nm, bindT_tp, bindVs_cons, bindVs_nil, clear_nil, clear_cons, cl1_own, cl1_shr, cl1_bor, cl1_none, lock_nil, lock_cons, lk1_own, lk1_bor, lk1_shr, unlock_nil, unlock_cons, ul1_own, ul1_bor, ul1_shr, ul1_none, ownAt_oa, oa_own, oa_shr, oa_bor, owned_nil, owned_one, wipe_nil, wipe_cons, rest_nil, rest_cons, pureAt_pa, pa_none, pa_int, pa_str, pa_bl, pa_non, slots_nm, slots_tp, itemF_own', itemF_bor', itemF_shr', Flow_nx, Flow_rt, it_lst, it_clst, it_tup, it_enum, lockVs_nil, lockVs_own, lockVs_shr, lockVs_bor, rootE, List.all_cons, List.all_nil, finsD, ioVars, leVars, lends, argSl, putBack, ownFin, leOk, List.nodup_cons, List.nodup_nil, Option.some.injEq, Bool.or_false, Bool.false_or, Bool.or_true, Bool.true_or, Bool.and_false, Bool.false_and, D.mut, rd_mutO, rd_mutB, rd_mutS, mvd_mut, deq_str, in_lst, in_clst, in_str, in_nilS, in_nilI, op_ixd, lookD_cons, String.reduceEq, dictF, unz, D.key, Sum.inr.injEq, Sum.inl.injEq, ofString_inj, not_or, isNone, op_mod', op_divO, op_mulL, op_mulR, op_shlO, op_shr', op_powO, it_rng1O, it_rng2O, szO, szO', atI_ints, atI_D, List.getD_cons_zero, List.getD_cons_succ, ixN_ok, deq_bl, beq_self_eq_true, getD_ints, mu_nil, mu_cons, mu_int, mu_str, mu_bl, mu_non, mu_tup, mu_clst, mu_lst, mu_app, rd_pure, mvd_pure, frd_pure, nrm_pureO, op_addT, op_maxD, op_minD, op_max1, op_min1, op_sorted, aug_add, aug_sub, op_bitlen, op_join, op_strI, op_strS, op_listT, op_listC, op_toT, op_fromT, op_toL, op_fromL, it_enumT, op_ixM, in_M, op_lenM, it_keysM, it_valsM, it_itemsM, set_M, op_dg1, op_dg2, op_sortedM, get_M, mod_M, op_rev, op_all, op_any, isb_bl, isntb_bl, key_int, mu_appO, op_isM, in_ints, in_intsT, deq_ints, deq_ints0, op_ixofI, it_keysTM, it_valsTM, it_itemsTM, sda_dM, op_sortedT, op_listM, rd_dMo, rd_dMb, rd_dMs, nrm_dM, nrm_lstI, mvd_dMo, dictF_bl, dictF_int, dK_lstI, dK_tupI, dK_int, dK_bl, Option.elim_some, Option.elim_none, List.take_succ_cons, List.take_zero, List.drop_succ_cons, List.drop_zero, kt_list_list, kt_list_tuple, kt_list_int, kt_list_str, kt_list_bool, kt_tuple_list, kt_tuple_tuple, kt_tuple_int, kt_tuple_str, kt_tuple_bool, kt_int_list, kt_int_tuple, kt_int_int, kt_int_str, kt_int_bool, kt_str_list, kt_str_tuple, kt_str_int, kt_str_str, kt_str_bool, kt_bool_list, kt_bool_tuple, kt_bool_int, kt_bool_str, kt_bool_bool, kt_NoneType_list, kt_NoneType_tuple, kt_NoneType_int, kt_NoneType_str, kt_NoneType_bool, io_p_with_object, io_p_add_object, io_p_end_life, io_p_move_pointer, io_p_first_memory, io_l_draw, io_l_take, io_l_same, io_l_bytes, io_l_deed, io_l_moves, io_law, gl_0, Ob.toD_mut, obs_mut, $xs,*])
section
variable {n : Nat} {d : D} {M : List Ob}
def atD (k o : Int) : D := .tup [.str (Str.ofString "at"), .int k, .int o]
def nullD : D := .tup [.str (Str.ofString "null")]
theorem atD_mut {k o : Int} : (atD k o).mut = false := id rfl
theorem nullD_mut : nullD.mut = false := id rfl
local macro_rules | `(tactic| simp_arith [$xs,*]) => `(tactic| simp -implicitDefEqProofs (disch := first | (simp only [reduceCtorEq, false_implies, implies_true, imp_self, forall_const, IsEmpty.forall_iff]; done) | (simp -implicitDefEqProofs only [mu_nil, mu_cons, mu_int, mu_str, mu_bl, mu_non, mu_tup, mu_clst, mu_app, mutL_ints, Bool.or_self, Bool.or_false, Ob.toD_mut, obs_mut, atD_mut, nullD_mut]; first | done | assumption | (simp -implicitDefEqProofs only [*, Bool.or_self, Bool.or_false]; done)) | omega | assumption | (simp -implicitDefEqProofs only [List.length_cons, List.length_nil, List.length_map, List.length_append, List.length_set, D.mutL, D.mut, mutL_ints, Bool.or_self, Nat.zero_add, Nat.reduceAdd]; done) | (simp only [List.length_cons, List.length_nil, List.length_map, List.length_append, List.length_set, List.length_reverse, List.length_take, List.length_drop, String.length_append, Nat.zero_add, Nat.reduceAdd]; omega)) only [↓x_nil, ↓x_cons, ↓x_asg, ↓x_asgS, ↓x_asgT, ↓x_par, ↓x_put, ↓x_aug, ↓x_expr, ↓x_sda, ↓x_ite, ↓x_for, ↓x_while, ↓x_ret, ↓x_retN, ↓x_brk, ↓x_cnt, ↓x_pass, ↓x_doc, ↓x_run, ↓y_var, ↓y_mv, ↓y_fr, ↓y_cst, ↓y_glob, ↓y_op, ↓y_tup, ↓y_lst, ↓y_call, ↓y_callD, ↓y_bool, ↓y_not, ↓y_ife, ↓y_chain, ↓y_mut, ↓y_lc, ↓y_dc, ↓y_dict, ↓y_kop, ↓b_nil, ↓b_one, ↓b_cons, ↓l_nil, ↓l_var, ↓l_mv, ↓l_fr, ↓l_cst, ↓l_glob, ↓l_op, ↓l_tup, ↓l_lst, ↓l_call, ↓l_bool, ↓l_not, ↓l_ife, ↓l_chain, ↓l_mut, ↓l_lc, ↓l_dict, ↓l_dc, ↓l_kop, ↓wq_bind, ↓wq_map, wq_some, seq_nx, seq_rt, seq_bk, seq_ct, ret_rt, ret_nx, par_2, asgT_t, cstF_non, cstF_bl, cstF_int, cstF_str, kop_ix, kop_in, kop_ni, kop_g1, look_nil, look_cons, wq_none, wq_ite, List.length_cons, List.length_nil, Nat.reduceAdd, if_true, List.map_cons, List.map_nil, Nat.reduceSub, List.replicate, List.cons_append, List.nil_append, Bool.false_eq_true, if_false, List.getElem?_cons_zero, List.getElem?_cons_succ, List.set_cons_zero, List.set_cons_succ, rd_int, rd_str, rd_bl, rd_non, rd_lo, rd_lb, rd_ls, rd_tup, rd_clst, nrm_int, nrm_str, nrm_bl, nrm_non, nrm_lst, nrm_tupF, nrm_clstF, mutL_ints, fin_no, fin_bl, fin_int, fin_lst, fin_clst, fin_tup, fin_non, boolD_bl', intD_int, mvd_int, mvd_str, mvd_bl, mvd_non, mvd_lo, mvd_ls, frd_int, frd_str, frd_bl, frd_non, frd_lo, frd_ls, stV_o, stV_s, putW_own, modP_nil, setD_lst, ixN_0, ixN_1, ixN_2, ixN_3, List.not_mem_nil, not_false_eq_true, op_add, op_sub, op_and, op_or, op_xor, op_addL, op_addS, op_neg, op_inv, op_cmp, op_ixl, op_ixt, op_ixc, op_len, op_lent, op_lenc, op_abs, op_int, op_max, op_min, op_list, op_tupleL, op_isi, op_isl, op_iss, op_ist, op_isn, op_isb, cmp_lt, cmp_le, cmp_gt, cmp_ge, cmp_ne, cmp_is, cmp_isnt, cmp_notin, deq_int, atI_0, atI_1, atI_2, atI_3, atI_4, atI_5, atI_6, atI_7, atI_last', reduceCtorEq, false_and, and_false, and_true, true_and, E.quiet, E.quiet.E.quietL, Bool.and_self, Bool.and_true, Bool.true_and, decide_eq_true_eq, decide_eq_false_iff_not, Bool.not_eq_true', Bool.not_eq_false', Option.map_some, Option.bind_some, Option.map_none, Option.bind_none, L2.CMul, L2.CDivW, L2.CPow, or_true, true_or, ne_eq, packF, List.isEmpty_nil, List.isEmpty_cons, not_true_eq_false, false_implies, true_implies, forall_const, List.head?_cons, Option.getD_some, Option.getD_none, and_self, or_self, List.mem_cons, or_false, false_or, Nat.reduceEqDiff, Nat.reduceLT, Nat.reduceLeDiff, Int.reducePow, Int.reduceNeg, Int.reduceLT, Int.reduceLE, Int.reduceMul, Int.reduceAdd, Int.reduceSub, Int.reduceToNat, Int.reduceEq, Nat.reducePow, Nat.reduceMul, Nat.reduceBEq, decide_true, decide_false, Bool.not_true, Bool.not_false, List.length_map, imp_self, List.length_append, List.length_set, List.contains_nil, List.elem_eq_mem, Nat.zero_add, bindT_nm, bindT_tp, bindVs_cons, bindVs_nil, clear_nil, clear_cons, cl1_own, cl1_shr, cl1_bor, cl1_none, lock_nil, lock_cons, lk1_own, lk1_bor, lk1_shr, unlock_nil, unlock_cons, ul1_own, ul1_bor, ul1_shr, ul1_none, ownAt_oa, oa_own, oa_shr, oa_bor, owned_nil, owned_one, wipe_nil, wipe_cons, rest_nil, rest_cons, pureAt_pa, pa_none, pa_int, pa_str, pa_bl, pa_non, slots_nm, slots_tp, itemF_own', itemF_bor', itemF_shr', Flow_nx, Flow_rt, it_lst, it_clst, it_tup, it_enum, lockVs_nil, lockVs_own, lockVs_shr, lockVs_bor, rootE, List.all_cons, List.all_nil, finsD, ioVars, leVars, lends, argSl, putBack, ownFin, leOk, List.nodup_cons, List.nodup_nil, Option.some.injEq, Bool.or_false, Bool.false_or, Bool.or_true, Bool.true_or, Bool.and_false, Bool.false_and, D.mut, rd_mutO, rd_mutB, rd_mutS, mvd_mut, deq_str, in_lst, in_clst, in_str, in_nilS, in_nilI, op_ixd, lookD_cons, String.reduceEq, dictF, unz, D.key, Sum.inr.injEq, Sum.inl.injEq, ofString_inj, not_or, isNone, op_mod', op_divO, op_mulL, op_mulR, op_shlO, op_shr', op_powO, it_rng1O, it_rng2O, szO, szO', atI_ints, atI_D, List.getD_cons_zero, List.getD_cons_succ, ixN_ok, deq_bl, beq_self_eq_true, getD_ints, mu_nil, mu_cons, mu_int, mu_str, mu_bl, mu_non, mu_tup, mu_clst, mu_lst, mu_app, rd_pure, mvd_pure, frd_pure, nrm_pureO, op_addT, op_maxD, op_minD, op_max1, op_min1, op_sorted, aug_add, aug_sub, op_bitlen, op_join, op_strI, op_strS, op_listT, op_listC, op_toT, op_fromT, op_toL, op_fromL, it_enumT, op_ixM, in_M, op_lenM, it_keysM, it_valsM, it_itemsM, set_M, op_dg1, op_dg2, op_sortedM, get_M, mod_M, op_rev, op_all, op_any, isb_bl, isntb_bl, key_int, mu_appO, op_isM, in_ints, in_intsT, deq_ints, deq_ints0, op_ixofI, it_keysTM, it_valsTM, it_itemsTM, sda_dM, op_sortedT, op_listM, rd_dMo, rd_dMb, rd_dMs, nrm_dM, nrm_lstI, mvd_dMo, dictF_bl, dictF_int, dK_lstI, dK_tupI, dK_int, dK_bl, Option.elim_some, Option.elim_none, List.take_succ_cons, List.take_zero, List.drop_succ_cons, List.drop_zero, kt_list_list, kt_list_tuple, kt_list_int, kt_list_str, kt_list_bool, kt_tuple_list, kt_tuple_tuple, kt_tuple_int, kt_tuple_str, kt_tuple_bool, kt_int_list, kt_int_tuple, kt_int_int, kt_int_str, kt_int_bool, kt_str_list, kt_str_tuple, kt_str_int, kt_str_str, kt_str_bool, kt_bool_list, kt_bool_tuple, kt_bool_int, kt_bool_str, kt_bool_bool, kt_NoneType_list, kt_NoneType_tuple, kt_NoneType_int, kt_NoneType_str, kt_NoneType_bool, io_p_with_object, io_p_add_object, io_p_end_life, io_p_move_pointer, io_p_first_memory, io_l_draw, io_l_take, io_l_same, io_l_bytes, io_l_deed, io_l_moves, io_law, gl_0, Ob.toD_mut, obs_mut, atD_mut, nullD_mut, $xs,*])
theorem atD_fit (j : Nat) {k o : Int} : D.fit (j + 1) (atD k o) = true := fit_tup (by simp) (by simp only [D.fitL, fit_int, Bool.and_self, sD_fit, show D.fit j (.str (Str.ofString "at")) = true from sD_fit j "at"])
theorem nullD_fit (j : Nat) : D.fit (j + 1) nullD = true := fit_tup (by simp) (by simp only [D.fitL, Bool.and_self, show D.fit j (.str (Str.ofString "null")) = true from sD_fit j "null"])
theorem deq_at {k o : Int} : cmpD .Eq (atD k o) nullD = some false := by
  have := deq_of (P := False) (atD_fit 59 (k := k) (o := o)) (nullD_fit 59) rfl rfl ⟨fun e => by simp [atD, nullD] at e, False.elim⟩
  rw [this]; rfl
theorem deq_null : cmpD .Eq nullD nullD = some true := deq_fit (nullD_fit 3) (by decide)
theorem move_w (hn : 1 ≤ n) {k o a : Int} : Wp ((ctxN pg fuel n).call 3 [⟨.own, atD k o⟩, ⟨.own, .int a⟩]) fun r => ∃ fn, r = (⟨.own, atD k ((o + a) % 18446744073709551616)⟩, fn) := by
  have am : (atD k o).mut = false := rfl
  have nd : D.tup [.str (Str.ofString "null")] = nullD := rfl
  have x1 : opD .ix [⟨.own, atD k o⟩, ⟨.own, .int 1⟩] = some ⟨.own, .int k⟩ := rfl
  have x2 : opD .ix [⟨.own, atD k o⟩, ⟨.own, .int 2⟩] = some ⟨.own, .int o⟩ := rfl
  have dq := deq_at (k := k) (o := o)
  have nm : nullD.mut = false := rfl
  rw [call_p_move_pointer (by omega)]
  refine wq_in ?_
  simp_arith [np_p_move_pointer, body_p_move_pointer, ns_p_move_pointer, ios_p_move_pointer, s_p_move_pointer_0, am, nd, dq, nm, s_p_move_pointer_1, x1, x2]
  exact ⟨_, rfl⟩
theorem movn_w (hn : 1 ≤ n) {a : Int} : Wp ((ctxN pg fuel n).call 3 [⟨.own, nullD⟩, ⟨.own, .int a⟩]) fun r => ∃ fn, r = (⟨.own, nullD⟩, fn) := by
  have nd : D.tup [.str (Str.ofString "null")] = nullD := rfl
  have nm : nullD.mut = false := rfl
  have dq := deq_null
  rw [call_p_move_pointer (by omega)]
  refine wq_in ?_
  simp_arith [np_p_move_pointer, body_p_move_pointer, ns_p_move_pointer, ios_p_move_pointer, s_p_move_pointer_0, nd, dq, nm]
  exact ⟨_, rfl⟩
theorem moves_w (hn : 12 ≤ n) (hd : WfD d) : Wp ((ctxN pg fuel n).call 10 [⟨.own, d⟩]) fun r => ∃ (d' : D), r.1 = ⟨.own, .bl true⟩ ∧ (∃ o, r.2 = some ⟨.own, d'⟩ :: o) ∧ WfD d' ∧ d'.mut = true := by
  have hm := hd.mut
  rw [call_l_moves (by omega)]
  refine wq_in ?_
  simp_arith [np_l_moves, body_l_moves, ns_l_moves, ios_l_moves, s_l_moves_0]
  refine wq_cut (take_w (by omega) hd (by decide) (by decide)) ?_
  rintro _ ⟨a, d, rfl, a0, a1, hd, hm⟩
  simp_arith [np_l_moves, body_l_moves, ns_l_moves, ios_l_moves]
  refine wq_cut (take_w (by omega) hd (by decide) (by decide)) ?_
  rintro _ ⟨b, d, rfl, b0, b1, hd, hm⟩
  simp_arith [np_l_moves, body_l_moves, ns_l_moves, ios_l_moves]
  refine wq_cut (take_w (by omega) hd (by decide) (by decide)) ?_
  rintro _ ⟨v, d, rfl, v0, v1, hd, hm⟩
  obtain ⟨am, ham, ea⟩ := pickI (i := v) [0, 1, -1, 9223372036854775808, 18446744073709551621, a, -b] v0 (by simp; omega)
  have ea : ([.int 0, .int 1, .int (-1), .int 9223372036854775808, .int 18446744073709551621, .int a, .int (-b)] : List D).getD v.toNat .non = .int am := ea
  simp_arith [np_l_moves, body_l_moves, ns_l_moves, ios_l_moves, ea, s_l_moves_1]
  refine wq_cut (take_w (by omega) hd (by decide) (by decide)) ?_
  rintro _ ⟨u, d, rfl, u0, u1, hd, hm⟩
  simp_arith [np_l_moves, body_l_moves, ns_l_moves, ios_l_moves]
  refine wq_cut (take_w (by omega) hd (by decide) (by decide)) ?_
  rintro _ ⟨v2, d, rfl, v20, v21, hd, hm⟩
  obtain ⟨off, hoff, eo⟩ := pickI (i := v2) [0, 9, 18446744073709551615, u] v20 (by simp; omega)
  have eo : ([.int 0, .int 9, .int 18446744073709551615, .int u] : List D).getD v2.toNat .non = .int off := eo
  simp_arith [np_l_moves, body_l_moves, ns_l_moves, ios_l_moves, eo, s_l_moves_2]
  refine wq_cut (take_w (by omega) hd (by decide) (by decide)) ?_
  rintro _ ⟨k, d, rfl, k0, k1, hd, hm⟩
  have ea2 : D.tup [.str (Str.ofString "at"), .int k, .int off] = atD k off := rfl
  have ea3 : ∀ z, D.tup [.str (Str.ofString "at"), .int k, .int (z % 18446744073709551616)] = atD k (z % 18446744073709551616) := fun z => rfl
  have nd : D.tup [.str (Str.ofString "null")] = nullD := rfl
  have nm : nullD.mut = false := rfl
  have an : ∀ z, (atD k z).mut = false := fun z => rfl
  simp_arith [np_l_moves, body_l_moves, ns_l_moves, ios_l_moves, s_l_moves_3, s_l_moves_4, ea2, ea3, an]
  refine wq_cut (move_w (by omega)) ?_
  rintro _ ⟨fn, rfl⟩
  simp_arith [np_l_moves, body_l_moves, ns_l_moves, ios_l_moves, an]
  refine wq_cut (same_w 5 (atD k ((off + am) % 18446744073709551616)) (atD_fit 4) rfl (by decide) (by omega)) ?_
  rintro ⟨_, fn⟩ rfl
  simp_arith [np_l_moves, body_l_moves, ns_l_moves, ios_l_moves, s_l_moves_5, nd, nm]
  refine wq_cut (movn_w (by omega)) ?_
  rintro _ ⟨fn, rfl⟩
  have dq := deq_null
  simp_arith [np_l_moves, body_l_moves, ns_l_moves, ios_l_moves, nd, nm, dq]
  exact ⟨d, ⟨_, rfl⟩, hd, hm⟩
end

end B.k16
namespace B.k16
open PySem
local macro_rules | `(tactic| simp_arith [$xs,*]) => `(tactic| simp -implicitDefEqProofs (disch := first | (simp only [reduceCtorEq, false_implies, implies_true, imp_self, forall_const, IsEmpty.forall_iff]; done) | (simp -implicitDefEqProofs only [mu_nil, mu_cons, mu_int, mu_str, mu_bl, mu_non, mu_tup, mu_clst, mu_app, mutL_ints, Bool.or_self, Bool.or_false, Ob.toD_mut, obs_mut, atD_mut, nullD_mut]; first | done | assumption | (simp -implicitDefEqProofs only [*, Bool.or_self, Bool.or_false]; done)) | omega | assumption | (simp -implicitDefEqProofs only [List.length_cons, List.length_nil, List.length_map, List.length_append, List.length_set, D.mutL, D.mut, mutL_ints, Bool.or_self, Nat.zero_add, Nat.reduceAdd]; done) | (simp only [List.length_cons, List.length_nil, List.length_map, List.length_append, List.length_set, List.length_reverse, List.length_take, List.length_drop, String.length_append, Nat.zero_add, Nat.reduceAdd]; omega)) only [↓x_nil, ↓x_cons, ↓x_asg, ↓x_asgS, ↓x_asgT, ↓x_par, ↓x_put, ↓x_aug, ↓x_expr, ↓x_sda, ↓x_ite, ↓x_for, ↓x_while, ↓x_ret, ↓x_retN, ↓x_brk, ↓x_cnt, ↓x_pass, ↓x_doc, ↓x_run, ↓y_var, ↓y_mv, ↓y_fr, ↓y_cst, ↓y_glob, ↓y_op, ↓y_tup, ↓y_lst, ↓y_call, ↓y_callD, ↓y_bool, ↓y_not, ↓y_ife, ↓y_chain, ↓y_mut, ↓y_lc, ↓y_dc, ↓y_dict, ↓y_kop, ↓b_nil, ↓b_one, ↓b_cons, ↓l_nil, ↓l_var, ↓l_mv, ↓l_fr, ↓l_cst, ↓l_glob, ↓l_op, ↓l_tup, ↓l_lst, ↓l_call, ↓l_bool, ↓l_not, ↓l_ife, ↓l_chain, ↓l_mut, ↓l_lc, ↓l_dict, ↓l_dc, ↓l_kop, ↓wq_bind, ↓wq_map, wq_some, seq_nx, seq_rt, seq_bk, seq_ct, ret_rt, ret_nx, par_2, asgT_t, cstF_non, cstF_bl, cstF_int, cstF_str, kop_ix, kop_in, kop_ni, kop_g1, look_nil, look_cons, wq_none, wq_ite, List.length_cons, List.length_nil, Nat.reduceAdd, if_true, List.map_cons, List.map_nil, Nat.reduceSub, List.replicate, List.cons_append, List.nil_append, Bool.false_eq_true, if_false, List.getElem?_cons_zero, List.getElem?_cons_succ, List.set_cons_zero, List.set_cons_succ, rd_int, rd_str, rd_bl, rd_non, rd_lo, rd_lb, rd_ls, rd_tup, rd_clst, nrm_int, nrm_str, nrm_bl, nrm_non, nrm_lst, nrm_tupF, nrm_clstF, mutL_ints, fin_no, fin_bl, fin_int, fin_lst, fin_clst, fin_tup, fin_non, boolD_bl', intD_int, mvd_int, mvd_str, mvd_bl, mvd_non, mvd_lo, mvd_ls, frd_int, frd_str, frd_bl, frd_non, frd_lo, frd_ls, stV_o, stV_s, putW_own, modP_nil, setD_lst, ixN_0, ixN_1, ixN_2, ixN_3, List.not_mem_nil, not_false_eq_true, op_add, op_sub, op_and, op_or, op_xor, op_addL, op_addS, op_neg, op_inv, op_cmp, op_ixl, op_ixt, op_ixc, op_len, op_lent, op_lenc, op_abs, op_int, op_max, op_min, op_list, op_tupleL, op_isi, op_isl, op_iss, op_ist, op_isn, op_isb, cmp_lt, cmp_le, cmp_gt, cmp_ge, cmp_ne, cmp_is, cmp_isnt, cmp_notin, deq_int, atI_0, atI_1, atI_2, atI_3, atI_4, atI_5, atI_6, atI_7, atI_last', reduceCtorEq, false_and, and_false, and_true, true_and, E.quiet, E.quiet.E.quietL, Bool.and_self, Bool.and_true, Bool.true_and, decide_eq_true_eq, decide_eq_false_iff_not, Bool.not_eq_true', Bool.not_eq_false', Option.map_some, Option.bind_some, Option.map_none, Option.bind_none, L2.CMul, L2.CDivW, L2.CPow, or_true, true_or, ne_eq, packF, List.isEmpty_nil, List.isEmpty_cons, not_true_eq_false, false_implies, true_implies, forall_const, List.head?_cons, Option.getD_some, Option.getD_none, and_self, or_self, List.mem_cons, or_false, false_or, Nat.reduceEqDiff, Nat.reduceLT, Nat.reduceLeDiff, Int.reducePow, Int.reduceNeg, Int.reduceLT, Int.reduceLE, Int.reduceMul, Int.reduceAdd, Int.reduceSub, Int.reduceToNat, Int.reduceEq, Nat.reducePow, Nat.reduceMul, Nat.reduceBEq, decide_true, decide_false, Bool.not_true, Bool.not_false, List.length_map, imp_self, List.length_append, List.length_set, List.contains_nil, List.elem_eq_mem, Nat.zero_add, bindT_nm, bindT_tp, bindVs_cons, bindVs_nil, clear_nil, clear_cons, cl1_own, cl1_shr, cl1_bor, cl1_none, lock_nil, lock_cons, lk1_own, lk1_bor, lk1_shr, unlock_nil, unlock_cons, ul1_own, ul1_bor, ul1_shr, ul1_none, ownAt_oa, oa_own, oa_shr, oa_bor, owned_nil, owned_one, wipe_nil, wipe_cons, rest_nil, rest_cons, pureAt_pa, pa_none, pa_int, pa_str, pa_bl, pa_non, slots_nm, slots_tp, itemF_own', itemF_bor', itemF_shr', Flow_nx, Flow_rt, it_lst, it_clst, it_tup, it_enum, lockVs_nil, lockVs_own, lockVs_shr, lockVs_bor, rootE, List.all_cons, List.all_nil, finsD, ioVars, leVars, lends, argSl, putBack, ownFin, leOk, List.nodup_cons, List.nodup_nil, Option.some.injEq, Bool.or_false, Bool.false_or, Bool.or_true, Bool.true_or, Bool.and_false, Bool.false_and, D.mut, rd_mutO, rd_mutB, rd_mutS, mvd_mut, deq_str, in_lst, in_clst, in_str, in_nilS, in_nilI, op_ixd, lookD_cons, String.reduceEq, dictF, unz, D.key, Sum.inr.injEq, Sum.inl.injEq, ofString_inj, not_or, isNone, op_mod', op_divO, op_mulL, op_mulR, op_shlO, op_shr', op_powO, it_rng1O, it_rng2O, szO, szO', atI_ints, atI_D, List.getD_cons_zero, List.getD_cons_succ, ixN_ok, deq_bl, beq_self_eq_true, getD_ints, mu_nil, mu_cons, mu_int, mu_str, mu_bl, mu_non, mu_tup, mu_clst, mu_lst, mu_app, rd_pure, mvd_pure, frd_pure, nrm_pureO, op_addT, op_maxD, op_minD, op_max1, op_min1, op_sorted, aug_add, aug_sub, op_bitlen, op_join, op_strI, op_strS, op_listT, op_listC, op_toT, op_fromT, op_toL, op_fromL, it_enumT, op_ixM, in_M, op_lenM, it_keysM, it_valsM, it_itemsM, set_M, op_dg1, op_dg2, op_sortedM, get_M, mod_M, op_rev, op_all, op_any, isb_bl, isntb_bl, key_int, mu_appO, op_isM, in_ints, in_intsT, deq_ints, deq_ints0, op_ixofI, it_keysTM, it_valsTM, it_itemsTM, sda_dM, op_sortedT, op_listM, rd_dMo, rd_dMb, rd_dMs, nrm_dM, nrm_lstI, mvd_dMo, dictF_bl, dictF_int, dK_lstI, dK_tupI, dK_int, dK_bl, Option.elim_some, Option.elim_none, List.take_succ_cons, List.take_zero, List.drop_succ_cons, List.drop_zero, kt_list_list, kt_list_tuple, kt_list_int, kt_list_str, kt_list_bool, kt_tuple_list, kt_tuple_tuple, kt_tuple_int, kt_tuple_str, kt_tuple_bool, kt_int_list, kt_int_tuple, kt_int_int, kt_int_str, kt_int_bool, kt_str_list, kt_str_tuple, kt_str_int, kt_str_str, kt_str_bool, kt_bool_list, kt_bool_tuple, kt_bool_int, kt_bool_str, kt_bool_bool, kt_NoneType_list, kt_NoneType_tuple, kt_NoneType_int, kt_NoneType_str, kt_NoneType_bool, io_p_with_object, io_p_add_object, io_p_end_life, io_p_move_pointer, io_p_first_memory, io_l_draw, io_l_take, io_l_same, io_l_bytes, io_l_deed, io_l_moves, io_law, gl_0, Ob.toD_mut, obs_mut, atD_mut, nullD_mut, $xs,*])
section
variable {n : Nat} {d : D}
structure Gb where
  name : String
  fixed : Bool
  vals : List Int
def Gb.toD (g : Gb) : D := .tup [sD g.name, .bl g.fixed, .tup (g.vals.map .int)]
def Gb.ob (g : Gb) : Ob := ⟨if g.fixed then "constant" else "global", true, g.vals⟩
theorem Gb.toD_mut (o : Gb) : o.toD.mut = false := by
  show D.mutL [sD o.name, .bl o.fixed, .tup (o.vals.map .int)] = false
  simp [mu_cons, mu_nil, mu_tup, mu_bl, mutL_ints, sD, mu_str]
theorem gbs_mut (l : List Gb) : D.mutL (l.map Gb.toD) = false := mutL_map fun o _ => o.toD_mut
theorem first_w (hn : 2 ≤ n) {G : List Gb} {X : D} (hX : X.mut = false) (hl : G.length ≤ 10) (hv : ∀ g ∈ G, g.vals.length ≤ 100) : Wp ((ctxN pg fuel n).call 4 [⟨.own, .tup [.tup (G.map Gb.toD), X]⟩]) fun r => ∃ fn, r = (⟨.own, .tup ((G.map Gb.ob).map Ob.toD)⟩, fn) := by
  have gm := gbs_mut G
  have e0 : D.tup [] = .tup ((([] : List Gb).map Gb.ob).map Ob.toD) := rfl
  rw [call_p_first_memory (by omega)]
  refine wq_in ?_
  simp_arith [np_p_first_memory, body_p_first_memory, ns_p_first_memory, ios_p_first_memory, s_p_first_memory_0, s_p_first_memory_1, gm, hX, e0]
  refine wq_forS (st := fun ((H, o2, o3, o4) : List Gb × Option FD × Option FD × Option FD) => [some ⟨.own, .tup [.tup (G.map Gb.toD), X]⟩, some ⟨.own, .tup ((H.map Gb.ob).map Ob.toD)⟩, o2, o3, o4]) (J := fun j (H, _) => H = G.take j) ([], none, none, none) rfl (by simp) ?_ ?_
  · rintro j x ⟨H, o2, o3, o4⟩ hx hj rfl
    rw [List.length_map] at hj
    rw [List.getElem?_map, Option.map_eq_some_iff] at hx
    obtain ⟨g, hg, rfl⟩ := hx
    have tk : G.take (j + 1) = G.take j ++ [g] := by rw [List.take_succ, hg]; rfl
    have gl := hv g (List.mem_of_getElem? hg)
    have ge : g.toD = .tup [.str (Str.ofString g.name), .bl g.fixed, .tup (g.vals.map .int)] := rfl
    have tl : (G.take j).length ≤ 10 := by rw [List.length_take]; omega
    have hom := obs_mut ((G.take j).map Gb.ob)
    have hom2 := obs_mut ((G.take j).map Gb.ob ++ [g.ob])
    cases hf : g.fixed with
    | true =>
      have eg : Ob.mk "constant" true g.vals = g.ob := by unfold Gb.ob; rw [hf]; rfl
      rw [ge, hf]
      simp_arith [np_p_first_memory, body_p_first_memory, ns_p_first_memory, ios_p_first_memory, w_p_first_memory_0, hom]
      refine wq_cut (add_w (s := "constant") (cs := g.vals) (by omega) (by rw [List.length_map]; omega) (by omega)) ?_
      rintro _ ⟨fn, rfl⟩
      rw [eg]
      have sm : (sD "at").mut = false := id rfl
      simp_arith [np_p_first_memory, body_p_first_memory, ns_p_first_memory, ios_p_first_memory, hom2, sm]
      exact ⟨(G.take j ++ [g], _, _, _), by rw [List.map_append]; rfl, tk.symm⟩
    | false =>
      have eg : Ob.mk "global" true g.vals = g.ob := by unfold Gb.ob; rw [hf]; rfl
      rw [ge, hf]
      simp_arith [np_p_first_memory, body_p_first_memory, ns_p_first_memory, ios_p_first_memory, w_p_first_memory_0, hom]
      refine wq_cut (add_w (s := "global") (cs := g.vals) (by omega) (by rw [List.length_map]; omega) (by omega)) ?_
      rintro _ ⟨fn, rfl⟩
      rw [eg]
      have sm : (sD "at").mut = false := id rfl
      simp_arith [np_p_first_memory, body_p_first_memory, ns_p_first_memory, ios_p_first_memory, hom2, sm]
      exact ⟨(G.take j ++ [g], _, _, _), by rw [List.map_append]; rfl, tk.symm⟩
  · rintro ⟨H, o2, o3, o4⟩ rfl
    rw [List.length_map, List.take_length]
    have hom := obs_mut (G.map Gb.ob)
    simp_arith [np_p_first_memory, body_p_first_memory, ns_p_first_memory, ios_p_first_memory, s_p_first_memory_2, hom]
    exact ⟨_, rfl⟩
end

end B.k16
namespace B.k16
open PySem
local macro_rules | `(tactic| simp_arith [$xs,*]) => `(tactic| simp -implicitDefEqProofs (disch := first | (simp only [reduceCtorEq, false_implies, implies_true, imp_self, forall_const, IsEmpty.forall_iff]; done) | (simp -implicitDefEqProofs only [mu_nil, mu_cons, mu_int, mu_str, mu_bl, mu_non, mu_tup, mu_clst, mu_app, mutL_ints, Bool.or_self, Bool.or_false, Ob.toD_mut, obs_mut, atD_mut, nullD_mut]; first | done | assumption | (simp -implicitDefEqProofs only [*, Bool.or_self, Bool.or_false]; done)) | omega | assumption | (simp -implicitDefEqProofs only [List.length_cons, List.length_nil, List.length_map, List.length_append, List.length_set, D.mutL, D.mut, mutL_ints, Bool.or_self, Nat.zero_add, Nat.reduceAdd]; done) | (simp only [List.length_cons, List.length_nil, List.length_map, List.length_append, List.length_set, List.length_reverse, List.length_take, List.length_drop, String.length_append, Nat.zero_add, Nat.reduceAdd]; omega)) only [↓x_nil, ↓x_cons, ↓x_asg, ↓x_asgS, ↓x_asgT, ↓x_par, ↓x_put, ↓x_aug, ↓x_expr, ↓x_sda, ↓x_ite, ↓x_for, ↓x_while, ↓x_ret, ↓x_retN, ↓x_brk, ↓x_cnt, ↓x_pass, ↓x_doc, ↓x_run, ↓y_var, ↓y_mv, ↓y_fr, ↓y_cst, ↓y_glob, ↓y_op, ↓y_tup, ↓y_lst, ↓y_call, ↓y_callD, ↓y_bool, ↓y_not, ↓y_ife, ↓y_chain, ↓y_mut, ↓y_lc, ↓y_dc, ↓y_dict, ↓y_kop, ↓b_nil, ↓b_one, ↓b_cons, ↓l_nil, ↓l_var, ↓l_mv, ↓l_fr, ↓l_cst, ↓l_glob, ↓l_op, ↓l_tup, ↓l_lst, ↓l_call, ↓l_bool, ↓l_not, ↓l_ife, ↓l_chain, ↓l_mut, ↓l_lc, ↓l_dict, ↓l_dc, ↓l_kop, ↓wq_bind, ↓wq_map, wq_some, seq_nx, seq_rt, seq_bk, seq_ct, ret_rt, ret_nx, par_2, asgT_t, cstF_non, cstF_bl, cstF_int, cstF_str, kop_ix, kop_in, kop_ni, kop_g1, look_nil, look_cons, wq_none, wq_ite, List.length_cons, List.length_nil, Nat.reduceAdd, if_true, List.map_cons, List.map_nil, Nat.reduceSub, List.replicate, List.cons_append, List.nil_append, Bool.false_eq_true, if_false, List.getElem?_cons_zero, List.getElem?_cons_succ, List.set_cons_zero, List.set_cons_succ, rd_int, rd_str, rd_bl, rd_non, rd_lo, rd_lb, rd_ls, rd_tup, rd_clst, nrm_int, nrm_str, nrm_bl, nrm_non, nrm_lst, nrm_tupF, nrm_clstF, mutL_ints, fin_no, fin_bl, fin_int, fin_lst, fin_clst, fin_tup, fin_non, boolD_bl', intD_int, mvd_int, mvd_str, mvd_bl, mvd_non, mvd_lo, mvd_ls, frd_int, frd_str, frd_bl, frd_non, frd_lo, frd_ls, stV_o, stV_s, putW_own, modP_nil, setD_lst, ixN_0, ixN_1, ixN_2, ixN_3, List.not_mem_nil, not_false_eq_true, op_add, op_sub, op_and, op_or, op_xor, op_addL, op_addS, op_neg, op_inv, op_cmp, op_ixl, op_ixt, op_ixc, op_len, op_lent, op_lenc, op_abs, op_int, op_max, op_min, op_list, op_tupleL, op_isi, op_isl, op_iss, op_ist, op_isn, op_isb, cmp_lt, cmp_le, cmp_gt, cmp_ge, cmp_ne, cmp_is, cmp_isnt, cmp_notin, deq_int, atI_0, atI_1, atI_2, atI_3, atI_4, atI_5, atI_6, atI_7, atI_last', reduceCtorEq, false_and, and_false, and_true, true_and, E.quiet, E.quiet.E.quietL, Bool.and_self, Bool.and_true, Bool.true_and, decide_eq_true_eq, decide_eq_false_iff_not, Bool.not_eq_true', Bool.not_eq_false', Option.map_some, Option.bind_some, Option.map_none, Option.bind_none, L2.CMul, L2.CDivW, L2.CPow, or_true, true_or, ne_eq, packF, List.isEmpty_nil, List.isEmpty_cons, not_true_eq_false, false_implies, true_implies, forall_const, List.head?_cons, Option.getD_some, Option.getD_none, and_self, or_self, List.mem_cons, or_false, false_or, Nat.reduceEqDiff, Nat.reduceLT, Nat.reduceLeDiff, Int.reducePow, Int.reduceNeg, Int.reduceLT, Int.reduceLE, Int.reduceMul, Int.reduceAdd, Int.reduceSub, Int.reduceToNat, Int.reduceEq, Nat.reducePow, Nat.reduceMul, Nat.reduceBEq, decide_true, decide_false, Bool.not_true, Bool.not_false, List.length_map, imp_self, List.length_append, List.length_set, List.contains_nil, List.elem_eq_mem, Nat.zero_add, bindT_nm, bindT_tp, bindVs_cons, bindVs_nil, clear_nil, clear_cons, cl1_own, cl1_shr, cl1_bor, cl1_none, lock_nil, lock_cons, lk1_own, lk1_bor, lk1_shr, unlock_nil, unlock_cons, ul1_own, ul1_bor, ul1_shr, ul1_none, ownAt_oa, oa_own, oa_shr, oa_bor, owned_nil, owned_one, wipe_nil, wipe_cons, rest_nil, rest_cons, pureAt_pa, pa_none, pa_int, pa_str, pa_bl, pa_non, slots_nm, slots_tp, itemF_own', itemF_bor', itemF_shr', Flow_nx, Flow_rt, it_lst, it_clst, it_tup, it_enum, lockVs_nil, lockVs_own, lockVs_shr, lockVs_bor, rootE, List.all_cons, List.all_nil, finsD, ioVars, leVars, lends, argSl, putBack, ownFin, leOk, List.nodup_cons, List.nodup_nil, Option.some.injEq, Bool.or_false, Bool.false_or, Bool.or_true, Bool.true_or, Bool.and_false, Bool.false_and, D.mut, rd_mutO, rd_mutB, rd_mutS, mvd_mut, deq_str, in_lst, in_clst, in_str, in_nilS, in_nilI, op_ixd, lookD_cons, String.reduceEq, dictF, unz, D.key, Sum.inr.injEq, Sum.inl.injEq, ofString_inj, not_or, isNone, op_mod', op_divO, op_mulL, op_mulR, op_shlO, op_shr', op_powO, it_rng1O, it_rng2O, szO, szO', atI_ints, atI_D, List.getD_cons_zero, List.getD_cons_succ, ixN_ok, deq_bl, beq_self_eq_true, getD_ints, mu_nil, mu_cons, mu_int, mu_str, mu_bl, mu_non, mu_tup, mu_clst, mu_lst, mu_app, rd_pure, mvd_pure, frd_pure, nrm_pureO, op_addT, op_maxD, op_minD, op_max1, op_min1, op_sorted, aug_add, aug_sub, op_bitlen, op_join, op_strI, op_strS, op_listT, op_listC, op_toT, op_fromT, op_toL, op_fromL, it_enumT, op_ixM, in_M, op_lenM, it_keysM, it_valsM, it_itemsM, set_M, op_dg1, op_dg2, op_sortedM, get_M, mod_M, op_rev, op_all, op_any, isb_bl, isntb_bl, key_int, mu_appO, op_isM, in_ints, in_intsT, deq_ints, deq_ints0, op_ixofI, it_keysTM, it_valsTM, it_itemsTM, sda_dM, op_sortedT, op_listM, rd_dMo, rd_dMb, rd_dMs, nrm_dM, nrm_lstI, mvd_dMo, dictF_bl, dictF_int, dK_lstI, dK_tupI, dK_int, dK_bl, Option.elim_some, Option.elim_none, List.take_succ_cons, List.take_zero, List.drop_succ_cons, List.drop_zero, kt_list_list, kt_list_tuple, kt_list_int, kt_list_str, kt_list_bool, kt_tuple_list, kt_tuple_tuple, kt_tuple_int, kt_tuple_str, kt_tuple_bool, kt_int_list, kt_int_tuple, kt_int_int, kt_int_str, kt_int_bool, kt_str_list, kt_str_tuple, kt_str_int, kt_str_str, kt_str_bool, kt_bool_list, kt_bool_tuple, kt_bool_int, kt_bool_str, kt_bool_bool, kt_NoneType_list, kt_NoneType_tuple, kt_NoneType_int, kt_NoneType_str, kt_NoneType_bool, io_p_with_object, io_p_add_object, io_p_end_life, io_p_move_pointer, io_p_first_memory, io_l_draw, io_l_take, io_l_same, io_l_bytes, io_l_deed, io_l_moves, io_law, gl_0, Ob.toD_mut, obs_mut, atD_mut, nullD_mut, $xs,*])
theorem main (ns : List Int) (h : ns.length ≤ 63) : ∃ fn, (ctxN pg fuel 40).call 11 [⟨.own, .clst (ns.map D.int)⟩] = some (⟨.own, .bl true⟩, fn) := by
  suffices Wp ((ctxN pg fuel 40).call 11 [⟨.own, .clst (ns.map D.int)⟩]) fun r => r.1 = ⟨.own, .bl true⟩ by
    obtain ⟨⟨r, fn⟩, e, rfl⟩ := this
    exact ⟨fn, e⟩
  rw [call_law (by omega)]
  refine wq_in ?_
  simp_arith [np_law, body_law, ns_law, ios_law, mutL_ints, s_law_0]
  refine wq_cut (draw_w (by omega) ns h) ?_
  rintro _ ⟨d, rfl, hd, hm⟩
  have e0 : D.tup [] = .tup (([] : List Ob).map Ob.toD) := rfl
  have ne : cmpD .Eq (.lst []) (.lst []) = some true := deq_fit (d := .lst []) (k := 1) rfl (by decide)
  simp_arith [np_law, body_law, ns_law, ios_law, s_law_1, s_law_2, s_law_3]
  refine wq_cut (take_w (by omega) hd (by decide) (by decide)) ?_
  rintro _ ⟨v, d, rfl, v0, v1, hd, hm⟩
  simp_arith [np_law, body_law, ns_law, ios_law, e0]
  refine wq_forR (st := fun ((d, M, o4) : D × List Ob × Option FD) => [some ⟨.own, .clst (ns.map D.int)⟩, some ⟨.own, d⟩, some ⟨.own, .tup (M.map Ob.toD)⟩, some ⟨.own, .lst []⟩, o4, none, none, none, none, none, none]) (J := fun j (d, M, _) => WfD d ∧ (∀ o ∈ M, o.Ok) ∧ M.length ≤ j) (d, [], none) rfl ⟨hd, (fun o m => by cases m), Nat.le_refl _⟩ ?_ ?_
  · rintro j ⟨d, M, o4⟩ hj ⟨hd, hM, hl⟩
    have hd : WfD d := hd
    have hM : ∀ o ∈ M, o.Ok := hM
    have hl : M.length ≤ j := hl
    have hm := hd.mut
    have om := obs_mut M
    simp_arith [np_law, body_law, ns_law, ios_law, w_law_0, w_law_0_0, om]
    refine wq_cut (deed_w (by omega) hd hM (by omega)) ?_
    rintro ⟨_, _⟩ ⟨M2, d, rfl, ⟨o, o', rfl⟩, hM2, hl2, hd, hm⟩
    have om2 := obs_mut M2
    simp_arith [np_law, body_law, ns_law, ios_law, w_law_0_1, om2, ne]
    refine wq_cut (moves_w (by omega) hd) ?_
    rintro ⟨_, _⟩ ⟨d, rfl, ⟨o, rfl⟩, hd, hm⟩
    simp_arith [np_law, body_law, ns_law, ios_law]
    exact ⟨(d, M2, _), rfl, hd, hM2, by show M2.length ≤ j + 1; omega⟩
  rintro ⟨d, M, o4⟩ ⟨hd, hM, hl⟩
  have hd : WfD d := hd
  have hm := hd.mut
  simp_arith [np_law, body_law, ns_law, ios_law, s_law_4, s_law_5, s_law_6]
  refine wq_cut (take_w (by omega) hd (by decide) (by decide)) ?_
  rintro _ ⟨w, d, rfl, w0, w1, hd, hm⟩
  simp_arith [np_law, body_law, ns_law, ios_law]
  refine wq_forR (st := fun ((d, G, o7, o8, o9) : D × List Gb × Option FD × Option FD × Option FD) => [some ⟨.own, .clst (ns.map D.int)⟩, some ⟨.own, d⟩, some ⟨.own, .tup (M.map Ob.toD)⟩, some ⟨.own, .lst []⟩, o4, some ⟨.own, .lst (G.map Gb.toD)⟩, some ⟨.own, .lst ((G.map Gb.ob).map Ob.toD)⟩, o7, o8, o9, none]) (J := fun j (d, G, _) => WfD d ∧ G.length = j ∧ ∀ g ∈ G, g.vals.length ≤ 13 ∧ ∀ c ∈ g.vals, 0 ≤ c ∧ c < 256) (d, [], none, none, none) rfl ⟨hd, rfl, fun g m => by cases m⟩ ?_ ?_
  · rintro j ⟨d, G, o7, o8, o9⟩ hj ⟨hd, hl, hG⟩
    have hd : WfD d := hd
    have hl : G.length = j := hl
    have hG : ∀ g ∈ G, g.vals.length ≤ 13 ∧ ∀ c ∈ g.vals, 0 ≤ c ∧ c < 256 := hG
    have hm := hd.mut
    simp_arith [np_law, body_law, ns_law, ios_law, w_law_4, w_law_4_0]
    refine wq_cut (take_w (by omega) hd (by decide) (by decide)) ?_
    rintro _ ⟨f, d, rfl, f0, f1, hd, hm⟩
    obtain ⟨fx, hfx⟩ : ∃ fx, fx = decide (f = 1) := ⟨_, rfl⟩
    simp_arith [np_law, body_law, ns_law, ios_law, w_law_4_1, ← hfx]
    refine wq_cut (bytes_w (by omega) hd (by decide) (by decide)) ?_
    rintro ⟨_, _⟩ ⟨bs, d, rfl, ⟨o1, rfl⟩, bl, bc, hd, hm⟩
    have bm := mutL_ints bs
    obtain ⟨nm, hnm, en⟩ := pickS (i := (j : Int)) ["g", "b2", "table"] (by omega) (by simp; omega)
    have en : ([.str (Str.ofString "g"), .str (Str.ofString "b2"), .str (Str.ofString "table")] : List D).getD (j : Int).toNat .non = sD nm := en
    have ap : (G.map Gb.toD) ++ [.tup [sD nm, .bl fx, .tup (.int 7 :: bs.map .int)]] = (G ++ [Gb.mk nm fx (7 :: bs)]).map Gb.toD := by rw [List.map_append]; rfl
    have sm : (sD nm).mut = false := id rfl
    have new : ∀ g ∈ G ++ [Gb.mk nm fx (7 :: bs)], g.vals.length ≤ 13 ∧ ∀ c ∈ g.vals, 0 ≤ c ∧ c < 256 := fun g m => by
      rcases List.mem_append.mp m with m | m
      · exact hG g m
      · rw [List.mem_singleton.mp m]
        exact ⟨by show bs.length + 1 ≤ 13; omega, fun c m => (List.mem_cons.mp m).elim (fun e => by rw [e]; decide) (bc c)⟩
    have ib0 : ∀ f : Fl, opD (.blt .int) [⟨f, .bl false⟩] = some ⟨.own, .int 0⟩ := fun f => rfl
    have ib1 : ∀ f : Fl, opD (.blt .int) [⟨f, .bl true⟩] = some ⟨.own, .int 1⟩ := fun f => rfl
    clear hfx
    cases fx with
    | false =>
      have ap2 : ((G.map Gb.ob).map Ob.toD) ++ [.tup [.str (Str.ofString "global"), .bl true, .tup (.int 7 :: bs.map .int)]] = ((G ++ [Gb.mk nm false (7 :: bs)]).map Gb.ob).map Ob.toD := by rw [List.map_append, List.map_append]; rfl
      simp_arith [np_law, body_law, ns_law, ios_law, w_law_4_2, en, sm, mutR, muOk, nodeLst, getP, ap, w_law_4_3, ib0, ap2]
      exact ⟨(d, G ++ [Gb.mk nm false (7 :: bs)], _, _, _), rfl, hd, by show (G ++ [_]).length = j + 1; rw [List.length_append, hl]; rfl, new⟩
    | true =>
      have ap2 : ((G.map Gb.ob).map Ob.toD) ++ [.tup [.str (Str.ofString "constant"), .bl true, .tup (.int 7 :: bs.map .int)]] = ((G ++ [Gb.mk nm true (7 :: bs)]).map Gb.ob).map Ob.toD := by rw [List.map_append, List.map_append]; rfl
      simp_arith [np_law, body_law, ns_law, ios_law, w_law_4_2, en, sm, mutR, muOk, nodeLst, getP, ap, w_law_4_3, ib1, ap2]
      exact ⟨(d, G ++ [Gb.mk nm true (7 :: bs)], _, _, _), rfl, hd, by show (G ++ [_]).length = j + 1; rw [List.length_append, hl]; rfl, new⟩
  · rintro ⟨d, G, o7, o8, o9⟩ ⟨hd, hl, hG⟩
    have hl : G.length = w.toNat := hl
    have hG : ∀ g ∈ G, g.vals.length ≤ 13 ∧ ∀ c ∈ g.vals, 0 ≤ c ∧ c < 256 := hG
    have gm := gbs_mut G
    have om := obs_mut (G.map Gb.ob)
    have gok : ∀ o ∈ G.map Gb.ob, o.Ok := fun o m => by
      obtain ⟨g, hg, rfl⟩ := List.mem_map.mp m
      refine ⟨?_, by have := (hG g hg).1; show g.vals.length ≤ 41; omega, (hG g hg).2⟩
      show (if g.fixed = true then "constant" else "global") ∈ SO
      split <;> decide
    simp_arith [np_law, body_law, ns_law, ios_law, s_law_7, gm, s_law_8]
    refine wq_cut (first_w (by omega) ?_ (by omega) fun g m => by have := (hG g m).1; omega) ?_
    · rfl
    rintro _ ⟨fn, rfl⟩
    simp_arith [np_law, body_law, ns_law, ios_law, om]
    refine wq_cut (same_w 10 (.tup ((G.map Gb.ob).map Ob.toD)) (obs_fit 7 gok (by rw [List.length_map]; omega)) om (by decide) (by omega)) ?_
    rintro ⟨_, fn⟩ rfl
    simp_arith [np_law, body_law, ns_law, ios_law]

end B.k16
namespace B.k16
open PySem PySem.Spec L2 PyProof.Rows
def top (i : Nat) : Stmt := PySem.Challenge.pw_burnish_k16_objects_and_lives.main.body.getD i (.Pass ⟨0, 0, 0, 0⟩)
def ents : List (Ent × Stmt) := [(e_p_with_object, top 2), (e_p_add_object, top 3), (e_p_end_life, top 4), (e_p_move_pointer, top 5), (e_p_first_memory, top 6), (e_l_draw, top 8), (e_l_take, top 9), (e_l_same, top 10), (e_l_bytes, top 11), (e_l_deed, top 12), (e_l_moves, top 13), (e_law, top 14)]
def nosL : List Str := "repr!" :: nos
theorem ok : (ents.all fun p => entOk ⟨fnsOf 0 ents, namesOf gls, nosL, namesOf gds⟩ p.1 p.2) = true := by decide +kernel
theorem bnd : ∀ p ∈ ents, BindOk p.1 p.2 := by
  unfold ents
  refine List.forall_mem_cons.mpr ⟨fun _ _ _ _ _ _ us hl => match us, hl with | [_, _, _], _ => rfl, ?_⟩
  refine List.forall_mem_cons.mpr ⟨fun _ _ _ _ _ _ us hl => match us, hl with | [_, _, _], _ => rfl, ?_⟩
  refine List.forall_mem_cons.mpr ⟨fun _ _ _ _ _ _ us hl => match us, hl with | [_, _], _ => rfl, ?_⟩
  refine List.forall_mem_cons.mpr ⟨fun _ _ _ _ _ _ us hl => match us, hl with | [_, _], _ => rfl, ?_⟩
  refine List.forall_mem_cons.mpr ⟨fun _ _ _ _ _ _ us hl => match us, hl with | [_], _ => rfl, ?_⟩
  refine List.forall_mem_cons.mpr ⟨fun _ _ _ _ _ _ us hl => match us, hl with | [_], _ => rfl, ?_⟩
  refine List.forall_mem_cons.mpr ⟨fun _ _ _ _ _ _ us hl => match us, hl with | [_, _], _ => rfl, ?_⟩
  refine List.forall_mem_cons.mpr ⟨fun _ _ _ _ _ _ us hl => match us, hl with | [_, _], _ => rfl, ?_⟩
  refine List.forall_mem_cons.mpr ⟨fun _ _ _ _ _ _ us hl => match us, hl with | [_, _], _ => rfl, ?_⟩
  refine List.forall_mem_cons.mpr ⟨fun _ _ _ _ _ _ us hl => match us, hl with | [_, _, _], _ => rfl, ?_⟩
  refine List.forall_mem_cons.mpr ⟨fun _ _ _ _ _ _ us hl => match us, hl with | [_], _ => rfl, ?_⟩
  refine List.forall_mem_cons.mpr ⟨fun _ _ _ _ _ _ us hl => match us, hl with | [_], _ => rfl, ?_⟩
  exact fun _ z => nomatch z
abbrev R : PySem.W.OpenRow := PySem.W.OpenLaw.row PySem.Challenge.rw_burnish_k16_objects_and_lives
abbrev hk : PySem.W.Hook := hookB 4 (faOf ents nosL gls gds) (fnOfE ents) (tsOf gds)
def ob (s : PySem.W.SharedT) : He.AlT := obsBG 4 (faOf ents nosL gls gds) (fnOfE ents) (tsOf gds) (HandSHeadRun.getT s)
theorem ob_eq (s : PySem.W.SharedT) : ob s = hk.obs s.abs := obsBG_eq (HandSHeadRun.getT_eq s)
theorem run (w : World) : HandSHeadRun.RunEq R (PySem.W.view R.prog [14]) hk ob 4000 names w := by
  intro os
  kernel_rfl
end B.k16
open PySem PySem.W PySem.Calls PyProof.Rows
set_option maxRecDepth 100000 in
set_option maxHeartbeats 0 in
theorem PySem.Challenge.cw_burnish_k16_objects_and_lives_holds : PySem.Challenge.rw_burnish_k16_objects_and_lives.Holds := by
  w_on; o_law
  refine HandSHeadRun.head_any (r := OpenLaw.row PySem.Challenge.rw_burnish_k16_objects_and_lives) (q := view (OpenLaw.row PySem.Challenge.rw_burnish_k16_objects_and_lives).prog [14]) (H := B.k16.hk) (ob := B.k16.ob) (M := 4000) (loose := B.k16.names) (d := HandSHeadRun.topDef (OpenLaw.row PySem.Challenge.rw_burnish_k16_objects_and_lives).prog 14) (kwd := []) B.k16.ob_eq
    (by kernel_rfl) (fun s => by kernel_rfl) B.k16.run (by kernel_rfl) (by kernel_rfl) (by kernel_rfl) (by rfl) (by first | assumption | decide +kernel) (by decide +kernel) ⟨rfl, rfl, rfl, rfl, rfl, by decide +kernel⟩ ?hw ?hc
  case hw => w_witness2
  case hc =>
    refine B.walkG (l := PySem.Challenge.rw_burnish_k16_objects_and_lives) (n := 63) rfl (by decide) (by kernel_rfl) ?F
    intro w mg fa h Y G hmg0
    obtain ⟨K, KX, c⟩ := Y
    have hmg : mg B.k16.e_law.nm = some (.ref fa) := by
      have e : (HandSHeadRun.topDef (OpenLaw.row PySem.Challenge.rw_burnish_k16_objects_and_lives).prog 14).name = B.k16.e_law.nm := by kernel_rfl
      rw [← e]
      exact hmg0
    refine ⟨K, KX, fun s1 a ns hl base H Xb Gb e0 hO hS => ?_⟩
    exact B.law_ofG (P := (PySem.Challenge.rw_burnish_k16_objects_and_lives).prog) (w := w) (fuel := B.k16.fuel) (lvl := 40) (f := 11) (Pg := B.k16.pg) (gl := B.k16.gls) (gd := B.k16.gds) (p := (B.k16.e_law, B.k16.top 14)) rfl rfl rfl B.k16.ok B.k16.bnd rfl rfl KX G hmg c ⟨rfl, by decide, by decide⟩ Xb Gb e0 (B.sp_of hO hS (B.k16.main ns hl))
