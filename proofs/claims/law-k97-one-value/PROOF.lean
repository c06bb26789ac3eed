import PyProof.Rows.All
import Wide.All
import OpenK.AllK
import Wide.FinOn
import HandS.ForMost
import HandS.SetKeys
import HandS.NoneIn
import KE.GoesEnum
import HandS.SetFor
import HandS.Strs
import HandS.SortInts
import HandS.SortKw
import HandS.TupSets
import HandS.More
import HandS.Conv
import KE.DataMinMax
import HandS.Sort
import HandS.Walk
import KE.KDictWalk
import HandS.TupAny
import HandS.CallRecv
import HandS.Defaults
import HandS.Flow
import HandS.Style
import HandS.Wide
import HandS.DictComp
import HandS.Codes
import PySem.Challenge.RW_tanglehouse_k97_whole_one_value_one_tang
set_option Elab.async false
set_option maxRecDepth 100000
section
set_option Elab.async false
set_option linter.all false
set_option maxRecDepth 100000
/-! Rules of our own: enumerate over a tuple, over a fresh dict; keys and values of a fresh dict. -/
namespace TH
open PySem PySem.Spec PyProof.Rows L2
open Sem (wp)
open AutoSeq1 (wpAny_loadPart')

set_option maxHeartbeats 1000000 in
theorem enum_new1 {v : Value} {o : Obj} {C : Heap → Prop} (B : Begins v o C) :
    Meets (Builtin.«enumerate.__new__» ⟨[.type "enumerate", v], []⟩) (fun _ R s => C s.heap ∧
      R (.ok (.ret (.ref (s.heap.push o).objs.size))) { s with heap := (s.heap.push o).push { cls := .type "enumerate", data := .fields #[.none, .bool false, .ref s.heap.objs.size, rawInt 0, .none, .none] } }) :=
  .of_wp fun prog w A R s hyp => by
    obtain ⟨hp, g, d, tk, os⟩ := s
    obtain ⟨hC, hyp⟩ := hyp
    have hsub := sub_enumerate
    have it1 : ∀ {A' : Around} {E : Value → Shared → Prop} {Q : Value → Shared → Prop}, Q (.ref hp.objs.size) ⟨hp.push o, g, d, tk, os⟩ → wpAny (model prog w) A' (pyIter v) Q E ⟨hp, g, d, tk, os⟩ :=
      fun q => B.iter prog w _ _ ⟨hp, g, d, tk, os⟩ _ hC q
    wp_walk using it1
    refine wpAny_stack_any fun st => wpAny_pure ?_
    split
    · rename_i c _ _ _ _ _
      cases (c == Value.type "enumerate")
      · wp_walk using it1
        exact ⟨_, rfl, hyp⟩
      · wp_walk using it1
        exact ⟨_, rfl, hyp⟩
    · wp_walk using it1
      exact ⟨_, rfl, hyp⟩

theorem enum_begin1 {prog : Program} {w : World} {A : Around} {E : Value → Shared → Prop} {s : Shared} {v : Value} {o : Obj} {C : Heap → Prop} {Q : Value → Shared → Prop} (B : Begins v o C) (hC : C s.heap)
    (h : ∀ h', IsEnum h' (s.heap.objs.size + 1) s.heap.objs.size 0 .none → h'.get? s.heap.objs.size = some o → h'.objs.size = s.heap.objs.size + 2 →
      (∀ b o, s.heap.get? b = some o → h'.get? b = some o) → Q (.ref (s.heap.objs.size + 1)) { s with heap := h' }) :
    wpAny (model prog w) A (call (.type "enumerate") [v]) Q E s := by
  refine callType_new F.called_enumerate (by decide) (F.typeCall_enumerate_1 _) (F.newCall_enumerate_1 _) (fun obj => F.args_object_init_2 obj _) F.entry_enumerate_new
    (enum_new1 B) ⟨hC, ?_⟩
  have sz : (s.heap.push o).objs.size = s.heap.objs.size + 1 := Heap.size_push ..
  show _ ∧ _
  rw [sz]
  have en : IsEnum ((s.heap.push o).push { cls := .type "enumerate", data := .fields #[.none, .bool false, .ref s.heap.objs.size, rawInt 0, .none, .none] }) (s.heap.objs.size + 1) s.heap.objs.size 0 .none := by
    have := Heap.get?_push_size (s.heap.push o) (o := { cls := .type "enumerate", data := .fields #[.none, .bool false, .ref s.heap.objs.size, rawInt 0, .none, .none] }) rfl
    rw [sz] at this
    exact this
  refine ⟨⟨_, en, rfl⟩, h _ en (Heap.get?_push_of_some _ (Heap.get?_push_size _ B.free)) (by rw [Heap.size_push, sz]) fun b o x => Heap.get?_push_of_some _ (Heap.get?_push_of_some _ x)⟩

/-! ### enumerate(tuple) -/
def IteT (K : PySem.W.Frag) (a : Addr) : It :=
  ⟨fun i H => ∃ (xs : List V) (x : V), SqT K H a xs ∧ xs[i]? = some x, fun i H v H' => ∃ T x, v = .ref T ∧ H T = none ∧ H' = upd H T (.tup [.int (i : Nat), x]) ∧ ∀ xs, SqT K H a xs → xs[i]? = some x, fun i H => ∃ xs : List V, SqT K H a xs ∧ xs.length = i⟩

theorem isTup_isTuple {h : Heap} {a : Addr} {its : Array Value} (p : IsTup h a its) : h.IsTuple a its := by
  obtain ⟨o, e, c, n, d⟩ := p
  exact ⟨o, e, c, n, d⟩

theorem ne_enum_tup {h : Heap} {e it a : Addr} {k : Int} {old : Value} {its : Array Value} (he : IsEnum h e it k old) (ht : h.IsTuple a its) : e ≠ a := by
  intro z
  subst z
  obtain ⟨o, eo, c, _⟩ := ht
  have he : h.get? e = some _ := he
  rw [he] at eo
  cases eo
  exact absurd (show Value.type "enumerate" = Value.type "tuple" from c) (by decide)
theorem ne_enum_dict {h : Heap} {e it d : Addr} {k : Int} {old : Value} {o : Obj} (he : IsEnum h e it k old) (ho : h.get? d = some o) (hx : o.ExactDict) : e ≠ d := by
  intro z
  subst z
  have he : h.get? e = some _ := he
  rw [he] at ho
  cases ho
  exact absurd (show Value.type "enumerate" = Value.type "dict" from hx.1) (by decide)

section
variable {P : Program} {w : World} {K : PySem.W.Frag} {elts : List Expr} {kk : Nat} {tpos : Pos}
theorem turn_enumT (a e it : Addr) :
    Turn P w K (.Tuple elts kk tpos) (IteT K a) [e, it] e (fun i h => (∃ old, IsEnum h e it ((i : Nat) : Int) old) ∧ h.IsTupleIter it a i ∧ e ≠ it) where
  mem := by simp
  obj := fun i h st b hb => by
    obtain ⟨⟨old, he⟩, ⟨o, ho, hc, hd⟩, _⟩ := st
    rcases (show b = e ∨ b = it by simpa using hb) with z | z
    · subst z
      exact ⟨_, he, fun v q => nomatch q⟩
    · subst z
      exact ⟨o, ho, fun v q => by rw [hd] at q; cases q⟩
  keep := fun i h h' st k => let ⟨⟨old, he⟩, hi, hne⟩ := st; ⟨⟨old, k e (by simp) _ he⟩, hi.at fun o q => k it (by simp) o q, hne⟩
  item := by
    intro X hP hw hK hc i pins s σ H E I hf st hg
    subst hP hw hK
    obtain ⟨⟨old, he⟩, hit, hne⟩ := st
    obtain ⟨xs, x, hq, hx⟩ := hg
    obtain ⟨its, rv, p, hz⟩ := I.tuple hq
    obtain ⟨u, hu, ru⟩ := rv.get hx
    have pt := isTup_isTuple p
    have hea := ne_enum_tup he pt
    have hel : e < s.heap.objs.size := Heap.lt_size he
    have hil : it < s.heap.objs.size := by obtain ⟨_, q, _⟩ := hit; exact Heap.lt_size q
    have hal : a < s.heap.objs.size := by obtain ⟨_, q, _⟩ := pt; exact Heap.lt_size q
    have hai : a ≠ it := by
      intro z
      subst z
      obtain ⟨o, eo, c, _⟩ := pt
      obtain ⟨o', eo', c', _⟩ := hit
      rw [eo] at eo'
      cases eo'
      rw [c] at c'
      exact absurd c' (by decide)
    have hn : i < its.toArray.size := by
      rcases Nat.lt_or_ge i its.length with q | q
      · simpa using q
      · rw [List.getElem?_eq_none q] at hu
        cases hu
    refine wpAny_pyNext_enum_itemD (Draws.tuple (A := X.A.in1) (I.ok.hd hc) it a hai its.toArray) he ⟨hit, pt⟩ hn hne (by simp [hea, hne]) fun y h' tk hy ho hst' hT hsz hk => ?_
    have ey : y = u := by
      have q : its.toArray[i]? = some y := hy
      rw [List.getElem?_toArray, hu] at q
      exact (Option.some.inj q).symm
    subst ey
    refine ⟨_, rfl, wpAny_letOwnedTupleGo_enum (s := { s with heap := h', toks := tk + 1 }) ho fun h'' he' sb => ?_⟩
    have hT2 : h''.get? s.heap.objs.size = some { cls := .type "tuple", data := .seq #[.int i tk, y] } := (sb.2 _ (Nat.ne_of_gt hel)).trans hT
    have new : ObjOk X.prog X.w (upd H s.heap.objs.size (.tup [.int (i : Nat), x])) h'' s.heap.objs.size (.tup [.int (i : Nat), x]) :=
      ⟨by show 2 ≤ sizeLine; decide, [.int i tk, y], .cons ⟨_, rfl⟩ (.cons ru .nil), ⟨_, hT2, rfl, _, rfl⟩⟩
    have I1 : Inv X pins σ (upd H s.heap.objs.size (.tup [.int (i : Nat), x])) { s with heap := h'', toks := tk + 1 } :=
      I.turnedNew (ch := [e, it]) (fun b ob hb q => (sb.2 b (fun z => hb (by simp [z]))).trans (hk b ob (fun z => hb (by simp [z])) (fun z => hb (by simp [z])) q)) hf (Nat.le_refl _) new
    refine ⟨.ref s.heap.objs.size, _, I1, rfl, ⟨_, x, rfl, I.hok.fresh (Nat.le_refl _), rfl, fun ys hy => by rw [I.tuple_inj hy hq]; exact hx⟩, ⟨⟨y, ?_⟩, hst'.1.at fun o q => (sb.2 it (Ne.symm hne)).trans q, hne⟩, fun b hb => ?_⟩
    · have e1 : ((i + 1 : Nat) : Int) = (i : Int) + 1 := by omega
      rw [e1]
      exact he'
    · have hb' : b < s.heap.objs.size := by
        rcases (show b = e ∨ b = it by simpa using hb) with z | z
        · rw [z]; exact hel
        · rw [z]; exact hil
      rw [upd_ne (Nat.ne_of_lt hb')]
      exact (hf b hb).1
  done := by
    intro X hP hw hK hc i pins s σ H E I hf st hg
    subst hP hw hK
    obtain ⟨⟨old, he⟩, hit, hne⟩ := st
    obtain ⟨xs, hq, hx⟩ := hg
    obtain ⟨its, rv, p, hz⟩ := I.tuple hq
    have pt := isTup_isTuple p
    obtain ⟨f0, f1, f2, f3, f4, f5⟩ := hf it (by simp)
    have hl := rv.length
    have hai : a ≠ it := by
      intro z
      subst z
      obtain ⟨o, eo, c, _⟩ := pt
      obtain ⟨o', eo', c', _⟩ := hit
      rw [eo] at eo'
      cases eo'
      rw [c] at c'
      exact absurd c' (by decide)
    have hi : i = its.toArray.size := by
      rw [List.size_toArray, ← hl, hx]
    rw [hi] at hit
    exact wpAny_pyNext_enum_endD (Draws.tuple (A := X.A.in1) (I.ok.hd hc) it a hai its.toArray) he ⟨hit, pt⟩ fun h' eb => ⟨rfl, I.turned (t' := s.toks) (fun b o hb q => eb b o hb q) f0 f1 f3 f4 f5⟩
  self := fun A i s Q E st h => let ⟨⟨_, he⟩, _⟩ := st; wpAny_pyIter_enum he h
end
def iEnumT (K : PySem.W.Frag) (ta : TA) : TI := fun σ H R => ta σ H fun vs H1 => ∃ a xs, vs = [.ref a] ∧ SqT K H1 a xs ∧ R (IteT K a) H1
theorem pi_enumT {X : Cx} {e : Expr} {ta : TA} {p pos tpos : Pos} {elts : List Expr} {kk : Nat} (hg : Gl X "enumerate") (hm : X.mg "enumerate" = none) (ha : PA X [e] ta) (hs : starEach [e] X.env = [(false, eval e X.env)] := by rfl) :
    PI X (.Tuple elts kk tpos) (.Call (.Name "enumerate" p) [e] [] pos) (iEnumT X.K ta) := by
  refine ⟨fun pins s σ H R I h => ?_⟩
  refine Call_ (ld_blt I hg hm boot_enumerate (PyProof.Rows.callWith_type1 (thn (ha.run pos pins s σ H _ I h) fun us s1 ⟨vs, H1, I1, r1, q1⟩ => ?_) hs rfl))
  obtain ⟨a, xs, ex, hq, q⟩ := q1
  subst ex
  obtain ⟨u, rfl, ru⟩ := vals1 r1
  cases ru
  obtain ⟨its, rv, p', hz⟩ := I1.tuple hq
  refine enum_begin1 (begins_tuple a its.toArray) (isTup_isTuple p') fun h' he hit hsz hk => wpAny_pyIter_enum he ?_
  have I2 : Inv X pins σ H1 { s1 with heap := h' } := I1.kept (t' := s1.toks) hk
  refine ⟨s1.heap.objs.size + 1, [s1.heap.objs.size + 1, s1.heap.objs.size], _, _, H1, rfl, I2, turn_enumT a (s1.heap.objs.size + 1) s1.heap.objs.size, ⟨⟨.none, he⟩, ⟨_, hit, rfl, rfl⟩, Nat.succ_ne_self _⟩, fun b hb => ?_, q⟩
  have hle : s1.heap.objs.size ≤ b := by
    rcases (show b = s1.heap.objs.size + 1 ∨ b = s1.heap.objs.size by simpa using hb) with z | z
    · rw [z]; exact Nat.le_add_right _ _
    · rw [z]; exact Nat.le_refl _
  exact I1.fpOk hle (I1.hok.fresh hle)
/-! ### keys and values of a dict that nobody else holds: it is locked as it is walked, and stays so -/
def iKeysN (td : TE) : TI := fun σ H R => td σ H fun x H1 => ∃ d kvs, x = .ref d ∧ H1 d = some (.dK kvs) ∧ ∀ o, R (Itk d o kvs) (upd H1 d (.frz o (.dK kvs)))
def iValsN (td : TE) : TI := fun σ H R => td σ H fun x H1 => ∃ d kvs, x = .ref d ∧ H1 d = some (.dK kvs) ∧ ∀ o, R (Itd d o kvs) (upd H1 d (.frz o (.dK kvs)))
section
variable {X : Cx} {tg e : Expr} {td : TE} {apos cpos : Pos}
theorem pi_keysN (he : PE X e td) : PI X tg e (iKeysN td) := by
  refine ⟨fun pins s σ H R I h => ?_⟩
  refine thn (he.run pins s σ H _ I h) fun u s1 ⟨x, H1, I1, rx, d, kvs, ex, hd, q⟩ => ?_
  subst ex
  obtain rfl : u = Value.ref d := rx
  obtain ⟨od, I2⟩ := I1.lock hd trivial
  obtain ⟨hs, hgd, hx, es, ep, vs, hdt, hsz, kv, hm⟩ := I2.frzK upd_same
  refine iter_keys hs hgd hx hdt (pi_one (tk := s1.toks) I2 _ (turn_keys _ hdt) ⟨_, Heap.get?_push_size _ rfl, rfl, ?_⟩ (q od))
  rw [hsz] <;> rfl
theorem pi_valsN (he : PE X e td) (hbase : attributeBase e "values" X.env (eval e X.env) = eval e X.env := by rfl) (hline : (apos.endLine == cpos.line) = true := by rfl) : PI X tg (.Call (.Attribute e "values" apos) [] [] cpos) (iValsN td) := by
  refine ⟨fun pins s σ H R I h => ?_⟩
  refine wpAny_Call_method (T := "dict") (id := "dict.values") hbase rfl hline F.plainAttrs_dict F.slot_dict_values F.type_dict_values (thn (he.run pins s σ H _ I h) fun u s1 ⟨x, H1, I1, rx, d, kvs, ex, hd0, q⟩ => ?_)
  subst ex
  obtain rfl : u = Value.ref d := rx
  obtain ⟨od, I1⟩ := I1.lock hd0 trivial
  obtain ⟨hs, hgd, hx, es, ep, vs, hdt, hsz, kv, hm⟩ := I1.frzK upd_same
  have hl : kvs.length = vs.length := Paired.length kv
  refine ⟨hm.dictOf.typeIs, hm.dictOf.mapOf.noDict, ?_⟩
  have I2 : Inv X pins σ (upd H1 d (.frz od (.dK kvs))) { s1 with heap := s1.heap.push { cls := .type "dict_values", data := .fields #[.ref d] } } := I1.kept (t' := s1.toks) fun b ob q => Heap.get?_push_of_some _ q
  have fin : wpAny (model X.prog X.w) X.A (pyIter (.ref s1.heap.objs.size)) (PIE X pins σ tg R) X.xe { s1 with heap := s1.heap.push { cls := .type "dict_values", data := .fields #[.ref d] } } := by
    refine wpAny_pyIter_values (d := d) (knd := mixKind X.prog X.w) ⟨_, Heap.get?_push_size _ rfl, rfl, rfl⟩ (hm.push _) (pi_one (tk := s1.toks) I2 _ (turn_vals _ hdt) ⟨_, Heap.get?_push_size _ rfl, rfl, ?_⟩ (q od))
    rw [hl] <;> rfl
  show wpAny _ _ (callWith cpos (.builtin "dict.values") [.ref d] [] []) _ X.xe s1
  exact method_meetsIn F.slot_dict_values F.entry_dict_values rfl (PySem.evalArgs_none ⟨rfl, hm.dictOf.typeIs, F.args_dict_values_1 _, _, meets_dict_values (mixKind X.prog X.w) d hs, ⟨vs, hm.dictOf⟩, fin⟩)
end

/-! ### enumerate(dict) -/
section
variable {prog : Program} {w : World} {A : Around} {E : Value → Shared → Prop} {s : Shared}
theorem nextOf_key_item {it d : Addr} {i n ep : Nat} {od : Obj} {es : Array DictEntry} {en : DictEntry} {Q : Value → Shared → Prop} (hit : s.heap.IsKeyIter it d i n ep) (hod : s.heap.get? d = some od) (hdd : od.data = .dict es ep)
    (hsz : es.size = n) (hx : es[i]? = some en) (hQ : ∀ h', h'.IsKeyIter it d (i + 1) n ep → Heap.SameBut it s.heap h' → Q en.key { s with heap := h' }) : wpAny (model prog w) A (Builtin.SmallTypes.nextOf (.ref it)) Q E s := by
  obtain ⟨o, ho, hc, hd⟩ := id hit
  unfold Builtin.SmallTypes.nextOf
  refine wpAny_bind (wpAny_callSpecial?_slot (name := Str.ofString "__next__") hit.typeIs F.slot_dict_keyiterator_next
    (wpAny_call_entry F.slot_dict_keyiterator_next hit.typeIs F.entry_dict_keyiterator_next ?_ (F.args_dict_keyiterator_next_1 _)))
  refine wpAny_bind (wpAny_pure ?_)
  refine wpAny_bind ?_
  refine wpAny_bind ?_
  first | refine wpAny_bind (wpAny_typeNameOfWhole_keyiter hit.typeIs (wpAny_pure ?_)) | refine wpAny_bind (wpAny_typeNameOf_keyiter hit.typeIs (wpAny_pure ?_))
  refine wpAny_bind (wpAny_fieldsOf ho hd ?_)
  have hown : Builtin.Dict_items.ownsTuple "dict_keyiterator" = false := by decide
  simp only [hown, Bool.false_eq_true, if_false]
  show wpAny _ _ (if (Value.ref d == Value.none) = true then _ else _) _ _ s
  rw [if_neg (show ¬ ((Value.ref d == Value.none) = true) from Bool.false_ne_true)]
  refine wpAny_bind (wpAny_pure ?_)
  refine wpAny_bind (wpAny_dictEntries hod hdd ?_)
  rw [if_neg (by rw [hsz]; simp)]
  refine wpAny_bind (wpAny_pure ?_)
  refine wpAny_bind (wpAny_dictEpoch hod hdd ?_)
  rw [if_neg (by simp)]
  refine wpAny_pure ?_
  obtain ⟨hlt', hen⟩ := Array.getElem?_eq_some_iff.mp hx
  simp only [show ¬ ((i : Int) < 0) from by omega, if_false, Int.toNat_natCast, Array.getElem?_eq_getElem hlt']
  refine wpAny_bind ?_
  first | refine wpAny_bind (wpAny_typeNameOfWhole_keyiter hit.typeIs (wpAny_pure ?_)) | refine wpAny_bind (wpAny_typeNameOf_keyiter hit.typeIs (wpAny_pure ?_))
  refine wpAny_bind (wpAny_isOneOf_keyiter hit.typeIs ?_)
  show wpAny _ _ (setField (.ref it) 1 (rawInt ((i : Int) + 1)) >>= _) _ _ s
  refine wpAny_bind (wpAny_setField ho hd (by simp) ?_)
  have hit' : (s.heap.update it (Obj.mapFields (·.setIfInBounds 1 (rawInt ((i : Int) + 1))))).IsKeyIter it d (i + 1) n ep :=
    ⟨_, Heap.get?_update_self _ ho (Obj.isFreed_of_fields (Obj.data_mapFields hd _)), (Obj.cls_mapFields ..).trans hc, by rw [Obj.data_mapFields hd]; simp [rawInt]⟩
  refine wpAny_bind (wpAny_holding ?_)
  refine wpAny_bind (wpAny_isOneOf_keyiter (s := { s with heap := s.heap.update it (Obj.mapFields (·.setIfInBounds 1 (rawInt ((i : Int) + 1)))) }) hit'.typeIs ?_)
  show wpAny _ _ (pure es[i].key) _ _ _
  rw [hen]
  exact wpAny_pure (wpAny_pure ⟨_, rfl, wpAny_pure (hQ _ hit' (Heap.SameBut.update ..))⟩)
theorem nextOf_key_end {it d : Addr} {i n ep : Nat} {od : Obj} {es : Array DictEntry} {Q : Value → Shared → Prop} (hh : A.handled = none) (hit : s.heap.IsKeyIter it d i n ep) (hod : s.heap.get? d = some od) (hdd : od.data = .dict es ep)
    (hsz : es.size = n) (hge : n ≤ i) (hE : ∀ h' e, Heap.ExtBut it s.heap h' → (∃ o, h'.get? e = some o ∧ o.cls = .type "StopIteration") → E (.ref e) { s with heap := h' }) : wpAny (model prog w) A (Builtin.SmallTypes.nextOf (.ref it)) Q E s := by
  obtain ⟨o, ho, hc, hd⟩ := id hit
  unfold Builtin.SmallTypes.nextOf
  refine wpAny_bind (wpAny_callSpecial?_slot (name := Str.ofString "__next__") hit.typeIs F.slot_dict_keyiterator_next
    (wpAny_call_entry F.slot_dict_keyiterator_next hit.typeIs F.entry_dict_keyiterator_next ?_ (F.args_dict_keyiterator_next_1 _)))
  refine wpAny_bind (wpAny_pure ?_)
  refine wpAny_bind ?_
  refine wpAny_bind ?_
  first | refine wpAny_bind (wpAny_typeNameOfWhole_keyiter hit.typeIs (wpAny_pure ?_)) | refine wpAny_bind (wpAny_typeNameOf_keyiter hit.typeIs (wpAny_pure ?_))
  refine wpAny_bind (wpAny_fieldsOf ho hd ?_)
  have hown : Builtin.Dict_items.ownsTuple "dict_keyiterator" = false := by decide
  simp only [hown, Bool.false_eq_true, if_false]
  show wpAny _ _ (if (Value.ref d == Value.none) = true then _ else _) _ _ s
  rw [if_neg (show ¬ ((Value.ref d == Value.none) = true) from Bool.false_ne_true)]
  refine wpAny_bind (wpAny_pure ?_)
  refine wpAny_bind (wpAny_dictEntries hod hdd ?_)
  rw [if_neg (by rw [hsz]; simp)]
  refine wpAny_bind (wpAny_pure ?_)
  refine wpAny_bind (wpAny_dictEpoch hod hdd ?_)
  rw [if_neg (by simp)]
  refine wpAny_pure ?_
  have hge' : es.size ≤ i := by rw [hsz]; exact hge
  simp only [show ¬ ((i : Int) < 0) from by omega, if_false, Int.toNat_natCast, Array.getElem?_eq_none hge']
  refine wpAny_bind ?_
  first | refine wpAny_bind (wpAny_typeNameOfWhole_keyiter hit.typeIs (wpAny_pure ?_)) | refine wpAny_bind (wpAny_typeNameOf_keyiter hit.typeIs (wpAny_pure ?_))
  show wpAny _ _ (setField (.ref it) 0 .none >>= _) _ _ s
  refine wpAny_bind (wpAny_setField ho hd (by simp) ?_)
  show wpAny _ _ (newExc (.type "StopIteration") [] >>= _) _ _ _
  refine wpAny_bind ?_
  simp only [newExc, newTuple]
  refine wpAny_bind (wpAny_newObj_type ?_ (by size_fits))
  refine wpAny_bind (m := firstArgMember _ _) (wpAny_of_eq (a := Value.none) (by first | rfl | (simp only [firstArgMember]; rfl)) ?_)
  refine wpAny_newObj_type ?_ (by size_fits)
  simp only [raiseNew]
  refine wpAny_bind (wpAny_handled ?_)
  first | rw [show A.in1.handled = none from hh] | rw [hh]
  refine wpAny_bind (wpAny_pure (wpAny_throw ?_))
  exact hE _ _ (((Heap.SameBut.update ..).extBut.push _).push _) ⟨_, Heap.get?_push_size _ rfl, rfl⟩
end

theorem draws_dict {prog : Program} {w : World} {A : Around} {it d : Addr} {n ep : Nat} {od : Obj} {es : Array DictEntry} (hh : A.handled = none) (hne : d ≠ it) (hdd : od.data = .dict es ep) (hsz : es.size = n) :
    Draws prog w A it [it, d] n (fun i v => ∃ en, es[i]? = some en ∧ v = en.key) (fun i h => h.IsKeyIter it d i n ep ∧ h.get? d = some od) where
  live := fun _ _ st => let ⟨o, ho, _⟩ := st.1; ⟨o, ho⟩
  frame := fun _ _ _ st hk => ⟨st.1.at fun o e => hk it (by simp) o e, hk d (by simp) _ st.2⟩
  item := fun i s Q E hi st hQ => by
    have hx : es[i]? = some (es[i]'(by rw [hsz]; exact hi)) := by simp [hsz, hi]
    exact nextOf_key_item st.1 st.2 hdd hsz hx fun h' hit' hs' => hQ _ h' s.toks ⟨_, hx, rfl⟩ ⟨hit', (hs'.2 d hne).trans st.2⟩ hs'
  done := fun s Q E st hE => nextOf_key_end hh st.1 st.2 hdd hsz (Nat.le_refl _) hE
theorem begins_dict {d : Addr} {od : Obj} {es : Array DictEntry} {ep : Nat} (hs : (d == sysModules) = false) (hx : od.ExactDict) (hdd : od.data = .dict es ep) :
    Begins (.ref d) { cls := .type "dict_keyiterator", data := .fields #[.ref d, .int 0 0, .int es.size 0, .int ep 0] } fun h => h.get? d = some od where
  iter := fun prog w A E s Q ho h => iter_keys hs ho hx hdd h
  keeps := fun h h' x hk => hk d od x
  free := rfl
/-- number and key of the locked dict at d -/
def IteD (d : Addr) (o : Obj) (kvs : List (Key × V)) : It :=
  ⟨fun i H => H d = some (.frz o (.dK kvs)) ∧ i < kvs.length, fun i H x H' => ∃ T k v, kvs[i]? = some (k, v) ∧ x = .ref T ∧ H T = none ∧ H' = upd H T (.tup [.int (i : Nat), kV k]), fun i H => H d = some (.frz o (.dK kvs)) ∧ i = kvs.length⟩
section
variable {P : Program} {w : World} {K : PySem.W.Frag} {elts : List Expr} {kk : Nat} {tpos : Pos} {d : Addr} {o : Obj} {es : Array DictEntry} {ep : Nat}
theorem ne_key_dict {h : Heap} {it d : Addr} {i n ep : Nat} {od : Obj} (hit : h.IsKeyIter it d i n ep) (ho : h.get? d = some od) (hx : od.ExactDict) : d ≠ it := by
  intro z
  subst z
  obtain ⟨o', eo', c', _⟩ := hit
  rw [ho] at eo'
  cases eo'
  rw [hx.1] at c'
  exact absurd c' (by decide)
theorem turn_enumD {kvs : List (Key × V)} (e it : Addr) (hod : o.data = .dict es ep) :
    Turn P w K (.Tuple elts kk tpos) (IteD d o kvs) [e, it] e (fun i h => (∃ old, IsEnum h e it ((i : Nat) : Int) old) ∧ h.IsKeyIter it d i kvs.length ep ∧ e ≠ it) where
  mem := by simp
  obj := fun i h st b hb => by
    obtain ⟨⟨old, he⟩, ⟨o, ho, hc, hd⟩, _⟩ := st
    rcases (show b = e ∨ b = it by simpa using hb) with z | z
    · subst z
      exact ⟨_, he, fun v q => nomatch q⟩
    · subst z
      exact ⟨o, ho, fun v q => by rw [hd] at q; cases q⟩
  keep := fun i h h' st k => let ⟨⟨old, he⟩, hi, hne⟩ := st; ⟨⟨old, k e (by simp) _ he⟩, hi.at fun o q => k it (by simp) o q, hne⟩
  item := by
    intro X hP hw hK hc i pins s σ H E I hf st hg
    subst hP hw hK
    obtain ⟨⟨old, he⟩, hit, hne⟩ := st
    obtain ⟨hd, hi⟩ := hg
    obtain ⟨hs, hgd, hx, es', ep', vs, hdt, hsz, kv, hm⟩ := I.frzK hd
    obtain ⟨rfl, rfl⟩ := dict_ep hod hdt
    have hea := ne_enum_dict he hgd hx
    have hel : e < s.heap.objs.size := Heap.lt_size he
    have hil : it < s.heap.objs.size := by obtain ⟨_, q, _⟩ := hit; exact Heap.lt_size q
    obtain ⟨⟨k, v⟩, hkv⟩ : ∃ p, kvs[i]? = some p := ⟨kvs[i], List.getElem?_eq_getElem hi⟩
    obtain ⟨u, hu, ru⟩ := kv_get kv hkv
    refine wpAny_pyNext_enum_itemD (draws_dict (A := X.A.in1) (I.ok.hd hc) (ne_key_dict hit hgd hx) hdt hsz) he ⟨hit, hgd⟩ hi hne (by simp [hea, hne]) fun y h' tk hy ho hst' hT hz hk => ?_
    obtain ⟨en, hen, rfl⟩ := hy
    have hkey : RelV (kV k) en.key := by
      obtain ⟨o2, es2, h1, h2, h3, h4, h5, h6⟩ := id hm
      rw [hgd] at h1
      cases h1
      rw [hdt] at h3
      cases h3
      exact relV_key (show keyIs k en.key = true from (h5.get? (e := en) (by simp [hen]) hu).1)
    refine ⟨_, rfl, wpAny_letOwnedTupleGo_enum (s := { s with heap := h', toks := tk + 1 }) ho fun h'' he' sb => ?_⟩
    have hT2 : h''.get? s.heap.objs.size = some { cls := .type "tuple", data := .seq #[.int i tk, en.key] } := (sb.2 _ (Nat.ne_of_gt hel)).trans hT
    have new : ObjOk X.prog X.w (upd H s.heap.objs.size (.tup [.int (i : Nat), kV k])) h'' s.heap.objs.size (.tup [.int (i : Nat), kV k]) :=
      ⟨by show 2 ≤ sizeLine; decide, [.int i tk, en.key], .cons ⟨_, rfl⟩ (.cons hkey .nil), ⟨_, hT2, rfl, _, rfl⟩⟩
    have I1 : Inv X pins σ (upd H s.heap.objs.size (.tup [.int (i : Nat), kV k])) { s with heap := h'', toks := tk + 1 } :=
      I.turnedNew (ch := [e, it]) (fun b ob hb q => (sb.2 b (fun z => hb (by simp [z]))).trans (hk b ob (fun z => hb (by simp [z])) (fun z => hb (by simp [z])) q)) hf (Nat.le_refl _) new
    refine ⟨.ref s.heap.objs.size, _, I1, rfl, ⟨_, k, v, hkv, rfl, I.hok.fresh (Nat.le_refl _), rfl⟩, ⟨⟨en.key, ?_⟩, hst'.1.at fun o q => (sb.2 it (Ne.symm hne)).trans q, hne⟩, fun b hb => ?_⟩
    · have e1 : ((i + 1 : Nat) : Int) = (i : Int) + 1 := by omega
      rw [e1]
      exact he'
    · have hb' : b < s.heap.objs.size := by
        rcases (show b = e ∨ b = it by simpa using hb) with z | z
        · rw [z]; exact hel
        · rw [z]; exact hil
      rw [upd_ne (Nat.ne_of_lt hb')]
      exact (hf b hb).1
  done := by
    intro X hP hw hK hc i pins s σ H E I hf st hg
    subst hP hw hK
    obtain ⟨⟨old, he⟩, hit, hne⟩ := st
    obtain ⟨hd, hi⟩ := hg
    obtain ⟨hs, hgd, hx, es', ep', vs, hdt, hsz, kv, hm⟩ := I.frzK hd
    obtain ⟨rfl, rfl⟩ := dict_ep hod hdt
    obtain ⟨f0, f1, f2, f3, f4, f5⟩ := hf it (by simp)
    rw [hi] at hit
    exact wpAny_pyNext_enum_endD (draws_dict (A := X.A.in1) (I.ok.hd hc) (ne_key_dict hit hgd hx) hdt hsz) he ⟨hit, hgd⟩ fun h' eb => ⟨rfl, I.turned (t' := s.toks) (fun b o hb q => eb b o hb q) f0 f1 f3 f4 f5⟩
  self := fun A i s Q E st h => let ⟨⟨_, he⟩, _⟩ := st; wpAny_pyIter_enum he h
end
def iEnumD (ta : TA) : TI := fun σ H R => ta σ H fun vs H1 => ∃ d kvs, vs = [.ref d] ∧ H1 d = some (.dK kvs) ∧ ∀ o, R (IteD d o kvs) (upd H1 d (.frz o (.dK kvs)))
theorem pi_enumD {X : Cx} {e : Expr} {ta : TA} {p pos tpos : Pos} {elts : List Expr} {kk : Nat} (hg : Gl X "enumerate") (hm : X.mg "enumerate" = none) (ha : PA X [e] ta) (hs : starEach [e] X.env = [(false, eval e X.env)] := by rfl) :
    PI X (.Tuple elts kk tpos) (.Call (.Name "enumerate" p) [e] [] pos) (iEnumD ta) := by
  refine ⟨fun pins s σ H R I h => ?_⟩
  refine Call_ (ld_blt I hg hm boot_enumerate (PyProof.Rows.callWith_type1 (thn (ha.run pos pins s σ H _ I h) fun us s1 ⟨vs, H1, I1, r1, q1⟩ => ?_) hs rfl))
  obtain ⟨d, kvs, ex, hq, q⟩ := q1
  subst ex
  obtain ⟨u, rfl, ru⟩ := vals1 r1
  cases ru
  obtain ⟨od, I1⟩ := I1.lock hq trivial
  obtain ⟨hs, hgd, hx, es, ep, vs, hdt, hsz, kv, hm⟩ := I1.frzK upd_same
  refine enum_begin1 (begins_dict hs hx hdt) hgd fun h' he hit hsz' hk => wpAny_pyIter_enum he ?_
  have I2 : Inv X pins σ (upd H1 d (.frz od (.dK kvs))) { s1 with heap := h' } := I1.kept (t' := s1.toks) hk
  refine ⟨s1.heap.objs.size + 1, [s1.heap.objs.size + 1, s1.heap.objs.size], _, _, _, rfl, I2, turn_enumD (s1.heap.objs.size + 1) s1.heap.objs.size hdt, ⟨⟨.none, he⟩, ⟨_, hit, rfl, by rw [hsz] <;> rfl⟩, Nat.succ_ne_self _⟩, fun b hb => ?_, q od⟩
  have hle : s1.heap.objs.size ≤ b := by
    rcases (show b = s1.heap.objs.size + 1 ∨ b = s1.heap.objs.size by simpa using hb) with z | z
    · rw [z]; exact Nat.le_add_right _ _
    · rw [z]; exact Nat.le_refl _
  exact I1.fpOk hle (I1.hok.fresh hle)
end TH
end

section
set_option Elab.async false
set_option linter.all false
set_option maxRecDepth 100000
/-! Rules of our own: set(list of ints), max(dict, default=d), sorted(dict) of any size, list(d.values()). -/
namespace TH
open PySem PySem.Spec PyProof.Rows L2
open Sem (wp)
section
variable {P : Program} {w : World} {A : Around} {E : Value → Shared → Prop} {s : Shared}
set_option maxHeartbeats 3200000 in
theorem set_of_list {l : Addr} {items : Array Value} (ns : List Int) {Q : Value → Shared → Prop} (hh : A.handled = none) (hl : s.heap.IsList l items) (hit : IntsAre items.toList ns) (hb : ns.length + 1 < scanBound)
    (h : ∀ (h' : Heap) (tk c : Nat), SetR w h' s.heap.objs.size (fun j => decide (j ∈ ns)) c → c ≤ ns.length → (∀ b o, s.heap.get? b = some o → h'.get? b = some o) → Q (.ref s.heap.objs.size) { s with heap := h', toks := tk }) :
    wpAny (model P w) A (call (.type "set") [.ref l]) Q E s := by
  have hisz : items.size = ns.length := by
    have q := IntsAre.length hit
    rw [Array.length_toList] at q
    exact q
  obtain ⟨c, tl, hmro⟩ := F.called_set.mro
  have hmade := F.called_set.made
  have hsub := F.called_set.sub
  refine wpAny_call (codeAny_of_tree ?_)
  show wpAny _ _ (callAny (.type "set") _) _ _ _
  refine wpAny_pure ⟨Code.quiet_builtin _ (by decide +kernel), codeAny_builtin F.entry_type_call ?_⟩
  rw [Around.under_plain (weight_type_call_type "set" [.ref l] []) rfl]
  have h1 := F.called_set.notType
  have h2 := F.called_set.canCreate
  have hct := F.typeCall_set_1 (.ref l)
  repeat (any_goals (first | assumption | wp_step))

  refine codeAny_mono (code_set_led1 (.ref l) (E := E) (Q₁ := fun obj s₁ => obj = .ref s.heap.objs.size ∧ s₁ = { s with heap := s.heap.push { cls := .type "set", dict := none, data := .set #[] 0 (.fresh 0 0 (!w.params.followText "set-order")) } }) ⟨rfl, rfl⟩) fun r s₁ hr => ?_
  cases r with
  | error e => exact hr
  | ok fl =>
    cases fl with
    | ret obj =>
      obtain ⟨rfl, rfl⟩ := hr
      have hS : (s.heap.push { cls := .type "set", dict := none, data := .set #[] 0 (.fresh 0 0 (!w.params.followText "set-order")) }).get? s.heap.objs.size = some { cls := .type "set", dict := none, data := .set #[] 0 (.fresh 0 0 (!w.params.followText "set-order")) } := Heap.get?_push_size _ rfl
      have hT : Shared.TypeIs { s with heap := s.heap.push { cls := .type "set", dict := none, data := .set #[] 0 (.fresh 0 0 (!w.params.followText "set-order")) } } (.ref s.heap.objs.size) "set" := ⟨_, hS, rfl⟩
      have hli := F.called_set.init.lookup
      have hbi := F.called_set.init.bind (.ref s.heap.objs.size)
      repeat (any_goals (first | assumption | wp_step))

      refine codeAny_mono (codeAny_call_builtin (R := wants (fun r s₂ => r = .none ∧ ∃ h' tk c, s₂ = { s with heap := h', toks := tk } ∧ SetR w h' s.heap.objs.size (fun j => decide (j ∈ ns)) c ∧ c ≤ ns.length ∧
          (∀ b o, s.heap.get? b = some o → h'.get? b = some o)) E) F.called_set.init.plain F.entry_set_init (check_set_init_1 hT ?_)) fun r₂ s₂ hr₂ => ?_
      · obtain ⟨ol, hol, hcl, nl, hdl⟩ := hl
        obtain ⟨ocls, odict, odata, oslots⟩ := ol
        simp only at hcl hdl
        subst hcl; subst hdl
        have hol' : (s.heap.push { cls := .type "set", dict := none, data := .set #[] 0 (.fresh 0 0 (!w.params.followText "set-order")) }).get? l = some { cls := .type "list", dict := odict, data := .seq items nl, slots := oslots } := Heap.get?_push_of_some _ hol
        have hsls := F.sub_list_set
        have hslf := F.sub_list_frozenset
        have hne : (Value.type "tuple" == Value.type "dict") = false := by decide
        have hl1 : (s.heap.push { cls := .type "set", dict := none, data := .set #[] 0 (.fresh 0 0 (!w.params.followText "set-order")) }).IsList l items := ⟨_, hol', rfl, nl, rfl⟩
        unfold Builtin.«set.__init__» noKeywords Builtin.Frozenset.updateFrom
        generalize hPI : pyIter = PI
        wp_walk
        subst hPI

        refine wpAny_pyIter_list hl1 ?_
        refine wpAny_bind (wpAny_runValue ?_)
        have hlS : l < s.heap.objs.size := Heap.lt_size hol
        have hh3 : A.in1.in1.in1.handled = none := by simp [hh]
        have hz1 : (s.heap.push { cls := .type "set", dict := none, data := .set #[] 0 (.fresh 0 0 (!w.params.followText "set-order")) }).objs.size = s.heap.objs.size + 1 := Heap.size_push ..
        have hneI : l ≠ (s.heap.push { cls := .type "set", dict := none, data := .set #[] 0 (.fresh 0 0 (!w.params.followText "set-order")) }).objs.size := by
          rw [Heap.size_push]; exact Nat.ne_of_lt (Nat.lt_succ_of_lt hlS)
        have hSf : s.heap.objs.size ∉ [(s.heap.push { cls := .type "set", dict := none, data := .set #[] 0 (.fresh 0 0 (!w.params.followText "set-order")) }).objs.size, l] := by
          rw [Heap.size_push]; simp only [List.mem_cons, List.mem_singleton, List.not_mem_nil, or_false, not_or]
          exact ⟨Nat.ne_of_lt (Nat.lt_succ_self _), Nat.ne_of_gt hlS⟩
        have hval : ∀ (i : Nat) (v : Value), items[i]? = some v → ∃ k t, ns[i]? = some k ∧ v = .int k t := fun i v hv => by
          have hi : i < ns.length := by rw [← hisz]; exact (Array.getElem?_eq_some_iff.mp hv).1
          obtain ⟨t, e⟩ := PyProof.Rows.IntsAre.int_at hit i v (by rw [Array.getElem?_toList]; exact hv)
          refine ⟨ns[i], t, List.getElem?_eq_getElem hi, ?_⟩
          rw [e, List.getD_eq_getElem?_getD, List.getElem?_eq_getElem hi] <;> rfl
        refine set_update_ints ((Walks.list hh3 _ l hneI items).toS) s.heap.objs.size
          hSf ns hisz hb hval (items.size - 0) 0 _ (by omega) (Nat.zero_le _)
          ⟨⟨_, Heap.get?_push_size _ rfl, rfl, rfl⟩, (hl1.push _)⟩ ?hS0 ?hR
        case hS0 =>
          have hget : ((s.heap.push { cls := .type "set", dict := none, data := .set #[] 0 (.fresh 0 0 (!w.params.followText "set-order")) }).push { cls := .type "list_iterator", data := .fields #[.ref l, .int 0 0] }).get? s.heap.objs.size
              = some { cls := .type "set", dict := none, data := .set #[] 0 (.fresh 0 0 (!w.params.followText "set-order")) } := Heap.get?_push_of_some _ hS
          exact ⟨0, Nat.le_refl 0, setR_new_at hget⟩
        case hR =>
          intro s' c' hm hc' hS'
          obtain ⟨h', g2, d', tk', os'⟩ := s'
          have eg : g2 = s.gens := hm.gens
          have ed : d' = s.drawn := hm.drawn
          have eo : os' = s.os := hm.os
          subst eg; subst ed; subst eo
          show wpAny _ _ _ _ _ _
          refine wpAny_pure ?_
          show wpAny _ _ (ret Value.none) _ _ _
          rw [hisz] at hc'
          refine wpAny_pure ⟨rfl, h', tk', c', rfl, hS', hc', fun b o e => ?_⟩
          have hb0 : b < s.heap.objs.size := Heap.lt_size e
          have hb1 : b ≠ s.heap.objs.size := Nat.ne_of_lt hb0
          have hb2 : b ≠ (s.heap.push { cls := .type "set", dict := none, data := .set #[] 0 (.fresh 0 0 (!w.params.followText "set-order")) }).objs.size := by
            rw [Heap.size_push]; exact Nat.ne_of_lt (Nat.lt_succ_of_lt hb0)
          exact hm.heap b o (by simp only [List.mem_cons, List.mem_singleton, List.not_mem_nil, or_false, not_or]; exact ⟨hb1, hb2⟩) (Heap.get?_push_of_some _ (Heap.get?_push_of_some _ e))

      · cases r₂ with
        | error e => exact hr₂
        | ok fl₂ =>
          cases fl₂ with
          | ret r =>
            obtain ⟨rfl, h', tk, c', rfl, hS', hc', hk'⟩ := hr₂
            repeat (any_goals (first | assumption | wp_step))
            exact h _ _ _ hS' hc' hk'
          | _ => exact hr₂.elim
    | _ => exact hr.elim

end
section
variable {X : Cx}
/-- set(xs), xs a list of ints -/
def rSetL (K : PySem.W.Frag) (w : World) : List V → Hp → VK → Prop := fun xs H Q => ∃ (l : Addr) (ns : List Int), xs = [V.ref l] ∧ SqL K H l (ns.map V.int) ∧ ns.length + 1 < scanBound ∧
  ∀ (p : Addr) (c : Nat), H p = none → c ≤ ns.length → Q (.ref p) (upd H p (SetO w p (fun j => decide (j ∈ ns)) c))
theorem cr_setL (hc : X.calm = true) : CallR X (.type "set") (rSetL X.K X.w) := by
  intro pins s σ H vs us Q I r h
  obtain ⟨l, ns, rfl, hs, hb, q⟩ := h
  rw [Vals.ref1 r]
  obtain ⟨its, rv, pl, hz⟩ := I.list hs
  refine set_of_list ns (I.ok.hd hc) pl.isList (by simpa using rv.ints) hb fun h' tk c R1 hcn k => ?_
  have hn : H s.heap.objs.size = none := I.hok.fresh (Nat.le_refl _)
  exact ⟨.ref s.heap.objs.size, upd H s.heap.objs.size (SetO X.w s.heap.objs.size (fun j => decide (j ∈ ns)) c), I.laid (t' := tk) k (Nat.le_refl _) (setO_new R1), rfl, q _ c hn hcn⟩
/-- max(d, default=x) over a dict's int keys -/
def rMaxD : List V → List V → Hp → VK → Prop := fun vs zs H Q => ∃ (a : Addr) (kvs : List (Key × V)) (is : List Int) (x : Int), vs = [V.ref a] ∧ zs = [V.int x] ∧ H a = some (.dK kvs) ∧ kvs.map (·.1) = is.map Sum.inl ∧
  ∀ m, (is = [] → m = x) → (is ≠ [] → m ∈ is ∧ ∀ j ∈ is, j ≤ m) → Q (.int m) H
theorem cr_maxD (hc : X.calm = true) : CallRK X (.builtin "max") [Str.ofString "default"] rMaxD := by
  intro pins s σ H vs zs us ws Q I r rz h
  obtain ⟨a, kvs, is, x, rfl, rfl, ha, hv, q⟩ := h
  rw [Vals.ref1 r]
  obtain ⟨w1, rfl, tw, rfl⟩ := vals1 rz
  obtain ⟨_, hsys, vs, rel, dof⟩ := dk_of I.hok ha
  obtain ⟨ep, dat⟩ := dof.dictAt
  obtain ⟨ob, es, ho, hex, hdat, hko, hpr, hnd⟩ := id dat
  have hlt : a < s.heap.objs.size := Heap.lt_size ho
  have hkeys : vs.map (·.1) = is.map Sum.inl := (KV.keys rel).symm.trans hv
  have hlv : vs.length = is.length := by
    have e1 := congrArg List.length hkeys
    rw [List.length_map, List.length_map] at e1
    exact e1
  have hval : ∀ (i : Nat) (v : Value), (∃ k x, vs[i]? = some (k, x) ∧ (mixKind X.prog X.w).is k v = true) → ∃ t, v = Value.int (is.getD i 0) t := fun i v ⟨k, x, hk, hkey⟩ => by
    have e1 : (vs.map (·.1))[i]? = some k := by rw [List.getElem?_map, hk] <;> rfl
    rw [hkeys, List.getElem?_map] at e1
    obtain ⟨j, hj, e2⟩ := Option.map_eq_some_iff.mp e1
    subst e2
    have hi : Value.isInt j v = true := hkey
    obtain ⟨t, e3⟩ := Value.isInt_shape (k := j) (v := v) hi
    refine ⟨t, ?_⟩
    rw [e3, List.getD_eq_getElem?_getD, hj] <;> rfl
  refine call_max_walkD (wpAny_pyIter_dict (knd := mixKind X.prog X.w) hsys dat ?_)
  refine ⟨_, _, _, _, _, _, _, s.heap, _, rfl, (Walks.dictKeys (knd := mixKind X.prog X.w) (A := X.A.in1) (I.ok.hd hc) s.heap.objs.size a (Nat.ne_of_lt hlt) vs ep).toS,
    ⟨⟨_, Heap.get?_push_size _ rfl, rfl, rfl⟩, dat.keep fun b u e => Heap.get?_push_of_some _ e⟩, fun b hb => ?_, fun b o e hm => ?_, fun b o e => Heap.get?_push_of_some _ e, fun hz s' m => ?_, fun hp => ⟨fun i j vi vj s Q E _ hi hj hQ => CmpOf.ints_gt (fun i => is.getD i 0) hval i j vi vj s Q E hi hj hQ, fun v s' hP m => ?_⟩⟩
  · show b < (s.heap.push _).objs.size
    rw [Heap.size_push]
    rcases List.mem_cons.mp hb with e | hb
    · rw [e]
      exact Nat.lt_succ_self _
    · rw [List.mem_singleton.mp hb]
      exact Nat.lt_succ_of_lt hlt
  · have e1 : b = s.heap.objs.size := List.mem_singleton.mp hm
    have e2 := Heap.lt_size e
    rw [e1] at e2
    exact absurd e2 (Nat.lt_irrefl _)
  · obtain ⟨h', tk, rfl, hk'⟩ := PySem.W.moved_old rfl rfl m
    have e0 : is = [] := List.eq_nil_of_length_eq_zero (by omega)
    exact ⟨.int x, H, I.kept (t' := tk) hk', ⟨_, rfl⟩, q x (fun _ => rfl) fun z => absurd e0 z⟩
  · obtain ⟨h', tk, rfl, hk'⟩ := PySem.W.moved_old rfl rfl m
    obtain ⟨t, rfl⟩ := hval _ v hP
    obtain ⟨b1, b2⟩ := argBest_gt (fun i => is.getD i 0) (vs.length - 1)
    refine ⟨.int _, H, I.kept (t' := tk) hk', ⟨t, rfl⟩, q _ (fun e => ?_) fun _ => ⟨?_, fun j hj => ?_⟩⟩
    · rw [e] at hlv
      rw [hlv] at hp
      exact absurd hp (by decide)
    · have hb : argBest (fun i j => decide (is.getD i 0 > is.getD j 0)) (vs.length - 1) < is.length := by omega
      rw [List.getD_eq_getElem?_getD, List.getElem?_eq_getElem hb]
      exact List.getElem_mem hb
    · obtain ⟨i, hi, e⟩ := List.mem_iff_getElem.mp hj
      have e2 : is.getD i 0 = j := by rw [List.getD_eq_getElem?_getD, List.getElem?_eq_getElem hi, ← e] <;> rfl
      rw [← e2]
      exact b2 i (by omega)
/-- sorted(d), int keys, any number of them -/
theorem cr_sortedD (hcalm : X.calm = true) : CallR X (.builtin "sorted") (fun xs H Q => ∃ (a : Addr) (kvs : List (Key × V)) (ks : List Int), xs = [.ref a] ∧ Rd H a (.dK kvs) ∧ kvs.map (·.1) = ks.map Sum.inl ∧
    ∀ (ys : List Int) (p : Addr), ys.Perm ks → ys.Pairwise (· ≤ ·) → H p = none → Q (.ref p) (upd H p (.lst (ys.map V.int)))) := by
  intro pins s σ H xs us Q I r q
  obtain ⟨a, kvs, ks, ex, hd, hks, q⟩ := q
  subst ex
  obtain ⟨u, eu, rx⟩ := vals1 r
  subst eu
  cases rx
  obtain ⟨z, lo, vs, rel, dd⟩ := dk_rd I.hok hd
  obtain ⟨ep, hat⟩ := dd.dictAt
  have hkeys : vs.map (·.1) = ks.map Sum.inl := rel.keys.symm.trans hks
  have hl : vs.length = ks.length := by
    have e := congrArg List.length hkeys
    rw [List.length_map, List.length_map] at e
    exact e
  have hzk : ks.length ≤ sizeLine := by rw [← hl, ← rel.length]; exact z
  have h16 : vs.length ≤ sizeLine := by rw [hl]; exact hzk
  refine Calls.call_function_entry PyProof.Rows.kind_sorted PyProof.Rows.plain_sorted PyProof.Rows.entry_sorted (PyProof.Rows.args_sorted1 _) ?_
  unfold Builtin.«sorted»
  refine wpAny_bind (m := checkCount "sorted" 1 1 _) (wpAny_pure ?_)
  refine wpAny_bind (PySem.W.kdu_collect (A := X.A.in1) (PySem.W.kdl_dict (knd := mixKind X.prog X.w) (kvs := vs) (ep := ep) lo) (I.ok.hd hcalm) hat h16 fun h' tk acc hk hacc => ?_)
  have hal : acc.toList.length = ks.length := by rw [Array.length_toList, hacc.1, hl]
  have hS : IntsAre acc.toList ks := ints_each hal fun j v e => by
    obtain ⟨k, x, e1, e2⟩ := hacc.2 j v (by rw [← Array.getElem?_toList]; exact e)
    have e3 : (vs.map (·.1))[j]? = some k := by rw [List.getElem?_map, e1]; rfl
    rw [hkeys, List.getElem?_map] at e3
    cases e4 : ks[j]? with
    | none => rw [e4] at e3; cases e3
    | some y =>
      rw [e4] at e3
      have e5 : Sum.inl y = k := Option.some.inj e3
      subst e5
      rcases keyIs_shape (show keyIs (Sum.inl y) v = true from e2) with ⟨i, t, ek, ev⟩ | ⟨z, t, ek, ev⟩
      · cases ek
        exact ⟨y, t, rfl, ev⟩
      · cases ek
  have I1 : Inv X pins σ H { s with heap := h', toks := tk } := I.kept hk
  refine wpAny_bind (wpAny_newList ?_ (by rw [hal]; exact hzk))
  have hoL : (h'.push (seqObj "list" acc.toList.toArray 0)).get? h'.objs.size = some (seqObj "list" acc.toList.toArray 0) := Heap.get?_push_size _ rfl
  show wpAny _ _ _ _ _ { s with heap := h'.push (seqObj "list" acc.toList.toArray 0), toks := tk }
  refine wpAny_bind (wpAny_holding (wpAny_call_entry PyProof.Rows.slot_list_sort ⟨_, hoL, rfl⟩ PyProof.Rows.entry_list_sort
    (SrtO.list_sort_ord (s := { s with heap := h'.push (seqObj "list" acc.toList.toArray 0), toks := tk }) SrtO.swo_int hoL (by rw [hal]; exact hzk) (fun h2 => SrtO.ints_sortable hS h2) fun out h1 h2 => ⟨_, rfl, ?_⟩) (PyProof.Rows.args_list_sort _)))
  obtain ⟨k1, k2, k3⟩ := SrtO.ints_out hS h1 h2
  obtain ⟨e', he'⟩ := PyProof.Rows.sortedHeap_at (vs := acc.toList) (out := out.toArray) hoL
  have hlen : ((out.map SrtO.iv).map V.int).length ≤ sizeLine := by
    rw [List.length_map, k2.length_eq]
    exact hzk
  refine wpAny_pure ⟨_, rfl, .ref h'.objs.size, upd H h'.objs.size (.lst ((out.map SrtO.iv).map V.int)), I1.laid (t' := tk) (fun b u e => ?_) (Nat.le_refl _) ⟨hlen, out, e', vals_of_ints k1, he'⟩, rfl, q _ _ k2 k3 (I1.hok.fresh (Nat.le_refl _))⟩
  have e : h'.get? b = some u := e
  have hb : b ≠ h'.objs.size := Nat.ne_of_lt (Heap.lt_size e)
  rw [PyProof.Rows.sortedHeap_old hb (by rw [Heap.size_push]; exact Nat.lt_succ_of_lt (Heap.lt_size e))]
  exact Heap.get?_push_of_some _ e
end
end TH
end

section
set_option Elab.async false
set_option linter.all false
set_option maxRecDepth 100000
/-! A rule of our own: list(d.values()). -/
namespace TH
open PySem PySem.Spec PyProof.Rows L2
section
variable {X : Cx}
theorem boot_listT : bootBuiltins "list" = some (.type "list") := by decide +kernel
def tListVals (td : TE) : TE := fun σ H Q => td σ H fun x H1 => ∃ d kvs, x = V.ref d ∧ H1 d = some (.dK kvs) ∧ ∀ p, H1 p = none → Q (.ref p) (upd H1 p (.lst (kvs.map (·.2))))
theorem pe_listVals {o : Expr} {td : TE} {p pos apos mpos : Pos} (hc : X.calm = true) (hg : Gl X "list") (hm : X.mg "list" = none) (he : PE X o td)
    (hbase : attributeBase o "values" X.env (eval o X.env) = eval o X.env := by rfl) (hline : (apos.endLine == mpos.line) = true := by rfl)
    (na : starEach [Expr.Call (.Attribute o "values" apos) [] [] mpos] X.env = (false, eval (Expr.Call (.Attribute o "values" apos) [] [] mpos) X.env) :: starEach [] X.env := by rfl) :
    PE X (.Call (.Name "list" p) [.Call (.Attribute o "values" apos) [] [] mpos] [] pos) (tListVals td) := by
  refine ⟨fun pins s σ H Q I h => ?_⟩
  refine Call_ (ld_blt I hg hm boot_listT ?_)
  refine PyProof.Rows.callWith_type1 (PyProof.Rows.args_cons ?_ na) na rfl
  refine wpAny_Call_method (T := "dict") (id := "dict.values") hbase rfl hline F.plainAttrs_dict F.slot_dict_values F.type_dict_values (thn (he.run pins s σ H _ I h) fun u s1 ⟨x, H1, I1, rx, d, kvs, ex, hd, q⟩ => ?_)
  subst ex
  obtain rfl : u = Value.ref d := rx
  obtain ⟨hz, hsys, vs, rel, dof⟩ := dk_of I1.hok hd
  obtain ⟨ep, dat⟩ := dof.dictAt
  have hl : kvs.length = vs.length := KV.length rel
  refine ⟨dof.typeIs, dof.mapOf.noDict, ?_⟩
  show wpAny _ _ (callWith mpos (.builtin "dict.values") [.ref d] [] []) _ _ s1
  refine method_meetsIn F.slot_dict_values F.entry_dict_values rfl (PySem.evalArgs_none ⟨rfl, dof.typeIs, F.args_dict_values_1 _, _, meets_dict_values (mixKind X.prog X.w) d hsys, ⟨vs, dof⟩, ?_⟩)
  refine PyProof.Rows.args_nil ?_
  have k1 : ∀ b u, s1.heap.get? b = some u → (s1.heap.push { cls := .type "dict_values", data := .fields #[.ref d] }).get? b = some u := fun b u e => Heap.get?_push_of_some _ e
  have I2 : Inv X pins σ H1 { s1 with heap := s1.heap.push { cls := .type "dict_values", data := .fields #[.ref d] } } := I1.kept (t' := s1.toks) k1
  refine PySem.W.kdl_call (PySem.W.kdl_values (knd := mixKind X.prog X.w) (kvs := vs) (ep := ep)) (I.ok.hd hc) ⟨⟨_, Heap.get?_push_size _ rfl, rfl, rfl⟩, dat.keep k1⟩ (by rw [← hl]; exact hz) fun h' tk acc c hk hS hacc => ?_
  refine ⟨.ref _, upd H1 _ (.lst (kvs.map (·.2))), I2.laid (t' := tk) hk (Nat.le_refl _) (show ObjOk X.prog X.w _ _ _ (.lst (kvs.map (·.2))) from ⟨?_, acc.toList, c, ?_, ?_⟩), rfl, q _ (I2.hok.fresh (Nat.le_refl _))⟩
  · rw [List.length_map]
    exact hz
  · have el : acc.toList.length = acc.size := by simp
    refine vals_of_at (by rw [List.length_map, el, hacc.1, hl]) fun j x w h1 h2 => ?_
    obtain ⟨k, hk2⟩ := hacc.2 j w (by rw [← Array.getElem?_toList]; exact h2)
    obtain ⟨y, e1, e2⟩ := KV.at' rel hk2
    rw [List.getElem?_map, e1] at h1
    cases h1
    exact e2
  · rw [Array.toArray_toList]
    exact hS
end
end TH
end

section
set_option Elab.async false
set_option linter.all false
set_option maxRecDepth 100000
/-! A rule of our own: values of a fresh dict with tuple keys. -/
namespace TH
open PySem PySem.Spec PyProof.Rows L2
section
variable {X : Cx} {pins : List (Addr × Obj)} {σ : L2.St} {H : Hp} {s : Shared} {d : Addr} {o : Obj}
theorem frzTv {kvs : List (List Key × V)} (I : Inv X pins σ H s) (h : H d = some (.frz o (.dT kvs))) :
    (d == sysModules) = false ∧ s.heap.get? d = some o ∧ o.ExactDict ∧ ∃ (es : Array DictEntry) (ep : Nat), o.data = .dict es ep ∧ es.size = kvs.length ∧
      ∀ (i : Nat) (k : List Key) (v : V), kvs[i]? = some (k, v) → ∃ en : DictEntry, es[i]? = some en ∧ RelV v en.val := by
  obtain ⟨hd, z, hs, xs, pr, o', es, ep, ho, hx, hdt, he, _⟩ := I.hok d _ h
  rw [hd] at ho
  cases ho
  refine ⟨hs, hd, hx, es, ep, hdt, ?_, fun i k v e => ?_⟩
  · have l1 : es.size = xs.length := size_of_entries he
    have l2 : kvs.length = xs.length := Paired.length pr
    omega
  · obtain ⟨b, hb, e1, e2, e3⟩ := paired_get pr e
    have q := entry_at he i
    rw [hb] at q
    exact ⟨_, q, e3⟩
end
def ItdT (d : Addr) (o : Obj) (kvs : List (List Key × V)) : It :=
  ⟨fun i H => H d = some (.frz o (.dT kvs)) ∧ i < kvs.length, fun i H x H' => H' = H ∧ ∃ k, kvs[i]? = some (k, x), fun i H => H d = some (.frz o (.dT kvs)) ∧ kvs.length ≤ i⟩
theorem turn_valsT {P : Program} {w : World} {K : PySem.W.Frag} {tg : Expr} {d : Addr} {o : Obj} {es : Array DictEntry} {ep : Nat} {kvs : List (List Key × V)} (it : Addr) (hod : o.data = .dict es ep) : Turn P w K tg (ItdT d o kvs) [it] it (fun i h => h.IsValIter it d i kvs.length ep) where
  mem := by simp
  obj := fun i h st b hb => by
    have e : b = it := by simpa using hb
    subst e
    obtain ⟨oi, e, c, dd⟩ := st
    exact ⟨oi, e, fun v z => by rw [dd] at z; cases z⟩
  keep := fun i h h' st k => st.at fun oi e => k it (by simp) oi e
  item := by
    intro X hP hw hK hc i pins s σ H E I hf st hg
    subst hP hw hK
    obtain ⟨hd, hi⟩ := hg
    obtain ⟨f0, f1, f2, f3, f4, f5⟩ := hf it (by simp)
    obtain ⟨hs, hgd, hx, es', ep', hdt, hsz, ent⟩ := frzTv I hd
    obtain ⟨rfl, rfl⟩ := dict_ep hod hdt
    obtain ⟨⟨k, v⟩, hkv⟩ : ∃ p, kvs[i]? = some p := ⟨kvs[i], List.getElem?_eq_getElem hi⟩
    obtain ⟨en, hen, rv⟩ := ent i k v hkv
    rw [← hsz] at st
    have hlt : i < es'.size := by rw [hsz]; exact hi
    refine wpAny_pyNext_values_item_raw st ⟨o, hgd, hx, hdt⟩ hlt fun h' st' sb => ?_
    have I1 : Inv X pins σ H { s with heap := h' } := I.turned (t' := s.toks) (fun b ob hb e => (sb.2 b hb).trans e) f0 f1 f3 f4 f5
    obtain ⟨oi, e, c, dd⟩ := id st'
    have ev : es'[i].val = en.val := by
      rw [Array.getElem?_eq_getElem hlt] at hen
      rw [Option.some.inj hen]
    refine ⟨_, rfl, go_of (s := { s with heap := h' }) e c dd (by decide) ⟨v, H, I1, by rw [ev]; exact rv, ⟨rfl, k, hkv⟩, ?_, fun b hb => (hf b hb).1⟩⟩
    show h'.IsValIter it d (i + 1) kvs.length _
    rw [← hsz]
    exact st'
  done := by
    intro X hP hw hK hc i pins s σ H E I hf st hg
    subst hP hw hK
    obtain ⟨hd, hi⟩ := hg
    obtain ⟨f0, f1, f2, f3, f4, f5⟩ := hf it (by simp)
    obtain ⟨hs, hgd, hx, es', ep', hdt, hsz, ent⟩ := frzTv I hd
    obtain ⟨rfl, rfl⟩ := dict_ep hod hdt
    rw [← hsz] at st
    exact wpAny_pyNext_values_end_raw (I.ok.hd hc) st ⟨o, hgd, hx, hdt⟩ (by rw [hsz]; exact hi) fun h' eb => ⟨rfl, I.turned (t' := s.toks) (fun b ob hb e => eb b ob hb e) f0 f1 f3 f4 f5⟩
  self := fun A i s Q E st h => wpAny_pyIter_valiter st h
def iValsT (td : TE) : TI := fun σ H R => td σ H fun x H1 => ∃ d kvs, x = .ref d ∧ H1 d = some (.dT kvs) ∧ ∀ o, R (ItdT d o kvs) (upd H1 d (.frz o (.dT kvs)))
theorem pi_valsT {X : Cx} {tg e : Expr} {td : TE} {apos cpos : Pos} (he : PE X e td) (hbase : attributeBase e "values" X.env (eval e X.env) = eval e X.env := by rfl) (hline : (apos.endLine == cpos.line) = true := by rfl) : PI X tg (.Call (.Attribute e "values" apos) [] [] cpos) (iValsT td) := by
  refine ⟨fun pins s σ H R I h => ?_⟩
  refine wpAny_Call_method (T := "dict") (id := "dict.values") hbase rfl hline F.plainAttrs_dict F.slot_dict_values F.type_dict_values (thn (he.run pins s σ H _ I h) fun u s1 ⟨x, H1, I1, rx, d, kvs, ex, hd0, q⟩ => ?_)
  subst ex
  obtain rfl : u = Value.ref d := rx
  obtain ⟨od, I1⟩ := I1.lock hd0 trivial
  obtain ⟨hs, hgd, hx, es, ep, hdt, hsz, ent⟩ := frzTv I1 upd_same
  have raw : s1.heap.DictRaw d es ep := ⟨od, hgd, hx, hdt⟩
  refine ⟨raw.typeIs, fun b e => ?_, ?_⟩
  · cases e
    exact ⟨od, hgd, hx.2.1⟩
  have k1 : ∀ b u, s1.heap.get? b = some u → (s1.heap.push { cls := .type "dict_values", data := .fields #[.ref d] }).get? b = some u := fun b u q => Heap.get?_push_of_some _ q
  have I2 : Inv X pins σ (upd H1 d (.frz od (.dT kvs))) { s1 with heap := s1.heap.push { cls := .type "dict_values", data := .fields #[.ref d] } } := I1.kept (t' := s1.toks) k1
  have fin : wpAny (model X.prog X.w) X.A (pyIter (.ref s1.heap.objs.size)) (PIE X pins σ tg R) X.xe { s1 with heap := s1.heap.push { cls := .type "dict_values", data := .fields #[.ref d] } } := by
    refine wpAny_pyIter_values_raw (d := d) ⟨_, Heap.get?_push_size _ rfl, rfl, rfl⟩ (raw.at fun o e => k1 _ _ e) (pi_one (tk := s1.toks) I2 _ (turn_valsT _ hdt) ⟨_, Heap.get?_push_size _ rfl, rfl, ?_⟩ (q od))
    rw [hsz] <;> rfl
  show wpAny _ _ (callWith cpos (.builtin "dict.values") [.ref d] [] []) _ X.xe s1
  exact method_meetsIn F.slot_dict_values F.entry_dict_values rfl (PySem.evalArgs_none ⟨rfl, raw.typeIs, F.args_dict_values_1 _, _, meets_dict_values_raw d hs, ⟨⟨es, ep, raw⟩, fin⟩⟩)
theorem walk_valsT {d : Addr} {o : Obj} {kvs : List (List Key × V)} : Walk (ItdT d o kvs) kvs.length (fun H => H d = some (.frz o (.dT kvs))) (fun i H x H' => H' = H ∧ ∃ k, kvs[i]? = some (k, x)) :=
  ⟨fun _ _ hi q => ⟨q, hi⟩, fun _ q => ⟨q, Nat.le_refl _⟩, fun _ _ _ _ _ _ y => y⟩
end TH
end

section
/-! Plain functions: what the program's defs reckon. -/
set_option autoImplicit false
namespace TH
/-- a place: a crossing's number (or -1, the rim) and the place there -/
abbrev Spot := Int × Int
structure Web where
  cr : List (List Int)
  en : List Int
  rg : Int
deriving DecidableEq, Repr

/-! ### webs -/
def spotsAt (k : Int) (c : List Int) : List (Int × Spot) := c.zipIdx.map fun p => (p.1, (k, (p.2 : Int)))
def crSpots : List (List Int) → Nat → List (Int × Spot)
  | [], _ => []
  | c :: r, k => spotsAt (k : Int) c ++ crSpots r (k + 1)
def allSpots (w : Web) : List (Int × Spot) := crSpots w.cr 0 ++ spotsAt (-1) w.en
def putP : List (Int × List Spot) → Int → Spot → List (Int × List Spot)
  | [], a, s => [(a, [s])]
  | e :: r, a, s => if e.1 = a then (e.1, e.2 ++ [s]) :: r else e :: putP r a s
def placesOf (l : List (Int × Spot)) (acc : List (Int × List Spot)) : List (Int × List Spot) := l.foldl (fun acc p => putP acc p.1 p.2) acc
def places (w : Web) : List (Int × List Spot) := placesOf (allSpots w) []
def keys (w : Web) : List Int := (places w).map (·.1)
def ren (f : Int → Int) (w : Web) : Web := ⟨w.cr.map (·.map f), w.en.map f, w.rg⟩
/-- the place of a number in a list -/
def idx (l : List Int) (a : Int) : Int := (l.idxOf a : Nat)
def anew (w : Web) : Web := ren (idx (keys w)) w
def mirroredM (w : Web) : Web := ⟨w.cr.map fun c => c.drop 1 ++ c.take 1, w.en, w.rg⟩
def shiftedM (w : Web) (m : Nat) : Web := ⟨w.cr, w.en.drop m ++ w.en.take m, w.rg⟩

/-! ### gluing -/
def keptM (en : List Int) (i j : Int) : List Int := (en.zipIdx.filter fun p => decide (¬ ((p.2 : Int) = i ∨ (p.2 : Int) = j))).map (·.1)
def joinedM (w : Web) (i j : Nat) : Web :=
  let a := w.en.getD i 0
  let b := w.en.getD j 0
  if a = b then ⟨w.cr, keptM w.en i j, w.rg + 1⟩ else ren (fun x => if x = b then a else x) ⟨w.cr, keptM w.en i j, w.rg⟩
def shutM (w : Web) (i : Nat) : Web := anew (joinedM w i ((i + 1) % w.en.length))
def greatest (l : List Int) (d : Int) : Int := match l with
  | [] => d
  | a :: r => r.foldl max a
def sideM (u v : Web) : Web :=
  let f := 1 + greatest (keys u) (-1)
  let z := ren (fun x => f + x) v
  ⟨u.cr ++ z.cr, u.en ++ z.en, u.rg + z.rg⟩
/-- glued by two ends -/
def gluedM (u v : Web) : Web := anew (joinedM (joinedM (sideM u v) (u.en.length - 1) u.en.length) (u.en.length - 2) (u.en.length - 1))
def quarterM (w : Web) : Web := anew (shiftedM w 3)
def closedM (w : Web) (way : Int) : Web := if way = 0 then shutM (shutM w 3) 0 else shutM (shutM w 0) 0
def levelW : Web := ⟨[], [0, 1, 1, 0], 0⟩
def singleW : Web := ⟨[[0, 1, 2, 3]], [0, 1, 2, 3], 0⟩
def besideN (w h : Web) : Nat → Web
  | 0 => w
  | n + 1 => gluedM (besideN w h n) h
def halfW (a : Int) : Web := if a < 0 then mirroredM singleW else singleW
def stepW (w : Web) (a : Int) (first : Bool) : Web := besideN (if first then w else quarterM w) (halfW a) a.natAbs
def twistedM : List Int → Web
  | [] => levelW
  | a :: r => r.foldl (fun w b => stepW w b false) (stepW levelW a true)

/-! ### polynomials -/
abbrev Poly := List (Int × Int)
def dedup : List Int → List Int → List Int
  | [], acc => acc
  | a :: r, acc => dedup r (if a ∈ acc then acc else acc ++ [a])
def sumAt (l : Poly) (p : Int) : Int := (l.filter fun t => t.1 = p).foldl (fun s t => s + t.2) 0
def gatheredM (l : Poly) : Poly := ((((dedup (l.map (·.1)) []).mergeSort (· ≤ ·)).filter fun p => decide (sumAt l p ≠ 0))).map fun p => (p, sumAt l p)
def negM (l : Poly) : Poly := l.map fun t => (t.1, 0 - t.2)
def minusM (a b : Poly) : Poly := gatheredM (a ++ negM b)
def liftedM (a : Poly) (k : Int) : Poly := a.map fun t => (t.1 + k, t.2)
def halfM (x : Poly × Poly) (way : Int) : Poly × Poly := (liftedM x.1 (-way), minusM (liftedM x.1 way) (liftedM x.2 (3 * way)))
def signM (a : Int) : Int := if a > 0 then 1 else -1
def halfN (x : Poly × Poly) (way : Int) : Nat → Poly × Poly
  | 0 => x
  | n + 1 => halfM (halfN x way n) way
def sumsM : List Int → Poly × Poly
  | [] => ([(0, 1)], [])
  | a :: r => r.foldl (fun x b => halfN (x.2, x.1) (signM b) b.natAbs) (halfN ([(0, 1)], []) (signM a) a.natAbs)

/-! ### values -/
def vecM (l : List Int) : Int × Int := l.foldl (fun v a => (a * v.1 - v.2, v.1)) (1, 0)
def valueM (l : List Int) : Int × Int :=
  let v := vecM l
  if v.2 = 0 then (1, 0) else if v.2 < 0 then (-v.1, -v.2) else v

/-! ### strands -/
def opp (s : Spot) : Spot := (s.1, (s.2 + 2) % 4)
def putS : List (Spot × Spot) → Spot → Spot → List (Spot × Spot)
  | [], s, t => [(s, t)]
  | e :: r, s, t => if e.1 = s then (s, t) :: r else e :: putS r s t
def twinsOf (l : List (Int × List Spot)) (m : List (Spot × Spot)) : List (Spot × Spot) := l.foldl (fun m e => match e.2 with
  | [s, t] => putS (putS m s t) t s
  | _ => m) m
def twinsM (w : Web) : List (Spot × Spot) := twinsOf (places w) []
def arcAt (w : Web) (s : Spot) : Int := if s.1 = -1 then w.en.getD s.2.toNat 0 else (w.cr.getD s.1.toNat []).getD s.2.toNat 0
/-- a place there is -/
def SpotIn (w : Web) (s : Spot) : Prop := 0 ≤ s.2 ∧ ((s.1 = -1 ∧ s.2.toNat < w.en.length) ∨ (0 ≤ s.1 ∧ s.1.toNat < w.cr.length ∧ s.2.toNat < (w.cr.getD s.1.toNat []).length))
/-- the way on from a goal, till the rim or the beginning -/
inductive Run (m : List (Spot × Spot)) (b : Spot) : Spot → List Spot → Prop
  | rim {g : Spot} : g.1 = -1 → Run m b g []
  | back {g : Spot} : g.1 ≠ -1 → opp g = b → Run m b g []
  | step {g t : Spot} {l : List Spot} : g.1 ≠ -1 → opp g ≠ b → m.lookup (opp g) = some t → Run m b t l → Run m b g (opp g :: l)
def Road (m : List (Spot × Spot)) (b : Spot) (r : List Spot) : Prop := ∃ t l, m.lookup b = some t ∧ Run m b t l ∧ r = b :: l
/-- roads from beginnings that are not done -/
inductive Roads (m : List (Spot × Spot)) (arc : Spot → Int) : List Spot → List Int → List (List Spot) → Prop
  | nil {done : List Int} : Roads m arc [] done []
  | skip {b : Spot} {bs : List Spot} {done : List Int} {R : List (List Spot)} : arc b ∈ done → Roads m arc bs done R → Roads m arc (b :: bs) done R
  | road {b : Spot} {bs : List Spot} {done : List Int} {r : List Spot} {R : List (List Spot)} : arc b ∉ done → Road m b r → Roads m arc bs (done ++ r.map arc) R → Roads m arc (b :: bs) done (r :: R)
def fourOf (k : Int) : List Spot := (List.range 4).map fun (j : Nat) => (k, (j : Int))
def rimOf (n : Nat) : List Spot := (List.range n).map fun (j : Nat) => ((-1 : Int), (j : Int))
def beginsM (w : Web) : List Spot := rimOf w.en.length ++ (List.range w.cr.length).flatMap fun (k : Nat) => fourOf (k : Int)
/-- what signed tells of some roads: what passes a crossing, the later first -/
def passedOf (R : List (List Spot)) : List (Spot × Spot) → Nat → List (Spot × Spot) := fun m n => match R with
  | [] => m
  | r :: R => passedOf R (r.foldl (fun m s => putS m (s.1, s.2 % 2) ((n : Int), s.2)) m) (n + 1)
def signAt (m : List (Spot × Spot)) (k : Int) : Int × Int × Int :=
  let b := (m.lookup (k, 0)).getD (0, 0)
  let a := (m.lookup (k, 1)).getD (0, 0)
  (b.1, a.1, (a.2 - b.2) % 4 - 2)
def signedOf (n : Nat) (m : List (Spot × Spot)) : List (Int × Int × Int) := (List.range n).map fun (k : Nat) => signAt m (k : Int)
def turnsOf (S : List (Int × Int × Int)) : Int := ((S.filter fun t => decide (t.1 = t.2.1)).map fun t => t.2.2).sum
def addS : List (Spot × Int) → Spot → Int → List (Spot × Int)
  | [], s, t => [(s, 0 + t)]
  | e :: r, s, t => if e.1 = s then (s, e.2 + t) :: r else e :: addS r s t
def linkOf (S : List (Int × Int × Int)) : List (Spot × Int) := S.foldl (fun m t => if t.1 = t.2.1 then m else addS m (min t.1 t.2.1, max t.1 t.2.1) t.2.2) []
def linksOf (S : List (Int × Int × Int)) : List Int := (((linkOf S).map (·.2)).filter fun n => decide (n ≠ 0)).map fun n => if n < 0 then -n else n
def strungOf (rg : Int) (m : List (Spot × Spot)) (R : List (List Spot)) : Int × List (Int × Int) :=
  (rg + ((R.filter fun r => decide ((r.headD (0, 0)).1 ≠ -1)).length : Int), (R.filter fun r => decide ((r.headD (0, 0)).1 = -1)).map fun r => ((r.headD (0, 0)).2, ((m.lookup (r.getLastD (0, 0))).getD (0, 0)).2))
end TH
end

section
set_option autoImplicit false
namespace TH
/-! ### what places tells -/
def arcs (w : Web) : List Int := w.cr.flatten ++ w.en
theorem putP_keys (acc : List (Int × List Spot)) (a : Int) (s : Spot) : (putP acc a s).map (·.1) = if a ∈ acc.map (·.1) then acc.map (·.1) else acc.map (·.1) ++ [a] := by
  induction acc with
  | nil => simp [putP]
  | cons e r ih =>
    unfold putP
    by_cases h : e.1 = a
    · simp [h]
    · rw [if_neg h]
      simp only [List.map_cons, ih]
      have h' : ¬ a = e.1 := fun z => h z.symm
      by_cases m : a ∈ r.map (·.1)
      · simp [m]
      · have m2 : ¬ a ∈ e.1 :: r.map (·.1) := by simp only [List.mem_cons, not_or]; exact ⟨h', m⟩
        rw [if_neg m, if_neg m2]
        rfl
theorem putP_mem {acc : List (Int × List Spot)} {a : Int} {s : Spot} : ∀ {e : Int × List Spot}, (acc.map (·.1)).Nodup → e ∈ putP acc a s → (e.1 ≠ a ∧ e ∈ acc) ∨ (e.1 = a ∧ ((e.2 = [s] ∧ a ∉ acc.map (·.1)) ∨ ∃ l, (a, l) ∈ acc ∧ e.2 = l ++ [s])) := by
  induction acc with
  | nil =>
    intro e _ h
    have h : e = (a, [s]) := by simpa [putP] using h
    subst h
    exact .inr ⟨rfl, .inl ⟨rfl, by simp⟩⟩
  | cons x r ih =>
    intro e hn h
    rw [List.map_cons, List.nodup_cons] at hn
    unfold putP at h
    by_cases q : x.1 = a
    · rw [if_pos q] at h
      rcases List.mem_cons.mp h with z | z
      · subst z
        exact .inr ⟨q, .inr ⟨x.2, by rw [← q]; simp, rfl⟩⟩
      · refine .inl ⟨fun z2 => hn.1 ?_, List.mem_cons_of_mem _ z⟩
        rw [q, ← z2]
        exact List.mem_map.mpr ⟨e, z, rfl⟩
    · rw [if_neg q] at h
      rcases List.mem_cons.mp h with z | z
      · subst z
        exact .inl ⟨q, List.mem_cons_self⟩
      · rcases ih hn.2 z with ⟨h1, h2⟩ | ⟨h1, h2⟩
        · exact .inl ⟨h1, List.mem_cons_of_mem _ h2⟩
        · refine .inr ⟨h1, ?_⟩
          rcases h2 with ⟨h3, h4⟩ | ⟨l, h3, h4⟩
          · refine .inl ⟨h3, ?_⟩
            rw [List.map_cons, List.mem_cons, not_or]
            exact ⟨fun z => q z.symm, h4⟩
          · exact .inr ⟨l, List.mem_cons_of_mem _ h3, h4⟩
structure PlacesOk (l : List (Int × Spot)) (P : List (Int × List Spot)) : Prop where
  nd : (P.map (·.1)).Nodup
  mem : ∀ a, a ∈ P.map (·.1) ↔ a ∈ l.map (·.1)
  at_ : ∀ e ∈ P, e.2 = (l.filter fun t => decide (t.1 = e.1)).map (·.2)
theorem PlacesOk.put {l : List (Int × Spot)} {P : List (Int × List Spot)} (h : PlacesOk l P) (a : Int) (s : Spot) : PlacesOk (l ++ [(a, s)]) (putP P a s) := by
  refine ⟨?_, fun b => ?_, fun e he => ?_⟩
  · rw [putP_keys]
    split
    · exact h.nd
    · rename_i q
      rw [List.nodup_append]
      refine ⟨h.nd, by simp, fun x hx y hy z => q ?_⟩
      have e : y = a := by simpa using hy
      rw [← e, ← z]
      exact hx
  · rw [putP_keys, List.map_append, List.mem_append]
    split
    · rename_i q
      rw [h.mem]
      constructor
      · exact .inl
      · rintro (z | z)
        · exact z
        · have e : b = a := by simpa using z
          rw [e]
          exact (h.mem a).mp q
    · rw [List.mem_append, h.mem]
      simp
  · rw [List.filter_append, List.map_append]
    rcases putP_mem h.nd he with ⟨h1, h2⟩ | ⟨h1, h2⟩
    · rw [h.at_ e h2]
      have : ¬ a = e.1 := fun z => h1 z.symm
      simp [this]
    · rcases h2 with ⟨h3, h4⟩ | ⟨l', h3, h4⟩
      · have e0 : (l.filter fun t => decide (t.1 = e.1)) = [] := by
          rw [List.filter_eq_nil_iff]
          intro t ht z
          have z : t.1 = e.1 := by simpa using z
          apply h4
          rw [h.mem, ← h1, ← z]
          exact List.mem_map.mpr ⟨t, ht, rfl⟩
        rw [e0, h3]
        simp [h1]
      · have e1 : l' = (l.filter fun t => decide (t.1 = a)).map (·.2) := h.at_ _ h3
        rw [h4, e1, h1]
        simp
theorem places_ok_of (l : List (Int × Spot)) : PlacesOk l (placesOf l []) := by
  suffices ∀ (l l0 : List (Int × Spot)) (P : List (Int × List Spot)), PlacesOk l0 P → PlacesOk (l0 ++ l) (placesOf l P) by
    have q := this l [] [] ⟨by simp, by simp, by simp⟩
    simpa using q
  intro l
  induction l with
  | nil => intro l0 P h; simpa [placesOf] using h
  | cons p r ih =>
    intro l0 P h
    have q := ih (l0 ++ [(p.1, p.2)]) (putP P p.1 p.2) (h.put p.1 p.2)
    have e : l0 ++ p :: r = (l0 ++ [(p.1, p.2)]) ++ r := by simp
    rw [e]
    exact q
theorem places_ok (w : Web) : PlacesOk (allSpots w) (places w) := places_ok_of _
theorem spotsAt_arcs (k : Int) (c : List Int) : (spotsAt k c).map (·.1) = c := by
  unfold spotsAt
  rw [List.map_map]
  show c.zipIdx.map (fun p => p.1) = c
  rw [List.zipIdx_map_fst]
theorem crSpots_arcs : ∀ (cr : List (List Int)) (n : Nat), (crSpots cr n).map (·.1) = cr.flatten
  | [], _ => rfl
  | c :: r, n => by
    show (spotsAt (n : Int) c ++ crSpots r (n + 1)).map (·.1) = c ++ r.flatten
    rw [List.map_append, spotsAt_arcs, crSpots_arcs]
theorem allSpots_arcs (w : Web) : (allSpots w).map (·.1) = arcs w := by
  unfold allSpots arcs
  rw [List.map_append, crSpots_arcs, spotsAt_arcs]
theorem keys_nodup (w : Web) : (keys w).Nodup := (places_ok w).nd
theorem mem_keys (w : Web) (a : Int) : a ∈ keys w ↔ a ∈ arcs w := by
  rw [← allSpots_arcs]
  exact (places_ok w).mem a
end TH
end

section
set_option autoImplicit false
namespace TH
/-! ### gathering -/
theorem dedup_app (l m acc : List Int) : dedup (l ++ m) acc = dedup m (dedup l acc) := by
  induction l generalizing acc with
  | nil => rfl
  | cons a r ih => exact ih _
theorem dedup_snoc (l : List Int) (a : Int) : dedup (l ++ [a]) [] = if a ∈ dedup l [] then dedup l [] else dedup l [] ++ [a] := by
  rw [dedup_app]
  rfl
theorem mem_dedup (l acc : List Int) (x : Int) : x ∈ dedup l acc ↔ x ∈ l ∨ x ∈ acc := by
  induction l generalizing acc with
  | nil => simp [dedup]
  | cons a r ih =>
    rw [dedup, ih]
    split <;> grind
theorem nodup_dedup (l acc : List Int) (h : acc.Nodup) : (dedup l acc).Nodup := by
  induction l generalizing acc with
  | nil => exact h
  | cons a r ih =>
    rw [dedup]
    split
    · exact ih _ h
    · rename_i q
      refine ih _ ?_
      rw [List.nodup_append]
      refine ⟨h, by simp, fun x hx y hy z => q ?_⟩
      have e : y = a := by simpa using hy
      rw [← e, ← z]
      exact hx
theorem dedup_len (l acc : List Int) : (dedup l acc).length ≤ acc.length + l.length := by
  induction l generalizing acc with
  | nil => simp [dedup]
  | cons a r ih =>
    rw [dedup]
    have := ih (if a ∈ acc then acc else acc ++ [a])
    split at this
    · rename_i h
      rw [if_pos h]
      simp
      omega
    · rename_i h
      rw [if_neg h]
      simp at this ⊢
      omega
theorem foldl_add (l : Poly) (s : Int) : l.foldl (fun s t => s + t.2) s = s + l.foldl (fun s t => s + t.2) 0 := by
  induction l generalizing s with
  | nil => simp
  | cons a r ih =>
    rw [List.foldl_cons, List.foldl_cons, ih, ih (0 + a.2)]
    omega
theorem sumAt_nil (p : Int) : sumAt [] p = 0 := rfl
theorem sumAt_app (l m : Poly) (p : Int) : sumAt (l ++ m) p = sumAt l p + sumAt m p := by
  unfold sumAt
  rw [List.filter_append, List.foldl_append, foldl_add]
theorem sumAt_one (q n p : Int) : sumAt [(q, n)] p = if q = p then n else 0 := by
  unfold sumAt
  by_cases h : q = p
  · simp [h]
  · simp [h]
theorem sumAt_cons (t : Int × Int) (l : Poly) (p : Int) : sumAt (t :: l) p = (if t.1 = p then t.2 else 0) + sumAt l p := by
  have e : t :: l = [(t.1, t.2)] ++ l := rfl
  rw [e, sumAt_app, sumAt_one]
theorem sumAt_out {l : Poly} {p : Int} (h : p ∉ l.map (·.1)) : sumAt l p = 0 := by
  induction l with
  | nil => rfl
  | cons t r ih =>
    rw [List.map_cons, List.mem_cons, not_or] at h
    rw [sumAt_cons, if_neg (fun z => h.1 z.symm), ih h.2]
    rfl
theorem sorted_ints {a b : List Int} (hp : a.Perm b) (ha : a.Pairwise (· ≤ ·)) : a = b.mergeSort (· ≤ ·) := by
  have h1 := List.mergeSort_perm b (· ≤ ·)
  have h2 := List.pairwise_mergeSort (le := fun a b : Int => decide (a ≤ b)) (fun a b c h1 h2 => by simp at *; omega) (fun a b => by simp; omega) b
  refine List.Perm.eq_of_pairwise (le := (· ≤ ·)) (fun x y _ _ h1 h2 => Int.le_antisymm h1 h2) ha (h2.imp fun h => by simpa using h) (hp.trans h1.symm)
end TH
end

section
/-! Plain functions of the colours. -/
set_option autoImplicit false
namespace TH
/-- the group of d becomes that of b -/
def mergeG (f : Int → Int) (c : List Int) : Int → Int := fun x => if f x = f (c.getD 3 0) then f (c.getD 1 0) else f x
def groupF (w : Web) : Int → Int := w.cr.foldl mergeG (idx (keys w))
/-- the groups that there are, rising -/
def colsOf (w : Web) : List Int := (dedup ((keys w).map (groupF w)) []).mergeSort (· ≤ ·)
def addAt (row : List Int) (j : Nat) (n m : Int) : List Int := row.set j ((row.getD j 0 + n) % m)
def rowOf (cols : List Int) (f : Int → Int) (m : Int) (c : List Int) : List Int :=
  addAt (addAt (addAt (List.replicate cols.length 0) (cols.idxOf (f (c.getD 0 0))) 1 m) (cols.idxOf (f (c.getD 2 0))) 1 m) (cols.idxOf (f (c.getD 1 0))) (-2) m
def rowsOf (w : Web) (m : Int) : List (List Int) := w.cr.map (rowOf (colsOf w) (groupF w) m)
/-- a row less so often a head -/
def subRow (k : Int) (r head : List Int) (m : Int) : List Int := List.zipWith (fun a b => (a - k * b) % m) r head
def oftenOf (r head : List Int) (col : Nat) : Int := r.getD col 0 / head.getD col 0
/-- the rows behind n turns of clearing by the row there -/
def clearN (rows : List (List Int)) (at_ col : Nat) (m : Int) : Nat → List (List Int)
  | 0 => rows
  | n + 1 => if n = at_ then clearN rows at_ col m n else
    (clearN rows at_ col m n).set n (subRow (oftenOf ((clearN rows at_ col m n).getD n []) (rows.getD at_ []) col) ((clearN rows at_ col m n).getD n []) (rows.getD at_ []) m)
end TH
end

section
/-! Plain functions of the law's helpers. -/
set_option autoImplicit false
namespace TH
def twistOf (c most : Int) : Int := if c / 7 % 3 = 0 then c % 7 - 3 else if c / 7 % 3 = 1 then c % 3 - 1 else c / 21 % (2 * most + 1) - most
def cutOf (n left : Int) : Int := if (n.natAbs : Int) > left then 0 else n
def twistsM (most : Int) : List Int → Int → List Int
  | [], _ => []
  | c :: cs, left => cutOf (twistOf c most) left :: twistsM most cs (left - ((cutOf (twistOf c most) left).natAbs : Int))
def changedM (ts : List Int) (c : Int) : List Int :=
  let j := (c / 4 % (ts.length : Int)).toNat
  if c % 4 = 0 then ts.take j ++ [c / 32 % 5 - 2, 0, ts.getD j 0 - (c / 32 % 5 - 2)] ++ ts.drop (j + 1)
  else if c % 4 = 1 then [0, 0] ++ ts
  else
    let by_ : Int := if c % 2 = 0 then 1 else -1
    if j + 1 < ts.length then ts.take j ++ [ts.getD j 0 + by_, by_, ts.getD (j + 1) 0 + by_] ++ ts.drop (j + 2) else ts
def cellAt (ns : List Int) (k : Nat) : Int := ns.getD k 0
def sizeM (ts : List Int) : Int := (ts.map fun n => (n.natAbs : Int)).sum
def changesM : List Int → List Int → List Int
  | [], ts => ts
  | c :: cs, ts => changesM cs (if sizeM ts < 12 then changedM ts c else ts)
def oneM (ns : List Int) : List Int := twistsM 8 ((ns.take 5 ++ [0]).take (max 1 (min 5 ns.length))) 8
def otherM (ns : List Int) : List Int := if cellAt ns 8 % 4 > 0 then changesM ((ns.take 12).drop 9) (oneM ns) else twistsM 8 [cellAt ns 5, cellAt ns 6, cellAt ns 7] 8
end TH
end

section
set_option autoImplicit false
set_option linter.all false
/-! An action of the modular group: what stands at a value. -/
namespace TH
structure Act {X : Type} (S T U : X → X) (x0 : X) : Prop where
  ss : ∀ x, S (S x) = x
  tu : ∀ x, T (U x) = x
  ut : ∀ x, U (T x) = x
  t0 : T x0 = x0
  rel : ∀ x, U (S (U (S x))) = S (T x)
section
variable {X : Type} {S T U : X → X} {x0 : X}
def itN (f : X → X) : Nat → X → X
  | 0, x => x
  | n + 1, x => f (itN f n x)
def powT (T U : X → X) (k : Int) (x : X) : X := if 0 ≤ k then itN T k.toNat x else itN U (-k).toNat x
theorem powT_zero (x : X) : powT T U 0 x = x := rfl
theorem itN_comm (f : X → X) (n : Nat) (x : X) : itN f n (f x) = f (itN f n x) := by
  induction n with
  | zero => rfl
  | succ n ih => rw [itN, ih, itN]
theorem powT_succ (A : Act S T U x0) (k : Int) (x : X) : powT T U (k + 1) x = T (powT T U k x) := by
  unfold powT
  by_cases h : 0 ≤ k
  · rw [if_pos h, if_pos (by omega), show (k + 1).toNat = k.toNat + 1 by omega]
    rfl
  · rw [if_neg h]
    by_cases h2 : 0 ≤ k + 1
    · rw [if_pos h2, show (k + 1).toNat = 0 by omega, show (-k).toNat = 0 + 1 by omega]
      exact (A.tu x).symm
    · rw [if_neg h2, show (-k).toNat = (-(k + 1)).toNat + 1 by omega, itN, A.tu]
theorem powT_pred (A : Act S T U x0) (k : Int) (x : X) : powT T U (k - 1) x = U (powT T U k x) := by
  have h := powT_succ A (k - 1) x
  rw [show k - 1 + 1 = k by omega] at h
  rw [h, A.ut]
def G (S T U : X → X) (x0 : X) (p : Int) (q : Nat) : X :=
  if h : q = 0 then x0 else powT T U (p / (q : Int)) (S (G S T U x0 (-(q : Int)) (p % (q : Int)).toNat))
termination_by q
decreasing_by
  have h1 : 0 ≤ p % (q : Int) := Int.emod_nonneg _ (by omega)
  have h2 : p % (q : Int) < q := Int.emod_lt_of_pos _ (by omega)
  omega
theorem G_zero (p : Int) : G S T U x0 p 0 = x0 := by
  rw [G]
  simp
theorem G_pos (p : Int) {q : Nat} (h : 0 < q) : G S T U x0 p q = powT T U (p / (q : Int)) (S (G S T U x0 (-(q : Int)) (p % (q : Int)).toNat)) := by
  rw [G, dif_neg (by omega)]
theorem G_T (A : Act S T U x0) (p : Int) (q : Nat) : G S T U x0 (p + q) q = T (G S T U x0 p q) := by
  by_cases h : q = 0
  · subst h
    rw [G_zero, G_zero, A.t0]
  · have h' : 0 < q := by omega
    rw [G_pos _ h', G_pos _ h', ← powT_succ A, Int.add_emod_right]
    congr 1
    rw [Int.add_ediv_of_dvd_right (Int.dvd_refl _), Int.ediv_self (by omega)]
theorem G_U (A : Act S T U x0) (p : Int) (q : Nat) : G S T U x0 (p - q) q = U (G S T U x0 p q) := by
  have h := G_T A (p - q) q
  rw [show p - (q : Int) + q = p by omega] at h
  rw [h, A.ut]
theorem G_small {p q : Nat} (h : p < q) : G S T U x0 p q = S (G S T U x0 (-(q : Int)) p) := by
  rw [G_pos _ (by omega), Int.ediv_eq_zero_of_lt (by omega) (by omega), Int.emod_eq_of_lt (by omega) (by omega)]
  rfl
theorem G_S (A : Act S T U x0) : ∀ n, ∀ p q : Nat, 0 < p → 0 < q → p + q ≤ n → G S T U x0 (-(q : Int)) p = S (G S T U x0 p q) := by
  intro n
  induction n with
  | zero => intro p q h1 h2 h3; omega
  | succ n ih =>
    intro p q h1 h2 h3
    by_cases h : p < q
    · rw [G_small h, A.ss]
    · have hu : U x0 = x0 := by
        have := A.ut x0
        rw [A.t0] at this
        exact this
      have e1 : G S T U x0 (-(q : Int)) p = U (S (G S T U x0 (-(p : Int)) (p - q))) := by
        have hq : (-(q : Int)) / (p : Int) = -1 := by
          rw [Int.ediv_eq_iff_of_pos (by omega)]
          omega
        have hr : ((-(q : Int)) % (p : Int)).toNat = p - q := by
          have := Int.emod_add_mul_ediv (-(q : Int)) (p : Int)
          rw [hq] at this
          omega
        rw [G_pos _ h1, hq, hr]
        rfl
      have e2 : G S T U x0 (p : Int) q = T (G S T U x0 ((p - q : Nat) : Int) q) := by
        have := G_T A ((p - q : Nat) : Int) q
        rw [show ((p - q : Nat) : Int) + (q : Int) = p by omega] at this
        exact this
      rw [e1, e2, ← A.rel]
      by_cases hpq : p = q
      · subst hpq
        rw [Nat.sub_self, G_zero, show ((0 : Nat) : Int) = ((0 : Nat) : Int) from rfl, G_small h1, G_zero, A.ss, hu]
      · have h4 := ih (p - q) q (by omega) h2 (by omega)
        rw [← h4, ← G_U A]
        congr 3
        omega
def HV (S T U : X → X) (x0 : X) (v : Int × Int) : X := if 0 ≤ v.2 then G S T U x0 v.1 v.2.toNat else G S T U x0 (-v.1) (-v.2).toNat
theorem HV_pos {p q : Int} (h : 0 ≤ q) : HV S T U x0 (p, q) = G S T U x0 p q.toNat := if_pos h
theorem HV_neg {p q : Int} (h : q < 0) : HV S T U x0 (p, q) = G S T U x0 (-p) (-q).toNat := if_neg (by omega)
theorem HV_T (A : Act S T U x0) (p q : Int) : HV S T U x0 (p + q, q) = T (HV S T U x0 (p, q)) := by
  by_cases h : 0 ≤ q
  · rw [HV_pos h, HV_pos h, ← G_T A]
    congr 1
    omega
  · rw [HV_neg (by omega), HV_neg (by omega), ← G_T A]
    congr 1
    omega
theorem HV_opp (p q : Int) : HV S T U x0 (-p, -q) = HV S T U x0 (p, q) := by
  by_cases h0 : q = 0
  · subst h0
    rw [show (-(0 : Int)) = 0 from rfl, HV_pos (Int.le_refl 0), HV_pos (Int.le_refl 0), show (0 : Int).toNat = 0 from rfl, G_zero, G_zero]
  · by_cases h : 0 ≤ q
    · rw [HV_pos h, HV_neg (by omega), Int.neg_neg, Int.neg_neg]
    · rw [HV_neg (show q < 0 by omega), HV_pos (by omega)]
theorem HV_S (A : Act S T U x0) (p q : Int) (h : p ≠ 0 ∨ q ≠ 0) : HV S T U x0 (-q, p) = S (HV S T U x0 (p, q)) := by
  -- for q, p > 0
  have core : ∀ p q : Int, 0 < p → 0 < q → HV S T U x0 (-q, p) = S (HV S T U x0 (p, q)) := fun p q hp hq => by
    rw [HV_pos (by omega), HV_pos (by omega)]
    have := G_S A (p.toNat + q.toNat) p.toNat q.toNat (by omega) (by omega) (Nat.le_refl _)
    rw [show -((q.toNat : Nat) : Int) = -q by omega, show ((p.toNat : Nat) : Int) = p by omega] at this
    exact this
  have other : ∀ p q : Int, p < 0 → 0 < q → HV S T U x0 (-q, p) = S (HV S T U x0 (p, q)) := fun p q hp hq => by
    have h1 := core q (-p) hq (by omega)
    rw [Int.neg_neg] at h1
    rw [h1, A.ss, ← HV_opp, Int.neg_neg]
  have z1 : ∀ q : Int, 0 < q → HV S T U x0 (-q, 0) = S (HV S T U x0 (0, q)) := fun q hq => by
    rw [HV_pos (by omega), HV_pos (by omega), show (0 : Int).toNat = 0 from rfl, G_zero]
    have := G_small (S := S) (T := T) (U := U) (x0 := x0) (p := 0) (q := q.toNat) (by omega)
    rw [show ((0 : Nat) : Int) = 0 from rfl] at this
    rw [this, G_zero, A.ss]
  have z2 : ∀ p : Int, 0 < p → HV S T U x0 (0, p) = S (HV S T U x0 (p, 0)) := fun p hp => by
    have h1 := z1 p hp
    have e1 : HV S T U x0 (-p, 0) = x0 := by rw [HV_pos (Int.le_refl 0), show (0 : Int).toNat = 0 from rfl, G_zero]
    have e2 : HV S T U x0 (p, 0) = x0 := by rw [HV_pos (Int.le_refl 0), show (0 : Int).toNat = 0 from rfl, G_zero]
    have h2 := congrArg S h1
    rw [A.ss, e1] at h2
    rw [e2]
    exact h2.symm
  have flip : ∀ p q : Int, HV S T U x0 (-q, p) = S (HV S T U x0 (p, q)) → HV S T U x0 (q, -p) = S (HV S T U x0 (-p, -q)) := fun p q e => by
    rw [HV_opp, ← e, ← HV_opp, Int.neg_neg]
  rcases Int.lt_trichotomy q 0 with hq | hq | hq
  · have : HV S T U x0 (-(-q), -p) = S (HV S T U x0 (-p, -q)) := by
      rcases Int.lt_trichotomy p 0 with hp | hp | hp
      · exact core (-p) (-q) (by omega) (by omega)
      · subst hp
        exact z1 (-q) (by omega)
      · exact other (-p) (-q) (by omega) (by omega)
    have := flip (-p) (-q) this
    rw [Int.neg_neg, Int.neg_neg] at this
    exact this
  · subst hq
    rcases Int.lt_trichotomy p 0 with hp | hp | hp
    · have := flip (-p) 0 (z2 (-p) (by omega))
      rw [Int.neg_neg] at this
      exact this
    · omega
    · exact z2 p hp
  · rcases Int.lt_trichotomy p 0 with hp | hp | hp
    · exact other p q hp hq
    · subst hp
      exact z1 q hq
    · exact core p q hp hq
/-- what a list of numbers makes of a beginning -/
def run (S T U : X → X) (x : X) (l : List Int) : X := l.foldl (fun x a => powT T U a (S x)) x
theorem HV_powT (A : Act S T U x0) (q : Int) (a : Int) : ∀ p : Int, HV S T U x0 (p + a * q, q) = powT T U a (HV S T U x0 (p, q)) := by
  have up : ∀ n : Nat, ∀ p : Int, HV S T U x0 (p + (n : Int) * q, q) = powT T U (n : Int) (HV S T U x0 (p, q)) := by
    intro n
    induction n with
    | zero => intro p; rw [show ((0 : Nat) : Int) = 0 from rfl, Int.zero_mul, Int.add_zero, powT_zero]
    | succ n ih =>
      intro p
      rw [show ((n + 1 : Nat) : Int) = (n : Int) + 1 from rfl, powT_succ A, ← ih, ← HV_T A, Int.add_mul, Int.one_mul, Int.add_assoc]
  have dn : ∀ n : Nat, ∀ p : Int, HV S T U x0 (p + (-(n : Int)) * q, q) = powT T U (-(n : Int)) (HV S T U x0 (p, q)) := by
    intro n
    induction n with
    | zero => intro p; rw [show (-((0 : Nat) : Int)) = 0 from rfl, Int.zero_mul, Int.add_zero, powT_zero]
    | succ n ih =>
      intro p
      rw [show (-((n + 1 : Nat) : Int)) = -(n : Int) - 1 by omega, powT_pred A, ← ih]
      have := HV_T A (p + (-(n : Int) - 1) * q) q
      rw [Int.add_assoc, show (-(n : Int) - 1) * q + q = -(n : Int) * q by rw [Int.sub_mul, Int.one_mul]; omega] at this
      rw [this, A.ut]
  intro p
  rcases Int.le_total 0 a with h | h
  · have := up a.toNat p
    rw [show ((a.toNat : Nat) : Int) = a by omega] at this
    exact this
  · have := dn (-a).toNat p
    rw [show (-((-a).toNat : Nat) : Int) = a by omega] at this
    exact this
/-- a vector and another with it make 1 -/
def Uni (v : Int × Int) : Prop := ∃ a b : Int, a * v.1 + b * v.2 = 1
theorem vecM_snoc (l : List Int) (a : Int) : vecM (l ++ [a]) = (a * (vecM l).1 - (vecM l).2, (vecM l).1) := by
  unfold vecM
  rw [List.foldl_append]
  rfl
theorem snoc_ind {P : List Int → Prop} (h0 : P []) (h1 : ∀ l a, P l → P (l ++ [a])) (l : List Int) : P l := by
  suffices ∀ n (l : List Int), l.length = n → P l from this _ l rfl
  intro n
  induction n with
  | zero =>
    intro l h
    rw [List.length_eq_zero_iff.mp h]
    exact h0
  | succ n ih =>
    intro l h
    have hne : l ≠ [] := fun z => by rw [z] at h; cases h
    rw [← List.dropLast_concat_getLast hne]
    exact h1 _ _ (ih _ (by rw [List.length_dropLast]; omega))
theorem uni_vec (l : List Int) : Uni (vecM l) := by
  refine snoc_ind (P := fun l => Uni (vecM l)) ⟨1, 0, by decide⟩ (fun l a ⟨x, y, h⟩ => ?_) l
  rw [vecM_snoc]
  refine ⟨-y, x + a * y, ?_⟩
  rw [← h]
  generalize (vecM l).1 = p
  generalize (vecM l).2 = q
  show -y * (a * p - q) + (x + a * y) * p = x * p + y * q
  rw [Int.mul_sub, Int.add_mul, Int.neg_mul, Int.neg_mul, Int.mul_assoc a y p, Int.mul_left_comm y a p]
  omega
theorem run_vec (A : Act S T U x0) (l : List Int) : run S T U x0 l = HV S T U x0 (vecM l) := by
  refine snoc_ind (P := fun l => run S T U x0 l = HV S T U x0 (vecM l)) ?_ (fun l a ih => ?_) l
  · show x0 = HV S T U x0 (1, 0)
    rw [HV_pos (Int.le_refl 0), show (0 : Int).toNat = 0 from rfl, G_zero]
  · rw [vecM_snoc]
    unfold run at ih ⊢
    rw [List.foldl_append]
    show powT T U a (S (List.foldl _ x0 l)) = _
    rw [ih]
    have hu := uni_vec l
    generalize vecM l = v at hu
    obtain ⟨p, q⟩ := v
    have hn : p ≠ 0 ∨ q ≠ 0 := by
      obtain ⟨x, y, h⟩ := hu
      by_cases hp : p = 0
      · refine .inr fun hq => ?_
        simp [hp, hq] at h
      · exact .inl hp
    rw [← HV_S A p q hn, ← HV_powT A]
    congr 2
    show -q + a * p = a * p - q
    omega
/-- same values: the same vector, but for its sign -/
theorem value_vec {l m : List Int} (h : valueM l = valueM m) : vecM l = vecM m ∨ vecM l = (-(vecM m).1, -(vecM m).2) := by
  unfold valueM at h
  have h1 := uni_vec l
  have h2 := uni_vec m
  generalize vecM l = v at *
  generalize vecM m = w at *
  obtain ⟨p, q⟩ := v
  obtain ⟨r, s⟩ := w
  obtain ⟨a, b, ha⟩ := h1
  obtain ⟨c, d, hc⟩ := h2
  simp only at h ha hc ⊢
  have one : ∀ x p : Int, x * p = 1 → p = 1 ∨ p = -1 := fun x p e => by
    have h : p ∣ 1 := ⟨x, by rw [← e, Int.mul_comm]⟩
    have h2 : p.natAbs ∣ 1 := Int.natAbs_dvd_natAbs.mpr h
    have : p.natAbs = 1 := Nat.dvd_one.mp h2
    omega
  by_cases hq : q = 0
  · rw [if_pos hq] at h
    by_cases hs : s = 0
    · subst hq hs
      have hp := one a p (by rw [← ha]; omega)
      have hr := one c r (by rw [← hc]; omega)
      rcases hp with rfl | rfl <;> rcases hr with rfl | rfl <;> simp
    · rw [if_neg hs] at h
      exfalso
      by_cases h0 : s < 0
      · rw [if_pos h0] at h
        have := congrArg Prod.snd h
        simp at this
        omega
      · rw [if_neg h0] at h
        have := congrArg Prod.snd h
        simp at this
        omega
  · rw [if_neg hq] at h
    by_cases hs : s = 0
    · rw [if_pos hs] at h
      exfalso
      by_cases h0 : q < 0
      · rw [if_pos h0] at h
        have := congrArg Prod.snd h
        simp at this
        omega
      · rw [if_neg h0] at h
        have := congrArg Prod.snd h
        simp at this
        omega
    · rw [if_neg hs] at h
      simp only [Prod.mk.injEq]
      by_cases h0 : q < 0
      · rw [if_pos h0] at h
        by_cases h1 : s < 0
        · rw [if_pos h1] at h
          simp only [Prod.mk.injEq] at h
          omega
        · rw [if_neg h1] at h
          simp only [Prod.mk.injEq] at h
          omega
      · rw [if_neg h0] at h
        by_cases h1 : s < 0
        · rw [if_pos h1] at h
          simp only [Prod.mk.injEq] at h
          omega
        · rw [if_neg h1] at h
          simp only [Prod.mk.injEq] at h
          omega
theorem run_value (A : Act S T U x0) {l m : List Int} (h : valueM l = valueM m) : run S T U x0 l = run S T U x0 m := by
  rw [run_vec A, run_vec A]
  rcases value_vec h with e | e
  · rw [e]
  · rw [e, HV_opp]
end
end TH
end

section
set_option autoImplicit false
set_option linter.all false
/-! Sums: what they are as functions. -/
namespace TH
/-! ### linear sums over a polynomial -/
def lin (c : Int → Int) (L : Poly) : Int := (L.map fun t => t.2 * c t.1).sum
theorem lin_nil (c : Int → Int) : lin c [] = 0 := rfl
theorem lin_cons (c : Int → Int) (t : Int × Int) (L : Poly) : lin c (t :: L) = t.2 * c t.1 + lin c L := rfl
theorem lin_app (c : Int → Int) (L M : Poly) : lin c (L ++ M) = lin c L + lin c M := by
  unfold lin
  rw [List.map_append, List.sum_append]
theorem lin_perm {c : Int → Int} {L M : Poly} (h : L.Perm M) : lin c L = lin c M := by
  induction h with
  | nil => rfl
  | cons t _ ih => rw [lin_cons, lin_cons, ih]
  | swap t u L => rw [lin_cons, lin_cons, lin_cons, lin_cons]; omega
  | trans _ _ ih1 ih2 => rw [ih1, ih2]
theorem lin_one (L : Poly) (i : Int) : sumAt L i = lin (fun e => if e = i then 1 else 0) L := by
  induction L with
  | nil => rfl
  | cons t L ih =>
    rw [sumAt_cons, lin_cons, ih]
    by_cases h : t.1 = i
    · rw [if_pos h]
      simp only [if_pos h]
      omega
    · rw [if_neg h]
      simp only [if_neg h]
      omega
theorem sum_ind (ks : List Int) (a v : Int) (c : Int → Int) (hn : ks.Nodup) (ha : a ∈ ks) : (ks.map fun k => (if a = k then v else 0) * c k).sum = v * c a := by
  induction ks with
  | nil => cases ha
  | cons k ks ih =>
    rw [List.nodup_cons] at hn
    rw [List.map_cons, List.sum_cons]
    by_cases h : a = k
    · subst h
      rw [if_pos rfl]
      have : (ks.map fun k => (if a = k then v else 0) * c k).sum = 0 := by
        have e : ∀ k ∈ ks, (if a = k then v else 0) * c k = 0 := fun k hk => by
          rw [if_neg (fun z => hn.1 (by rw [z]; exact hk)), Int.zero_mul]
        rw [List.map_congr_left e]
        clear e hn ha ih
        induction ks with
        | nil => rfl
        | cons k ks ih => rw [List.map_cons, List.sum_cons, ih]; rfl
      rw [this]
      omega
    · rw [if_neg h, Int.zero_mul, Int.zero_add]
      exact ih hn.2 ((List.mem_cons.mp ha).resolve_left h)
theorem sum_keys (ks : List Int) (c : Int → Int) (hn : ks.Nodup) : ∀ L : Poly, (∀ t ∈ L, t.1 ∈ ks) → (ks.map fun k => sumAt L k * c k).sum = lin c L
  | [], hx => by
    rw [lin_nil]
    clear hn hx
    induction ks with
    | nil => rfl
    | cons k ks ih => rw [List.map_cons, List.sum_cons, ih, sumAt_nil]; omega
  | t :: L, h => by
    have ih := sum_keys ks c hn L fun u hu => h u (List.mem_cons_of_mem _ hu)
    have e1 := sum_ind ks t.1 t.2 c hn (h t List.mem_cons_self)
    rw [lin_cons, ← ih, ← e1]
    clear ih e1 h hn
    induction ks with
    | nil => rfl
    | cons k ks ih =>
      rw [List.map_cons, List.sum_cons, ih, List.map_cons, List.sum_cons, List.map_cons, List.sum_cons, sumAt_cons, Int.add_mul]
      omega
theorem lin_gathered (c : Int → Int) (L : Poly) : lin c (gatheredM L) = lin c L := by
  unfold gatheredM
  have hn : ((dedup (L.map (·.1)) []).mergeSort (· ≤ ·)).Nodup := (List.mergeSort_perm _ _).nodup_iff.mpr (nodup_dedup _ _ List.nodup_nil)
  rw [← sum_keys _ c hn L fun t ht => by
    rw [(List.mergeSort_perm _ _).mem_iff, mem_dedup]
    exact .inl (List.mem_map.mpr ⟨t, ht, rfl⟩)]
  clear hn
  generalize (dedup (L.map (·.1)) []).mergeSort (· ≤ ·) = ks
  induction ks with
  | nil => rfl
  | cons k ks ih =>
    rw [List.filter_cons]
    by_cases h : sumAt L k = 0
    · rw [if_neg (by simp [h]), ih, List.map_cons, List.sum_cons, h]
      omega
    · rw [if_pos (by simp [h]), List.map_cons, lin_cons, ih, List.map_cons, List.sum_cons]
theorem lin_neg (c : Int → Int) (L : Poly) : lin c (negM L) = - lin c L := by
  induction L with
  | nil => rfl
  | cons t L ih =>
    show (0 - t.2) * c t.1 + lin c (negM L) = _
    rw [ih, lin_cons, Int.sub_mul]
    omega
theorem lin_lifted (c : Int → Int) (k : Int) (L : Poly) : lin c (liftedM L k) = lin (fun e => c (e + k)) L := by
  unfold lin liftedM
  rw [List.map_map]
  rfl
theorem lin_minus (c : Int → Int) (a b : Poly) : lin c (minusM a b) = lin c a - lin c b := by
  unfold minusM
  rw [lin_gathered, lin_app, lin_neg]
  omega
theorem sumAt_lifted (L : Poly) (k i : Int) : sumAt (liftedM L k) i = sumAt L (i - k) := by
  rw [lin_one, lin_lifted, lin_one]
  congr 1
  funext e
  by_cases h : e = i - k
  · rw [if_pos h, if_pos (by omega)]
  · rw [if_neg h, if_neg (by omega)]
theorem sumAt_minus (a b : Poly) (i : Int) : sumAt (minusM a b) i = sumAt a i - sumAt b i := by
  rw [lin_one, lin_minus, ← lin_one, ← lin_one]

/-! ### canonical polynomials -/
structure Canon (L : Poly) : Prop where
  up : L.Pairwise fun a b => a.1 < b.1
  nz : ∀ t ∈ L, t.2 ≠ 0
theorem Canon.tail {t : Int × Int} {L : Poly} (h : Canon (t :: L)) : Canon L := ⟨(List.pairwise_cons.mp h.up).2, fun u hu => h.nz u (List.mem_cons_of_mem _ hu)⟩
theorem sumAt_low {L : Poly} {i : Int} (h : ∀ t ∈ L, i < t.1) : sumAt L i = 0 := sumAt_out fun z => by
  obtain ⟨t, ht, e⟩ := List.mem_map.mp z
  have := h t ht
  have e : t.1 = i := e
  omega
theorem Canon.uniq : ∀ {L M : Poly}, Canon L → Canon M → (∀ i, sumAt L i = sumAt M i) → L = M
  | [], [], _, _, _ => rfl
  | [], u :: M, _, hM, h => by
    exfalso
    have := h u.1
    rw [sumAt_nil, sumAt_cons, if_pos rfl, sumAt_low fun t ht => (List.pairwise_cons.mp hM.up).1 t ht] at this
    exact hM.nz u List.mem_cons_self (by omega)
  | t :: L, [], hL, _, h => by
    exfalso
    have := h t.1
    rw [sumAt_nil, sumAt_cons, if_pos rfl, sumAt_low fun u hu => (List.pairwise_cons.mp hL.up).1 u hu] at this
    exact hL.nz t List.mem_cons_self (by omega)
  | t :: L, u :: M, hL, hM, h => by
    have lowL := (List.pairwise_cons.mp hL.up).1
    have lowM := (List.pairwise_cons.mp hM.up).1
    have ht := h t.1
    have hu := h u.1
    have e1 : t.1 = u.1 := by
      rcases Int.lt_trichotomy t.1 u.1 with z | z | z
      · exfalso
        rw [sumAt_cons, if_pos rfl, sumAt_low fun x hx => lowL x hx, sumAt_cons, if_neg (by omega), sumAt_low fun x hx => by have := lowM x hx; omega] at ht
        exact hL.nz t List.mem_cons_self (by omega)
      · exact z
      · exfalso
        rw [sumAt_cons, if_neg (by omega), sumAt_low fun x hx => by have := lowL x hx; omega, sumAt_cons, if_pos rfl, sumAt_low fun x hx => lowM x hx] at hu
        exact hM.nz u List.mem_cons_self (by omega)
    rw [sumAt_cons, if_pos rfl, sumAt_low fun x hx => lowL x hx, sumAt_cons, if_pos e1.symm, sumAt_low fun x hx => by have := lowM x hx; omega] at ht
    have e2 : t = u := by
      obtain ⟨a, b⟩ := t
      obtain ⟨c, d⟩ := u
      simp only at e1 ht
      rw [e1, show b = d by omega]
    subst e2
    rw [Canon.uniq hL.tail hM.tail fun i => ?_]
    have := h i
    rw [sumAt_cons, sumAt_cons] at this
    omega
theorem canon_gathered (L : Poly) : Canon (gatheredM L) := by
  have hn : ((dedup (L.map (·.1)) []).mergeSort (· ≤ ·)).Nodup := (List.mergeSort_perm _ _).nodup_iff.mpr (nodup_dedup _ _ List.nodup_nil)
  have h2 := List.pairwise_mergeSort (le := fun a b : Int => decide (a ≤ b)) (fun a b c h1 h2 => by simp at *; omega) (fun a b => by simp; omega) (dedup (L.map (·.1)) [])
  have h3 : ((dedup (L.map (·.1)) []).mergeSort (· ≤ ·)).Pairwise (· < ·) := (h2.and hn).imp fun ⟨a, b⟩ => by
    have := of_decide_eq_true a
    omega
  unfold gatheredM
  constructor
  · rw [List.pairwise_map]
    exact h3.filter _
  · intro t ht
    obtain ⟨k, hk, rfl⟩ := List.mem_map.mp ht
    simpa using (List.mem_filter.mp hk).2
theorem canon_lifted {L : Poly} (h : Canon L) (k : Int) : Canon (liftedM L k) := by
  constructor
  · unfold liftedM
    rw [List.pairwise_map]
    exact h.up.imp fun z => by show _ + k < _ + k; omega
  · intro t ht
    obtain ⟨u, hu, rfl⟩ := List.mem_map.mp ht
    exact h.nz u hu
end TH
end

section
set_option autoImplicit false
set_option linter.all false
/-! What a list of numbers makes: how the ends are joined, how the strands are linked, the turns; the sums freed of them. -/
namespace TH
def ownP (h : Int) (p : Poly) : Poly := p.map fun t => (t.1 + 3 * h, t.2 * (1 - 2 * (h % 2)))
def ownL (h : Int) (x : Poly × Poly) : List Poly := [ownP h x.1, ownP h x.2]
inductive Ty
  | lev | upr | cro
deriving DecidableEq
structure Dt where
  ty : Ty
  lk : Int
  tu : Int
def dS (d : Dt) : Dt := match d.ty with
  | .lev => ⟨.upr, -d.lk, d.tu⟩
  | .upr => ⟨.lev, -d.lk, d.tu⟩
  | .cro => ⟨.cro, -d.lk, d.tu⟩
/-- a half twist, s = 1 or -1 -/
def dT (s : Int) (d : Dt) : Dt := match d.ty with
  | .lev => ⟨.cro, d.lk - s, d.tu⟩
  | .cro => ⟨.lev, d.lk - s, d.tu⟩
  | .upr => ⟨.upr, -d.lk, d.tu + s⟩
def d0 : Dt := ⟨.upr, 0, 0⟩
structure Xs where
  ty : Ty
  lk : Int
  z : Int → Int
  y : Int → Int
theorem Xs.ext' {a b : Xs} (h1 : a.ty = b.ty) (h2 : a.lk = b.lk) (h3 : ∀ i, a.z i = b.z i) (h4 : ∀ i, a.y i = b.y i) : a = b := by
  obtain ⟨a1, a2, a3, a4⟩ := a
  obtain ⟨b1, b2, b3, b4⟩ := b
  simp only at h1 h2
  have h3 : a3 = b3 := funext h3
  have h4 : a4 = b4 := funext h4
  rw [h1, h2, h3, h4]
def xS (x : Xs) : Xs := match x.ty with
  | .lev => ⟨.upr, -x.lk, x.y, x.z⟩
  | .upr => ⟨.lev, -x.lk, x.y, x.z⟩
  | .cro => ⟨.cro, -x.lk, x.y, x.z⟩
def xT (s : Int) (x : Xs) : Xs := match x.ty with
  | .lev => ⟨.cro, x.lk - s, fun i => x.z (i + s), fun i => x.z (i - s) - x.y (i - 3 * s)⟩
  | .cro => ⟨.lev, x.lk - s, fun i => x.z (i + s), fun i => x.z (i - s) - x.y (i - 3 * s)⟩
  | .upr => ⟨.upr, -x.lk, fun i => -x.z (i + 4 * s), fun i => x.y i - x.z (i + 2 * s)⟩
def x0 : Xs := ⟨.upr, 0, fun _ => 0, fun i => if i = 0 then 1 else 0⟩
theorem xS_ss (x : Xs) : xS (xS x) = x := by
  obtain ⟨t, l, z, y⟩ := x
  cases t <;> simp [xS]
theorem xT_xT (s : Int) (x : Xs) : xT s (xT (-s) x) = x := by
  obtain ⟨t, l, z, y⟩ := x
  cases t
  all_goals
    refine Xs.ext' rfl ?_ (fun i => ?_) (fun i => ?_)
    · simp only [xT]
      omega
    · simp only [xT]
      first
        | (congr 1; omega)
        | (rw [Int.neg_neg]; congr 1; omega)
    · simp only [xT]
      try rw [show i - s + -s = i - 3 * s - -s by omega, show i - 3 * s - 3 * -s = i by omega]
      try rw [show i + 2 * s + 4 * -s = i + 2 * -s by omega]
      omega
theorem xAct : Act xS (xT 1) (xT (-1)) x0 where
  ss := xS_ss
  tu := fun x => xT_xT 1 x
  ut := fun x => xT_xT (-1) x
  t0 := by
    refine Xs.ext' rfl rfl (fun i => rfl) (fun i => ?_)
    simp [xT, x0]
  rel := fun x => by
    obtain ⟨t, l, z, y⟩ := x
    cases t
    all_goals
      refine Xs.ext' rfl ?_ (fun i => ?_) (fun i => ?_)
      · simp only [xT, xS]
        omega
      · simp only [xT, xS]
        grind
      · simp only [xT, xS]
        grind

/-! ### the sums beside them -/
def sg (t : Int) : Int := 1 - 2 * (t % 2)
structure Rel3 (d : Dt) (p : Poly × Poly) (x : Xs) : Prop where
  ty : x.ty = d.ty
  lk : x.lk = d.lk
  z : ∀ i, x.z i = sg d.tu * sumAt p.1 (i + 3 * d.tu)
  y : ∀ i, x.y i = sg d.tu * sumAt p.2 (i + 3 * d.tu)
theorem rel_S {d : Dt} {p : Poly × Poly} {x : Xs} (h : Rel3 d p x) : Rel3 (dS d) (p.2, p.1) (xS x) := by
  obtain ⟨h1, h2, h3, h4⟩ := h
  obtain ⟨t, l, z, y⟩ := x
  obtain ⟨t', l', u⟩ := d
  simp only at h1 h2 h3 h4
  subst h1 h2
  cases t
  all_goals exact ⟨rfl, rfl, h4, h3⟩
theorem sg_step (t s : Int) (h : s = 1 ∨ s = -1) : sg (t + s) = - sg t := by
  unfold sg
  omega
theorem rel_T {d : Dt} {p : Poly × Poly} {x : Xs} (s : Int) (hs : s = 1 ∨ s = -1) (h : Rel3 d p x) : Rel3 (dT s d) (halfM p s) (xT s x) := by
  obtain ⟨h1, h2, h3, h4⟩ := h
  obtain ⟨t, l, z, y⟩ := x
  obtain ⟨t', l', u⟩ := d
  simp only at h1 h2 h3 h4
  subst h1 h2
  have e1 : ∀ j, sumAt (halfM p s).1 j = sumAt p.1 (j + s) := fun j => by
    show sumAt (liftedM p.1 (-s)) j = _
    rw [sumAt_lifted]
    congr 1
    omega
  have e2 : ∀ j, sumAt (halfM p s).2 j = sumAt p.1 (j - s) - sumAt p.2 (j - 3 * s) := fun j => by
    show sumAt (minusM (liftedM p.1 s) (liftedM p.2 (3 * s))) j = _
    rw [sumAt_minus, sumAt_lifted, sumAt_lifted]
  have lift : ∀ i, z (i + s) = sg u * sumAt (halfM p s).1 (i + 3 * u) ∧ z (i - s) - y (i - 3 * s) = sg u * sumAt (halfM p s).2 (i + 3 * u) := fun i => by
    refine ⟨?_, ?_⟩
    · rw [e1, h3]
      congr 2
      omega
    · rw [e2, h3, h4, Int.mul_sub, show i - s + 3 * u = i + 3 * u - s by omega, show i - 3 * s + 3 * u = i + 3 * u - 3 * s by omega]
  cases t
  · exact ⟨rfl, rfl, fun i => (lift i).1, fun i => (lift i).2⟩
  · refine ⟨rfl, rfl, fun i => ?_, fun i => ?_⟩
    · show -z (i + 4 * s) = sg (u + s) * sumAt (halfM p s).1 (i + 3 * (u + s))
      rw [sg_step u s hs, e1, h3, Int.neg_mul]
      congr 3
      omega
    · show y i - z (i + 2 * s) = sg (u + s) * sumAt (halfM p s).2 (i + 3 * (u + s))
      rw [sg_step u s hs, e2, h3, h4, Int.neg_mul, Int.mul_sub, show i + 3 * (u + s) - s = i + 2 * s + 3 * u by omega, show i + 3 * (u + s) - 3 * s = i + 3 * u by omega]
      omega
  · exact ⟨rfl, rfl, fun i => (lift i).1, fun i => (lift i).2⟩
theorem itN_rel {A B : Type} {R : A → B → Prop} {f : A → A} {g : B → B} (h : ∀ a b, R a b → R (f a) (g b)) : ∀ (n : Nat) (a : A) (b : B), R a b → R (itN f n a) (itN g n b)
  | 0, _, _, r => r
  | n + 1, a, b, r => h _ _ (itN_rel h n a b r)
theorem run_rel {A B : Type} {R : A → B → Prop} {S T U : A → A} {S' T' U' : B → B} (hS : ∀ a b, R a b → R (S a) (S' b)) (hT : ∀ a b, R a b → R (T a) (T' b)) (hU : ∀ a b, R a b → R (U a) (U' b)) {a : A} {b : B} (h0 : R a b) (l : List Int) : R (run S T U a l) (run S' T' U' b l) := by
  unfold run
  induction l generalizing a b with
  | nil => exact h0
  | cons k l ih =>
    rw [List.foldl_cons, List.foldl_cons]
    refine ih ?_
    unfold powT
    split
    · exact itN_rel hT _ _ _ (hS _ _ h0)
    · exact itN_rel hU _ _ _ (hS _ _ h0)
def dRun (l : List Int) : Dt := run dS (dT 1) (dT (-1)) d0 l
def xRun (l : List Int) : Xs := run xS (xT 1) (xT (-1)) x0 l
def pS (p : Poly × Poly) : Poly × Poly := (p.2, p.1)
def pT (s : Int) (p : Poly × Poly) : Poly × Poly := halfM p s
def pRun (l : List Int) : Poly × Poly := run pS (pT 1) (pT (-1)) ([], [(0, 1)]) l
/-- (Dt, sums) in one run -/
def qRun (l : List Int) : Dt × (Poly × Poly) := run (fun q => (dS q.1, pS q.2)) (fun q => (dT 1 q.1, pT 1 q.2)) (fun q => (dT (-1) q.1, pT (-1) q.2)) (d0, ([], [(0, 1)])) l
theorem qRun_eq (l : List Int) : qRun l = (dRun l, pRun l) := by
  have h1 : (qRun l).1 = dRun l := by
    unfold qRun dRun
    exact run_rel (R := fun (q : Dt × (Poly × Poly)) (d : Dt) => q.1 = d) (fun a b h => by rw [← h]) (fun a b h => by rw [← h]) (fun a b h => by rw [← h]) rfl l
  have h2 : (qRun l).2 = pRun l := by
    unfold qRun pRun
    exact run_rel (R := fun (q : Dt × (Poly × Poly)) (d : Poly × Poly) => q.2 = d) (fun a b h => by rw [← h]) (fun a b h => by rw [← h]) (fun a b h => by rw [← h]) rfl l
  rw [← h1, ← h2]
theorem rel_run (l : List Int) : Rel3 (dRun l) (pRun l) (xRun l) := by
  have h : Rel3 (qRun l).1 (qRun l).2 (xRun l) := by
    unfold qRun xRun
    exact run_rel (R := fun (q : Dt × (Poly × Poly)) (x : Xs) => Rel3 q.1 q.2 x) (fun a b h => rel_S h) (fun a b h => rel_T 1 (.inl rfl) h) (fun a b h => rel_T (-1) (.inr rfl) h) ⟨rfl, rfl, fun i => rfl, fun i => by
    show (if i = 0 then 1 else 0) = sg 0 * sumAt [(0, 1)] (i + 3 * 0)
    rw [sumAt_one]
    by_cases h : i = 0
    · rw [if_pos h, if_pos (by omega)]; rfl
    · rw [if_neg h, if_neg (by omega)]; rfl⟩ l
  rw [qRun_eq] at h
  exact h
theorem halfN_it (p : Poly × Poly) (s : Int) : ∀ n, halfN p s n = itN (pT s) n p
  | 0 => rfl
  | n + 1 => by rw [halfN, halfN_it p s n]; rfl
theorem half_pow (p : Poly × Poly) (a : Int) : halfN p (signM a) a.natAbs = powT (pT 1) (pT (-1)) a p := by
  rw [halfN_it]
  unfold powT signM
  by_cases h : a > 0
  · rw [if_pos h, if_pos (by omega), show a.natAbs = a.toNat by omega]
  · rw [if_neg h]
    by_cases h0 : a = 0
    · subst h0
      rfl
    · rw [if_neg (by omega), show a.natAbs = (-a).toNat by omega]
theorem sums_run {l : List Int} (h : l ≠ []) : sumsM l = pRun l := by
  cases l with
  | nil => exact absurd rfl h
  | cons a r =>
    unfold sumsM pRun run
    rw [List.foldl_cons, ← half_pow]
    have : ∀ (p : Poly × Poly) (r : List Int), r.foldl (fun x b => halfN (x.2, x.1) (signM b) b.natAbs) p = r.foldl (fun x a => powT (pT 1) (pT (-1)) a (pS x)) p := by
      intro p r
      induction r generalizing p with
      | nil => rfl
      | cons b r ih =>
        rw [List.foldl_cons, List.foldl_cons, ← half_pow]
        exact ih _
    exact this _ r
/-! ### canonical -/
def Can2 (p : Poly × Poly) : Prop := Canon p.1 ∧ Canon p.2
theorem can_run (l : List Int) : Can2 (pRun l) :=
  run_rel (R := fun p (_ : Unit) => Can2 p) (S' := id) (T' := id) (U' := id) (b := ()) (fun a b h => ⟨h.2, h.1⟩) (fun a b h => ⟨canon_lifted h.1 _, canon_gathered _⟩) (fun a b h => ⟨canon_lifted h.1 _, canon_gathered _⟩) ⟨⟨List.Pairwise.nil, fun t h => by cases h⟩, ⟨by simp, fun t h => by simp at h; rw [h]; decide⟩⟩ l
theorem sg_ne (h : Int) : sg h = 1 ∨ sg h = -1 := by
  unfold sg
  omega
theorem canon_own {p : Poly} (h : Canon p) (k : Int) : Canon (ownP k p) := by
  constructor
  · unfold ownP
    rw [List.pairwise_map]
    exact h.up.imp fun z => by show _ + 3 * k < _ + 3 * k; omega
  · intro t ht
    obtain ⟨u, hu, rfl⟩ := List.mem_map.mp ht
    have := h.nz u hu
    show u.2 * sg k ≠ 0
    rcases sg_ne k with e | e
    · rw [e]; omega
    · rw [e]; omega
theorem lin_own (c : Int → Int) (k : Int) (p : Poly) : lin c (ownP k p) = sg k * lin (fun e => c (e + 3 * k)) p := by
  induction p with
  | nil => rw [lin_nil]; show lin c [] = _; rw [lin_nil]; omega
  | cons t p ih =>
    show t.2 * sg k * c (t.1 + 3 * k) + lin c (ownP k p) = _
    rw [ih, lin_cons, Int.mul_add, Int.mul_assoc, Int.mul_left_comm]
theorem sumAt_own (k i : Int) (p : Poly) : sumAt (ownP k p) i = sg k * sumAt p (i - 3 * k) := by
  rw [lin_one, lin_own, lin_one]
  congr 2
  funext e
  by_cases h : e = i - 3 * k
  · rw [if_pos h, if_pos (by omega)]
  · rw [if_neg h, if_neg (by omega)]
theorem sg_neg (t : Int) : sg (0 - t) = sg t := by
  unfold sg
  omega
/-- same value: same ends, links, own sums -/
theorem same_of_value {l m : List Int} (h : valueM l = valueM m) : (dRun l).ty = (dRun m).ty ∧ (dRun l).lk = (dRun m).lk ∧ ownL (0 - (dRun l).tu) (pRun l) = ownL (0 - (dRun m).tu) (pRun m) := by
  have e : xRun l = xRun m := run_value xAct h
  have h1 := rel_run l
  have h2 := rel_run m
  refine ⟨by rw [← h1.ty, ← h2.ty, e], by rw [← h1.lk, ← h2.lk, e], ?_⟩
  have own : ∀ (i : Int) (k : List Int) (p : Poly), sumAt (ownP (0 - (dRun k).tu) p) i = sg (dRun k).tu * sumAt p (i + 3 * (dRun k).tu) := fun i k p => by
    rw [sumAt_own, sg_neg]
    congr 2
    omega
  unfold ownL
  rw [Canon.uniq (canon_own (can_run l).1 _) (canon_own (can_run m).1 _) fun i => by rw [own, own, ← h1.z, ← h2.z, e],
    Canon.uniq (canon_own (can_run l).2 _) (canon_own (can_run m).2 _) fun i => by rw [own, own, ← h1.y, ← h2.y, e]]
/-! ### at x^4 = -1 -/
def cc (e : Int) : Int := if e % 8 = 0 then 1 else if e % 8 = 4 then -1 else 0
theorem cc_four (e : Int) : cc (e + 4) = - cc e := by
  unfold cc
  split <;> split <;> (try split) <;> (try split) <;> omega
theorem cc_eight (e : Int) : cc (e + 8) = cc e := by
  rw [show e + 8 = e + 4 + 4 by omega, cc_four, cc_four]
  omega
theorem cc_vals (e : Int) : cc e = 1 ∨ cc e = -1 ∨ cc e = 0 := by
  unfold cc
  split
  · exact .inl rfl
  · split
    · exact .inr (.inl rfl)
    · exact .inr (.inr rfl)
def ev (p : Poly) (i : Int) : Int := lin (fun e => cc (e - i)) p
theorem ev_lifted (p : Poly) (k i : Int) : ev (liftedM p k) i = ev p (i - k) := by
  unfold ev
  rw [lin_lifted]
  congr 1
  funext e
  congr 1
  omega
theorem ev_minus (p q : Poly) (i : Int) : ev (minusM p q) i = ev p i - ev q i := lin_minus _ _ _
theorem ev_own (k i : Int) (p : Poly) : ev (ownP k p) i = sg k * ev p (i - 3 * k) := by
  unfold ev
  rw [lin_own]
  congr 2
  funext e
  congr 1
  omega
/-- the level sum is q x^m, the upright one p x^(m+2), but for a common sign -/
def EvOk (v : Int × Int) (p : Poly × Poly) : Prop := ∃ m : Int, ∀ i, ev p.1 i = v.2 * cc (m - i) ∧ ev p.2 i = v.1 * cc (m + 2 - i)
theorem ev_S {v : Int × Int} {p : Poly × Poly} (h : EvOk v p) : EvOk (-v.2, v.1) (pS p) := by
  obtain ⟨m, h⟩ := h
  refine ⟨m + 2, fun i => ⟨(h i).2, ?_⟩⟩
  show ev p.1 i = -v.2 * cc (m + 2 + 2 - i)
  rw [(h i).1, show m + 2 + 2 - i = m - i + 4 by omega, cc_four, Int.neg_mul, Int.mul_neg, Int.neg_neg]
theorem ev_T {v : Int × Int} {p : Poly × Poly} (s : Int) (hs : s = 1 ∨ s = -1) (h : EvOk v p) : EvOk (v.1 + s * v.2, v.2) (pT s p) := by
  obtain ⟨m, h⟩ := h
  refine ⟨m - s, fun i => ⟨?_, ?_⟩⟩
  · show ev (liftedM p.1 (-s)) i = v.2 * cc (m - s - i)
    rw [ev_lifted, (h _).1]
    congr 2
    omega
  · show ev (minusM (liftedM p.1 s) (liftedM p.2 (3 * s))) i = (v.1 + s * v.2) * cc (m - s + 2 - i)
    rw [ev_minus, ev_lifted, ev_lifted, (h _).1, (h _).2, Int.add_mul, Int.mul_assoc s, ]
    rcases hs with rfl | rfl
    · rw [show m - (i - 1) = m - 1 + 2 - i by omega, show m + 2 - (i - 3 * 1) = m - 1 + 2 - i + 4 by omega, cc_four, Int.mul_neg]
      omega
    · rw [show m - (i - -1) = m - i - 1 by omega, show m + 2 - (i - 3 * -1) = m - i - 1 by omega, show m - -1 + 2 - i = m - i - 1 + 4 by omega, cc_four, Int.mul_neg, Int.mul_neg]
      omega
theorem ev_run (l : List Int) : EvOk (vecM l) (pRun l) := by
  refine snoc_ind (P := fun l => EvOk (vecM l) (pRun l)) ?_ (fun l a ih => ?_) l
  · refine ⟨-2, fun i => ⟨?_, ?_⟩⟩
    · show lin _ [] = (0 : Int) * _
      rw [lin_nil]
      omega
    · show lin _ [((0 : Int), (1 : Int))] = (1 : Int) * _
      rw [lin_cons, lin_nil, Int.add_zero]
      rfl
  · rw [vecM_snoc]
    unfold pRun run at ih ⊢
    rw [List.foldl_append]
    show EvOk _ (powT (pT 1) (pT (-1)) a (pS _))
    have h := ev_S ih
    generalize pS (List.foldl (fun x a => powT (pT 1) (pT (-1)) a (pS x)) ([], [(0, 1)]) l) = p at h
    generalize (vecM l).1 = x at h ⊢
    generalize (vecM l).2 = y at h ⊢
    have up : ∀ (s : Int) (hs : s = 1 ∨ s = -1) (n : Nat), EvOk (-y + (n : Int) * (s * x), x) (itN (pT s) n p) := by
      intro s hs n
      induction n with
      | zero => rw [show ((0 : Nat) : Int) = 0 from rfl, Int.zero_mul, Int.add_zero]; exact h
      | succ n ih =>
        have := ev_T s hs ih
        rw [itN]
        rw [show ((n + 1 : Nat) : Int) * (s * x) = (n : Int) * (s * x) + s * x by rw [show ((n + 1 : Nat) : Int) = (n : Int) + 1 from rfl, Int.add_mul, Int.one_mul], ← Int.add_assoc]
        exact this
    unfold powT
    split
    · have := up 1 (.inl rfl) a.toNat
      rw [show ((a.toNat : Nat) : Int) = a by omega, Int.one_mul, show -y + a * x = a * x - y by omega] at this
      exact this
    · have := up (-1) (.inr rfl) (-a).toNat
      rw [show (((-a).toNat : Nat) : Int) = -a by omega, show -a * (-1 * x) = a * x by rw [Int.neg_mul, Int.neg_mul, Int.one_mul, Int.mul_neg, Int.neg_neg], show -y + a * x = a * x - y by omega] at this
      exact this
theorem vec_value {l m : List Int} (h : vecM l = vecM m ∨ vecM l = (-(vecM m).1, -(vecM m).2)) : valueM l = valueM m := by
  unfold valueM
  rcases h with h | h
  · rw [h]
  · rw [h]
    generalize vecM m = v
    obtain ⟨p, q⟩ := v
    simp only
    by_cases h0 : q = 0
    · rw [if_pos (by omega), if_pos h0]
    · rw [if_neg (by omega), if_neg h0]
      by_cases h1 : q < 0
      · rw [if_pos h1, if_neg (by omega)]
      · rw [if_neg h1, if_pos (by omega), Int.neg_neg, Int.neg_neg]
theorem value_of_own {l m : List Int} {h k : Int} (e : ownL h (pRun l) = ownL k (pRun m)) : valueM l = valueM m := by
  unfold ownL at e
  have e1 := (List.cons.inj e).1
  have e2 := (List.cons.inj (List.cons.inj e).2).1
  obtain ⟨a, ha⟩ := ev_run l
  obtain ⟨b, hb⟩ := ev_run m
  have u1 := uni_vec l
  have u2 := uni_vec m
  have f1 : ∀ i, sg h * ((vecM l).2 * cc (a - (i - 3 * h))) = sg k * ((vecM m).2 * cc (b - (i - 3 * k))) := fun i => by
    rw [← (ha _).1, ← (hb _).1, ← ev_own, ← ev_own, e1]
  have f2 : ∀ i, sg h * ((vecM l).1 * cc (a + 2 - (i - 3 * h))) = sg k * ((vecM m).1 * cc (b + 2 - (i - 3 * k))) := fun i => by
    rw [← (ha _).2, ← (hb _).2, ← ev_own, ← ev_own, e2]
  refine vec_value ?_
  generalize vecM l = v at *
  generalize vecM m = w at *
  obtain ⟨p, q⟩ := v
  obtain ⟨r, s⟩ := w
  obtain ⟨x, y, hx⟩ := u1
  obtain ⟨x2, y2, hx2⟩ := u2
  simp only at *
  have c0 : cc 0 = 1 := by decide
  -- the difference
  have g1 := f1 (a + 3 * h)
  have g2 := f2 (a + 2 + 3 * h)
  have g3 := f1 (b + 3 * k)
  have g4 := f2 (b + 2 + 3 * k)
  rw [show a - (a + 3 * h - 3 * h) = 0 by omega, c0, Int.mul_one] at g1
  rw [show a + 2 - (a + 2 + 3 * h - 3 * h) = 0 by omega, c0, Int.mul_one, show b + 2 - (a + 2 + 3 * h - 3 * k) = b - (a + 3 * h - 3 * k) by omega] at g2
  rw [show b - (b + 3 * k - 3 * k) = 0 by omega, c0, Int.mul_one] at g3
  rw [show b + 2 - (b + 2 + 3 * k - 3 * k) = 0 by omega, c0, Int.mul_one, show a + 2 - (b + 2 + 3 * k - 3 * h) = a - (b + 3 * k - 3 * h) by omega] at g4
  have hcv := cc_vals (b - (a + 3 * h - 3 * k))
  generalize cc (b - (a + 3 * h - 3 * k)) = c at g1 g2 hcv
  generalize cc (a - (b + 3 * k - 3 * h)) = d at g3 g4
  have key : ∀ c : Int, (c = 1 ∨ c = -1) → sg h * q = sg k * (s * c) → sg h * p = sg k * (r * c) → (p, q) = (r, s) ∨ (p, q) = (-r, -s) := by
    intro c hc j1 j2
    rcases sg_ne h with e | e <;> rcases sg_ne k with e' | e' <;> rcases hc with rfl | rfl <;> rw [e, e'] at j1 j2 <;> simp only [Prod.mk.injEq] <;> omega
  have hc : c = 1 ∨ c = -1 ∨ c = 0 := hcv
  rcases hc with e | e | e
  · exact key c (.inl e) g1 g2
  · exact key c (.inr e) g1 g2
  · exfalso
    rw [e, Int.mul_zero, Int.mul_zero] at g1 g2
    have hq : q = 0 := by rcases sg_ne h with z | z <;> rw [z] at g1 <;> omega
    have hp : p = 0 := by rcases sg_ne h with z | z <;> rw [z] at g2 <;> omega
    rw [hp, hq] at hx
    simp at hx
end TH
end

section
set_option autoImplicit false
set_option linter.all false
/-! Webs whose arcs are named anew. -/
namespace TH
def InjOn (f : Int → Int) (l : List Int) : Prop := ∀ a ∈ l, ∀ b ∈ l, f a = f b → a = b
theorem spotsAt_ren (f : Int → Int) (k : Int) (c : List Int) : spotsAt k (c.map f) = (spotsAt k c).map fun p => (f p.1, p.2) := by
  unfold spotsAt
  rw [List.zipIdx_map, List.map_map, List.map_map]
  rfl
theorem crSpots_ren (f : Int → Int) : ∀ (cr : List (List Int)) (n : Nat), crSpots (cr.map (·.map f)) n = (crSpots cr n).map fun p => (f p.1, p.2)
  | [], _ => rfl
  | c :: r, n => by
    show spotsAt _ (c.map f) ++ crSpots (r.map (·.map f)) (n + 1) = (spotsAt _ c ++ crSpots r (n + 1)).map _
    rw [spotsAt_ren, crSpots_ren f r, List.map_append]
theorem allSpots_ren (f : Int → Int) (w : Web) : allSpots (ren f w) = (allSpots w).map fun p => (f p.1, p.2) := by
  unfold allSpots ren
  rw [crSpots_ren, spotsAt_ren, List.map_append]
theorem arcs_ren (f : Int → Int) (w : Web) : arcs (ren f w) = (arcs w).map f := by
  unfold arcs ren
  rw [List.map_append, List.map_flatten]
def mapK (f : Int → Int) (P : List (Int × List Spot)) : List (Int × List Spot) := P.map fun e => (f e.1, e.2)
theorem putP_ren {f : Int → Int} {a : Int} {s : Spot} : ∀ {P : List (Int × List Spot)}, InjOn f (a :: P.map (·.1)) → putP (mapK f P) (f a) s = mapK f (putP P a s)
  | [], _ => rfl
  | e :: r, h => by
    have ih : putP (mapK f r) (f a) s = mapK f (putP r a s) := putP_ren fun x hx y hy => h x (by simp only [List.map_cons, List.mem_cons] at *; rcases hx with z | z; exact .inl z; exact .inr (.inr z)) y (by simp only [List.map_cons, List.mem_cons] at *; rcases hy with z | z; exact .inl z; exact .inr (.inr z))
    show putP ((f e.1, e.2) :: mapK f r) (f a) s = mapK f (putP (e :: r) a s)
    unfold putP
    by_cases q : e.1 = a
    · rw [if_pos (by rw [q]), if_pos q]
      rfl
    · rw [if_neg (fun z => q (h e.1 (by simp) a (by simp) z)), if_neg q, ih]
      rfl
theorem placesOf_ren {f : Int → Int} : ∀ {l : List (Int × Spot)} {P : List (Int × List Spot)}, InjOn f (l.map (·.1) ++ P.map (·.1)) → placesOf (l.map fun p => (f p.1, p.2)) (mapK f P) = mapK f (placesOf l P)
  | [], _, _ => rfl
  | p :: l, P, h => by
    show placesOf (l.map fun p => (f p.1, p.2)) (putP (mapK f P) (f p.1) p.2) = mapK f (placesOf l (putP P p.1 p.2))
    rw [putP_ren fun x hx y hy => h x ?_ y ?_]
    · refine placesOf_ren fun x hx y hy => h x ?_ y ?_
      all_goals
        first
          | (rw [List.mem_append] at hx ⊢
             rw [List.map_cons, List.mem_cons]
             rcases hx with z | z
             · exact .inl (.inr z)
             · rw [putP_keys] at z
               split at z
               · exact .inr z
               · rcases List.mem_append.mp z with z | z
                 · exact .inr z
                 · exact .inl (.inl (by simpa using z)))
          | (rw [List.mem_append] at hy ⊢
             rw [List.map_cons, List.mem_cons]
             rcases hy with z | z
             · exact .inl (.inr z)
             · rw [putP_keys] at z
               split at z
               · exact .inr z
               · rcases List.mem_append.mp z with z | z
                 · exact .inr z
                 · exact .inl (.inl (by simpa using z)))
    · rw [List.mem_append, List.map_cons, List.mem_cons]
      rcases List.mem_cons.mp hx with z | z
      · exact .inl (.inl z)
      · exact .inr z
    · rw [List.mem_append, List.map_cons, List.mem_cons]
      rcases List.mem_cons.mp hy with z | z
      · exact .inl (.inl z)
      · exact .inr z
theorem places_ren {f : Int → Int} {w : Web} (h : InjOn f (arcs w)) : places (ren f w) = mapK f (places w) := by
  unfold places
  rw [allSpots_ren]
  have := placesOf_ren (f := f) (l := allSpots w) (P := []) (by rw [List.map_nil, List.append_nil, allSpots_arcs]; exact h)
  exact this
theorem keys_ren {f : Int → Int} {w : Web} (h : InjOn f (arcs w)) : keys (ren f w) = (keys w).map f := by
  unfold keys
  rw [places_ren h, mapK, List.map_map, List.map_map]
  rfl
theorem twins_ren {f : Int → Int} {w : Web} (h : InjOn f (arcs w)) : twinsM (ren f w) = twinsM w := by
  unfold twinsM
  rw [places_ren h]
  have : ∀ (L : List (Int × List Spot)) (m : List (Spot × Spot)), twinsOf (mapK f L) m = twinsOf L m := by
    intro L
    induction L with
    | nil => exact fun m => rfl
    | cons e L ih => exact fun m => ih _
  exact this _ _
theorem idx_ren {f : Int → Int} : ∀ {l : List Int} {a : Int}, InjOn f (a :: l) → idx (l.map f) (f a) = idx l a
  | [], _, _ => rfl
  | b :: l, a, h => by
    have ih : idx (l.map f) (f a) = idx l a := idx_ren fun x hx y hy => h x (by simp only [List.mem_cons] at *; rcases hx with z | z; exact .inl z; exact .inr (.inr z)) y (by simp only [List.mem_cons] at *; rcases hy with z | z; exact .inl z; exact .inr (.inr z))
    unfold idx at ih ⊢
    rw [List.map_cons, List.idxOf_cons, List.idxOf_cons]
    by_cases q : b = a
    · rw [show (b == a) = true by simp [q], show (f b == f a) = true by simp [q]]
      rfl
    · rw [show (b == a) = false by simp [q], show (f b == f a) = false by
        refine beq_eq_false_iff_ne.mpr fun z => q (h b (by simp) a (by simp) z)]
      show ((List.idxOf (f a) (l.map f) + 1 : Nat) : Int) = ((List.idxOf a l + 1 : Nat) : Int)
      omega
theorem InjOn.anew (w : Web) : InjOn (idx (keys w)) (arcs w) := by
  intro a ha b hb e
  have ha := (mem_keys w a).mpr ha
  have hb := (mem_keys w b).mpr hb
  unfold idx at e
  have e : (keys w).idxOf a = (keys w).idxOf b := by omega
  have h1 := List.getElem_idxOf (List.idxOf_lt_length_iff.mpr ha)
  have h2 := List.getElem_idxOf (List.idxOf_lt_length_iff.mpr hb)
  rw [← h1, ← h2]
  congr 1
theorem merge_ren {f F G : Int → Int} {c : List Int} {l : List Int} (h : ∀ a ∈ l, G (f a) = F a) (hc : c.length = 4) (hl : ∀ a ∈ c, a ∈ l) : ∀ a ∈ l, mergeG G (c.map f) (f a) = mergeG F c a := by
  intro a ha
  match c, hc with
  | [c0, c1, c2, c3], _ =>
    show (if G (f a) = G (f c3) then G (f c1) else G (f a)) = (if F a = F c3 then F c1 else F a)
    rw [h a ha, h c3 (hl c3 (by simp)), h c1 (hl c1 (by simp))]
theorem group_ren {f : Int → Int} {w : Web} (h : InjOn f (arcs w)) (h4 : ∀ c ∈ w.cr, c.length = 4) : ∀ a ∈ keys w, groupF (ren f w) (f a) = groupF w a := by
  unfold groupF
  rw [keys_ren h]
  have gen : ∀ (cr : List (List Int)) (F G : Int → Int), (∀ c ∈ cr, c.length = 4 ∧ ∀ a ∈ c, a ∈ keys w) → (∀ a ∈ keys w, G (f a) = F a) → ∀ a ∈ keys w, (cr.map (·.map f)).foldl mergeG G (f a) = cr.foldl mergeG F a := by
    intro cr
    induction cr with
    | nil => exact fun F G _ hh a ha => hh a ha
    | cons c cr ih =>
      intro F G hc hh a ha
      rw [List.map_cons, List.foldl_cons, List.foldl_cons]
      exact ih _ _ (fun c' h' => hc c' (List.mem_cons_of_mem _ h')) (merge_ren hh (hc c List.mem_cons_self).1 (hc c List.mem_cons_self).2) a ha
  refine gen w.cr (idx (keys w)) (idx ((keys w).map f)) (fun c hc => ⟨h4 c hc, fun a ha => (mem_keys w a).mpr (List.mem_append_left _ (List.mem_flatten.mpr ⟨c, hc, ha⟩))⟩) fun a ha => idx_ren fun x hx y hy => h x ?_ y ?_
  · rcases List.mem_cons.mp hx with z | z
    · rw [z]; exact (mem_keys w a).mp ha
    · exact (mem_keys w x).mp z
  · rcases List.mem_cons.mp hy with z | z
    · rw [z]; exact (mem_keys w a).mp ha
    · exact (mem_keys w y).mp z
theorem cols_ren {f : Int → Int} {w : Web} (h : InjOn f (arcs w)) (h4 : ∀ c ∈ w.cr, c.length = 4) : colsOf (ren f w) = colsOf w := by
  unfold colsOf
  rw [keys_ren h, List.map_map]
  have e : (keys w).map (groupF (ren f w) ∘ f) = (keys w).map (groupF w) := List.map_congr_left fun a ha => group_ren h h4 a ha
  rw [e]
theorem rows_ren {f : Int → Int} {w : Web} (h : InjOn f (arcs w)) (h4 : ∀ c ∈ w.cr, c.length = 4) (m : Int) : rowsOf (ren f w) m = rowsOf w m := by
  unfold rowsOf
  rw [cols_ren h h4]
  show (w.cr.map (·.map f)).map _ = _
  rw [List.map_map]
  refine List.map_congr_left fun c hc => ?_
  have hk : ∀ a ∈ c, a ∈ keys w := fun a ha => (mem_keys w a).mpr (List.mem_append_left _ (List.mem_flatten.mpr ⟨c, hc, ha⟩))
  have h5 := h4 c hc
  match c, h5 with
  | [c0, c1, c2, c3], _ =>
    show addAt (addAt (addAt _ (List.idxOf (groupF (ren f w) (f c0)) _) 1 m) (List.idxOf (groupF (ren f w) (f c2)) _) 1 m) (List.idxOf (groupF (ren f w) (f c1)) _) (-2) m = _
    rw [group_ren h h4 c0 (hk c0 (by simp)), group_ren h h4 c1 (hk c1 (by simp)), group_ren h h4 c2 (hk c2 (by simp))]
    rfl
theorem spotIn_ren (f : Int → Int) (w : Web) (s : Spot) : SpotIn (ren f w) s ↔ SpotIn w s := by
  unfold SpotIn ren
  simp only [List.length_map]
  have : ((w.cr.map (·.map f)).getD s.1.toNat []).length = (w.cr.getD s.1.toNat []).length := by
    rw [List.getD_eq_getElem?_getD, List.getD_eq_getElem?_getD, List.getElem?_map]
    cases w.cr[s.1.toNat]? with
    | none => rfl
    | some c => exact List.length_map _
  rw [this]
theorem arcAt_ren (f : Int → Int) {w : Web} {s : Spot} (h : SpotIn w s) : arcAt (ren f w) s = f (arcAt w s) := by
  obtain ⟨h0, h⟩ := h
  unfold arcAt ren
  by_cases e : s.1 = -1
  · rw [if_pos e, if_pos e]
    have hl : s.2.toNat < w.en.length := by
      rcases h with z | z
      · exact z.2
      · omega
    rw [List.getD_eq_getElem?_getD, List.getD_eq_getElem?_getD, List.getElem?_map, List.getElem?_eq_getElem hl]
    rfl
  · rw [if_neg e, if_neg e]
    obtain ⟨k0, kl, jl⟩ : 0 ≤ s.1 ∧ s.1.toNat < w.cr.length ∧ s.2.toNat < (w.cr.getD s.1.toNat []).length := by
      rcases h with z | z
      · exact absurd z.1 e
      · exact z
    have e2 : (w.cr.map (·.map f)).getD s.1.toNat [] = (w.cr.getD s.1.toNat []).map f := by
      rw [List.getD_eq_getElem?_getD, List.getD_eq_getElem?_getD, List.getElem?_map]
      cases w.cr[s.1.toNat]? with
      | none => rfl
      | some c => rfl
    show ((w.cr.map (·.map f)).getD s.1.toNat []).getD s.2.toNat 0 = _
    rw [e2]
    generalize w.cr.getD s.1.toNat [] = c at jl
    rw [List.getD_eq_getElem?_getD, List.getD_eq_getElem?_getD, List.getElem?_map, List.getElem?_eq_getElem jl]
    rfl
theorem begins_ren (f : Int → Int) (w : Web) : beginsM (ren f w) = beginsM w := by
  unfold beginsM ren
  simp only [List.length_map]
theorem arcAt_mem {w : Web} {s : Spot} (h : SpotIn w s) : arcAt w s ∈ arcs w := by
  obtain ⟨h0, h⟩ := h
  unfold arcAt arcs
  by_cases e : s.1 = -1
  · rw [if_pos e]
    have hl : s.2.toNat < w.en.length := by
      rcases h with z | z
      · exact z.2
      · omega
    rw [List.getD_eq_getElem?_getD, List.getElem?_eq_getElem hl]
    exact List.mem_append_right _ (List.getElem_mem _)
  · rw [if_neg e]
    obtain ⟨k0, kl, jl⟩ : 0 ≤ s.1 ∧ s.1.toNat < w.cr.length ∧ s.2.toNat < (w.cr.getD s.1.toNat []).length := by
      rcases h with z | z
      · exact absurd z.1 e
      · exact z
    refine List.mem_append_left _ (List.mem_flatten.mpr ⟨w.cr.getD s.1.toNat [], ?_, ?_⟩)
    · rw [List.getD_eq_getElem?_getD, List.getElem?_eq_getElem kl]
      exact List.getElem_mem _
    · generalize w.cr.getD s.1.toNat [] = c at jl
      rw [List.getD_eq_getElem?_getD, List.getElem?_eq_getElem jl]
      exact List.getElem_mem _
theorem roads_ren {m : List (Spot × Spot)} {arc arc' : Spot → Int} {f : Int → Int} {l : List Int} (hi : InjOn f l) : ∀ {bs : List Spot} {done : List Int} {R : List (List Spot)}, Roads m arc bs done R → (∀ s ∈ bs, arc s ∈ l ∧ arc' s = f (arc s)) → (∀ r ∈ R, ∀ s ∈ r, arc s ∈ l ∧ arc' s = f (arc s)) → (∀ a ∈ done, a ∈ l) → Roads m arc' bs (done.map f) R
  | _, _, _, .nil, _, _, _ => .nil
  | _, _, _, .skip h r, hb, hr, hd => by
    refine .skip ?_ (roads_ren hi r (fun s hs => hb s (List.mem_cons_of_mem _ hs)) hr hd)
    rw [(hb _ List.mem_cons_self).2]
    exact List.mem_map.mpr ⟨_, h, rfl⟩
  | _, _, _, @Roads.road _ _ b bs done r R h h2 h3, hb, hr, hd => by
    have hrr := hr r List.mem_cons_self
    have h3 : Roads m arc' bs ((done ++ r.map arc).map f) R := roads_ren hi h3 (fun s hs => hb s (List.mem_cons_of_mem _ hs)) (fun r' h' => hr r' (List.mem_cons_of_mem _ h')) fun a ha => by
      rcases List.mem_append.mp ha with z | z
      · exact hd a z
      · obtain ⟨s, hs, rfl⟩ := List.mem_map.mp z
        exact (hrr s hs).1
    refine .road ?_ h2 ?_
    · rw [(hb _ List.mem_cons_self).2]
      intro z
      obtain ⟨a, ha, e⟩ := List.mem_map.mp z
      exact h (by rw [← hi a (hd a ha) _ (hb _ List.mem_cons_self).1 e]; exact ha)
    · rw [List.map_append, List.map_map] at h3
      rw [List.map_congr_left (g := f ∘ arc) fun s hs => (hrr s hs).2]
      exact h3
end TH
end

section
set_option autoImplicit false
set_option linter.all false
/-! Arcs that have two places each; the strands. -/
namespace TH
theorem mem_spotsAt {k : Int} {c : List Int} {a : Int} {s : Spot} : (a, s) ∈ spotsAt k c ↔ s.1 = k ∧ 0 ≤ s.2 ∧ c[s.2.toNat]? = some a := by
  unfold spotsAt
  rw [List.mem_map]
  constructor
  · rintro ⟨⟨b, j⟩, h, e⟩
    have h := List.mem_zipIdx_iff_getElem?.mp h
    simp only [Prod.mk.injEq] at e
    obtain ⟨rfl, rfl⟩ := e
    exact ⟨rfl, by show (0 : Int) ≤ (j : Int); omega, by simpa using h⟩
  · rintro ⟨h1, h2, h3⟩
    refine ⟨(a, s.2.toNat), List.mem_zipIdx_iff_getElem?.mpr h3, ?_⟩
    obtain ⟨x, y⟩ := s
    simp only at *
    rw [h1]
    simp only [Prod.mk.injEq, true_and]
    omega
theorem mem_crSpots {a : Int} {s : Spot} : ∀ {cr : List (List Int)} {n : Nat}, (a, s) ∈ crSpots cr n ↔ (n : Int) ≤ s.1 ∧ 0 ≤ s.2 ∧ ∃ c, cr[(s.1 - n).toNat]? = some c ∧ c[s.2.toNat]? = some a
  | [], n => by simp [crSpots]
  | c :: r, n => by
    rw [crSpots, List.mem_append, mem_spotsAt, mem_crSpots]
    constructor
    · rintro (⟨h1, h2, h3⟩ | ⟨h1, h2, d, h3, h4⟩)
      · exact ⟨by omega, h2, c, by rw [show (s.1 - (n : Int)).toNat = 0 by omega]; rfl, h3⟩
      · refine ⟨by omega, h2, d, ?_, h4⟩
        rw [show (s.1 - (n : Int)).toNat = (s.1 - ((n + 1 : Nat) : Int)).toNat + 1 by omega]
        exact h3
    · rintro ⟨h1, h2, d, h3, h4⟩
      by_cases e : s.1 = n
      · refine .inl ⟨e, h2, ?_⟩
        rw [show (s.1 - (n : Int)).toNat = 0 by omega] at h3
        cases h3
        exact h4
      · refine .inr ⟨by omega, h2, d, ?_, h4⟩
        rw [show (s.1 - (n : Int)).toNat = (s.1 - ((n + 1 : Nat) : Int)).toNat + 1 by omega] at h3
        exact h3
theorem mem_allSpots {w : Web} {a : Int} {s : Spot} : (a, s) ∈ allSpots w ↔ SpotIn w s ∧ arcAt w s = a := by
  unfold allSpots
  rw [List.mem_append, mem_crSpots, mem_spotsAt]
  constructor
  · rintro (⟨h1, h2, c, h3, h4⟩ | ⟨h1, h2, h3⟩)
    · rw [show (s.1 - ((0 : Nat) : Int)).toNat = s.1.toNat by omega] at h3
      have e : w.cr.getD s.1.toNat [] = c := by rw [List.getD_eq_getElem?_getD, h3]; rfl
      have hl := (List.getElem?_eq_some_iff.mp h3).1
      have hj := (List.getElem?_eq_some_iff.mp h4).1
      refine ⟨⟨h2, .inr ⟨by omega, hl, by rw [e]; exact hj⟩⟩, ?_⟩
      unfold arcAt
      rw [if_neg (by omega), e, List.getD_eq_getElem?_getD, h4]
      rfl
    · have hj := (List.getElem?_eq_some_iff.mp h3).1
      refine ⟨⟨h2, .inl ⟨h1, hj⟩⟩, ?_⟩
      unfold arcAt
      rw [if_pos h1, List.getD_eq_getElem?_getD, h3]
      rfl
  · rintro ⟨⟨h0, h⟩, e⟩
    unfold arcAt at e
    rcases h with ⟨h1, h2⟩ | ⟨h1, h2, h3⟩
    · rw [if_pos h1, List.getD_eq_getElem?_getD, List.getElem?_eq_getElem h2] at e
      exact .inr ⟨h1, h0, by rw [List.getElem?_eq_getElem h2]; exact congrArg some e⟩
    · rw [if_neg (by omega)] at e
      refine .inl ⟨by omega, h0, w.cr.getD s.1.toNat [], ?_, ?_⟩
      · rw [show (s.1 - ((0 : Nat) : Int)).toNat = s.1.toNat by omega, List.getD_eq_getElem?_getD, List.getElem?_eq_getElem h2]
        rfl
      · generalize w.cr.getD s.1.toNat [] = c at *
        rw [List.getD_eq_getElem?_getD, List.getElem?_eq_getElem h3] at e
        rw [List.getElem?_eq_getElem h3]
        exact congrArg some e
theorem spotsAt_nodup (k : Int) (c : List Int) : ((spotsAt k c).map (·.2)).Nodup := by
  unfold spotsAt
  rw [List.map_map]
  have e : c.zipIdx.map ((fun p : Int × Spot => p.2) ∘ fun p : Int × Nat => (p.1, (k, (p.2 : Int)))) = (List.range c.length).map fun (j : Nat) => (k, (j : Int)) := by
    refine List.ext_getElem? fun i => ?_
    rw [List.getElem?_map, List.getElem?_map, List.getElem?_zipIdx]
    by_cases h : i < c.length
    · rw [List.getElem?_eq_getElem h, List.getElem?_range h]
      simp
    · rw [List.getElem?_eq_none (by omega), List.getElem?_eq_none (by simp; omega)]
      rfl
  rw [e]
  unfold List.Nodup
  rw [List.pairwise_map]
  refine List.nodup_range.imp fun h z => h ?_
  have := congrArg Prod.snd z
  simp only at this
  omega
theorem crSpots_nodup : ∀ (cr : List (List Int)) (n : Nat), ((crSpots cr n).map (·.2)).Nodup
  | [], _ => List.nodup_nil
  | c :: r, n => by
    rw [crSpots, List.map_append, List.nodup_append]
    refine ⟨spotsAt_nodup _ _, crSpots_nodup r (n + 1), fun x hx y hy e => ?_⟩
    obtain ⟨⟨a, s⟩, h1, rfl⟩ := List.mem_map.mp hx
    obtain ⟨⟨b, t⟩, h2, rfl⟩ := List.mem_map.mp hy
    have h1 := mem_spotsAt.mp h1
    have h2 := mem_crSpots.mp h2
    simp only at e
    rw [e] at h1
    omega
theorem allSpots_nodup (w : Web) : ((allSpots w).map (·.2)).Nodup := by
  unfold allSpots
  rw [List.map_append, List.nodup_append]
  refine ⟨crSpots_nodup _ _, spotsAt_nodup _ _, fun x hx y hy e => ?_⟩
  obtain ⟨⟨a, s⟩, h1, rfl⟩ := List.mem_map.mp hx
  obtain ⟨⟨b, t⟩, h2, rfl⟩ := List.mem_map.mp hy
  have h1 := mem_crSpots.mp h1
  have h2 := mem_spotsAt.mp h2
  simp only at e
  rw [e] at h1
  omega
/-- the places told of an arc -/
theorem places_at {w : Web} {e : Int × List Spot} (h : e ∈ places w) : e.2.Nodup ∧ (∀ s, s ∈ e.2 ↔ SpotIn w s ∧ arcAt w s = e.1) ∧ e.1 ∈ arcs w := by
  have hp := places_ok w
  have h2 := hp.at_ e h
  refine ⟨?_, fun s => ?_, ?_⟩
  · rw [h2]
    exact ((List.filter_sublist).map _).nodup (allSpots_nodup w)
  · rw [h2, List.mem_map]
    constructor
    · rintro ⟨⟨a, t⟩, h3, rfl⟩
      have h4 := List.mem_filter.mp h3
      have h5 := mem_allSpots.mp h4.1
      have h6 : a = e.1 := by simpa using h4.2
      exact ⟨h5.1, by rw [h5.2, h6]⟩
    · rintro ⟨h3, h4⟩
      exact ⟨(e.1, s), List.mem_filter.mpr ⟨mem_allSpots.mpr ⟨h3, h4⟩, by simp⟩, rfl⟩
  · rw [← allSpots_arcs]
    exact (hp.mem e.1).mp (List.mem_map.mpr ⟨e, h, rfl⟩)
/-! ### pairs of places -/
structure PairOk (w : Web) (PR : List (Spot × Spot)) : Prop where
  inn : ∀ p ∈ PR, SpotIn w p.1 ∧ SpotIn w p.2 ∧ p.1 ≠ p.2 ∧ arcAt w p.1 = arcAt w p.2
  nd : (PR.map fun p => arcAt w p.1).Nodup
  all : ∀ s, SpotIn w s → ∃ p ∈ PR, s = p.1 ∨ s = p.2
theorem nd_map {α β : Type} {f : α → β} {l : List α} (h : (l.map f).Nodup) {x y : α} (hx : x ∈ l) (hy : y ∈ l) (e : f x = f y) : x = y := by
  induction l with
  | nil => cases hx
  | cons a l ih =>
    rw [List.map_cons, List.nodup_cons] at h
    rcases List.mem_cons.mp hx with rfl | hx'
    · rcases List.mem_cons.mp hy with rfl | hy'
      · rfl
      · exact absurd (List.mem_map.mpr ⟨y, hy', e.symm⟩) h.1
    · rcases List.mem_cons.mp hy with rfl | hy'
      · exact absurd (List.mem_map.mpr ⟨x, hx', e⟩) h.1
      · exact ih h.2 hx' hy'
/-- the places of an arc are those of its pair -/
theorem PairOk.arc {w : Web} {PR : List (Spot × Spot)} (h : PairOk w PR) {p : Spot × Spot} (hp : p ∈ PR) {s : Spot} (hs : SpotIn w s) (e : arcAt w s = arcAt w p.1) : s = p.1 ∨ s = p.2 := by
  obtain ⟨q, hq, hsq⟩ := h.all s hs
  have e2 : arcAt w s = arcAt w q.1 := by
    rcases hsq with rfl | rfl
    · rfl
    · exact (h.inn q hq).2.2.2.symm
  have := nd_map h.nd hp hq (by rw [← e, e2])
  rw [this]
  exact hsq
theorem two_list {α : Type} {l : List α} {a b : α} (hn : l.Nodup) (hab : a ≠ b) (h : ∀ x, x ∈ l ↔ x = a ∨ x = b) : l = [a, b] ∨ l = [b, a] := by
  match l, hn, h with
  | [], _, h => exact absurd ((h a).mpr (.inl rfl)) (by simp)
  | [x], _, h =>
    have h1 := (h a).mpr (.inl rfl)
    have h2 := (h b).mpr (.inr rfl)
    simp only [List.mem_cons, List.not_mem_nil, or_false] at h1 h2
    exact absurd (h1.trans h2.symm) hab
  | [x, y], hn, h =>
    have hx := (h x).mp (by simp)
    have hy := (h y).mp (by simp)
    have hxy : x ≠ y := by
      intro z
      rw [z] at hn
      simp at hn
    rcases hx with rfl | rfl
    · rcases hy with rfl | rfl
      · exact absurd rfl hxy
      · exact .inl rfl
    · rcases hy with rfl | rfl
      · exact .inr rfl
      · exact absurd rfl hxy
  | x :: y :: z :: r, hn, h =>
    exfalso
    have hx := (h x).mp (by simp)
    have hy := (h y).mp (by simp)
    have hz := (h z).mp (by simp)
    simp only [List.nodup_cons, List.mem_cons, not_or] at hn
    obtain ⟨⟨n1, n2, _⟩, ⟨n3, _⟩, _⟩ := hn
    rcases hx with rfl | rfl <;> rcases hy with rfl | rfl <;> rcases hz with rfl | rfl <;> simp_all
theorem pair_places {w : Web} {PR : List (Spot × Spot)} (h : PairOk w PR) {e : Int × List Spot} (he : e ∈ places w) : ∃ p ∈ PR, arcAt w p.1 = e.1 ∧ (e.2 = [p.1, p.2] ∨ e.2 = [p.2, p.1]) := by
  obtain ⟨h1, h2, h3⟩ := places_at he
  rw [← allSpots_arcs] at h3
  obtain ⟨⟨a, s⟩, h4, h5⟩ := List.mem_map.mp h3
  have h5 : a = e.1 := h5
  have h6 := mem_allSpots.mp h4
  obtain ⟨p, hp, hsp⟩ := h.all s h6.1
  obtain ⟨i1, i2, i3, i4⟩ := h.inn p hp
  have e1 : arcAt w p.1 = e.1 := by
    rw [← h5, ← h6.2]
    rcases hsp with rfl | rfl
    · rfl
    · exact i4
  refine ⟨p, hp, e1, two_list h1 i3 fun x => ?_⟩
  rw [h2 x]
  constructor
  · rintro ⟨hx, ex⟩
    exact h.arc hp hx (by rw [ex, e1])
  · rintro (rfl | rfl)
    · exact ⟨i1, e1⟩
    · exact ⟨i2, by rw [← i4]; exact e1⟩
theorem pair_twos {w : Web} {PR : List (Spot × Spot)} (h : PairOk w PR) : ∀ e ∈ places w, e.2.length = 2 := by
  intro e he
  obtain ⟨p, _, _, z | z⟩ := pair_places h he
  · rw [z]; rfl
  · rw [z]; rfl
theorem lookup_putS (m : List (Spot × Spot)) (k v s : Spot) : (putS m k v).lookup s = if s = k then some v else m.lookup s := by
  induction m with
  | nil =>
    unfold putS
    rw [List.lookup_cons]
    by_cases e : s = k
    · rw [if_pos e, show (s == k) = true by simp [e]]
    · rw [if_neg e, show (s == k) = false by simp [e]]
  | cons p r ih =>
    unfold putS
    by_cases q : p.1 = k
    · rw [if_pos q, List.lookup_cons, List.lookup_cons]
      by_cases e : s = k
      · rw [if_pos e, show (s == k) = true by simp [e]]
      · rw [if_neg e, show (s == p.1) = false by simp [q, e], show (s == k) = false by simp [e]]
    · rw [if_neg q, List.lookup_cons, List.lookup_cons, ih]
      by_cases e : s = k
      · have : (s == p.1) = false := beq_eq_false_iff_ne.mpr fun z => q (by rw [← z, e])
        rw [this, if_pos e]
      · simp only [if_neg e]
theorem twinsOf_look : ∀ (L : List (Int × List Spot)) (m : List (Spot × Spot)), (∀ e ∈ L, e.2.length = 2) → (∀ e ∈ L, ∀ s ∈ e.2, m.lookup s = none) → (L.Pairwise fun e f => ∀ s ∈ e.2, s ∉ f.2) → (∀ e ∈ L, e.2.Nodup) →
    (∀ e ∈ L, ∀ s t, e.2 = [s, t] → (twinsOf L m).lookup s = some t ∧ (twinsOf L m).lookup t = some s) ∧ ∀ s, (∀ e ∈ L, s ∉ e.2) → (twinsOf L m).lookup s = m.lookup s
  | [], m, _, _, _, _ => ⟨fun e h => (by cases h), fun s _ => rfl⟩
  | e :: L, m, h2, h0, hp, hn => by
    rw [List.pairwise_cons] at hp
    obtain ⟨s0, t0, e0⟩ : ∃ s0 t0, e.2 = [s0, t0] := by
      match h : e.2, h2 e List.mem_cons_self with
      | [s, t], _ => exact ⟨s, t, rfl⟩
    have hst : s0 ≠ t0 := by
      have := hn e List.mem_cons_self
      rw [e0] at this
      simpa using this
    have eT : twinsOf (e :: L) m = twinsOf L (putS (putS m s0 t0) t0 s0) := by
      unfold twinsOf
      rw [List.foldl_cons, e0]
    have ih := twinsOf_look L (putS (putS m s0 t0) t0 s0) (fun f hf => h2 f (List.mem_cons_of_mem _ hf)) (fun f hf s hs => by
      have d := hp.1 f hf
      rw [lookup_putS, if_neg (fun z => d t0 (by rw [e0]; simp) (by rw [← z]; exact hs)), lookup_putS, if_neg (fun z => d s0 (by rw [e0]; simp) (by rw [← z]; exact hs))]
      exact h0 f (List.mem_cons_of_mem _ hf) s hs) hp.2 fun f hf => hn f (List.mem_cons_of_mem _ hf)
    rw [eT]
    refine ⟨fun f hf s t est => ?_, fun s hs => ?_⟩
    · rcases List.mem_cons.mp hf with rfl | hf'
      · rw [e0] at est
        cases est
        rw [ih.2 s0 fun g hg => hp.1 g hg s0 (by rw [e0]; simp), ih.2 t0 fun g hg => hp.1 g hg t0 (by rw [e0]; simp), lookup_putS, if_neg hst, lookup_putS, if_pos rfl, lookup_putS, if_pos rfl]
        exact ⟨rfl, rfl⟩
      · exact ih.1 f hf' s t est
    · have hs0 := hs e List.mem_cons_self
      rw [e0] at hs0
      simp only [List.mem_cons, List.not_mem_nil, or_false, not_or] at hs0
      rw [ih.2 s fun g hg => hs g (List.mem_cons_of_mem _ hg), lookup_putS, if_neg hs0.2, lookup_putS, if_neg hs0.1]
theorem pair_look {w : Web} {PR : List (Spot × Spot)} (h : PairOk w PR) {p : Spot × Spot} (hp : p ∈ PR) : (twinsM w).lookup p.1 = some p.2 ∧ (twinsM w).lookup p.2 = some p.1 := by
  obtain ⟨i1, i2, i3, i4⟩ := h.inn p hp
  have hk : arcAt w p.1 ∈ (places w).map (·.1) := by
    rw [(places_ok w).mem, allSpots_arcs]
    exact arcAt_mem i1
  obtain ⟨e, he, e1⟩ := List.mem_map.mp hk
  have e1 : e.1 = arcAt w p.1 := e1
  obtain ⟨q, hq, eq, hl⟩ := pair_places h he
  have : p = q := nd_map h.nd hp hq (by rw [eq, e1])
  subst this
  have T := (twinsOf_look (places w) [] (pair_twos h) (fun _ _ _ _ => rfl) (by
    have hn := (places_ok w).nd
    unfold List.Nodup at hn
    rw [List.pairwise_map] at hn
    refine List.Pairwise.imp_of_mem ?_ hn
    intro a b ha hb hab s hs hs2
    exact hab (by rw [← ((places_at ha).2.1 s |>.mp hs).2, ← ((places_at hb).2.1 s |>.mp hs2).2])) fun f hf => (places_at hf).1).1 e he
  rcases hl with hl | hl
  · exact T _ _ hl
  · exact ⟨(T _ _ hl).2, (T _ _ hl).1⟩
end TH
end

section
set_option autoImplicit false
set_option linter.all false
/-! Ways along the strands. -/
namespace TH
theorem opp_opp {s : Spot} (h0 : 0 ≤ s.2) (h4 : s.2 < 4) : opp (opp s) = s := by
  obtain ⟨a, b⟩ := s
  unfold opp
  simp only at *
  congr 1
  omega
def key (s : Spot) : Spot := (s.1, s.2 % 2)
theorem key_opp (s : Spot) : key (opp s) = key s := by
  unfold key opp
  simp only
  congr 1
  omega
theorem opp_ne {s : Spot} (h0 : 0 ≤ s.2) (h4 : s.2 < 4) : opp s ≠ s := by
  intro z
  have := congrArg Prod.snd z
  unfold opp at this
  simp only at this
  omega
theorem key_eq {s t : Spot} (h : key s = key t) (s0 : 0 ≤ s.2) (s4 : s.2 < 4) (t0 : 0 ≤ t.2) (t4 : t.2 < 4) : s = t ∨ s = opp t := by
  obtain ⟨a, b⟩ := s
  obtain ⟨c, d⟩ := t
  unfold key at h
  unfold opp
  simp only [Prod.mk.injEq] at *
  omega
/-- a way from a: along its arc, through the crossings, left by t's places, to e -/
inductive Path (arc : Spot → Int) : Spot → List Spot → Spot → Prop
  | one {a e : Spot} : arc a = arc e → Path arc a [] e
  | step {a d e : Spot} {t : List Spot} : arc a = arc (opp d) → Path arc d t e → Path arc a (d :: t) e
section
variable {arc arc' : Spot → Int}
theorem Path.app : ∀ {a x e : Spot} {t u : List Spot}, Path arc a t (opp x) → Path arc x u e → Path arc a (t ++ x :: u) e
  | _, _, _, _, _, .one h, p => .step h p
  | _, _, _, _, _, .step h q, p => .step h (q.app p)
theorem Path.join : ∀ {a r r' e : Spot} {t u : List Spot}, Path arc a t r → Path arc r' u e → arc r = arc r' → Path arc a (t ++ u) e
  | _, _, _, _, _, _, .one h, .one h2, q => .one (by rw [h, q, h2])
  | _, _, _, _, _, _, .one h, .step h2 p, q => .step (by rw [h, q, h2]) p
  | _, _, _, _, _, _, .step h p1, p2, q => .step h (p1.join p2 q)
def rev (t : List Spot) : List Spot := t.reverse.map opp
theorem rev_cons (d : Spot) (t : List Spot) : rev (d :: t) = rev t ++ [opp d] := by
  unfold rev
  rw [List.reverse_cons, List.map_append]
  rfl
theorem rev_snoc (d : Spot) (t : List Spot) : rev (t ++ [d]) = opp d :: rev t := by
  unfold rev
  rw [List.reverse_append]
  rfl
theorem mem_rev {s : Spot} {t : List Spot} : s ∈ rev t ↔ ∃ d ∈ t, s = opp d := by
  unfold rev
  rw [List.mem_map]
  constructor
  · rintro ⟨d, h, e⟩; exact ⟨d, List.mem_reverse.mp h, e.symm⟩
  · rintro ⟨d, h, e⟩; exact ⟨d, List.mem_reverse.mpr h, e.symm⟩
theorem Path.rev : ∀ {a e : Spot} {t : List Spot}, Path arc a t e → (∀ d ∈ t, opp (opp d) = d) → Path arc e (TH.rev t) a
  | _, _, _, .one h, _ => .one h.symm
  | _, _, _, @Path.step _ a d e t h p, ho => by
    rw [rev_cons]
    have h1 := p.rev fun x hx => ho x (List.mem_cons_of_mem _ hx)
    have h2 : opp (opp d) = d := ho d List.mem_cons_self
    rw [← h2] at h1
    exact h1.app (.one h.symm)
/-- the arcs of the way back are those of the way, in the other order -/
theorem Path.arcs_rev : ∀ {a e : Spot} {t : List Spot}, Path arc a t e → (∀ d ∈ t, opp (opp d) = d) → (e :: TH.rev t).map arc = ((a :: t).map arc).reverse
  | _, _, _, .one h, _ => by simp [TH.rev, h]
  | _, _, _, @Path.step _ a d e t h p, ho => by
    have ih := p.arcs_rev fun x hx => ho x (List.mem_cons_of_mem _ hx)
    rw [rev_cons, ← List.cons_append, List.map_append, ih]
    simp [h]
theorem Path.mono {a e a' e' : Spot} : ∀ {t : List Spot}, Path arc a t e → (∀ d ∈ t, arc' d = arc d ∧ arc' (opp d) = arc (opp d)) → arc' a' = arc a → arc' e' = arc e → Path arc' a' t e'
  | _, .one h, _, h1, h2 => .one (by rw [h1, h2, h])
  | _, .step h p, hd, h1, h2 => .step (by rw [h1, (hd _ List.mem_cons_self).2, h]) (p.mono (fun d hd' => hd d (List.mem_cons_of_mem _ hd')) (hd _ List.mem_cons_self).1 h2)
theorem Path.map {f : Int → Int} {a e : Spot} : ∀ {t : List Spot}, Path arc a t e → Path (fun s => f (arc s)) a t e
  | _, .one h => .one (by rw [h])
  | _, .step h p => .step (by rw [h]) p.map
theorem Path.split : ∀ {a x e : Spot} {t u : List Spot}, Path arc a (t ++ x :: u) e → Path arc a t (opp x) ∧ Path arc x u e
  | _, _, _, [], _, .step h p => ⟨.one h, p⟩
  | _, _, _, _ :: _, _, .step h p => ⟨.step h p.split.1, p.split.2⟩
end
/-- where it goes off, and where it comes to -/
def prs : Spot → List Spot → Spot → List (Spot × Spot)
  | a, [], e => [(a, e)]
  | a, d :: t, e => (a, opp d) :: prs d t e
theorem prs_fst : ∀ (a : Spot) (t : List Spot) (e : Spot), (prs a t e).map (·.1) = a :: t
  | _, [], _ => rfl
  | a, d :: t, e => by rw [prs, List.map_cons, prs_fst d t e]
theorem prs_snd : ∀ (a : Spot) (t : List Spot) (e : Spot), (prs a t e).map (·.2) = t.map opp ++ [e]
  | _, [], _ => rfl
  | a, d :: t, e => by rw [prs, List.map_cons, prs_snd d t e]; rfl
theorem prs_arc {arc : Spot → Int} : ∀ {a e : Spot} {t : List Spot}, Path arc a t e → ∀ p ∈ prs a t e, arc p.1 = arc p.2
  | _, _, _, .one h, p, hp => by rw [prs, List.mem_singleton] at hp; rw [hp]; exact h
  | _, _, _, .step h q, p, hp => by
    rcases List.mem_cons.mp hp with rfl | z
    · exact h
    · exact prs_arc q p z
theorem mem_fst {a e : Spot} {t : List Spot} {x : Spot} (h : x ∈ a :: t) : ∃ p ∈ prs a t e, p.1 = x := by
  rw [← prs_fst a t e] at h
  obtain ⟨p, hp, e⟩ := List.mem_map.mp h
  exact ⟨p, hp, e⟩
theorem mem_snd {a e : Spot} {t : List Spot} {x : Spot} (h : x = e ∨ ∃ d ∈ t, x = opp d) : ∃ p ∈ prs a t e, p.2 = x := by
  have : x ∈ (prs a t e).map (·.2) := by
    rw [prs_snd, List.mem_append]
    rcases h with rfl | ⟨d, hd, rfl⟩
    · exact .inr (by simp)
    · exact .inl (List.mem_map.mpr ⟨d, hd, rfl⟩)
  obtain ⟨p, hp, e⟩ := List.mem_map.mp this
  exact ⟨p, hp, e⟩
theorem fst_mem {a e : Spot} {t : List Spot} {p : Spot × Spot} (h : p ∈ prs a t e) : p.1 ∈ a :: t := by
  rw [← prs_fst a t e]
  exact List.mem_map.mpr ⟨p, h, rfl⟩
theorem snd_mem {a e : Spot} {t : List Spot} {p : Spot × Spot} (h : p ∈ prs a t e) : p.2 = e ∨ ∃ d ∈ t, p.2 = opp d := by
  have : p.2 ∈ (prs a t e).map (·.2) := List.mem_map.mpr ⟨p, h, rfl⟩
  rw [prs_snd, List.mem_append] at this
  rcases this with z | z
  · obtain ⟨d, hd, e⟩ := List.mem_map.mp z
    exact .inr ⟨d, hd, e.symm⟩
  · exact .inl (by simpa using z)
/-- two neighbours on a way are not one place -/
theorem prs_ne : ∀ {a e : Spot} {t : List Spot}, (∀ d ∈ t, 0 ≤ d.2 ∧ d.2 < 4) → (t.map key).Nodup → (∀ d ∈ t, a ≠ opp d) → (∀ d ∈ t, d ≠ e) → a ≠ e → ∀ p ∈ prs a t e, p.1 ≠ p.2
  | _, _, [], _, _, _, _, h, p, hp => by rw [prs, List.mem_singleton] at hp; rw [hp]; exact h
  | a, e, d :: t, hr, hk, ha, he, h, p, hp => by
    rcases List.mem_cons.mp hp with rfl | z
    · exact ha d List.mem_cons_self
    · rw [List.map_cons, List.nodup_cons] at hk
      refine prs_ne (fun x hx => hr x (List.mem_cons_of_mem _ hx)) hk.2 (fun x hx z2 => hk.1 ?_) (fun x hx => he x (List.mem_cons_of_mem _ hx)) (he d List.mem_cons_self) p z
      rw [z2, key_opp]
      exact List.mem_map.mpr ⟨x, hx, rfl⟩
theorem path_run {m : List (Spot × Spot)} {b e : Spot} (he : e.1 = -1 ∨ (e.1 ≠ -1 ∧ opp e = b)) : ∀ {a : Spot} {t : List Spot}, (∀ p ∈ prs a t e, m.lookup p.1 = some p.2) → (∀ d ∈ t, d.1 ≠ -1 ∧ opp (opp d) = d ∧ d ≠ b) → ∃ g, m.lookup a = some g ∧ Run m b g t
  | a, [], hl, _ => ⟨e, hl (a, e) (by simp [prs]), by
    rcases he with h | ⟨h1, h2⟩
    · exact .rim h
    · exact .back h1 h2⟩
  | a, d :: t, hl, hd => by
    obtain ⟨g, h1, h2⟩ := path_run he (fun p hp => hl p (List.mem_cons_of_mem _ hp)) (fun x hx => hd x (List.mem_cons_of_mem _ hx))
    obtain ⟨d1, d2, d3⟩ := hd d List.mem_cons_self
    refine ⟨opp d, hl (a, opp d) List.mem_cons_self, ?_⟩
    have := Run.step (m := m) (b := b) (g := opp d) (t := g) (l := t) d1 (by rw [d2]; exact d3) (by rw [d2]; exact h1) h2
    rw [d2] at this
    exact this
theorem path_road {m : List (Spot × Spot)} {b e : Spot} {t : List Spot} (he : e.1 = -1 ∨ (e.1 ≠ -1 ∧ opp e = b)) (hl : ∀ p ∈ prs b t e, m.lookup p.1 = some p.2) (hd : ∀ d ∈ t, d.1 ≠ -1 ∧ opp (opp d) = d ∧ d ≠ b) : Road m b (b :: t) := by
  obtain ⟨g, h1, h2⟩ := path_run he hl hd
  exact ⟨g, t, h1, h2, rfl⟩
/-! ### what passes the crossings -/
theorem puts_look (n : Int) (x : Spot) (v : Spot) : ∀ (r : List Spot) (m : List (Spot × Spot)), (∀ s ∈ r, key s = x → (n, s.2) = v) → ((r.foldl (fun m s => putS m (s.1, s.2 % 2) (n, s.2)) m).lookup x = if ∃ s ∈ r, key s = x then some v else m.lookup x)
  | [], m, _ => by simp
  | s :: r, m, h => by
    rw [List.foldl_cons, puts_look n x v r _ fun u hu => h u (List.mem_cons_of_mem _ hu)]
    by_cases h1 : ∃ u ∈ r, key u = x
    · obtain ⟨u, hu, e⟩ := h1
      rw [if_pos ⟨u, hu, e⟩, if_pos ⟨u, List.mem_cons_of_mem _ hu, e⟩]
    · rw [if_neg h1, lookup_putS]
      by_cases h2 : x = (s.1, s.2 % 2)
      · rw [if_pos h2, if_pos ⟨s, List.mem_cons_self, h2.symm⟩, h s List.mem_cons_self h2.symm]
      · rw [if_neg h2, if_neg]
        rintro ⟨u, hu, e⟩
        rcases List.mem_cons.mp hu with rfl | z
        · exact h2 e.symm
        · exact h1 ⟨u, z, e⟩
theorem passed_look (x : Spot) (v : Spot) : ∀ (R : List (List Spot)) (m : List (Spot × Spot)) (n : Nat), (∀ i r, R[i]? = some r → ∀ s ∈ r, key s = x → (((n + i : Nat) : Int), s.2) = v) → ((passedOf R m n).lookup x = if ∃ r ∈ R, ∃ s ∈ r, key s = x then some v else m.lookup x)
  | [], m, n, _ => by simp [passedOf]
  | r :: R, m, n, h => by
    rw [passedOf, passed_look x v R _ (n + 1) fun i r' hr s hs e => by
      have := h (i + 1) r' hr s hs e
      rw [show n + 1 + i = n + (i + 1) by omega]
      exact this]
    by_cases h1 : ∃ r' ∈ R, ∃ s ∈ r', key s = x
    · rw [if_pos h1]
      obtain ⟨r', hr, q⟩ := h1
      rw [if_pos ⟨r', List.mem_cons_of_mem _ hr, q⟩]
    · rw [if_neg h1, puts_look (n : Int) x v r m fun s hs e => h 0 r rfl s hs e]
      by_cases h2 : ∃ s ∈ r, key s = x
      · rw [if_pos h2, if_pos ⟨r, List.mem_cons_self, h2⟩]
      · rw [if_neg h2, if_neg]
        rintro ⟨r', hr, q⟩
        rcases List.mem_cons.mp hr with rfl | z
        · exact h2 q
        · exact h1 ⟨r', z, q⟩
/-- one passes there, and no other -/
theorem passed_at {R : List (List Spot)} {i : Nat} {r : List Spot} {s : Spot} (hr : R[i]? = some r) (hs : s ∈ r) (hu : ∀ j q, R[j]? = some q → ∀ u ∈ q, key u = key s → j = i ∧ u = s) : (passedOf R [] 0).lookup (key s) = some ((i : Int), s.2) := by
  rw [passed_look (key s) ((i : Int), s.2) R [] 0 fun j q hq u huq e => by
    obtain ⟨h1, h2⟩ := hu j q hq u huq e
    rw [h1, h2, Nat.zero_add], if_pos ⟨r, List.mem_of_getElem? hr, s, hs, rfl⟩]
end TH
end

section
set_option autoImplicit false
set_option linter.all false
/-! Two strands with ends, and what half twists make of them. -/
namespace TH
structure Rc where
  uS : Bool
  u : Int
  oS : Bool
  o : Int
def rsign (r : Rc) : Int := (r.o - r.u) % 4 - 2
def Rc.Good (r : Rc) : Prop := (r.u = 0 ∨ r.u = 2) ∧ (r.o = 1 ∨ r.o = 3)
def pick (b : Bool) (tA tB : List Spot) : List Spot := if b then tB else tA
def RecOk (tA tB : List Spot) (k : Int) (r : Rc) : Prop := (k, r.u) ∈ pick r.uS tA tB ∧ (k, r.o) ∈ pick r.oS tA tB ∧ r.Good
def lkOf (rc : List Rc) : Int := (rc.map fun r => if r.uS = r.oS then 0 else rsign r).sum
def tuOf (rc : List Rc) : Int := (rc.map fun r => if r.uS = r.oS then rsign r else 0).sum
def flB (r : Rc) : Rc := ⟨r.uS, if r.uS then (r.u + 2) % 4 else r.u, r.oS, if r.oS then (r.o + 2) % 4 else r.o⟩
def swp (r : Rc) : Rc := ⟨!r.uS, r.u, !r.oS, r.o⟩
theorem lkOf_app (a b : List Rc) : lkOf (a ++ b) = lkOf a + lkOf b := by
  unfold lkOf
  rw [List.map_append, List.sum_append]
theorem tuOf_app (a b : List Rc) : tuOf (a ++ b) = tuOf a + tuOf b := by
  unfold tuOf
  rw [List.map_append, List.sum_append]
theorem good_flB {r : Rc} (h : r.Good) : (flB r).Good := by
  obtain ⟨h1, h2⟩ := h
  unfold flB Rc.Good
  simp only
  refine ⟨?_, ?_⟩
  · split <;> omega
  · split <;> omega
theorem flB_sign {r : Rc} (h : r.Good) : rsign (flB r) = if r.uS = r.oS then rsign r else - rsign r := by
  obtain ⟨uS, u, oS, o⟩ := r
  obtain ⟨h1, h2⟩ := h
  simp only at h1 h2
  unfold rsign flB
  cases uS <;> cases oS <;> simp <;> omega
theorem lk_flB {rc : List Rc} (h : ∀ r ∈ rc, r.Good) : lkOf (rc.map flB) = - lkOf rc := by
  induction rc with
  | nil => rfl
  | cons r rc ih =>
    have ih := ih fun x hx => h x (List.mem_cons_of_mem _ hx)
    unfold lkOf at ih ⊢
    rw [List.map_cons, List.map_cons, List.sum_cons, ih, List.map_cons, List.sum_cons, flB_sign (h r List.mem_cons_self)]
    show (if r.uS = r.oS then (0 : Int) else _) + _ = _
    split <;> omega
theorem tu_flB {rc : List Rc} (h : ∀ r ∈ rc, r.Good) : tuOf (rc.map flB) = tuOf rc := by
  induction rc with
  | nil => rfl
  | cons r rc ih =>
    have ih := ih fun x hx => h x (List.mem_cons_of_mem _ hx)
    unfold tuOf at ih ⊢
    rw [List.map_cons, List.map_cons, List.sum_cons, ih, List.map_cons, List.sum_cons, flB_sign (h r List.mem_cons_self)]
    show (if r.uS = r.oS then _ else (0 : Int)) + _ = _
    split <;> omega
theorem lk_swp (rc : List Rc) : lkOf (rc.map swp) = lkOf rc := by
  unfold lkOf
  rw [List.map_map]
  congr 1
  refine List.map_congr_left fun r _ => ?_
  obtain ⟨uS, u, oS, o⟩ := r
  cases uS <;> cases oS <;> rfl
theorem tu_swp (rc : List Rc) : tuOf (rc.map swp) = tuOf rc := by
  unfold tuOf
  rw [List.map_map]
  congr 1
  refine List.map_congr_left fun r _ => ?_
  obtain ⟨uS, u, oS, o⟩ := r
  cases uS <;> cases oS <;> rfl
theorem swp_ok {tA tB : List Spot} {k : Int} {r : Rc} (h : RecOk tA tB k r) : RecOk tB tA k (swp r) := by
  obtain ⟨h1, h2, h3⟩ := h
  obtain ⟨uS, u, oS, o⟩ := r
  refine ⟨?_, ?_, h3⟩
  · cases uS <;> exact h1
  · cases oS <;> exact h2
theorem flB_ok {tA tB : List Spot} {k : Int} {r : Rc} (h : RecOk tA tB k r) : RecOk tA (rev tB) k (flB r) := by
  obtain ⟨h1, h2, h3⟩ := h
  refine ⟨?_, ?_, good_flB h3⟩
  · obtain ⟨uS, u, oS, o⟩ := r
    cases uS
    · exact h1
    · exact mem_rev.mpr ⟨_, h1, rfl⟩
  · obtain ⟨uS, u, oS, o⟩ := r
    cases oS
    · exact h2
    · exact mem_rev.mpr ⟨_, h2, rfl⟩
theorem rec_app {tA tB xA xB : List Spot} {k : Int} {r : Rc} (hA : ∀ s ∈ tA, s ∈ xA) (hB : ∀ s ∈ tB, s ∈ xB) (h : RecOk tA tB k r) : RecOk xA xB k r := by
  obtain ⟨h1, h2, h3⟩ := h
  obtain ⟨uS, u, oS, o⟩ := r
  refine ⟨?_, ?_, h3⟩
  · cases uS
    · exact hA _ h1
    · exact hB _ h1
  · cases oS
    · exact hA _ h2
    · exact hB _ h2
def InR (n : Nat) (s : Spot) : Prop := 0 ≤ s.1 ∧ s.1 < (n : Int) ∧ 0 ≤ s.2 ∧ s.2 < 4
/-- two strands from end to end -/
structure Two (w : Web) (s1 : Int) (tA : List Spot) (e1 : Int) (s2 : Int) (tB : List Spot) (e2 : Int) (rc : List Rc) : Prop where
  rg : w.rg = 0
  four : ∀ c ∈ w.cr, c.length = 4
  en : w.en.length = 4
  pA : Path (arcAt w) (-1, s1) tA (-1, e1)
  pB : Path (arcAt w) (-1, s2) tB (-1, e2)
  pm : [s1, e1, s2, e2].Perm [0, 1, 2, 3]
  nd : (((-1, s1) :: tA ++ (-1, s2) :: tB).map (arcAt w)).Nodup
  kd : ((tA ++ tB).map key).Nodup
  inr : ∀ s ∈ tA ++ tB, InR w.cr.length s
  rl : rc.length = w.cr.length
  rok : ∀ (k : Nat) (r : Rc), rc[k]? = some r → RecOk tA tB (k : Int) r
section
variable {w : Web} {s1 e1 s2 e2 : Int} {tA tB : List Spot} {rc : List Rc}
theorem InR.opp2 {n : Nat} {s : Spot} (h : InR n s) : opp (opp s) = s := opp_opp h.2.2.1 h.2.2.2
theorem Two.good (h : Two w s1 tA e1 s2 tB e2 rc) : ∀ r ∈ rc, r.Good := by
  intro r hr
  obtain ⟨k, hk⟩ := List.mem_iff_getElem?.mp hr
  exact (h.rok k r hk).2.2
theorem Two.swap (h : Two w s1 tA e1 s2 tB e2 rc) : Two w s2 tB e2 s1 tA e1 (rc.map swp) := by
  refine ⟨h.rg, h.four, h.en, h.pB, h.pA, ?_, ?_, ?_, ?_, ?_, ?_⟩
  · refine List.Perm.trans ?_ h.pm
    exact List.perm_append_comm (l₁ := [s2, e2]) (l₂ := [s1, e1])
  · refine (List.Perm.nodup_iff ?_).mp h.nd
    exact List.Perm.map _ List.perm_append_comm
  · refine (List.Perm.nodup_iff ?_).mp h.kd
    exact List.Perm.map _ List.perm_append_comm
  · intro s hs
    exact h.inr s (by rw [List.mem_append] at hs ⊢; exact hs.symm)
  · rw [List.length_map]; exact h.rl
  · intro k r hr
    rw [List.getElem?_map] at hr
    obtain ⟨r', h1, rfl⟩ := Option.map_eq_some_iff.mp hr
    exact swp_ok (h.rok k r' h1)
theorem key_rev (t : List Spot) : (rev t).map key = (t.map key).reverse := by
  unfold rev
  rw [List.map_map, ← List.map_reverse]
  exact List.map_congr_left fun s _ => key_opp s
theorem inr_opp {n : Nat} {s : Spot} (h : InR n s) : InR n (opp s) := by
  obtain ⟨h1, h2, h3, h4⟩ := h
  refine ⟨h1, h2, ?_, ?_⟩
  · show 0 ≤ (s.2 + 2) % 4
    omega
  · show (s.2 + 2) % 4 < 4
    omega
theorem Two.revB (h : Two w s1 tA e1 s2 tB e2 rc) : Two w s1 tA e1 e2 (rev tB) s2 (rc.map flB) := by
  have ho : ∀ d ∈ tB, opp (opp d) = d := fun d hd => (h.inr d (List.mem_append_right _ hd)).opp2
  refine ⟨h.rg, h.four, h.en, h.pA, h.pB.rev ho, ?_, ?_, ?_, ?_, ?_, ?_⟩
  · refine List.Perm.trans ?_ h.pm
    exact List.Perm.append_left [s1, e1] (List.Perm.swap s2 e2 [])
  · rw [List.map_append, h.pB.arcs_rev ho]
    refine (List.Perm.nodup_iff ?_).mp h.nd
    rw [List.map_append]
    exact List.Perm.append_left _ (List.reverse_perm _).symm
  · rw [List.map_append, key_rev]
    refine (List.Perm.nodup_iff ?_).mp h.kd
    rw [List.map_append]
    exact List.Perm.append_left _ (List.reverse_perm _).symm
  · intro s hs
    rcases List.mem_append.mp hs with z | z
    · exact h.inr s (List.mem_append_left _ z)
    · obtain ⟨d, hd, rfl⟩ := mem_rev.mp z
      exact inr_opp (h.inr d (List.mem_append_right _ hd))
  · rw [List.length_map]; exact h.rl
  · intro k r hr
    rw [List.getElem?_map] at hr
    obtain ⟨r', h1, rfl⟩ := Option.map_eq_some_iff.mp hr
    exact flB_ok (h.rok k r' h1)
theorem inR_spot (h4 : ∀ c ∈ w.cr, c.length = 4) {s : Spot} (h : InR w.cr.length s) : SpotIn w s := by
  obtain ⟨h1, h2, h3, h5⟩ := h
  have hk : s.1.toNat < w.cr.length := by omega
  refine ⟨h3, .inr ⟨h1, hk, ?_⟩⟩
  have : (w.cr.getD s.1.toNat []).length = 4 := by
    rw [List.getD_eq_getElem?_getD, List.getElem?_eq_getElem hk]
    exact h4 _ (List.getElem_mem _)
  omega
theorem rim_spot (he : w.en.length = 4) {i : Int} (h0 : 0 ≤ i) (h4 : i < 4) : SpotIn w (-1, i) := ⟨h0, .inl ⟨rfl, by show i.toNat < _; omega⟩⟩
theorem Two.rng (h : Two w s1 tA e1 s2 tB e2 rc) : (0 ≤ s1 ∧ s1 < 4) ∧ (0 ≤ e1 ∧ e1 < 4) ∧ (0 ≤ s2 ∧ s2 < 4) ∧ (0 ≤ e2 ∧ e2 < 4) := by
  have f : ∀ x, x ∈ [s1, e1, s2, e2] → 0 ≤ x ∧ x < 4 := fun x hx => by
    have := h.pm.mem_iff.mp hx
    simp only [List.mem_cons, List.not_mem_nil, or_false] at this
    omega
  exact ⟨f _ (by simp), f _ (by simp), f _ (by simp), f _ (by simp)⟩
/-- named anew -/
theorem Two.ren {f : Int → Int} (h : Two w s1 tA e1 s2 tB e2 rc) (hf : InjOn f (arcs w)) : Two (ren f w) s1 tA e1 s2 tB e2 rc := by
  obtain ⟨r1, r2, r3, r4⟩ := h.rng
  have inn : ∀ s ∈ tA ++ tB, SpotIn w s := fun s hs => inR_spot h.four (h.inr s hs)
  have inn2 : ∀ s ∈ tA ++ tB, SpotIn w (opp s) := fun s hs => inR_spot h.four (inr_opp (h.inr s hs))
  have sub : ∀ s ∈ (-1, s1) :: tA ++ (-1, s2) :: tB, SpotIn w s := fun s hs => by
    simp only [List.mem_append, List.mem_cons, List.cons_append] at hs
    rcases hs with rfl | z | rfl | z
    · exact rim_spot h.en r1.1 r1.2
    · exact inn s (List.mem_append_left _ z)
    · exact rim_spot h.en r3.1 r3.2
    · exact inn s (List.mem_append_right _ z)
  refine ⟨h.rg, ?_, ?_, ?_, ?_, h.pm, ?_, h.kd, ?_, ?_, h.rok⟩
  · intro c hc
    obtain ⟨d, hd, rfl⟩ := List.mem_map.mp hc
    rw [List.length_map]
    exact h.four d hd
  · show (w.en.map f).length = 4
    rw [List.length_map]
    exact h.en
  · exact (h.pA.map (f := f)).mono (fun d hd => ⟨arcAt_ren f (inn d (List.mem_append_left _ hd)), arcAt_ren f (inn2 d (List.mem_append_left _ hd))⟩) (arcAt_ren f (rim_spot h.en r1.1 r1.2)) (arcAt_ren f (rim_spot h.en r2.1 r2.2))
  · exact (h.pB.map (f := f)).mono (fun d hd => ⟨arcAt_ren f (inn d (List.mem_append_right _ hd)), arcAt_ren f (inn2 d (List.mem_append_right _ hd))⟩) (arcAt_ren f (rim_spot h.en r3.1 r3.2)) (arcAt_ren f (rim_spot h.en r4.1 r4.2))
  · have hn := h.nd
    unfold List.Nodup at hn ⊢
    rw [List.pairwise_map] at hn ⊢
    refine List.Pairwise.imp_of_mem ?_ hn
    intro a b ha hb hab e
    rw [arcAt_ren f (sub a ha), arcAt_ren f (sub b hb)] at e
    exact hab (hf _ (arcAt_mem (sub a ha)) _ (arcAt_mem (sub b hb)) e)
  · show ∀ s ∈ tA ++ tB, InR (w.cr.map _).length s
    rw [List.length_map]
    exact h.inr
  · show rc.length = (w.cr.map _).length
    rw [List.length_map]
    exact h.rl
/-! ### a crossing more -/
def addW (w : Web) (c : List Int) (g k : Int) : Web := ⟨w.cr ++ [c], [w.en.getD 0 0, w.en.getD 1 0, g, k], w.rg⟩
theorem add_old {c : List Int} {g k : Int} {s : Spot} (h : InR w.cr.length s) : arcAt (addW w c g k) s = arcAt w s := by
  obtain ⟨h1, h2, h3, h5⟩ := h
  unfold arcAt addW
  rw [if_neg (by omega), if_neg (by omega)]
  have e : (w.cr ++ [c]).getD s.1.toNat [] = w.cr.getD s.1.toNat [] := by
    rw [List.getD_eq_getElem?_getD, List.getD_eq_getElem?_getD, List.getElem?_append_left (by omega)]
  rw [e]
theorem add_new {c : List Int} {g k : Int} (j : Nat) : arcAt (addW w c g k) ((w.cr.length : Int), (j : Int)) = c.getD j 0 := by
  unfold arcAt addW
  simp only
  rw [if_neg (by omega), show ((w.cr.length : Int)).toNat = w.cr.length by omega, show ((j : Int)).toNat = j by omega]
  congr 1
  rw [List.getD_eq_getElem?_getD, List.getElem?_append_right (Nat.le_refl _), Nat.sub_self]
  rfl
theorem add_rim {c : List Int} {g k : Int} (i : Int) (h : i = 0 ∨ i = 1) : arcAt (addW w c g k) (-1, i) = arcAt w (-1, i) := by
  rcases h with rfl | rfl
  · rfl
  · rfl
theorem perm_gh {α : Type} (A B : List α) (g h : α) : ((A ++ [g]) ++ (B ++ [h])).Perm ((A ++ B) ++ [g, h]) := by
  rw [List.append_assoc, List.append_assoc]
  refine List.Perm.append_left A ?_
  exact List.perm_append_comm_assoc [g] B [h]
theorem nodup_gh {α : Type} {L : List α} {g h : α} (hL : L.Nodup) (hg : g ∉ L) (hh : h ∉ L) (e : g ≠ h) : (L ++ [g, h]).Nodup := by
  rw [List.nodup_append]
  refine ⟨hL, by simp [e], fun x hx y hy z => ?_⟩
  simp only [List.mem_cons, List.not_mem_nil, or_false] at hy
  rcases hy with rfl | rfl
  · exact hg (by rw [← z]; exact hx)
  · exact hh (by rw [← z]; exact hx)
theorem Two.spots (h : Two w s1 tA e1 s2 tB e2 rc) : ∀ s ∈ (-1, s1) :: tA ++ (-1, s2) :: tB, SpotIn w s := fun s hs => by
  obtain ⟨r1, r2, r3, r4⟩ := h.rng
  simp only [List.mem_append, List.mem_cons, List.cons_append] at hs
  rcases hs with rfl | z | rfl | z
  · exact rim_spot h.en r1.1 r1.2
  · exact inR_spot h.four (h.inr s (List.mem_append_left _ z))
  · exact rim_spot h.en r3.1 r3.2
  · exact inR_spot h.four (h.inr s (List.mem_append_right _ z))
/-- strands that end at 3 and at 2 -/
theorem Two.cross {c : List Int} {g k : Int} {p q p' q' : Nat} {nw : Rc} (h : Two w s1 tA 3 s2 tB 2 rc) (hc : c.length = 4) (hg : g ∉ arcs w) (hk : k ∉ arcs w) (hgk : g ≠ k)
    (hp : p < 4) (hq : q < 4) (hp' : (p' + 2) % 4 = p) (hq' : (q' + 2) % 4 = q) (hp4 : p' < 4) (hq4 : q' < 4) (cp : c.getD p 0 = g) (cq : c.getD q 0 = k) (cp' : c.getD p' 0 = arcAt w (-1, 3)) (cq' : c.getD q' 0 = arcAt w (-1, 2)) (hpq : p % 2 ≠ q % 2)
    (hs : (s1 = 0 ∧ s2 = 1) ∨ (s1 = 1 ∧ s2 = 0)) (hn : RecOk [((w.cr.length : Int), (p : Int))] [((w.cr.length : Int), (q : Int))] (w.cr.length : Int) nw) :
    Two (addW w c g k) s1 (tA ++ [((w.cr.length : Int), (p : Int))]) 2 s2 (tB ++ [((w.cr.length : Int), (q : Int))]) 3 (rc ++ [nw]) := by
  have oldA : ∀ d ∈ tA, arcAt (addW w c g k) d = arcAt w d ∧ arcAt (addW w c g k) (opp d) = arcAt w (opp d) := fun d hd => ⟨add_old (h.inr d (List.mem_append_left _ hd)), add_old (inr_opp (h.inr d (List.mem_append_left _ hd)))⟩
  have oldB : ∀ d ∈ tB, arcAt (addW w c g k) d = arcAt w d ∧ arcAt (addW w c g k) (opp d) = arcAt w (opp d) := fun d hd => ⟨add_old (h.inr d (List.mem_append_right _ hd)), add_old (inr_opp (h.inr d (List.mem_append_right _ hd)))⟩
  have op : opp ((w.cr.length : Int), (p : Int)) = ((w.cr.length : Int), (p' : Int)) := by
    unfold opp
    simp only [Prod.mk.injEq, true_and]
    omega
  have oq : opp ((w.cr.length : Int), (q : Int)) = ((w.cr.length : Int), (q' : Int)) := by
    unfold opp
    simp only [Prod.mk.injEq, true_and]
    omega
  have r1 : arcAt (addW w c g k) (-1, s1) = arcAt w (-1, s1) := add_rim s1 (by omega)
  have r2 : arcAt (addW w c g k) (-1, s2) = arcAt w (-1, s2) := add_rim s2 (by omega)
  have noOld : ∀ s ∈ tA ++ tB, key s ≠ ((w.cr.length : Int), (p : Int) % 2) ∧ key s ≠ ((w.cr.length : Int), (q : Int) % 2) := fun s hs => by
    have := h.inr s hs
    obtain ⟨h1, h2, _⟩ := this
    unfold key
    constructor
    · intro z
      have := congrArg Prod.fst z
      simp only at this
      omega
    · intro z
      have := congrArg Prod.fst z
      simp only at this
      omega
  have ln : (addW w c g k).cr.length = w.cr.length + 1 := by simp [addW]
  refine ⟨h.rg, ?_, rfl, ?_, ?_, ?_, ?_, ?_, ?_, ?_, ?_⟩
  · intro d hd
    rcases List.mem_append.mp hd with z | z
    · exact h.four d z
    · rw [List.mem_singleton.mp z]; exact hc
  · refine Path.app (x := ((w.cr.length : Int), (p : Int))) ?_ (.one ?_)
    · rw [op]
      exact h.pA.mono oldA r1 (by rw [add_new, cp'])
    · rw [add_new, cp]
      rfl
  · refine Path.app (x := ((w.cr.length : Int), (q : Int))) ?_ (.one ?_)
    · rw [oq]
      exact h.pB.mono oldB r2 (by rw [add_new, cq'])
    · rw [add_new, cq]
      rfl
  · rcases hs with ⟨rfl, rfl⟩ | ⟨rfl, rfl⟩
    · decide
    · decide
  · have e : ((-1, s1) :: (tA ++ [((w.cr.length : Int), (p : Int))]) ++ (-1, s2) :: (tB ++ [((w.cr.length : Int), (q : Int))])).map (arcAt (addW w c g k)) = (((-1, s1) :: tA).map (arcAt w) ++ [g]) ++ (((-1, s2) :: tB).map (arcAt w) ++ [k]) := by
      simp only [List.map_append, List.map_cons, List.map_nil, List.cons_append, r1, r2, add_new, cp, cq]
      rw [List.map_congr_left fun d hd => (oldA d hd).1, List.map_congr_left fun d hd => (oldB d hd).1]
    rw [e, (perm_gh _ _ g k).nodup_iff, ← List.map_append]
    have sub : ∀ x ∈ ((-1, s1) :: tA ++ (-1, s2) :: tB).map (arcAt w), x ∈ arcs w := fun x hx => by
      obtain ⟨s, hs, rfl⟩ := List.mem_map.mp hx
      exact arcAt_mem (h.spots s hs)
    exact nodup_gh h.nd (fun z => hg (sub _ z)) (fun z => hk (sub _ z)) hgk
  · have e : ((tA ++ [((w.cr.length : Int), (p : Int))]) ++ (tB ++ [((w.cr.length : Int), (q : Int))])).map key = (tA.map key ++ [((w.cr.length : Int), (p : Int) % 2)]) ++ (tB.map key ++ [((w.cr.length : Int), (q : Int) % 2)]) := by
      simp only [List.map_append, List.map_cons, List.map_nil]
      rfl
    rw [e, (perm_gh _ _ _ _).nodup_iff, ← List.map_append]
    refine nodup_gh h.kd ?_ ?_ ?_
    · intro z
      obtain ⟨s, hs, e⟩ := List.mem_map.mp z
      exact (noOld s hs).1 e
    · intro z
      obtain ⟨s, hs, e⟩ := List.mem_map.mp z
      exact (noOld s hs).2 e
    · intro z
      have := congrArg Prod.snd z
      simp only at this
      omega
  · intro s hs
    rw [ln]
    simp only [List.mem_append, List.mem_cons, List.not_mem_nil, or_false] at hs
    have old : ∀ s ∈ tA ++ tB, InR (w.cr.length + 1) s := fun s hs => by
      obtain ⟨h1, h2, h3, h4⟩ := h.inr s hs
      exact ⟨h1, by omega, h3, h4⟩
    rcases hs with (z | rfl) | (z | rfl)
    · exact old s (List.mem_append_left _ z)
    · exact ⟨by simp only; omega, by simp only; omega, by simp only; omega, by simp only; omega⟩
    · exact old s (List.mem_append_right _ z)
    · exact ⟨by simp only; omega, by simp only; omega, by simp only; omega, by simp only; omega⟩
  · rw [ln, List.length_append, h.rl]
    rfl
  · intro i r hr
    by_cases hi : i < rc.length
    · rw [List.getElem?_append_left hi] at hr
      exact rec_app (fun s hs => List.mem_append_left _ hs) (fun s hs => List.mem_append_left _ hs) (h.rok i r hr)
    · rw [List.getElem?_append_right (by omega)] at hr
      have hi2 : i = w.cr.length := by
        have := (List.getElem?_eq_some_iff.mp hr).1
        simp only [List.length_cons, List.length_nil] at this
        have := h.rl
        omega
      rw [show i - rc.length = 0 by have := h.rl; omega] at hr
      cases hr
      rw [hi2]
      exact rec_app (fun s hs => List.mem_append_right _ hs) (fun s hs => List.mem_append_right _ hs) hn
/-- the strand from 2 to 3 twisted -/
theorem Two.kink {c : List Int} {g k : Int} {p q p' q' : Nat} {nw : Rc} (h : Two w s1 tA e1 2 tB 3 rc) (hc : c.length = 4) (hg : g ∉ arcs w) (hk : k ∉ arcs w) (hgk : g ≠ k)
    (hp : p < 4) (hq : q < 4) (hp' : (p' + 2) % 4 = p) (hq' : (q' + 2) % 4 = q) (hp4 : p' < 4) (hq4 : q' < 4) (cp : c.getD p 0 = arcAt w (-1, 3)) (cq : c.getD q 0 = k) (cp' : c.getD p' 0 = g) (cq' : c.getD q' 0 = arcAt w (-1, 2)) (hpq : p % 2 ≠ q % 2)
    (hs : s1 = 0 ∧ e1 = 1) (hn : RecOk [] [((w.cr.length : Int), (p : Int)), ((w.cr.length : Int), (q : Int))] (w.cr.length : Int) nw) :
    Two (addW w c g k) s1 tA e1 2 (((w.cr.length : Int), (p : Int)) :: (rev tB ++ [((w.cr.length : Int), (q : Int))])) 3 (rc.map flB ++ [nw]) := by
  have oldA : ∀ d ∈ tA, arcAt (addW w c g k) d = arcAt w d ∧ arcAt (addW w c g k) (opp d) = arcAt w (opp d) := fun d hd => ⟨add_old (h.inr d (List.mem_append_left _ hd)), add_old (inr_opp (h.inr d (List.mem_append_left _ hd)))⟩
  have ho : ∀ d ∈ tB, opp (opp d) = d := fun d hd => (h.inr d (List.mem_append_right _ hd)).opp2
  have inB : ∀ d ∈ rev tB, InR w.cr.length d := fun d hd => by
    obtain ⟨x, hx, rfl⟩ := mem_rev.mp hd
    exact inr_opp (h.inr x (List.mem_append_right _ hx))
  have oldB : ∀ d ∈ rev tB, arcAt (addW w c g k) d = arcAt w d ∧ arcAt (addW w c g k) (opp d) = arcAt w (opp d) := fun d hd => ⟨add_old (inB d hd), add_old (inr_opp (inB d hd))⟩
  have op : opp ((w.cr.length : Int), (p : Int)) = ((w.cr.length : Int), (p' : Int)) := by
    unfold opp
    simp only [Prod.mk.injEq, true_and]
    omega
  have oq : opp ((w.cr.length : Int), (q : Int)) = ((w.cr.length : Int), (q' : Int)) := by
    unfold opp
    simp only [Prod.mk.injEq, true_and]
    omega
  have r1 : arcAt (addW w c g k) (-1, s1) = arcAt w (-1, s1) := add_rim s1 (by omega)
  have r2 : arcAt (addW w c g k) (-1, e1) = arcAt w (-1, e1) := add_rim e1 (by omega)
  have noOld : ∀ s ∈ tA ++ tB, key s ≠ ((w.cr.length : Int), (p : Int) % 2) ∧ key s ≠ ((w.cr.length : Int), (q : Int) % 2) := fun s hs => by
    obtain ⟨h1, h2, _⟩ := h.inr s hs
    unfold key
    constructor
    · intro z
      have := congrArg Prod.fst z
      simp only at this
      omega
    · intro z
      have := congrArg Prod.fst z
      simp only at this
      omega
  have ln : (addW w c g k).cr.length = w.cr.length + 1 := by simp [addW]
  refine ⟨h.rg, ?_, rfl, ?_, ?_, h.pm, ?_, ?_, ?_, ?_, ?_⟩
  · intro d hd
    rcases List.mem_append.mp hd with z | z
    · exact h.four d z
    · rw [List.mem_singleton.mp z]; exact hc
  · exact h.pA.mono oldA r1 r2
  · refine .step ?_ ?_
    · rw [op, add_new, cp']
      rfl
    · refine Path.app (x := ((w.cr.length : Int), (q : Int))) ?_ (.one ?_)
      · rw [oq]
        exact (h.pB.rev ho).mono oldB (by rw [add_new, cp]) (by rw [add_new, cq'])
      · rw [add_new, cq]
        rfl
  · have hb := h.pB.arcs_rev ho
    have e : ((-1, s1) :: tA ++ (-1, 2) :: (((w.cr.length : Int), (p : Int)) :: (rev tB ++ [((w.cr.length : Int), (q : Int))]))).map (arcAt (addW w c g k)) = ((-1, s1) :: tA).map (arcAt w) ++ ([g] ++ ((((-1, 2) :: tB).map (arcAt w)).reverse ++ [k])) := by
      rw [← hb]
      simp only [List.map_append, List.map_cons, List.map_nil, List.cons_append, r1, add_new, cp, cq, List.nil_append]
      rw [List.map_congr_left fun d hd => (oldA d hd).1, List.map_congr_left fun d hd => (oldB d hd).1]
      rfl
    rw [e]
    have pm : (((-1, s1) :: tA).map (arcAt w) ++ ([g] ++ ((((-1, 2) :: tB).map (arcAt w)).reverse ++ [k]))).Perm ((((-1, s1) :: tA ++ (-1, 2) :: tB).map (arcAt w)) ++ [g, k]) := by
      rw [List.map_append, List.append_assoc]
      refine List.Perm.append_left _ ?_
      refine List.Perm.trans (List.perm_append_comm_assoc [g] _ [k]) ?_
      exact List.Perm.append_right _ (List.reverse_perm _)
    rw [pm.nodup_iff]
    have sub : ∀ x ∈ ((-1, s1) :: tA ++ (-1, 2) :: tB).map (arcAt w), x ∈ arcs w := fun x hx => by
      obtain ⟨s, hs, rfl⟩ := List.mem_map.mp hx
      exact arcAt_mem (h.spots s hs)
    exact nodup_gh h.nd (fun z => hg (sub _ z)) (fun z => hk (sub _ z)) hgk
  · have e : (tA ++ (((w.cr.length : Int), (p : Int)) :: (rev tB ++ [((w.cr.length : Int), (q : Int))]))).map key = tA.map key ++ ([((w.cr.length : Int), (p : Int) % 2)] ++ ((tB.map key).reverse ++ [((w.cr.length : Int), (q : Int) % 2)])) := by
      rw [← key_rev]
      simp only [List.map_append, List.map_cons, List.map_nil]
      rfl
    have pm : (tA.map key ++ ([((w.cr.length : Int), (p : Int) % 2)] ++ ((tB.map key).reverse ++ [((w.cr.length : Int), (q : Int) % 2)]))).Perm ((tA ++ tB).map key ++ [((w.cr.length : Int), (p : Int) % 2), ((w.cr.length : Int), (q : Int) % 2)]) := by
      rw [List.map_append, List.append_assoc]
      refine List.Perm.append_left _ ?_
      refine List.Perm.trans (List.perm_append_comm_assoc [_] _ [_]) ?_
      exact List.Perm.append_right _ (List.reverse_perm _)
    rw [e, pm.nodup_iff]
    refine nodup_gh h.kd ?_ ?_ ?_
    · intro z
      obtain ⟨s, hs, e⟩ := List.mem_map.mp z
      exact (noOld s hs).1 e
    · intro z
      obtain ⟨s, hs, e⟩ := List.mem_map.mp z
      exact (noOld s hs).2 e
    · intro z
      have := congrArg Prod.snd z
      simp only at this
      omega
  · intro s hs
    rw [ln]
    simp only [List.mem_append, List.mem_cons, List.not_mem_nil, or_false] at hs
    have old : ∀ s, InR w.cr.length s → InR (w.cr.length + 1) s := fun s ⟨h1, h2, h3, h4⟩ => ⟨h1, by omega, h3, h4⟩
    rcases hs with z | rfl | z | rfl
    · exact old s (h.inr s (List.mem_append_left _ z))
    · exact ⟨by simp only; omega, by simp only; omega, by simp only; omega, by simp only; omega⟩
    · exact old s (inB s z)
    · exact ⟨by simp only; omega, by simp only; omega, by simp only; omega, by simp only; omega⟩
  · rw [ln, List.length_append, List.length_map, h.rl]
    rfl
  · intro i r hr
    by_cases hi : i < (rc.map flB).length
    · rw [List.getElem?_append_left hi, List.getElem?_map] at hr
      obtain ⟨r', h1, rfl⟩ := Option.map_eq_some_iff.mp hr
      exact rec_app (fun s hs => hs) (fun s hs => List.mem_cons_of_mem _ (List.mem_append_left _ hs)) (flB_ok (h.rok i r' h1))
    · rw [List.getElem?_append_right (by omega)] at hr
      rw [List.length_map] at hi
      have hi2 : i = w.cr.length := by
        have := (List.getElem?_eq_some_iff.mp hr).1
        simp only [List.length_cons, List.length_nil, List.length_map] at this
        have := h.rl
        omega
      rw [List.length_map, show i - rc.length = 0 by have := h.rl; omega] at hr
      cases hr
      rw [hi2]
      refine rec_app (tA := []) (fun s hs => by cases hs) (fun s hs => ?_) hn
      simp only [List.mem_cons, List.not_mem_nil, or_false, List.mem_append] at hs ⊢
      rcases hs with z | z
      · exact .inl z
      · exact .inr (.inr z)
/-- turned by a quarter: the last end first -/
def turnW (w : Web) : Web := ⟨w.cr, w.en.drop 3 ++ w.en.take 3, w.rg⟩
theorem turn_rim (he : w.en.length = 4) (i : Int) (h0 : 0 ≤ i) (h4 : i < 4) : arcAt (turnW w) (-1, (i + 1) % 4) = arcAt w (-1, i) := by
  match h : w.en, he with
  | [a, b, c, d], _ =>
    unfold arcAt turnW
    simp only [if_true]
    rw [h]
    obtain h | h | h | h : i = 0 ∨ i = 1 ∨ i = 2 ∨ i = 3 := by omega
    all_goals
      subst h
      rfl
theorem turn_old {s : Spot} (h : 0 ≤ s.1) : arcAt (turnW w) s = arcAt w s := by
  unfold arcAt turnW
  rw [if_neg (by omega), if_neg (by omega)]
theorem Two.turn (h : Two w s1 tA e1 s2 tB e2 rc) : Two (turnW w) ((s1 + 1) % 4) tA ((e1 + 1) % 4) ((s2 + 1) % 4) tB ((e2 + 1) % 4) rc := by
  obtain ⟨r1, r2, r3, r4⟩ := h.rng
  have old : ∀ d ∈ tA ++ tB, arcAt (turnW w) d = arcAt w d ∧ arcAt (turnW w) (opp d) = arcAt w (opp d) := fun d hd => ⟨turn_old (h.inr d hd).1, turn_old (inr_opp (h.inr d hd)).1⟩
  refine ⟨h.rg, h.four, ?_, ?_, ?_, ?_, ?_, h.kd, h.inr, h.rl, h.rok⟩
  · show (w.en.drop 3 ++ w.en.take 3).length = 4
    rw [List.length_append, List.length_drop, List.length_take, h.en]
    rfl
  · exact h.pA.mono (fun d hd => old d (List.mem_append_left _ hd)) (turn_rim h.en _ r1.1 r1.2) (turn_rim h.en _ r2.1 r2.2)
  · exact h.pB.mono (fun d hd => old d (List.mem_append_right _ hd)) (turn_rim h.en _ r3.1 r3.2) (turn_rim h.en _ r4.1 r4.2)
  · have := h.pm.map (fun x => (x + 1) % 4)
    exact this.trans (by decide)
  · have e : ((-1, (s1 + 1) % 4) :: tA ++ (-1, (s2 + 1) % 4) :: tB).map (arcAt (turnW w)) = ((-1, s1) :: tA ++ (-1, s2) :: tB).map (arcAt w) := by
      simp only [List.map_append, List.map_cons, turn_rim h.en _ r1.1 r1.2, turn_rim h.en _ r3.1 r3.2]
      rw [List.map_congr_left fun d hd => (old d (List.mem_append_left _ hd)).1, List.map_congr_left fun d hd => (old d (List.mem_append_right _ hd)).1]
    rw [e]
    exact h.nd
/-! ### tangles -/
def eA : Ty → Int
  | .lev => 3
  | .upr => 1
  | .cro => 2
def sB : Ty → Int
  | .lev => 1
  | .upr => 2
  | .cro => 1
def eB : Ty → Int
  | .lev => 2
  | .upr => 3
  | .cro => 3
def Tang (w : Web) (d : Dt) : Prop := ∃ tA tB rc, Two w 0 tA (eA d.ty) (sB d.ty) tB (eB d.ty) rc ∧ lkOf rc = d.lk ∧ tuOf rc = d.tu
theorem Two.revA (h : Two w s1 tA e1 s2 tB e2 rc) : ∃ rc', Two w e1 (rev tA) s1 s2 tB e2 rc' ∧ lkOf rc' = - lkOf rc ∧ tuOf rc' = tuOf rc := by
  refine ⟨_, h.swap.revB.swap, ?_, ?_⟩
  · rw [lk_swp, lk_flB h.swap.good, lk_swp]
  · rw [tu_swp, tu_flB h.swap.good, tu_swp]
theorem Tang.turn {d : Dt} (h : Tang w d) : Tang (turnW w) (dS d) := by
  obtain ⟨tA, tB, rc, h, hl, ht⟩ := h
  obtain ⟨ty, lk, tu⟩ := d
  simp only at hl ht
  have T := h.turn
  cases ty
  · -- 1..0, 2..3
    obtain ⟨rc', h', l', t'⟩ := T.revA
    exact ⟨_, _, _, h', by rw [l', hl]; rfl, by rw [t', ht]; rfl⟩
  · -- 1..2, 3..0
    refine ⟨_, _, _, T.revB.swap, ?_, ?_⟩
    · rw [lk_swp, lk_flB h.good, hl]; rfl
    · rw [tu_swp, tu_flB h.good, ht]; rfl
  · -- 1..3, 2..0
    refine ⟨_, _, _, T.revB.swap, ?_, ?_⟩
    · rw [lk_swp, lk_flB h.good, hl]; rfl
    · rw [tu_swp, tu_flB h.good, ht]; rfl
theorem Tang.ren {d : Dt} {f : Int → Int} (h : Tang w d) (hf : InjOn f (arcs w)) : Tang (ren f w) d := by
  obtain ⟨tA, tB, rc, h, hl⟩ := h
  exact ⟨tA, tB, rc, h.ren hf, hl⟩
/-- the crossing of a half twist -/
def twC (w : Web) (s g k : Int) : List Int := if s = 1 then [arcAt w (-1, 3), arcAt w (-1, 2), g, k] else [arcAt w (-1, 2), g, k, arcAt w (-1, 3)]
def twW (w : Web) (s g k : Int) : Web := addW w (twC w s g k) g k
theorem lk_one (r : Rc) : lkOf [r] = if r.uS = r.oS then 0 else rsign r := by
  unfold lkOf
  simp
theorem tu_one (r : Rc) : tuOf [r] = if r.uS = r.oS then rsign r else 0 := by
  unfold tuOf
  simp
theorem Tang.twist {d : Dt} (h : Tang w d) (s g k : Int) (hs : s = 1 ∨ s = -1) (hg : g ∉ arcs w) (hk : k ∉ arcs w) (hgk : g ≠ k) : Tang (twW w s g k) (dT s d) := by
  obtain ⟨tA, tB, rc, h, hl, ht⟩ := h
  obtain ⟨ty, lk, tu⟩ := d
  simp only at hl ht
  unfold twW
  cases ty
  · rcases hs with rfl | rfl
    · have T := Two.cross (c := twC w 1 g k) (g := g) (k := k) (p := 2) (q := 3) (p' := 0) (q' := 1) (nw := ⟨false, 2, true, 3⟩) h rfl hg hk hgk (by decide) (by decide) rfl rfl (by decide) (by decide) rfl rfl rfl rfl (by decide) (.inl ⟨rfl, rfl⟩) ⟨by simp [pick], by simp [pick], .inr rfl, .inr rfl⟩
      refine ⟨_, _, _, T, ?_, ?_⟩
      · rw [lkOf_app, hl, lk_one]; rfl
      · rw [tuOf_app, ht, tu_one]; show tu + 0 = tu; omega
    · have T := Two.cross (c := twC w (-1) g k) (g := g) (k := k) (p := 1) (q := 2) (p' := 3) (q' := 0) (nw := ⟨true, 2, false, 1⟩) h rfl hg hk hgk (by decide) (by decide) rfl rfl (by decide) (by decide) rfl rfl rfl rfl (by decide) (.inl ⟨rfl, rfl⟩) ⟨by simp [pick], by simp [pick], .inr rfl, .inl rfl⟩
      refine ⟨_, _, _, T, ?_, ?_⟩
      · rw [lkOf_app, hl, lk_one]; rfl
      · rw [tuOf_app, ht, tu_one]; show tu + 0 = tu; omega
  · rcases hs with rfl | rfl
    · have T := Two.kink (c := twC w 1 g k) (g := g) (k := k) (p := 0) (q := 3) (p' := 2) (q' := 1) (nw := ⟨true, 0, true, 3⟩) h rfl hg hk hgk (by decide) (by decide) rfl rfl (by decide) (by decide) rfl rfl rfl rfl (by decide) ⟨rfl, rfl⟩ ⟨by simp [pick], by simp [pick], .inl rfl, .inr rfl⟩
      refine ⟨_, _, _, T, ?_, ?_⟩
      · rw [lkOf_app, lk_flB h.good, hl, lk_one]; show -lk + 0 = -lk; omega
      · rw [tuOf_app, tu_flB h.good, ht, tu_one]; rfl
    · have T := Two.kink (c := twC w (-1) g k) (g := g) (k := k) (p := 3) (q := 2) (p' := 1) (q' := 0) (nw := ⟨true, 2, true, 3⟩) h rfl hg hk hgk (by decide) (by decide) rfl rfl (by decide) (by decide) rfl rfl rfl rfl (by decide) ⟨rfl, rfl⟩ ⟨by simp [pick], by simp [pick], .inr rfl, .inr rfl⟩
      refine ⟨_, _, _, T, ?_, ?_⟩
      · rw [lkOf_app, lk_flB h.good, hl, lk_one]; show -lk + 0 = -lk; omega
      · rw [tuOf_app, tu_flB h.good, ht, tu_one]; rfl
  · rcases hs with rfl | rfl
    · have T := Two.cross (c := twC w 1 g k) (g := g) (k := k) (p := 2) (q := 3) (p' := 0) (q' := 1) (nw := ⟨false, 2, true, 3⟩) h.swap rfl hg hk hgk (by decide) (by decide) rfl rfl (by decide) (by decide) rfl rfl rfl rfl (by decide) (.inr ⟨rfl, rfl⟩) ⟨by simp [pick], by simp [pick], .inr rfl, .inr rfl⟩
      refine ⟨_, _, _, T.swap, ?_, ?_⟩
      · rw [lk_swp, lkOf_app, lk_swp, hl, lk_one]; rfl
      · rw [tu_swp, tuOf_app, tu_swp, ht, tu_one]; show tu + 0 = tu; omega
    · have T := Two.cross (c := twC w (-1) g k) (g := g) (k := k) (p := 1) (q := 2) (p' := 3) (q' := 0) (nw := ⟨true, 2, false, 1⟩) h.swap rfl hg hk hgk (by decide) (by decide) rfl rfl (by decide) (by decide) rfl rfl rfl rfl (by decide) (.inr ⟨rfl, rfl⟩) ⟨by simp [pick], by simp [pick], .inr rfl, .inl rfl⟩
      refine ⟨_, _, _, T.swap, ?_, ?_⟩
      · rw [lk_swp, lkOf_app, lk_swp, hl, lk_one]; rfl
      · rw [tu_swp, tuOf_app, tu_swp, ht, tu_one]; show tu + 0 = tu; omega
end
end TH
end

section
set_option autoImplicit false
set_option linter.all false
/-! The webs of the program are tangles so made. -/
namespace TH
theorem greatest_ge (l : List Int) (d : Int) : ∀ a ∈ l, a ≤ greatest l d := by
  intro a ha
  have fold : ∀ (r : List Int) (x : Int), x ≤ r.foldl max x ∧ ∀ b ∈ r, b ≤ r.foldl max x := by
    intro r
    induction r with
    | nil => exact fun x => ⟨Int.le_refl _, fun b h => by cases h⟩
    | cons c r ih =>
      intro x
      rw [List.foldl_cons]
      obtain ⟨h1, h2⟩ := ih (max x c)
      refine ⟨by omega, fun b hb => ?_⟩
      rcases List.mem_cons.mp hb with rfl | z
      · omega
      · exact h2 b z
  match l with
  | [] => cases ha
  | b :: r =>
    show a ≤ r.foldl max b
    rcases List.mem_cons.mp ha with rfl | z
    · exact (fold r a).1
    · exact (fold r b).2 a z
def freshA (w : Web) : Int := 1 + greatest (keys w) (-1)
theorem fresh_lt {w : Web} {a : Int} (h : a ∈ arcs w) : a < freshA w := by
  have := greatest_ge (keys w) (-1) a ((mem_keys w a).mpr h)
  unfold freshA
  omega
theorem map_id_of {f : Int → Int} {cr : List (List Int)} (h : ∀ a ∈ cr.flatten, f a = a) : cr.map (·.map f) = cr := by
  induction cr with
  | nil => rfl
  | cons c r ih =>
    rw [List.flatten_cons] at h
    rw [List.map_cons, ih fun a ha => h a (List.mem_append_right _ ha)]
    congr 1
    rw [List.map_congr_left (g := id) fun a ha => h a (List.mem_append_left _ ha)]
    simp
theorem glued_raw {w : Web} {e0 e1 e2 e3 : Int} {z : List Int} (he : w.en = [e0, e1, e2, e3]) (hr : w.rg = 0) (hz : z = [0, 1, 2, 3] ∨ z = [1, 2, 3, 0]) :
    joinedM (joinedM (sideM w ⟨[z], [0, 1, 2, 3], 0⟩) (w.en.length - 1) w.en.length) (w.en.length - 2) (w.en.length - 1) = twW w (if z = [0, 1, 2, 3] then 1 else -1) (freshA w + 2) (freshA w + 3) := by
  have hf : ∀ a ∈ arcs w, a < freshA w := fun a ha => fresh_lt ha
  have hcr : ∀ a ∈ w.cr.flatten, a < freshA w := fun a ha => hf a (List.mem_append_left _ ha)
  have hen : ∀ a ∈ [e0, e1, e2, e3], a < freshA w := fun a ha => hf a (List.mem_append_right _ (by rw [he]; exact ha))
  have h0 := hen e0 (by simp)
  have h1 := hen e1 (by simp)
  have h2 := hen e2 (by simp)
  have h3 := hen e3 (by simp)
  have es : sideM w ⟨[z], [0, 1, 2, 3], 0⟩ = ⟨w.cr ++ [z.map fun x => freshA w + x], [e0, e1, e2, e3, freshA w + 0, freshA w + 1, freshA w + 2, freshA w + 3], 0⟩ := by
    unfold sideM ren
    simp only [he, hr]
    rfl
  rw [es, he]
  generalize freshA w = f at *
  have ej : joinedM ⟨w.cr ++ [z.map fun x => f + x], [e0, e1, e2, e3, f + 0, f + 1, f + 2, f + 3], 0⟩ 3 4 = ⟨w.cr ++ [(z.map fun x => f + x).map fun x => if x = f + 0 then e3 else x], [e0, e1, e2, f + 1, f + 2, f + 3], 0⟩ := by
    unfold joinedM
    show (if e3 = f + 0 then _ else _) = _
    rw [if_neg (by omega)]
    unfold ren
    have ek : keptM [e0, e1, e2, e3, f + 0, f + 1, f + 2, f + 3] (3 : Nat) (4 : Nat) = [e0, e1, e2, f + 1, f + 2, f + 3] := rfl
    simp only [ek, List.map_append, List.map_cons, List.map_nil]
    rw [map_id_of fun a ha => ?_]
    · show Web.mk _ [if e0 = f + 0 then e3 else e0, if e1 = f + 0 then e3 else e1, if e2 = f + 0 then e3 else e2, if f + 1 = f + 0 then e3 else f + 1, if f + 2 = f + 0 then e3 else f + 2, if f + 3 = f + 0 then e3 else f + 3] 0 = _
      rw [if_neg (by omega), if_neg (by omega), if_neg (by omega), if_neg (by omega), if_neg (by omega), if_neg (by omega)]
      rfl
    · have := hcr a ha
      show (if a = f + 0 then e3 else a) = a
      rw [if_neg (by omega)]
  show joinedM (joinedM _ 3 4) 2 3 = _
  rw [ej]
  unfold joinedM
  show (if e2 = f + 1 then _ else _) = _
  rw [if_neg (by omega)]
  unfold ren
  have ek : keptM [e0, e1, e2, f + 1, f + 2, f + 3] (2 : Nat) (3 : Nat) = [e0, e1, f + 2, f + 3] := rfl
  simp only [ek, List.map_append, List.map_cons, List.map_nil]
  rw [map_id_of fun a ha => ?_]
  · unfold twW addW
    have a0 : w.en.getD 0 0 = e0 := by rw [he]; rfl
    have a1 : w.en.getD 1 0 = e1 := by rw [he]; rfl
    have b2 : arcAt w (-1, 2) = e2 := by unfold arcAt; rw [if_pos rfl, he]; rfl
    have b3 : arcAt w (-1, 3) = e3 := by unfold arcAt; rw [if_pos rfl, he]; rfl
    rw [a0, a1, hr]
    have ee : [if e0 = f + 1 then e2 else e0, if e1 = f + 1 then e2 else e1, if f + 2 = f + 1 then e2 else f + 2, if f + 3 = f + 1 then e2 else f + 3] = [e0, e1, f + 2, f + 3] := by
      rw [if_neg (by omega), if_neg (by omega), if_neg (by omega), if_neg (by omega)]
    have ec : (((z.map fun x => f + x).map fun x => if x = f + 0 then e3 else x).map fun x => if x = f + 1 then e2 else x) = twC w (if z = [0, 1, 2, 3] then 1 else -1) (f + 2) (f + 3) := by
      unfold twC
      rw [b2, b3]
      rcases hz with rfl | rfl
      · rw [if_pos rfl, if_pos rfl]
        show [if (if f + 0 = f + 0 then e3 else f + 0) = f + 1 then e2 else (if f + 0 = f + 0 then e3 else f + 0), if (if f + 1 = f + 0 then e3 else f + 1) = f + 1 then e2 else (if f + 1 = f + 0 then e3 else f + 1), if (if f + 2 = f + 0 then e3 else f + 2) = f + 1 then e2 else (if f + 2 = f + 0 then e3 else f + 2), if (if f + 3 = f + 0 then e3 else f + 3) = f + 1 then e2 else (if f + 3 = f + 0 then e3 else f + 3)] = _
        rw [if_pos rfl, if_neg (by omega), if_neg (show ¬ f + 1 = f + 0 by omega), if_pos rfl, if_neg (show ¬ f + 2 = f + 0 by omega), if_neg (by omega), if_neg (show ¬ f + 3 = f + 0 by omega), if_neg (by omega)]
      · rw [if_neg (by decide)]
        show [if (if f + 1 = f + 0 then e3 else f + 1) = f + 1 then e2 else (if f + 1 = f + 0 then e3 else f + 1), if (if f + 2 = f + 0 then e3 else f + 2) = f + 1 then e2 else (if f + 2 = f + 0 then e3 else f + 2), if (if f + 3 = f + 0 then e3 else f + 3) = f + 1 then e2 else (if f + 3 = f + 0 then e3 else f + 3), if (if f + 0 = f + 0 then e3 else f + 0) = f + 1 then e2 else (if f + 0 = f + 0 then e3 else f + 0)] = _
        rw [if_neg (show ¬ f + 1 = f + 0 by omega), if_pos rfl, if_neg (show ¬ f + 2 = f + 0 by omega), if_neg (by omega), if_neg (show ¬ f + 3 = f + 0 by omega), if_neg (by omega), if_pos rfl, if_neg (by omega)]
    show Web.mk (w.cr ++ [List.map (fun x => if x = f + 1 then e2 else x) (List.map (fun x => if x = f + 0 then e3 else x) (List.map (fun x => f + x) z))]) [if e0 = f + 1 then e2 else e0, if e1 = f + 1 then e2 else e1, if f + 2 = f + 1 then e2 else f + 2, if f + 3 = f + 1 then e2 else f + 3] 0 = _
    rw [ee, ec]
  · have := hcr a ha
    show (if a = f + 1 then e2 else a) = a
    rw [if_neg (by omega)]
theorem half_sign (a : Int) : halfW a = ⟨[if a < 0 then [1, 2, 3, 0] else [0, 1, 2, 3]], [0, 1, 2, 3], 0⟩ := by
  unfold halfW
  split <;> rfl
theorem Tang.len {w : Web} {d : Dt} (h : Tang w d) : w.en.length = 4 ∧ w.rg = 0 := by
  obtain ⟨_, _, _, h, _⟩ := h
  exact ⟨h.en, h.rg⟩
theorem Tang.glue {w : Web} {d : Dt} (h : Tang w d) (a : Int) : ∃ g k, gluedM w (halfW a) = anew (twW w (if a < 0 then -1 else 1) g k) ∧ g ∉ arcs w ∧ k ∉ arcs w ∧ g ≠ k := by
  obtain ⟨he, hr⟩ := h.len
  obtain ⟨e0, e1, e2, e3, h4⟩ : ∃ e0 e1 e2 e3, w.en = [e0, e1, e2, e3] := by
    match h : w.en, he with
    | [a, b, c, d], _ => exact ⟨a, b, c, d, rfl⟩
  refine ⟨freshA w + 2, freshA w + 3, ?_, ?_, ?_, by omega⟩
  · unfold gluedM
    rw [half_sign, glued_raw h4 hr (by split; exact .inr rfl; exact .inl rfl)]
    congr 2
    by_cases hs : a < 0
    · rw [if_pos hs, if_pos hs, if_neg (by decide)]
    · rw [if_neg hs, if_neg hs, if_pos rfl]
  · intro z
    have := fresh_lt z
    omega
  · intro z
    have := fresh_lt z
    omega
theorem Tang.beside {w : Web} {d : Dt} (h : Tang w d) (a : Int) : ∀ n, Tang (besideN w (halfW a) n) (itN (dT (if a < 0 then -1 else 1)) n d)
  | 0 => h
  | n + 1 => by
    have ih := h.beside a n
    obtain ⟨g, k, e, h1, h2, h3⟩ := ih.glue a
    rw [besideN, e, itN]
    exact (ih.twist _ g k (by split; exact .inr rfl; exact .inl rfl) h1 h2 h3).ren (InjOn.anew _)
theorem tw_pow (a : Int) (d : Dt) : itN (dT (if a < 0 then -1 else 1)) a.natAbs d = powT (dT 1) (dT (-1)) a d := by
  unfold powT
  by_cases h : a < 0
  · rw [if_pos h, if_neg (by omega), show a.natAbs = (-a).toNat by omega]
  · rw [if_neg h, if_pos (by omega), show a.natAbs = a.toNat by omega]
theorem level_two : Two levelW 0 [] 3 1 [] 2 [] := by
  exact ⟨rfl, (fun c hc => by cases hc), rfl, .one rfl, .one rfl, (by decide), (by decide), (by decide), (fun s hs => by cases hs), rfl, (fun k r hr => by cases hr)⟩
theorem Tang.quarter {w : Web} {d : Dt} (h : Tang w d) : Tang (quarterM w) (dS d) := h.turn.ren (InjOn.anew _)
theorem tang_of {l : List Int} (h : l ≠ []) : Tang (twistedM l) (dRun l) := by
  cases l with
  | nil => exact absurd rfl h
  | cons a r =>
    have h0 : Tang levelW (dS d0) := ⟨[], [], [], level_two, rfl, rfl⟩
    have h1 : Tang (stepW levelW a true) (powT (dT 1) (dT (-1)) a (dS d0)) := by
      rw [← tw_pow]
      exact h0.beside a _
    unfold dRun run
    rw [List.foldl_cons]
    show Tang (r.foldl (fun w b => stepW w b false) (stepW levelW a true)) _
    generalize powT (dT 1) (dT (-1)) a (dS d0) = d at h1
    generalize stepW levelW a true = w at h1
    induction r generalizing w d with
    | nil => exact h1
    | cons b r ih =>
      rw [List.foldl_cons, List.foldl_cons]
      refine ih (by simp) (d := powT (dT 1) (dT (-1)) b (dS d)) (w := stepW w b false) ?_
      rw [← tw_pow]
      exact h1.quarter.beside b _
end TH
end

section
set_option autoImplicit false
set_option linter.all false
/-! Webs without ends: their strands. -/
namespace TH
theorem PairOk.look_of {w : Web} {PR : List (Spot × Spot)} (h : PairOk w PR) {s t : Spot} (hs : SpotIn w s) (ht : SpotIn w t) (hne : s ≠ t) (e : arcAt w s = arcAt w t) : (twinsM w).lookup s = some t := by
  obtain ⟨p, hp, z⟩ := h.all s hs
  obtain ⟨i1, i2, i3, i4⟩ := h.inn p hp
  have l := pair_look h hp
  rcases z with rfl | rfl
  · rcases h.arc hp ht e.symm with rfl | rfl
    · exact absurd rfl hne
    · exact l.1
  · rcases h.arc hp ht (by rw [← e, i4]) with rfl | rfl
    · exact l.2
    · exact absurd rfl hne
/-- C goes round -/
def Cyc1 (arc : Spot → Int) (C : List Spot) : Prop := ∃ b t, C = b :: t ∧ Path arc b t (opp b)
structure Cyc (w : Web) (Cs : List (List Spot)) : Prop where
  four : ∀ c ∈ w.cr, c.length = 4
  en : w.en = []
  cy : ∀ C ∈ Cs, Cyc1 (arcAt w) C
  nd : (Cs.flatten.map (arcAt w)).Nodup
  kd : (Cs.flatten.map key).Nodup
  inr : ∀ s ∈ Cs.flatten, InR w.cr.length s
  full : ∀ s, InR w.cr.length s → ∃ u ∈ Cs.flatten, s = u ∨ s = opp u
def prC (C : List Spot) : List (Spot × Spot) := match C with
  | [] => []
  | b :: t => prs b t (opp b)
theorem prC_fst (C : List Spot) : (prC C).map (·.1) = C := by
  cases C with
  | nil => rfl
  | cons b t => exact prs_fst b t (opp b)
theorem prC_snd {C : List Spot} {p : Spot × Spot} (h : p ∈ prC C) : ∃ d ∈ C, p.2 = opp d := by
  cases C with
  | nil => cases h
  | cons b t =>
    rcases snd_mem h with z | ⟨d, hd, z⟩
    · exact ⟨b, List.mem_cons_self, z⟩
    · exact ⟨d, List.mem_cons_of_mem _ hd, z⟩
theorem snd_prC {C : List Spot} {d : Spot} (h : d ∈ C) : ∃ p ∈ prC C, p.2 = opp d := by
  cases C with
  | nil => cases h
  | cons b t =>
    rcases List.mem_cons.mp h with rfl | z
    · exact mem_snd (.inl rfl)
    · exact mem_snd (.inr ⟨d, z, rfl⟩)
theorem cyc_ne {n : Nat} {b : Spot} {t : List Spot} (hk : ((b :: t).map key).Nodup) (hr : ∀ s ∈ b :: t, InR n s) : ∀ p ∈ prs b t (opp b), p.1 ≠ p.2 := by
  rw [List.map_cons, List.nodup_cons] at hk
  have hb := hr b List.mem_cons_self
  refine prs_ne (fun d hd => (hr d (List.mem_cons_of_mem _ hd)).2.2) hk.2 (fun d hd z => hk.1 ?_) (fun d hd z => hk.1 ?_) (fun z => opp_ne hb.2.2.1 hb.2.2.2 z.symm)
  · rw [z, key_opp]
    exact List.mem_map.mpr ⟨d, hd, rfl⟩
  · refine List.mem_map.mpr ⟨d, hd, ?_⟩
    rw [z, key_opp]
theorem cyc_in {n : Nat} {b : Spot} {t : List Spot} (hr : ∀ s ∈ b :: t, InR n s) {p : Spot × Spot} (hp : p ∈ prs b t (opp b)) : InR n p.1 ∧ InR n p.2 := by
  refine ⟨hr _ (fst_mem hp), ?_⟩
  rcases snd_mem hp with z | ⟨d, hd, z⟩
  · rw [z]; exact inr_opp (hr b List.mem_cons_self)
  · rw [z]; exact inr_opp (hr d (List.mem_cons_of_mem _ hd))
theorem nodup_part {α β : Type} {f : α → β} {Cs : List (List α)} {C : List α} (hC : C ∈ Cs) (h : (Cs.flatten.map f).Nodup) : (C.map f).Nodup := by
  obtain ⟨l1, l2, rfl⟩ := List.append_of_mem hC
  rw [List.flatten_append, List.flatten_cons, List.map_append, List.map_append, List.nodup_append, List.nodup_append] at h
  exact h.2.1.1
section
variable {w : Web} {Cs : List (List Spot)}
theorem Cyc.part (h : Cyc w Cs) {C : List Spot} (hC : C ∈ Cs) : (C.map key).Nodup ∧ ∀ s ∈ C, InR w.cr.length s :=
  ⟨nodup_part hC h.kd, fun s hs => h.inr s (List.mem_flatten.mpr ⟨C, hC, hs⟩)⟩
theorem Cyc.pairs (h : Cyc w Cs) : PairOk w (Cs.flatMap prC) := by
  refine ⟨fun p hp => ?_, ?_, fun s hs => ?_⟩
  · obtain ⟨C, hC, hp⟩ := List.mem_flatMap.mp hp
    obtain ⟨hk, hr⟩ := h.part hC
    obtain ⟨b, t, rfl, P⟩ := h.cy C hC
    have i := cyc_in hr hp
    exact ⟨inR_spot h.four i.1, inR_spot h.four i.2, cyc_ne hk hr p hp, prs_arc P p hp⟩
  · have e : (Cs.flatMap prC).map (fun p => arcAt w p.1) = Cs.flatten.map (arcAt w) := by
      have : (Cs.flatMap prC).map (·.1) = Cs.flatten := by
        rw [List.map_flatMap]
        have : ∀ l : List (List Spot), (l.flatMap fun C => (prC C).map (·.1)) = l.flatten := by
          intro l
          induction l with
          | nil => rfl
          | cons C l ih => rw [List.flatMap_cons, List.flatten_cons, ih, prC_fst]
        exact this Cs
      rw [← this, List.map_map]
      rfl
    rw [e]
    exact h.nd
  · have hs : InR w.cr.length s := by
      obtain ⟨h0, z⟩ := hs
      rcases z with ⟨_, z⟩ | ⟨z1, z2, z3⟩
      · rw [h.en] at z
        simp at z
      · refine ⟨z1, by omega, h0, ?_⟩
        have : (w.cr.getD s.1.toNat []).length = 4 := by
          rw [List.getD_eq_getElem?_getD, List.getElem?_eq_getElem z2]
          exact h.four _ (List.getElem_mem _)
        omega
    obtain ⟨u, hu, z⟩ := h.full s hs
    obtain ⟨C, hC, hu⟩ := List.mem_flatten.mp hu
    rcases z with rfl | rfl
    · have : s ∈ (prC C).map (·.1) := by rw [prC_fst]; exact hu
      obtain ⟨p, hp, e⟩ := List.mem_map.mp this
      exact ⟨p, List.mem_flatMap.mpr ⟨C, hC, hp⟩, .inl e.symm⟩
    · obtain ⟨p, hp, e⟩ := snd_prC hu
      exact ⟨p, List.mem_flatMap.mpr ⟨C, hC, hp⟩, .inr e.symm⟩
/-! ### roads round -/
theorem cyc_rot {arc : Spot → Int} {C : List Spot} {b : Spot} (hC : Cyc1 arc C) (hb : b ∈ C) : ∃ t, Path arc b t (opp b) ∧ (b :: t).Perm C := by
  obtain ⟨b0, t0, rfl, P⟩ := hC
  rcases List.mem_cons.mp hb with rfl | z
  · exact ⟨t0, P, List.Perm.refl _⟩
  · obtain ⟨u, v, rfl⟩ := List.append_of_mem z
    obtain ⟨P1, P2⟩ := P.split
    refine ⟨v ++ b0 :: u, P2.app P1, ?_⟩
    exact (List.perm_append_comm (l₁ := b :: v) (l₂ := b0 :: u))
theorem cyc_rev {arc : Spot → Int} {C : List Spot} (hC : Cyc1 arc C) (ho : ∀ d ∈ C, opp (opp d) = d) : ∃ C', Cyc1 arc C' ∧ C'.Perm (C.map opp) ∧ (C'.map arc).Perm (C.map arc) := by
  obtain ⟨b, t, rfl, P⟩ := hC
  have ht : ∀ d ∈ t, opp (opp d) = d := fun d hd => ho d (List.mem_cons_of_mem _ hd)
  have P2 := P.rev ht
  refine ⟨opp b :: rev t, ⟨opp b, rev t, rfl, by rw [ho b List.mem_cons_self]; exact P2⟩, ?_, ?_⟩
  · rw [List.map_cons]
    refine List.Perm.cons _ ?_
    unfold rev
    exact List.Perm.map _ (List.reverse_perm _)
  · rw [P.arcs_rev ht]
    exact List.reverse_perm _
def TurnOf (arc : Spot → Int) (C r : List Spot) : Prop := Cyc1 arc r ∧ (r.Perm C ∨ r.Perm (C.map opp)) ∧ (r.map arc).Perm (C.map arc)
theorem cyc_from {arc : Spot → Int} {C : List Spot} {b : Spot} (hC : Cyc1 arc C) (ho : ∀ d ∈ C, opp (opp d) = d) (hb : b ∈ C ∨ ∃ d ∈ C, b = opp d) : ∃ t, Path arc b t (opp b) ∧ TurnOf arc C (b :: t) := by
  rcases hb with hb | ⟨d, hd, rfl⟩
  · obtain ⟨t, P, pm⟩ := cyc_rot hC hb
    exact ⟨t, P, ⟨b, t, rfl, P⟩, .inl pm, pm.map _⟩
  · obtain ⟨C', h', pm, pa⟩ := cyc_rev hC ho
    have hb : opp d ∈ C' := pm.mem_iff.mpr (List.mem_map.mpr ⟨d, hd, rfl⟩)
    obtain ⟨t, P, pm2⟩ := cyc_rot h' hb
    exact ⟨t, P, ⟨_, t, rfl, P⟩, .inr (pm2.trans pm), (pm2.map _).trans pa⟩
theorem Cyc.road (h : Cyc w Cs) {C : List Spot} (hC : C ∈ Cs) {b : Spot} (hb : SpotIn w b) (ha : arcAt w b ∈ C.map (arcAt w)) : ∃ r, Road (twinsM w) b r ∧ TurnOf (arcAt w) C r := by
  have hP := h.pairs
  obtain ⟨hk, hr⟩ := h.part hC
  have ho : ∀ d ∈ C, opp (opp d) = d := fun d hd => (hr d hd).opp2
  have hbC : b ∈ C ∨ ∃ d ∈ C, b = opp d := by
    obtain ⟨x, hx, e⟩ := List.mem_map.mp ha
    have : x ∈ (prC C).map (·.1) := by rw [prC_fst]; exact hx
    obtain ⟨p, hp, rfl⟩ := List.mem_map.mp this
    rcases hP.arc (List.mem_flatMap.mpr ⟨C, hC, hp⟩) hb e.symm with z | z
    · rw [z]; exact .inl hx
    · rw [z]; exact .inr (prC_snd hp)
  obtain ⟨t, P, T⟩ := cyc_from (h.cy C hC) ho hbC
  have pk : ((b :: t).map key).Nodup ∧ ∀ s ∈ b :: t, InR w.cr.length s := by
    rcases T.2.1 with pm | pm
    · exact ⟨(pm.map key).nodup_iff.mpr hk, fun s hs => hr s (pm.mem_iff.mp hs)⟩
    · refine ⟨(pm.map key).nodup_iff.mpr ?_, fun s hs => ?_⟩
      · rw [List.map_map]
        have e : C.map (key ∘ opp) = C.map key := List.map_congr_left fun s _ => key_opp s
        rw [e]
        exact hk
      · obtain ⟨d, hd, rfl⟩ := List.mem_map.mp (pm.mem_iff.mp hs)
        exact inr_opp (hr d hd)
  have hbr := pk.2 b List.mem_cons_self
  refine ⟨b :: t, path_road (.inr ⟨?_, hbr.opp2⟩) (fun p hp => ?_) (fun d hd => ⟨?_, (pk.2 d (List.mem_cons_of_mem _ hd)).opp2, fun z => ?_⟩), T⟩
  · show b.1 ≠ -1
    have := hbr.1
    omega
  · have i := cyc_in pk.2 hp
    exact hP.look_of (inR_spot h.four i.1) (inR_spot h.four i.2) (cyc_ne pk.1 pk.2 p hp) (prs_arc P p hp)
  · have := (pk.2 d (List.mem_cons_of_mem _ hd)).1
    omega
  · have := pk.1
    rw [List.map_cons, List.nodup_cons] at this
    exact this.1 (List.mem_map.mpr ⟨d, hd, by rw [z]⟩)
end
inductive Pr2 {α β : Type} (F : α → β → Prop) : List α → List β → Prop
  | nil : Pr2 F [] []
  | cons {a : α} {b : β} {l : List α} {m : List β} : F a b → Pr2 F l m → Pr2 F (a :: l) (b :: m)
theorem cyc_roads {w : Web} {Cs : List (List Spot)} (h : Cyc w Cs) : ∀ (bs : List Spot) (rem : List (List Spot)) (done : List Int), (∀ b ∈ bs, SpotIn w b) → (∀ C ∈ rem, C ∈ Cs) → (∀ s, SpotIn w s → arcAt w s ∈ done ∨ ∃ C ∈ rem, arcAt w s ∈ C.map (arcAt w)) →
    (∀ C ∈ rem, ∀ a ∈ C.map (arcAt w), a ∉ done) → (rem.flatten.map (arcAt w)).Nodup → (∀ C ∈ rem, ∃ b ∈ bs, arcAt w b ∈ C.map (arcAt w)) →
    ∃ R rem', Roads (twinsM w) (arcAt w) bs done R ∧ rem'.Perm rem ∧ Pr2 (TurnOf (arcAt w)) rem' R
  | [], rem, done, _, _, _, _, _, h6 => by
    have : rem = [] := by
      cases rem with
      | nil => rfl
      | cons C r =>
        obtain ⟨b, hb, _⟩ := h6 C List.mem_cons_self
        cases hb
    subst this
    exact ⟨[], [], .nil, List.Perm.refl _, .nil⟩
  | b :: bs, rem, done, h1, h2, h3, h4, h5, h6 => by
    have hb := h1 b List.mem_cons_self
    by_cases hd : arcAt w b ∈ done
    · obtain ⟨R, rem', k1, k2, k3⟩ := cyc_roads h bs rem done (fun x hx => h1 x (List.mem_cons_of_mem _ hx)) h2 h3 h4 h5 fun C hC => by
        obtain ⟨x, hx, e⟩ := h6 C hC
        rcases List.mem_cons.mp hx with rfl | z
        · exact absurd hd (h4 C hC _ e)
        · exact ⟨x, z, e⟩
      exact ⟨R, rem', .skip hd k1, k2, k3⟩
    · obtain ⟨C, hC, e⟩ := (h3 b hb).resolve_left hd
      obtain ⟨r, hr, T⟩ := h.road (h2 C hC) hb e
      obtain ⟨l1, l2, rfl⟩ := List.append_of_mem hC
      have hn := h5
      rw [List.flatten_append, List.flatten_cons, List.map_append, List.map_append, List.nodup_append, List.nodup_append] at hn
      obtain ⟨n1, ⟨n2, n3, n4⟩, n5⟩ := hn
      have mem2 : ∀ D ∈ l1 ++ l2, D ∈ l1 ++ C :: l2 := fun D hD => by
        rcases List.mem_append.mp hD with z | z
        · exact List.mem_append_left _ z
        · exact List.mem_append_right _ (List.mem_cons_of_mem _ z)
      have disj : ∀ D ∈ l1 ++ l2, ∀ a ∈ D.map (arcAt w), a ∉ C.map (arcAt w) := fun D hD a ha hc => by
        rcases List.mem_append.mp hD with z | z
        · refine n5 a ?_ a (List.mem_append_left _ hc) rfl
          obtain ⟨s, hs, rfl⟩ := List.mem_map.mp ha
          exact List.mem_map.mpr ⟨s, List.mem_flatten.mpr ⟨D, z, hs⟩, rfl⟩
        · refine n4 a hc a ?_ rfl
          obtain ⟨s, hs, rfl⟩ := List.mem_map.mp ha
          exact List.mem_map.mpr ⟨s, List.mem_flatten.mpr ⟨D, z, hs⟩, rfl⟩
      obtain ⟨R, rem', k1, k2, k3⟩ := cyc_roads h bs (l1 ++ l2) (done ++ r.map (arcAt w)) (fun x hx => h1 x (List.mem_cons_of_mem _ hx)) (fun D hD => h2 D (mem2 D hD))
        (fun s hs => by
          rcases h3 s hs with z | ⟨D, hD, z⟩
          · exact .inl (List.mem_append_left _ z)
          · rcases List.mem_append.mp hD with q | q
            · exact .inr ⟨D, List.mem_append_left _ q, z⟩
            · rcases List.mem_cons.mp q with rfl | q
              · exact .inl (List.mem_append_right _ (T.2.2.mem_iff.mpr z))
              · exact .inr ⟨D, List.mem_append_right _ q, z⟩)
        (fun D hD a ha z => by
          rcases List.mem_append.mp z with q | q
          · exact h4 D (mem2 D hD) a ha q
          · exact disj D hD a ha (T.2.2.mem_iff.mp q))
        (by
          rw [List.flatten_append, List.map_append, List.nodup_append]
          exact ⟨n1, n3, fun x hx y hy => n5 x hx y (List.mem_append_right _ hy)⟩)
        (fun D hD => by
          obtain ⟨x, hx, e2⟩ := h6 D (mem2 D hD)
          rcases List.mem_cons.mp hx with rfl | z
          · exact absurd e (disj D hD _ e2)
          · exact ⟨x, z, e2⟩)
      refine ⟨r :: R, C :: rem', .road hd hr k1, ?_, .cons T k3⟩
      exact (List.Perm.cons C k2).trans List.perm_middle.symm
end TH
end

section
set_option autoImplicit false
set_option linter.all false
/-! The closings of a tangle. -/
namespace TH
def jn (x y : Int) (z : Int) : Int := if z = y then x else z
/-- both joinings -/
def jf (x1 y1 x2 y2 : Int) (z : Int) : Int := jn (jn x1 y1 x2) (jn x1 y1 y2) (jn x1 y1 z)
def rings (x1 y1 x2 y2 : Int) : Int := (if x1 = y1 then 1 else 0) + (if jn x1 y1 x2 = jn x1 y1 y2 then 1 else 0)
/-- closed, the names as they come -/
def rawC (w : Web) (x1 y1 x2 y2 : Int) : Web := ⟨w.cr.map (·.map (jf x1 y1 x2 y2)), [], rings x1 y1 x2 y2⟩
theorem jf_1 (x1 y1 x2 y2 : Int) : jf x1 y1 x2 y2 x1 = jf x1 y1 x2 y2 y1 := by
  unfold jf
  have : jn x1 y1 x1 = jn x1 y1 y1 := by
    unfold jn
    rw [if_pos rfl]
    split <;> rfl
  rw [this]
theorem jf_2 (x1 y1 x2 y2 : Int) : jf x1 y1 x2 y2 x2 = jf x1 y1 x2 y2 y2 := by
  unfold jf
  generalize jn x1 y1 x2 = a
  generalize jn x1 y1 y2 = b
  unfold jn
  rw [if_pos rfl]
  split <;> rfl
theorem jf_rho {x1 y1 x2 y2 : Int} {ρ : Int → Int} (h1 : ρ x1 = ρ y1) (h2 : ρ x2 = ρ y2) (z : Int) : ρ (jf x1 y1 x2 y2 z) = ρ z := by
  have a2 : ∀ a b : Int, ρ a = ρ b → ∀ z, ρ (jn a b z) = ρ z := fun a b h z => by
    unfold jn
    split
    · rename_i e
      rw [e, h]
    · rfl
  have a1 := a2 x1 y1 h1
  unfold jf
  rw [a2 _ _ (by rw [a1, a1, h2]), a1]
def JP (x y p q : Int) : Prop := (x = p ∧ y = q) ∨ (x = q ∧ y = p)
theorem JP.eq {x y p q : Int} {ρ : Int → Int} (h : JP x y p q) (e : ρ p = ρ q) : ρ x = ρ y := by
  rcases h with ⟨rfl, rfl⟩ | ⟨rfl, rfl⟩
  · exact e
  · exact e.symm
section
variable {w : Web} {s1 e1 s2 e2 : Int} {tA tB : List Spot} {rc : List Rc}
/-- the arcs at the ends of two strands -/
structure Ends (arc : Spot → Int) (p1 q1 p2 q2 : Int) (tA tB : List Spot) : Prop where
  a1 : p1 ∉ tA.map arc
  a2 : p1 ∉ tB.map arc
  b1 : p2 ∉ tA.map arc
  b2 : p2 ∉ tB.map arc
  ne : p1 ≠ p2
  dis : ∀ x ∈ tA.map arc, x ∉ tB.map arc
  nA : (tA.map arc).Nodup
  nB : (tB.map arc).Nodup
  eA0 : tA = [] → q1 = p1
  eA1 : tA ≠ [] → q1 ∈ tA.map arc
  eB0 : tB = [] → q2 = p2
  eB1 : tB ≠ [] → q2 ∈ tB.map arc
theorem path_end1 {arc : Spot → Int} {a e : Spot} {t : List Spot} (h : Path arc a t e) : (t = [] → arc e = arc a) ∧ (t ≠ [] → arc e ∈ t.map arc) := by
  cases h with
  | one h => exact ⟨fun _ => h.symm, fun z => absurd rfl z⟩
  | @step _ d _ t h p =>
    refine ⟨(fun z => by cases z), fun _ => ?_⟩
    obtain ⟨q, hq, e1⟩ := mem_snd (a := d) (e := e) (t := t) (x := e) (.inl rfl)
    rw [← e1, ← prs_arc p q hq]
    exact List.mem_map.mpr ⟨q.1, fst_mem hq, rfl⟩
theorem Two.ends (h : Two w s1 tA e1 s2 tB e2 rc) : Ends (arcAt w) (arcAt w (-1, s1)) (arcAt w (-1, e1)) (arcAt w (-1, s2)) (arcAt w (-1, e2)) tA tB := by
  have hn := h.nd
  rw [List.map_append, List.nodup_append, List.map_cons, List.map_cons, List.nodup_cons, List.nodup_cons] at hn
  obtain ⟨⟨a1, nA⟩, ⟨b2, nB⟩, d⟩ := hn
  refine ⟨a1, fun z => d _ List.mem_cons_self _ (List.mem_cons_of_mem _ z) rfl, fun z => d _ (List.mem_cons_of_mem _ z) _ List.mem_cons_self rfl, b2, fun z => d _ List.mem_cons_self _ List.mem_cons_self z, fun x hx z => d _ (List.mem_cons_of_mem _ hx) _ (List.mem_cons_of_mem _ z) rfl, nA, nB, (path_end1 h.pA).1, (path_end1 h.pA).2, (path_end1 h.pB).1, (path_end1 h.pB).2⟩
theorem Ends.q1B {arc : Spot → Int} {p1 q1 p2 q2 : Int} (h : Ends arc p1 q1 p2 q2 tA tB) : q1 ∉ tB.map arc ∧ q1 ≠ p2 := by
  by_cases z : tA = []
  · rw [h.eA0 z]
    exact ⟨h.a2, h.ne⟩
  · have := h.eA1 z
    exact ⟨h.dis _ this, fun e => h.b1 (by rw [← e]; exact this)⟩
theorem Ends.q2A {arc : Spot → Int} {p1 q1 p2 q2 : Int} (h : Ends arc p1 q1 p2 q2 tA tB) : q2 ∉ tA.map arc ∧ q2 ≠ p1 := by
  by_cases z : tB = []
  · rw [h.eB0 z]
    exact ⟨h.b1, fun e => h.ne e.symm⟩
  · have := h.eB1 z
    exact ⟨fun e => h.dis _ e this, fun e => h.a2 (by rw [← e]; exact this)⟩
theorem Ends.q1q2 {arc : Spot → Int} {p1 q1 p2 q2 : Int} (h : Ends arc p1 q1 p2 q2 tA tB) : q1 ≠ q2 := by
  intro e
  by_cases z : tA = []
  · rw [h.eA0 z] at e
    exact h.q2A.2 e.symm
  · exact h.q2A.1 (by rw [← e]; exact h.eA1 z)
/-- q1 = p1 just where nothing lies between -/
theorem Ends.e1_iff {arc : Spot → Int} {p1 q1 p2 q2 : Int} (h : Ends arc p1 q1 p2 q2 tA tB) : q1 = p1 ↔ tA = [] := by
  refine ⟨fun e => ?_, h.eA0⟩
  by_cases z : tA = []
  · exact z
  · exact absurd (by rw [← e]; exact h.eA1 z) h.a1
theorem Ends.e2_iff {arc : Spot → Int} {p1 q1 p2 q2 : Int} (h : Ends arc p1 q1 p2 q2 tA tB) : q2 = p2 ↔ tB = [] := by
  refine ⟨fun e => ?_, h.eB0⟩
  by_cases z : tB = []
  · exact z
  · exact absurd (by rw [← e]; exact h.eB1 z) h.b2
/-- each strand by itself -/
theorem Ends.par {arc : Spot → Int} {p1 q1 p2 q2 x1 y1 x2 y2 : Int} (h : Ends arc p1 q1 p2 q2 tA tB) (j1 : JP x1 y1 p1 q1) (j2 : JP x2 y2 p2 q2) :
    jf x1 y1 x2 y2 p1 = jf x1 y1 x2 y2 q1 ∧ jf x1 y1 x2 y2 p2 = jf x1 y1 x2 y2 q2 ∧ InjOn (jf x1 y1 x2 y2) ((tA ++ tB).map arc) ∧ rings x1 y1 x2 y2 = (if tA = [] then 1 else 0) + (if tB = [] then 1 else 0) := by
  have f1 := jf_1 x1 y1 x2 y2
  have f2 := jf_2 x1 y1 x2 y2
  refine ⟨?_, ?_, ?_, ?_⟩
  · rcases j1 with ⟨rfl, rfl⟩ | ⟨rfl, rfl⟩
    · exact f1
    · exact f1.symm
  · rcases j2 with ⟨rfl, rfl⟩ | ⟨rfl, rfl⟩
    · exact f2
    · exact f2.symm
  · let ρ : Int → Int := fun z => if z = p1 then q1 else if z = p2 then q2 else z
    have r1 : ρ p1 = ρ q1 := by
      show (if p1 = p1 then q1 else _) = (if q1 = p1 then q1 else if q1 = p2 then q2 else q1)
      rw [if_pos rfl]
      split
      · rfl
      · rw [if_neg h.q1B.2]
    have r2 : ρ p2 = ρ q2 := by
      show (if p2 = p1 then q1 else if p2 = p2 then q2 else p2) = (if q2 = p1 then q1 else if q2 = p2 then q2 else q2)
      rw [if_neg (fun z => h.ne z.symm), if_pos rfl, if_neg h.q2A.2]
      split <;> rfl
    have rid : ∀ z ∈ (tA ++ tB).map arc, ρ z = z := fun z hz => by
      show (if z = p1 then q1 else if z = p2 then q2 else z) = z
      rw [List.map_append, List.mem_append] at hz
      rw [if_neg, if_neg]
      · rintro rfl
        rcases hz with z | z
        · exact h.b1 z
        · exact h.b2 z
      · rintro rfl
        rcases hz with z | z
        · exact h.a1 z
        · exact h.a2 z
    intro a ha b hb e
    have hr := jf_rho (j1.eq r1) (j2.eq r2)
    have := congrArg ρ e
    rw [hr, hr, rid a ha, rid b hb] at this
    exact this
  · unfold rings
    have hx1 : x1 = y1 ↔ tA = [] := by
      rw [← h.e1_iff]
      rcases j1 with ⟨rfl, rfl⟩ | ⟨rfl, rfl⟩
      · exact ⟨fun e => e.symm, fun e => e.symm⟩
      · exact Iff.rfl
    have hx2 : jn x1 y1 x2 = jn x1 y1 y2 ↔ tB = [] := by
      rw [← h.e2_iff]
      have n1 : x2 ≠ y1 ∧ y2 ≠ y1 := by
        rcases j1 with ⟨rfl, rfl⟩ | ⟨rfl, rfl⟩ <;> rcases j2 with ⟨rfl, rfl⟩ | ⟨rfl, rfl⟩
        · exact ⟨fun e => h.q1B.2 e.symm, fun e => h.q1q2 e.symm⟩
        · exact ⟨fun e => h.q1q2 e.symm, fun e => h.q1B.2 e.symm⟩
        · exact ⟨fun e => h.ne e.symm, h.q2A.2⟩
        · exact ⟨h.q2A.2, fun e => h.ne e.symm⟩
      unfold jn
      rw [if_neg n1.1, if_neg n1.2]
      rcases j2 with ⟨rfl, rfl⟩ | ⟨rfl, rfl⟩
      · exact ⟨fun e => e.symm, fun e => e.symm⟩
      · exact Iff.rfl
    by_cases hA : tA = []
    · rw [if_pos (hx1.mpr hA), if_pos hA]
      by_cases hB : tB = []
      · rw [if_pos (hx2.mpr hB), if_pos hB]
      · rw [if_neg (fun z => hB (hx2.mp z)), if_neg hB]
    · rw [if_neg (fun z => hA (hx1.mp z)), if_neg hA]
      by_cases hB : tB = []
      · rw [if_pos (hx2.mpr hB), if_pos hB]
      · rw [if_neg (fun z => hB (hx2.mp z)), if_neg hB]
/-- one behind the other -/
theorem Ends.ser {arc : Spot → Int} {p1 q1 p2 q2 x1 y1 x2 y2 : Int} (h : Ends arc p1 q1 p2 q2 tA tB) (j1 : JP x1 y1 p1 q2) (j2 : JP x2 y2 p2 q1) :
    jf x1 y1 x2 y2 p1 = jf x1 y1 x2 y2 q2 ∧ jf x1 y1 x2 y2 p2 = jf x1 y1 x2 y2 q1 ∧ InjOn (jf x1 y1 x2 y2) ((tA ++ tB).map arc) ∧ rings x1 y1 x2 y2 = if tA ++ tB = [] then 1 else 0 := by
  have f1 := jf_1 x1 y1 x2 y2
  have f2 := jf_2 x1 y1 x2 y2
  refine ⟨?_, ?_, ?_, ?_⟩
  · rcases j1 with ⟨rfl, rfl⟩ | ⟨rfl, rfl⟩
    · exact f1
    · exact f1.symm
  · rcases j2 with ⟨rfl, rfl⟩ | ⟨rfl, rfl⟩
    · exact f2
    · exact f2.symm
  · have core : ∃ ρ : Int → Int, ρ p1 = ρ q2 ∧ ρ p2 = ρ q1 ∧ ∀ z, z ≠ p1 → z ≠ p2 → ρ z = z := by
      by_cases hB : tB = []
      · refine ⟨fun z => if z = p1 ∨ z = p2 then q1 else z, ?_, ?_, fun z h1 h2 => if_neg (fun z => z.elim h1 h2)⟩
        · rw [h.eB0 hB]
          simp
        · simp only [or_true, if_true]
          by_cases q : q1 = p1 ∨ q1 = p2
          · rw [if_pos q]
          · rw [if_neg q]
      · have n2 : q2 ≠ p2 := fun e => hB (h.e2_iff.mp e)
        by_cases hA : tA = []
        · refine ⟨fun z => if z = p1 ∨ z = p2 then q2 else z, ?_, ?_, fun z h1 h2 => if_neg (fun z => z.elim h1 h2)⟩
          · simp only [true_or, if_true]
            rw [if_neg (fun z => z.elim h.q2A.2 n2)]
          · rw [h.eA0 hA]
            simp
        · have n1 : q1 ≠ p1 := fun e => hA (h.e1_iff.mp e)
          refine ⟨fun z => if z = p1 then q2 else if z = p2 then q1 else z, ?_, ?_, fun z h1 h2 => by simp only; rw [if_neg h1, if_neg h2]⟩
          · show (if p1 = p1 then q2 else if p1 = p2 then q1 else p1) = if q2 = p1 then q2 else if q2 = p2 then q1 else q2
            rw [if_pos rfl, if_neg h.q2A.2, if_neg n2]
          · show (if p2 = p1 then q2 else if p2 = p2 then q1 else p2) = if q1 = p1 then q2 else if q1 = p2 then q1 else q1
            rw [if_neg (fun z => h.ne z.symm), if_pos rfl, if_neg n1, if_neg h.q1B.2]
    obtain ⟨ρ, r1, r2, r3⟩ := core
    have rid : ∀ z ∈ (tA ++ tB).map arc, ρ z = z := fun z hz => by
      rw [List.map_append, List.mem_append] at hz
      refine r3 z ?_ ?_
      · rintro rfl
        rcases hz with z | z
        · exact h.a1 z
        · exact h.a2 z
      · rintro rfl
        rcases hz with z | z
        · exact h.b1 z
        · exact h.b2 z
    intro a ha b hb e
    have hr := jf_rho (j1.eq r1) (j2.eq r2)
    have := congrArg ρ e
    rw [hr, hr, rid a ha, rid b hb] at this
    exact this
  · unfold rings
    have hx1 : x1 ≠ y1 := by
      rcases j1 with ⟨rfl, rfl⟩ | ⟨rfl, rfl⟩
      · exact fun e => h.q2A.2 e.symm
      · exact h.q2A.2
    rw [if_neg hx1, Int.zero_add]
    have hx2 : jn x1 y1 x2 = jn x1 y1 y2 ↔ tA ++ tB = [] := by
      rw [List.append_eq_nil_iff, ← h.e1_iff, ← h.e2_iff]
      have m1 := h.q2A.2
      have m2 := h.q1B.2
      have m3 := h.q1q2
      have m4 := h.ne
      have k1 : jn x1 y1 p2 = jn x1 y1 q1 ↔ q1 = p1 ∧ q2 = p2 := by
        unfold jn
        rcases j1 with ⟨rfl, rfl⟩ | ⟨rfl, rfl⟩
        · rw [if_neg m3]
          by_cases a : p2 = y1
          · rw [if_pos a]
            exact ⟨fun e => ⟨e.symm, a.symm⟩, fun e => e.1.symm⟩
          · rw [if_neg a]
            exact ⟨fun e => absurd e.symm m2, fun e => absurd e.2.symm a⟩
        · rw [if_neg (fun z => m4 z.symm)]
          by_cases a : q1 = y1
          · rw [if_pos a]
            exact ⟨fun e => ⟨a, e.symm⟩, fun e => e.2.symm⟩
          · rw [if_neg a]
            exact ⟨fun e => absurd e.symm m2, fun e => absurd e.1 a⟩
      rcases j2 with ⟨rfl, rfl⟩ | ⟨rfl, rfl⟩
      · exact k1
      · exact ⟨fun e => k1.mp e.symm, fun e => (k1.mpr e).symm⟩
    by_cases hA : tA ++ tB = []
    · rw [if_pos (hx2.mpr hA), if_pos hA]
    · rw [if_neg (fun z => hA (hx2.mp z)), if_neg hA]
/-! ### the strands of the closing -/
theorem raw_arc (h : Two w s1 tA e1 s2 tB e2 rc) {f : Int → Int} {n : Int} {s : Spot} (hs : InR w.cr.length s) : arcAt ⟨w.cr.map (·.map f), [], n⟩ s = f (arcAt w s) := by
  have h1 := arcAt_ren f (inR_spot h.four hs)
  rw [← h1]
  unfold arcAt ren
  have := hs.1
  rw [if_neg (by omega), if_neg (by omega)]
theorem path_cyc {g arc' : Spot → Int} {a e : Spot} {t : List Spot} (P : Path g a t e) (hae : g a = g e) (ht : t ≠ []) (ho : ∀ d ∈ t, arc' d = g d ∧ arc' (opp d) = g (opp d)) : Cyc1 arc' t := by
  cases P with
  | one _ => exact absurd rfl ht
  | @step _ d _ t h p =>
    refine ⟨d, t, rfl, p.mono (fun x hx => ho x (List.mem_cons_of_mem _ hx)) (ho d List.mem_cons_self).1 ?_⟩
    rw [(ho d List.mem_cons_self).2, ← h, hae]
theorem Two.cyc (h : Two w s1 tA e1 s2 tB e2 rc) {f : Int → Int} {n : Int} {Cs : List (List Spot)} (hi : InjOn f ((tA ++ tB).map (arcAt w))) (hf : Cs.flatten = tA ++ tB) (hc : ∀ C ∈ Cs, Cyc1 (arcAt ⟨w.cr.map (·.map f), [], n⟩) C) : Cyc ⟨w.cr.map (·.map f), [], n⟩ Cs := by
  have hn := h.nd
  rw [List.map_append, List.nodup_append, List.map_cons, List.map_cons, List.nodup_cons, List.nodup_cons] at hn
  obtain ⟨⟨a1, nA⟩, ⟨b2, nB⟩, d⟩ := hn
  have nAB : ((tA ++ tB).map (arcAt w)).Nodup := by
    rw [List.map_append, List.nodup_append]
    exact ⟨nA, nB, fun x hx y hy => d x (List.mem_cons_of_mem _ hx) y (List.mem_cons_of_mem _ hy)⟩
  refine ⟨?_, rfl, hc, ?_, ?_, ?_, ?_⟩
  · intro c hc
    obtain ⟨d, hd, rfl⟩ := List.mem_map.mp hc
    rw [List.length_map]
    exact h.four d hd
  · rw [hf]
    unfold List.Nodup at nAB ⊢
    rw [List.pairwise_map] at nAB ⊢
    refine List.Pairwise.imp_of_mem ?_ nAB
    intro a b ha hb hab e
    rw [raw_arc h (h.inr a ha), raw_arc h (h.inr b hb)] at e
    exact hab (hi _ (List.mem_map.mpr ⟨a, ha, rfl⟩) _ (List.mem_map.mpr ⟨b, hb, rfl⟩) e)
  · rw [hf]; exact h.kd
  · rw [hf]
    show ∀ s ∈ tA ++ tB, InR (w.cr.map _).length s
    rw [List.length_map]
    exact h.inr
  · rw [hf]
    intro s hs
    have hs : InR w.cr.length s := by
      have e : (Web.mk (w.cr.map (·.map f)) [] n).cr.length = w.cr.length := List.length_map _
      rw [e] at hs
      exact hs
    obtain ⟨h1, h2, h3, h4⟩ := hs
    have hk : s.1.toNat < rc.length := by rw [h.rl]; omega
    obtain ⟨p1, p2, g1, g2⟩ := h.rok s.1.toNat rc[s.1.toNat] (List.getElem?_eq_getElem hk)
    have ek : ((s.1.toNat : Nat) : Int) = s.1 := by omega
    rw [ek] at p1 p2
    generalize rc[s.1.toNat] = r at *
    have pickm : ∀ (b : Bool) (x : Spot), x ∈ pick b tA tB → x ∈ tA ++ tB := fun b x hx => by
      cases b
      · exact List.mem_append_left _ hx
      · exact List.mem_append_right _ hx
    by_cases hp : s.2 % 2 = 0
    · refine ⟨(s.1, r.u), pickm _ _ p1, key_eq ?_ h3 h4 ?_ ?_⟩
      · unfold key
        simp only [Prod.mk.injEq, true_and]
        omega
      · show 0 ≤ r.u
        omega
      · show r.u < 4
        omega
    · refine ⟨(s.1, r.o), pickm _ _ p2, key_eq ?_ h3 h4 ?_ ?_⟩
      · unfold key
        simp only [Prod.mk.injEq, true_and]
        omega
      · show 0 ≤ r.o
        omega
      · show r.o < 4
        omega
theorem Two.parC (h : Two w s1 tA e1 s2 tB e2 rc) {x1 y1 x2 y2 : Int} (j1 : JP x1 y1 (arcAt w (-1, s1)) (arcAt w (-1, e1))) (j2 : JP x2 y2 (arcAt w (-1, s2)) (arcAt w (-1, e2))) :
    Cyc (rawC w x1 y1 x2 y2) ([tA, tB].filter fun t => decide (t ≠ [])) ∧ rings x1 y1 x2 y2 + (([tA, tB].filter fun t => decide (t ≠ [])).length : Int) = 2 := by
  obtain ⟨f1, f2, fi, fr⟩ := h.ends.par j1 j2
  refine ⟨h.cyc fi ?_ fun C hC => ?_, ?_⟩
  · by_cases a : tA = [] <;> by_cases b : tB = [] <;> simp [a, b]
  · obtain ⟨hm, hne⟩ := List.mem_filter.mp hC
    have hne : C ≠ [] := by simpa using hne
    simp only [List.mem_cons, List.not_mem_nil, or_false] at hm
    rcases hm with rfl | rfl
    · exact path_cyc (h.pA.map (f := jf x1 y1 x2 y2)) f1 hne fun d hd => ⟨raw_arc h (h.inr d (List.mem_append_left _ hd)), raw_arc h (inr_opp (h.inr d (List.mem_append_left _ hd)))⟩
    · exact path_cyc (h.pB.map (f := jf x1 y1 x2 y2)) f2 hne fun d hd => ⟨raw_arc h (h.inr d (List.mem_append_right _ hd)), raw_arc h (inr_opp (h.inr d (List.mem_append_right _ hd)))⟩
  · rw [fr]
    by_cases a : tA = [] <;> by_cases b : tB = [] <;> simp [a, b]
theorem Two.serC (h : Two w s1 tA e1 s2 tB e2 rc) {x1 y1 x2 y2 : Int} (j1 : JP x1 y1 (arcAt w (-1, s1)) (arcAt w (-1, e2))) (j2 : JP x2 y2 (arcAt w (-1, s2)) (arcAt w (-1, e1))) :
    Cyc (rawC w x1 y1 x2 y2) ([tA ++ tB].filter fun t => decide (t ≠ [])) ∧ rings x1 y1 x2 y2 + (([tA ++ tB].filter fun t => decide (t ≠ [])).length : Int) = 1 := by
  obtain ⟨f1, f2, fi, fr⟩ := h.ends.ser j1 j2
  refine ⟨h.cyc fi ?_ fun C hC => ?_, ?_⟩
  · by_cases a : tA ++ tB = []
    · rw [List.filter_cons_of_neg (by simp [a]), a]
      rfl
    · rw [show ([tA ++ tB].filter fun t => decide (t ≠ [])) = [tA ++ tB] from List.filter_cons_of_pos (show decide (tA ++ tB ≠ []) = true from decide_eq_true a)]
      simp
  · obtain ⟨hm, hne⟩ := List.mem_filter.mp hC
    have hne : C ≠ [] := by simpa using hne
    rw [List.mem_singleton] at hm
    subst hm
    have P := (h.pA.map (f := jf x1 y1 x2 y2)).join (h.pB.map (f := jf x1 y1 x2 y2)) f2.symm
    exact path_cyc P f1 hne fun d hd => ⟨raw_arc h (h.inr d hd), raw_arc h (inr_opp (h.inr d hd))⟩
  · rw [fr]
    by_cases a : tA ++ tB = []
    · rw [if_pos a, List.filter_cons_of_neg (by simp [a])]
      rfl
    · rw [if_neg a, show ([tA ++ tB].filter fun t => decide (t ≠ [])) = [tA ++ tB] from List.filter_cons_of_pos (show decide (tA ++ tB ≠ []) = true from decide_eq_true a)]
      rfl
end
end TH
end

section
set_option autoImplicit false
set_option linter.all false
/-! Rows of numbers that go round, cleared: how many solve them. -/
namespace TH
/-! ### counting -/
theorem len_le_map {α β : Type} {A : List α} {B : List β} (f : α → β) (hA : A.Nodup) (hm : ∀ a ∈ A, f a ∈ B) (hi : ∀ a ∈ A, ∀ b ∈ A, f a = f b → a = b) : A.length ≤ B.length := by
  have hn : (A.map f).Nodup := by
    unfold List.Nodup
    rw [List.pairwise_map]
    refine List.Pairwise.imp_of_mem ?_ hA
    intro a b ha hb hab e
    exact hab (hi a ha b hb e)
  have := List.Nodup.length_le_of_subset hn (l₂ := B) fun x hx => by
    obtain ⟨a, ha, rfl⟩ := List.mem_map.mp hx
    exact hm a ha
  rw [List.length_map] at this
  exact this
theorem len_eq_map {α β : Type} {A : List α} {B : List β} (f : α → β) (g : β → α) (hA : A.Nodup) (hB : B.Nodup) (hf : ∀ a ∈ A, f a ∈ B) (hg : ∀ b ∈ B, g b ∈ A) (hgf : ∀ a ∈ A, g (f a) = a) (hfg : ∀ b ∈ B, f (g b) = b) : A.length = B.length :=
  Nat.le_antisymm (len_le_map f hA hf fun a ha b hb e => by rw [← hgf a ha, ← hgf b hb, e]) (len_le_map g hB hg fun a ha b hb e => by rw [← hfg a ha, ← hfg b hb, e])
/-! ### vectors -/
def InM (m : Nat) (a : Int) : Prop := 0 ≤ a ∧ a < (m : Int)
def vecs (m : Nat) : Nat → List (List Int)
  | 0 => [[]]
  | k + 1 => (List.range m).flatMap fun (a : Nat) => (vecs m k).map fun v => (a : Int) :: v
theorem mem_vecs {m : Nat} : ∀ {k : Nat} {v : List Int}, v ∈ vecs m k ↔ v.length = k ∧ ∀ a ∈ v, InM m a
  | 0, v => by
    rw [vecs, List.mem_singleton]
    constructor
    · rintro rfl; exact ⟨rfl, fun a h => by cases h⟩
    · rintro ⟨h, _⟩; exact List.length_eq_zero_iff.mp h
  | k + 1, v => by
    rw [vecs, List.mem_flatMap]
    constructor
    · rintro ⟨a, ha, h⟩
      obtain ⟨u, hu, rfl⟩ := List.mem_map.mp h
      have ha := List.mem_range.mp ha
      obtain ⟨h1, h2⟩ := mem_vecs.mp hu
      refine ⟨by rw [List.length_cons, h1], fun b hb => ?_⟩
      rcases List.mem_cons.mp hb with rfl | z
      · exact ⟨by omega, by omega⟩
      · exact h2 b z
    · rintro ⟨h1, h2⟩
      cases v with
      | nil => cases h1
      | cons a u =>
        have ⟨ha, hb⟩ := h2 a List.mem_cons_self
        refine ⟨a.toNat, List.mem_range.mpr (by omega), List.mem_map.mpr ⟨u, mem_vecs.mpr ⟨by simpa using h1, fun b hb => h2 b (List.mem_cons_of_mem _ hb)⟩, ?_⟩⟩
        rw [show ((a.toNat : Nat) : Int) = a by omega]
theorem vecs_nodup (m : Nat) : ∀ k, (vecs m k).Nodup
  | 0 => by simp [vecs]
  | k + 1 => by
    have ih := vecs_nodup m k
    have gen : ∀ l : List Nat, l.Nodup → (l.flatMap fun (a : Nat) => (vecs m k).map fun v => (a : Int) :: v).Nodup := by
      intro l
      induction l with
      | nil => exact fun _ => List.nodup_nil
      | cons a l ihl =>
        intro h
        rw [List.nodup_cons] at h
        rw [List.flatMap_cons, List.nodup_append]
        refine ⟨?_, ihl h.2, fun x hx y hy e => ?_⟩
        · unfold List.Nodup
          rw [List.pairwise_map]
          exact ih.imp fun h e => h (List.cons.inj e).2
        · obtain ⟨v, _, rfl⟩ := List.mem_map.mp hx
          obtain ⟨b, hb, hy⟩ := List.mem_flatMap.mp hy
          obtain ⟨u, _, rfl⟩ := List.mem_map.mp hy
          have := (List.cons.inj e).1
          have : a = b := by omega
          exact h.1 (by rw [this]; exact hb)
    exact gen _ List.nodup_range
theorem vecs_len (m : Nat) : ∀ k, (vecs m k).length = m ^ k
  | 0 => rfl
  | k + 1 => by
    rw [vecs, Nat.pow_succ, Nat.mul_comm]
    have gen : ∀ l : List Nat, (l.flatMap fun (a : Nat) => (vecs m k).map fun v => (a : Int) :: v).length = l.length * m ^ k := by
      intro l
      induction l with
      | nil => simp
      | cons a l ih => rw [List.flatMap_cons, List.length_append, List.length_map, vecs_len m k, ih, List.length_cons, Nat.add_mul]; omega
    rw [gen, List.length_range]
/-! ### products -/
def dot : List Int → List Int → Int
  | a :: r, x :: v => a * x + dot r v
  | _, _ => 0
theorem dot_sub {q m : Int} : ∀ {r h x : List Int}, r.length = h.length → m ∣ dot (subRow q r h m) x - (dot r x - q * dot h x)
  | [], [], x, _ => by simp [subRow, dot]
  | a :: r, b :: h, [], _ => by simp [dot, subRow]
  | a :: r, b :: h, y :: x, e => by
    have ih := dot_sub (q := q) (m := m) (r := r) (h := h) (x := x) (by simpa using e)
    show m ∣ (((a - q * b) % m) * y + dot (subRow q r h m) x) - ((a * y + dot r x) - q * (b * y + dot h x))
    have h1 : m ∣ ((a - q * b) % m - (a - q * b)) * y := by
      refine Int.dvd_trans ?_ (Int.dvd_mul_right _ _)
      exact ⟨-((a - q * b) / m), by have := Int.emod_add_mul_ediv (a - q * b) m; rw [Int.mul_neg]; omega⟩
    have e2 : (((a - q * b) % m) * y + dot (subRow q r h m) x) - ((a * y + dot r x) - q * (b * y + dot h x)) = ((a - q * b) % m - (a - q * b)) * y + (dot (subRow q r h m) x - (dot r x - q * dot h x)) := by
      rw [Int.sub_mul, Int.sub_mul, Int.mul_add, Int.mul_assoc]
      omega
    rw [e2]
    exact Int.dvd_add h1 ih
theorem dot_set : ∀ {r x : List Int} {c : Nat} (v : Int), r.length = x.length → c < x.length → dot r (x.set c v) = dot r x + r.getD c 0 * (v - x.getD c 0)
  | [], [], c, v, _, h => by simp at h
  | a :: r, y :: x, 0, v, _, _ => by
    show a * v + dot r x = a * y + dot r x + a * (v - y)
    rw [Int.mul_sub]
    omega
  | a :: r, y :: x, c + 1, v, h1, h2 => by
    show a * y + dot r (x.set c v) = a * y + dot r x + _
    rw [dot_set v (by simpa using h1) (by simpa using h2)]
    simp only [List.getD_cons_succ]
    omega
theorem dot_set_l : ∀ {r x : List Int} {c : Nat} (v : Int), r.length = x.length → c < x.length → dot (r.set c v) x = dot r x + (v - r.getD c 0) * x.getD c 0
  | [], [], c, v, _, h => by simp at h
  | a :: r, y :: x, 0, v, _, _ => by
    show v * y + dot r x = a * y + dot r x + (v - a) * y
    rw [Int.sub_mul]
    omega
  | a :: r, y :: x, c + 1, v, h1, h2 => by
    show a * y + dot (r.set c v) x = a * y + dot r x + _
    rw [dot_set_l v (by simpa using h1) (by simpa using h2)]
    simp only [List.getD_cons_succ]
    omega
theorem dot_split (e : Int) : ∀ (h x : List Int), dot h x = e * dot (h.map (· / e)) x + dot (h.map (· % e)) x
  | [], x => by simp [dot]
  | a :: h, [] => by simp [dot]
  | a :: h, y :: x => by
    have ih := dot_split e h x
    show a * y + dot h x = e * (a / e * y + dot (h.map (· / e)) x) + (a % e * y + dot (h.map (· % e)) x)
    have := Int.mul_ediv_add_emod a e
    rw [ih, Int.mul_add, ← Int.mul_assoc]
    have e2 : a * y = e * (a / e) * y + a % e * y := by rw [← Int.add_mul, this]
    omega
theorem dot_zero : ∀ (r x : List Int), (∀ a ∈ r, a = 0) → dot r x = 0
  | [], x, _ => by simp [dot]
  | a :: r, [], _ => by simp [dot]
  | a :: r, y :: x, h => by
    show a * y + dot r x = 0
    rw [dot_zero r x fun b hb => h b (List.mem_cons_of_mem _ hb), h a List.mem_cons_self]
    omega
/-! ### solutions -/
def solves (m : Nat) (rows : List (List Int)) (x : List Int) : Bool := rows.all fun r => decide (dot r x % (m : Int) = 0)
theorem solves_iff {m : Nat} {rows : List (List Int)} {x : List Int} : solves m rows x = true ↔ ∀ r ∈ rows, (m : Int) ∣ dot r x := by
  unfold solves
  rw [List.all_eq_true]
  constructor
  · intro h r hr
    exact Int.dvd_of_emod_eq_zero (of_decide_eq_true (h r hr))
  · intro h r hr
    exact decide_eq_true (Int.emod_eq_zero_of_dvd (h r hr))
def sols (m k : Nat) (rows : List (List Int)) : List (List Int) := (vecs m k).filter (solves m rows)
theorem mem_sols {m k : Nat} {rows : List (List Int)} {x : List Int} : x ∈ sols m k rows ↔ (x.length = k ∧ ∀ a ∈ x, InM m a) ∧ ∀ r ∈ rows, (m : Int) ∣ dot r x := by
  unfold sols
  rw [List.mem_filter, mem_vecs, solves_iff]
theorem sols_nodup (m k : Nat) (rows : List (List Int)) : (sols m k rows).Nodup := (vecs_nodup m k).filter _
theorem sols_all {m k : Nat} {rows : List (List Int)} (h : ∀ n ∈ rows.flatten, n = 0) : (sols m k rows).length = m ^ k := by
  rw [← vecs_len m k]
  congr 1
  refine List.filter_eq_self.mpr fun x _ => solves_iff.mpr fun r hr => ?_
  rw [dot_zero r x fun a ha => h a (List.mem_flatten.mpr ⟨r, hr, ha⟩)]
  exact Int.dvd_zero _
theorem InM.emod {m : Nat} (hm : 0 < m) (a : Int) : InM m (a % (m : Int)) := ⟨Int.emod_nonneg _ (by omega), Int.emod_lt_of_pos _ (by omega)⟩
/-- the change of one unknown -/
def shft (m : Nat) (q : List Int) (c : Nat) (s : Int) (x : List Int) : List Int := x.set c ((x.getD c 0 + s * dot q x) % (m : Int))
theorem mem_set_in {m : Nat} {x : List Int} {c : Nat} {v : Int} (hx : ∀ a ∈ x, InM m a) (hv : InM m v) : ∀ a ∈ x.set c v, InM m a := fun a ha => by
  rcases List.mem_or_eq_of_mem_set ha with z | z
  · exact hx a z
  · rw [z]; exact hv
theorem getD_set_self {x : List Int} {c : Nat} (h : c < x.length) (v : Int) : (x.set c v).getD c 0 = v := by
  rw [List.getD_eq_getElem?_getD, List.getElem?_set_self h]
  rfl
theorem getD_in {m : Nat} {x : List Int} {c : Nat} (h : c < x.length) (hx : ∀ a ∈ x, InM m a) : InM m (x.getD c 0) := by
  rw [List.getD_eq_getElem?_getD, List.getElem?_eq_getElem h]
  exact hx _ (List.getElem_mem _)
theorem shft_back {m : Nat} (hm : 0 < m) {q x : List Int} {c : Nat} {s : Int} (hl : q.length = x.length) (hc : c < x.length) (hq : q.getD c 0 = 0) (hx : ∀ a ∈ x, InM m a) : shft m q c (-s) (shft m q c s x) = x := by
  unfold shft
  rw [dot_set _ hl hc, hq, getD_set_self hc, List.set_set, Int.zero_mul, Int.add_zero]
  have : ((x.getD c 0 + s * dot q x) % (m : Int) + -s * dot q x) % (m : Int) = x.getD c 0 := by
    obtain ⟨h1, h2⟩ := getD_in hc hx
    rw [Int.emod_add_emod, Int.neg_mul, show x.getD c 0 + s * dot q x + -(s * dot q x) = x.getD c 0 by omega]
    exact Int.emod_eq_of_lt h1 h2
  rw [this]
  refine List.ext_getElem? fun i => ?_
  by_cases e : c = i
  · subst e
    rw [List.getElem?_set_self hc, List.getD_eq_getElem?_getD, List.getElem?_eq_getElem hc]
    rfl
  · rw [List.getElem?_set_ne e]
theorem shft_in {m : Nat} (hm : 0 < m) {q x : List Int} {c : Nat} {s : Int} {k : Nat} (h : x.length = k ∧ ∀ a ∈ x, InM m a) : (shft m q c s x).length = k ∧ ∀ a ∈ shft m q c s x, InM m a := by
  unfold shft
  exact ⟨by rw [List.length_set]; exact h.1, mem_set_in h.2 (InM.emod hm _)⟩
theorem shft_dot {m : Nat} {q x r : List Int} {c : Nat} {s : Int} (hl : r.length = x.length) (hc : c < x.length) : (m : Int) ∣ dot r (shft m q c s x) - (dot r x + r.getD c 0 * (s * dot q x)) := by
  unfold shft
  rw [dot_set _ hl hc]
  have : dot r x + r.getD c 0 * ((x.getD c 0 + s * dot q x) % (m : Int) - x.getD c 0) - (dot r x + r.getD c 0 * (s * dot q x)) = r.getD c 0 * ((x.getD c 0 + s * dot q x) % (m : Int) - (x.getD c 0 + s * dot q x)) := by
    rw [Int.mul_sub, Int.mul_sub, Int.mul_add]
    omega
  rw [this]
  refine Int.dvd_trans ?_ (Int.dvd_mul_left _ _)
  exact ⟨-((x.getD c 0 + s * dot q x) / (m : Int)), by have := Int.emod_add_mul_ediv (x.getD c 0 + s * dot q x) (m : Int); rw [Int.mul_neg]; omega⟩
/-- solutions carried over a change of one unknown -/
theorem sols_shft {m k : Nat} (hm : 0 < m) {A B : List (List Int)} {q : List Int} {c : Nat} (hq : q.length = k) (hc : c < k) (hq0 : q.getD c 0 = 0) (h : ∀ x : List Int, x.length = k → ((∀ r ∈ A, (m : Int) ∣ dot r x) ↔ ∀ r ∈ B, (m : Int) ∣ dot r (shft m q c 1 x))) : (sols m k A).length = (sols m k B).length := by
  refine len_eq_map (shft m q c 1) (shft m q c (-1)) (sols_nodup _ _ _) (sols_nodup _ _ _) (fun x hx => ?_) (fun y hy => ?_) (fun x hx => ?_) (fun y hy => ?_)
  · obtain ⟨h1, h2⟩ := mem_sols.mp hx
    exact mem_sols.mpr ⟨shft_in hm h1, (h x h1.1).mp h2⟩
  · obtain ⟨h1, h2⟩ := mem_sols.mp hy
    have hs := shft_in (q := q) (c := c) (s := -1) hm h1
    refine mem_sols.mpr ⟨hs, (h _ hs.1).mpr ?_⟩
    have := shft_back (s := -1) hm (by rw [hq, h1.1]) (by rw [h1.1]; exact hc) hq0 h1.2
    rw [Int.neg_neg] at this
    rw [this]
    exact h2
  · obtain ⟨h1, _⟩ := mem_sols.mp hx
    exact shft_back hm (by rw [hq, h1.1]) (by rw [h1.1]; exact hc) hq0 h1.2
  · obtain ⟨h1, _⟩ := mem_sols.mp hy
    have := shft_back (s := -1) hm (by rw [hq, h1.1]) (by rw [h1.1]; exact hc) hq0 h1.2
    rw [Int.neg_neg] at this
    exact this
/-! ### one unknown by itself -/
theorem split_count {m k c : Nat} (hc : c < k) (O : List Int → Bool) (hO : ∀ x v, x.length = k → O (x.set c v) = O x) : ∀ (l : List Nat), l.Nodup → (∀ a ∈ l, a < m) →
    ((vecs m k).filter fun x => O x && decide ((x.getD c 0).toNat ∈ l)).length = l.length * ((vecs m k).filter fun x => O x && decide (x.getD c 0 = 0)).length
  | [], _, _ => by simp
  | a :: l, hn, hl => by
    rw [List.nodup_cons] at hn
    have ih := split_count hc O hO l hn.2 fun b hb => hl b (List.mem_cons_of_mem _ hb)
    rw [List.length_cons, Nat.add_mul, ← ih]
    have e1 : ((vecs m k).filter fun x => O x && decide ((x.getD c 0).toNat ∈ a :: l)).length = ((vecs m k).filter fun x => O x && decide ((x.getD c 0).toNat = a)).length + ((vecs m k).filter fun x => O x && decide ((x.getD c 0).toNat ∈ l)).length := by
      generalize vecs m k = V
      induction V with
      | nil => rfl
      | cons x V ihV =>
        rw [List.filter_cons, List.filter_cons, List.filter_cons]
        cases hx : O x
        · simpa using ihV
        · by_cases h1 : (x.getD c 0).toNat = a
          · have h2 : (x.getD c 0).toNat ∉ l := by rw [h1]; exact hn.1
            have h3 : (x.getD c 0).toNat ∈ a :: l := by rw [h1]; exact List.mem_cons_self
            rw [decide_eq_true h1, decide_eq_false h2, decide_eq_true h3]
            simp only [Bool.and_self, if_true, Bool.and_false, Bool.false_eq_true, if_false, List.length_cons]
            omega
          · by_cases h2 : (x.getD c 0).toNat ∈ l
            · rw [decide_eq_false h1, decide_eq_true h2, decide_eq_true (List.mem_cons_of_mem _ h2)]
              simp only [Bool.and_self, if_true, Bool.and_false, Bool.false_eq_true, if_false, List.length_cons]
              omega
            · have h3 : (x.getD c 0).toNat ∉ a :: l := fun z => (List.mem_cons.mp z).elim h1 h2
              rw [decide_eq_false h1, decide_eq_false h2, decide_eq_false h3]
              simpa using ihV
    have e2 : ((vecs m k).filter fun x => O x && decide ((x.getD c 0).toNat = a)).length = ((vecs m k).filter fun x => O x && decide (x.getD c 0 = 0)).length := by
      have ha := hl a List.mem_cons_self
      have setset : ∀ (x : List Int) (u : Int), c < x.length → (x.set c u).set c (x.getD c 0) = x := fun x u h => by
        rw [List.set_set]
        refine List.ext_getElem? fun i => ?_
        by_cases e : c = i
        · subst e
          rw [List.getElem?_set_self h, List.getD_eq_getElem?_getD, List.getElem?_eq_getElem h]
          rfl
        · rw [List.getElem?_set_ne e]
      refine len_eq_map (fun x => x.set c 0) (fun x => x.set c (a : Int)) ((vecs_nodup m k).filter _) ((vecs_nodup m k).filter _) (fun x hx => ?_) (fun x hx => ?_) (fun x hx => ?_) (fun x hx => ?_)
      · obtain ⟨h1, h2⟩ := List.mem_filter.mp hx
        obtain ⟨h3, h4⟩ := mem_vecs.mp h1
        rw [Bool.and_eq_true] at h2
        refine List.mem_filter.mpr ⟨mem_vecs.mpr ⟨by rw [List.length_set]; exact h3, mem_set_in h4 ⟨Int.le_refl 0, by omega⟩⟩, ?_⟩
        rw [hO x 0 h3, h2.1, getD_set_self (by omega)]
        rfl
      · obtain ⟨h1, h2⟩ := List.mem_filter.mp hx
        obtain ⟨h3, h4⟩ := mem_vecs.mp h1
        rw [Bool.and_eq_true] at h2
        refine List.mem_filter.mpr ⟨mem_vecs.mpr ⟨by rw [List.length_set]; exact h3, mem_set_in h4 ⟨by omega, by omega⟩⟩, ?_⟩
        rw [hO x _ h3, h2.1, getD_set_self (by omega), Bool.true_and]
        exact decide_eq_true (by omega)
      · obtain ⟨h1, h2⟩ := List.mem_filter.mp hx
        obtain ⟨h3, h4⟩ := mem_vecs.mp h1
        rw [Bool.and_eq_true] at h2
        have h5 := of_decide_eq_true h2.2
        have h6 := getD_in (c := c) (by omega) h4
        have : (a : Int) = x.getD c 0 := by
          have := h6.1
          omega
        show (x.set c 0).set c (a : Int) = x
        rw [this]
        exact setset x 0 (by omega)
      · obtain ⟨h1, h2⟩ := List.mem_filter.mp hx
        obtain ⟨h3, h4⟩ := mem_vecs.mp h1
        rw [Bool.and_eq_true] at h2
        have h5 : x.getD c 0 = 0 := of_decide_eq_true h2.2
        show (x.set c (a : Int)).set c 0 = x
        rw [← h5]
        exact setset x _ (by omega)
    rw [e1, e2]
    omega
theorem gcd_count {m e : Nat} (hm : 0 < m) : ((List.range m).filter fun c => decide (m ∣ e * c)).length = Nat.gcd m e := by
  have hg : 0 < Nat.gcd m e := Nat.gcd_pos_of_pos_left _ hm
  obtain ⟨d, hd⟩ := Nat.gcd_dvd_left m e
  obtain ⟨e', he⟩ := Nat.gcd_dvd_right m e
  generalize hG : Nat.gcd m e = g at *
  have hdp : 0 < d := by
    rcases Nat.eq_zero_or_pos d with z | z
    · rw [z] at hd
      omega
    · exact z
  have cop : Nat.Coprime d e' := by
    have := Nat.coprime_div_gcd_div_gcd (m := m) (n := e) (by rw [hG]; exact hg)
    rw [hG] at this
    rw [hd, he, Nat.mul_div_cancel_left _ hg, Nat.mul_div_cancel_left _ hg] at this
    exact this
  have key : ∀ c, m ∣ e * c ↔ d ∣ c := fun c => by
    rw [hd, he, Nat.mul_assoc]
    constructor
    · intro h
      exact cop.dvd_of_dvd_mul_left (Nat.dvd_of_mul_dvd_mul_left hg h)
    · rintro ⟨t, rfl⟩
      exact Nat.mul_dvd_mul_left g ⟨e' * t, by rw [Nat.mul_left_comm]⟩
  have := len_eq_map (A := (List.range m).filter fun c => decide (m ∣ e * c)) (B := List.range g) (fun c => c / d) (fun t => t * d) (List.nodup_range.filter _) List.nodup_range (fun c hc => ?_) (fun t ht => ?_) (fun c hc => ?_) (fun t ht => ?_)
  · rw [this, List.length_range]
  · obtain ⟨h1, _⟩ := List.mem_filter.mp hc
    rw [List.mem_range] at h1 ⊢
    rw [Nat.div_lt_iff_lt_mul hdp, ← hd]
    exact h1
  · rw [List.mem_range] at ht
    refine List.mem_filter.mpr ⟨List.mem_range.mpr ?_, decide_eq_true ((key _).mpr ⟨t, Nat.mul_comm _ _⟩)⟩
    rw [hd]
    exact Nat.mul_lt_mul_of_pos_right ht hdp
  · obtain ⟨_, h2⟩ := List.mem_filter.mp hc
    exact Nat.div_mul_cancel ((key c).mp (of_decide_eq_true h2))
  · exact Nat.mul_div_cancel _ hdp
end TH
end

section
set_option autoImplicit false
set_option linter.all false
/-! Colours of tangles. -/
namespace TH
def Colm (m : Int) (w : Web) (y : Int → Int) : Prop := ∀ c ∈ w.cr, m ∣ y (c.getD 1 0) - y (c.getD 3 0) ∧ m ∣ y (c.getD 0 0) + y (c.getD 2 0) - 2 * y (c.getD 1 0)
structure Kap (w : Web) (κ : Int → Int) (D E : Int) : Prop where
  four : ∀ c ∈ w.cr, c.length = 4
  en : w.en.length = 4
  cr : ∀ c ∈ w.cr, κ (c.getD 1 0) = κ (c.getD 3 0) ∧ κ (c.getD 0 0) + κ (c.getD 2 0) = 2 * κ (c.getD 1 0)
  dd : κ (w.en.getD 0 0) - κ (w.en.getD 3 0) = D
  ee : κ (w.en.getD 0 0) - κ (w.en.getD 1 0) = E
  su : κ (w.en.getD 0 0) + κ (w.en.getD 2 0) = κ (w.en.getD 1 0) + κ (w.en.getD 3 0)
  ba : ∃ a0 a1, a0 ∈ arcs w ∧ a1 ∈ arcs w ∧ κ a0 = 0 ∧ κ a1 = 1 ∧ ∀ (m : Int) (y : Int → Int), Colm m w y → ∀ a ∈ arcs w, m ∣ y a - (y a0 + κ a * (y a1 - y a0))
theorem getD_mem4 {c : List Int} (h : c.length = 4) (j : Nat) (hj : j < 4) : c.getD j 0 ∈ c := by
  rw [List.getD_eq_getElem?_getD, List.getElem?_eq_getElem (by omega)]
  exact List.getElem_mem _
theorem getD_map4 {c : List Int} (f : Int → Int) (h : c.length = 4) (j : Nat) (hj : j < 4) : (c.map f).getD j 0 = f (c.getD j 0) := by
  rw [List.getD_eq_getElem?_getD, List.getD_eq_getElem?_getD, List.getElem?_map, List.getElem?_eq_getElem (by omega)]
  rfl
theorem cr_arcs {w : Web} {c : List Int} (hc : c ∈ w.cr) {a : Int} (ha : a ∈ c) : a ∈ arcs w := List.mem_append_left _ (List.mem_flatten.mpr ⟨c, hc, ha⟩)
theorem en_arcs {w : Web} (h : w.en.length = 4) (j : Nat) (hj : j < 4) : w.en.getD j 0 ∈ arcs w := List.mem_append_right _ (getD_mem4 h j hj)
def pre (f : Int → Int) (l : List Int) (x : Int) : Int := (l.find? fun a => decide (f a = x)).getD 0
theorem pre_spec {f : Int → Int} {l : List Int} {a : Int} (h : a ∈ l) : pre f l (f a) ∈ l ∧ f (pre f l (f a)) = f a := by
  unfold pre
  cases e : l.find? fun b => decide (f b = f a) with
  | none =>
    have := List.find?_eq_none.mp e a h
    simp at this
  | some b =>
    refine ⟨List.mem_of_find?_eq_some e, ?_⟩
    have := List.find?_some e
    exact of_decide_eq_true this
theorem Kap.ren {w : Web} {κ : Int → Int} {D E : Int} {f : Int → Int} (h : Kap w κ D E) (hf : InjOn f (arcs w)) : ∃ κ', Kap (ren f w) κ' D E := by
  have hp : ∀ a ∈ arcs w, κ (pre f (arcs w) (f a)) = κ a := fun a ha => by
    obtain ⟨h1, h2⟩ := pre_spec (f := f) ha
    rw [hf _ h1 _ ha h2]
  have c4 : ∀ c ∈ w.cr, ∀ j, j < 4 → κ (pre f (arcs w) ((c.map f).getD j 0)) = κ (c.getD j 0) := fun c hc j hj => by
    rw [getD_map4 f (h.four c hc) j hj]
    exact hp _ (cr_arcs hc (getD_mem4 (h.four c hc) j hj))
  have e4 : ∀ j, j < 4 → κ (pre f (arcs w) ((w.en.map f).getD j 0)) = κ (w.en.getD j 0) := fun j hj => by
    rw [getD_map4 f h.en j hj]
    exact hp _ (en_arcs h.en j hj)
  obtain ⟨a0, a1, i0, i1, k0, k1, hb⟩ := h.ba
  refine ⟨fun x => κ (pre f (arcs w) x), ⟨?_, ?_, ?_, ?_, ?_, ?_, f a0, f a1, ?_, ?_, ?_, ?_, ?_⟩⟩
  · intro c hc
    obtain ⟨d, hd, rfl⟩ := List.mem_map.mp hc
    rw [List.length_map]
    exact h.four d hd
  · show (w.en.map f).length = 4
    rw [List.length_map]
    exact h.en
  · intro c hc
    obtain ⟨d, hd, rfl⟩ := List.mem_map.mp hc
    rw [c4 d hd 1 (by decide), c4 d hd 3 (by decide), c4 d hd 0 (by decide), c4 d hd 2 (by decide)]
    exact h.cr d hd
  · show κ (pre f (arcs w) ((w.en.map f).getD 0 0)) - κ (pre f (arcs w) ((w.en.map f).getD 3 0)) = D
    rw [e4 0 (by decide), e4 3 (by decide)]
    exact h.dd
  · show κ (pre f (arcs w) ((w.en.map f).getD 0 0)) - κ (pre f (arcs w) ((w.en.map f).getD 1 0)) = E
    rw [e4 0 (by decide), e4 1 (by decide)]
    exact h.ee
  · show κ (pre f (arcs w) ((w.en.map f).getD 0 0)) + κ (pre f (arcs w) ((w.en.map f).getD 2 0)) = κ (pre f (arcs w) ((w.en.map f).getD 1 0)) + κ (pre f (arcs w) ((w.en.map f).getD 3 0))
    rw [e4 0 (by decide), e4 1 (by decide), e4 2 (by decide), e4 3 (by decide)]
    exact h.su
  · rw [arcs_ren]; exact List.mem_map.mpr ⟨a0, i0, rfl⟩
  · rw [arcs_ren]; exact List.mem_map.mpr ⟨a1, i1, rfl⟩
  · rw [hp a0 i0, k0]
  · rw [hp a1 i1, k1]
  · intro m y hy x hx
    rw [arcs_ren] at hx
    obtain ⟨a, ha, rfl⟩ := List.mem_map.mp hx
    have := hb m (fun z => y (f z)) (fun c hc => by
      have := hy (c.map f) (List.mem_map.mpr ⟨c, hc, rfl⟩)
      rw [getD_map4 f (h.four c hc) 1 (by decide), getD_map4 f (h.four c hc) 3 (by decide), getD_map4 f (h.four c hc) 0 (by decide), getD_map4 f (h.four c hc) 2 (by decide)] at this
      exact this) a ha
    rw [hp a ha]
    exact this
theorem Kap.turn {w : Web} {κ : Int → Int} {D E : Int} (h : Kap w κ D E) : Kap (turnW w) κ E (-D) := by
  obtain ⟨e0, e1, e2, e3, h4⟩ : ∃ e0 e1 e2 e3, w.en = [e0, e1, e2, e3] := by
    match q : w.en, h.en with
    | [a, b, c, d], _ => exact ⟨a, b, c, d, rfl⟩
  have hen : (turnW w).en = [e3, e0, e1, e2] := by unfold turnW; rw [h4]; rfl
  have hd := h.dd
  have he := h.ee
  have hs := h.su
  rw [h4] at hd he hs
  simp only [List.getD_cons_zero, List.getD_cons_succ] at hd he hs
  have harcs : ∀ a, a ∈ arcs (turnW w) ↔ a ∈ arcs w := fun a => by
    unfold arcs
    rw [hen, h4, List.mem_append, List.mem_append]
    show a ∈ w.cr.flatten ∨ _ ↔ _
    simp only [List.mem_cons, List.not_mem_nil, or_false]
    constructor
    · rintro (z | z | z | z | z)
      · exact .inl z
      · exact .inr (.inr (.inr (.inr z)))
      · exact .inr (.inl z)
      · exact .inr (.inr (.inl z))
      · exact .inr (.inr (.inr (.inl z)))
    · rintro (z | z | z | z | z)
      · exact .inl z
      · exact .inr (.inr (.inl z))
      · exact .inr (.inr (.inr (.inl z)))
      · exact .inr (.inr (.inr (.inr z)))
      · exact .inr (.inl z)
  obtain ⟨a0, a1, i0, i1, k0, k1, hb⟩ := h.ba
  refine ⟨h.four, by rw [hen]; rfl, h.cr, ?_, ?_, ?_, a0, a1, (harcs a0).mpr i0, (harcs a1).mpr i1, k0, k1, fun m y hy a ha => hb m y hy a ((harcs a).mp ha)⟩
  · rw [hen]
    show κ e3 - κ e2 = E
    omega
  · rw [hen]
    show κ e3 - κ e0 = -D
    omega
  · rw [hen]
    show κ e3 + κ e1 = κ e0 + κ e2
    omega
theorem Kap.twist {w : Web} {κ : Int → Int} {D E : Int} (h : Kap w κ D E) (s g k : Int) (hs : s = 1 ∨ s = -1) (hg : g ∉ arcs w) (hk : k ∉ arcs w) (hgk : g ≠ k) : ∃ κ', Kap (twW w s g k) κ' (D + s * E) E := by
  obtain ⟨e0, e1, e2, e3, h4⟩ : ∃ e0 e1 e2 e3, w.en = [e0, e1, e2, e3] := by
    match q : w.en, h.en with
    | [a, b, c, d], _ => exact ⟨a, b, c, d, rfl⟩
  have b2 : arcAt w (-1, 2) = e2 := by unfold arcAt; rw [if_pos rfl, h4]; rfl
  have b3 : arcAt w (-1, 3) = e3 := by unfold arcAt; rw [if_pos rfl, h4]; rfl
  have hen : (twW w s g k).en = [e0, e1, g, k] := by unfold twW addW; rw [h4]; rfl
  have hcr : (twW w s g k).cr = w.cr ++ [twC w s g k] := rfl
  have hd := h.dd
  have he := h.ee
  have hsu := h.su
  rw [h4] at hd he hsu
  simp only [List.getD_cons_zero, List.getD_cons_succ] at hd he hsu
  have m0 : e0 ∈ arcs w := by have := en_arcs h.en 0 (by decide); rw [h4] at this; exact this
  have m1 : e1 ∈ arcs w := by have := en_arcs h.en 1 (by decide); rw [h4] at this; exact this
  have m2 : e2 ∈ arcs w := by have := en_arcs h.en 2 (by decide); rw [h4] at this; exact this
  have m3 : e3 ∈ arcs w := by have := en_arcs h.en 3 (by decide); rw [h4] at this; exact this
  let kg : Int := if s = 1 then 2 * κ e2 - κ e3 else κ e3
  let kk : Int := if s = 1 then κ e2 else 2 * κ e3 - κ e2
  let κ' : Int → Int := fun x => if x = g then kg else if x = k then kk else κ x
  have old : ∀ a ∈ arcs w, κ' a = κ a := fun a ha => by
    show (if a = g then kg else if a = k then kk else κ a) = κ a
    rw [if_neg (fun z => hg (by rw [← z]; exact ha)), if_neg (fun z => hk (by rw [← z]; exact ha))]
  have ng : κ' g = kg := if_pos rfl
  have nk : κ' k = kk := by
    show (if k = g then kg else if k = k then kk else κ k) = kk
    rw [if_neg (fun z => hgk z.symm), if_pos rfl]
  have tl : (twC w s g k).length = 4 := by unfold twC; split <;> rfl
  have four : ∀ c ∈ (twW w s g k).cr, c.length = 4 := fun c hc => by
    rw [hcr] at hc
    rcases List.mem_append.mp hc with z | z
    · exact h.four c z
    · rw [List.mem_singleton.mp z]; exact tl
  have sub : ∀ a ∈ arcs w, a ∈ arcs (twW w s g k) := fun a ha => by
    unfold arcs at ha ⊢
    rw [hcr, hen, List.flatten_append]
    rcases List.mem_append.mp ha with z | z
    · exact List.mem_append_left _ (List.mem_append_left _ z)
    · rw [h4] at z
      simp only [List.mem_cons, List.not_mem_nil, or_false] at z
      rcases z with rfl | rfl | rfl | rfl
      · exact List.mem_append_right _ (by simp)
      · exact List.mem_append_right _ (by simp)
      · refine List.mem_append_left _ (List.mem_append_right _ ?_)
        simp only [List.flatten_cons, List.flatten_nil, List.append_nil]
        unfold twC
        rw [b2, b3]
        split <;> simp
      · refine List.mem_append_left _ (List.mem_append_right _ ?_)
        simp only [List.flatten_cons, List.flatten_nil, List.append_nil]
        unfold twC
        rw [b2, b3]
        split <;> simp
  have sup : ∀ a ∈ arcs (twW w s g k), a ∈ arcs w ∨ a = g ∨ a = k := fun a ha => by
    unfold arcs at ha
    rw [hcr, hen, List.flatten_append] at ha
    rcases List.mem_append.mp ha with z | z
    · rcases List.mem_append.mp z with z | z
      · exact .inl (List.mem_append_left _ z)
      · simp only [List.flatten_cons, List.flatten_nil, List.append_nil] at z
        unfold twC at z
        rw [b2, b3] at z
        split at z
        all_goals
          simp only [List.mem_cons, List.not_mem_nil, or_false] at z
          rcases z with rfl | rfl | rfl | rfl
          all_goals
            first
              | exact .inl m2
              | exact .inl m3
              | exact .inr (.inl rfl)
              | exact .inr (.inr rfl)
    · simp only [List.mem_cons, List.not_mem_nil, or_false] at z
      rcases z with rfl | rfl | rfl | rfl
      · exact .inl m0
      · exact .inl m1
      · exact .inr (.inl rfl)
      · exact .inr (.inr rfl)
  obtain ⟨a0, a1, i0, i1, k0, k1, hb⟩ := h.ba
  have oldc : ∀ c ∈ w.cr, ∀ j, j < 4 → κ' (c.getD j 0) = κ (c.getD j 0) := fun c hc j hj => old _ (cr_arcs hc (getD_mem4 (h.four c hc) j hj))
  refine ⟨κ', four, by rw [hen]; rfl, ?_, ?_, ?_, ?_, a0, a1, sub a0 i0, sub a1 i1, by rw [old a0 i0, k0], by rw [old a1 i1, k1], ?_⟩
  · intro c hc
    rw [hcr] at hc
    rcases List.mem_append.mp hc with z | z
    · rw [oldc c z 0 (by decide), oldc c z 1 (by decide), oldc c z 2 (by decide), oldc c z 3 (by decide)]
      exact h.cr c z
    · rw [List.mem_singleton.mp z]
      unfold twC
      rw [b2, b3]
      rcases hs with rfl | rfl
      · rw [if_pos rfl]
        show κ' e2 = κ' k ∧ κ' e3 + κ' g = 2 * κ' e2
        rw [nk, ng, old e2 m2, old e3 m3]
        show κ e2 = (if (1 : Int) = 1 then κ e2 else _) ∧ κ e3 + (if (1 : Int) = 1 then 2 * κ e2 - κ e3 else _) = 2 * κ e2
        rw [if_pos rfl, if_pos rfl]
        omega
      · rw [if_neg (by decide)]
        show κ' g = κ' e3 ∧ κ' e2 + κ' k = 2 * κ' g
        rw [nk, ng, old e2 m2, old e3 m3]
        show (if (-1 : Int) = 1 then _ else κ e3) = κ e3 ∧ κ e2 + (if (-1 : Int) = 1 then _ else 2 * κ e3 - κ e2) = 2 * (if (-1 : Int) = 1 then _ else κ e3)
        rw [if_neg (by decide), if_neg (by decide)]
        omega
  · rw [hen]
    show κ' e0 - κ' k = D + s * E
    rw [old e0 m0, nk]
    rcases hs with rfl | rfl
    · show κ e0 - (if (1 : Int) = 1 then κ e2 else _) = _
      rw [if_pos rfl]
      omega
    · show κ e0 - (if (-1 : Int) = 1 then _ else 2 * κ e3 - κ e2) = _
      rw [if_neg (by decide)]
      omega
  · rw [hen]
    show κ' e0 - κ' e1 = E
    rw [old e0 m0, old e1 m1]
    exact he
  · rw [hen]
    show κ' e0 + κ' g = κ' e1 + κ' k
    rw [old e0 m0, old e1 m1, ng, nk]
    rcases hs with rfl | rfl
    · show κ e0 + (if (1 : Int) = 1 then 2 * κ e2 - κ e3 else _) = κ e1 + (if (1 : Int) = 1 then κ e2 else _)
      rw [if_pos rfl, if_pos rfl]
      omega
    · show κ e0 + (if (-1 : Int) = 1 then _ else κ e3) = κ e1 + (if (-1 : Int) = 1 then _ else 2 * κ e3 - κ e2)
      rw [if_neg (by decide), if_neg (by decide)]
      omega
  · intro m y hy a ha
    have hb' := hb m y fun c hc => hy c (by rw [hcr]; exact List.mem_append_left _ hc)
    have hn := hy (twC w s g k) (by rw [hcr]; exact List.mem_append_right _ (by simp))
    unfold twC at hn
    rw [b2, b3] at hn
    have y2 := hb' e2 m2
    have y3 := hb' e3 m3
    generalize y a1 - y a0 = t at *
    generalize y a0 = u at *
    rcases sup a ha with z | rfl | rfl
    · rw [old a z]
      exact hb' a z
    · rw [ng]
      rcases hs with rfl | rfl
      · rw [if_pos rfl] at hn
        simp only [List.getD_cons_zero, List.getD_cons_succ] at hn
        show m ∣ y a - (u + (if (1 : Int) = 1 then 2 * κ e2 - κ e3 else _) * t)
        rw [if_pos rfl]
        have q := Int.dvd_sub (Int.dvd_add hn.2 (Int.dvd_mul_of_dvd_right y2 (b := 2))) y3
        have : y e3 + y a - 2 * y e2 + 2 * (y e2 - (u + κ e2 * t)) - (y e3 - (u + κ e3 * t)) = y a - (u + (2 * κ e2 - κ e3) * t) := by
          rw [Int.sub_mul, Int.mul_assoc]
          omega
        rw [this] at q
        exact q
      · rw [if_neg (by decide)] at hn
        simp only [List.getD_cons_zero, List.getD_cons_succ] at hn
        show m ∣ y a - (u + (if (-1 : Int) = 1 then _ else κ e3) * t)
        rw [if_neg (by decide)]
        have q := Int.dvd_add hn.1 y3
        have : y a - y e3 + (y e3 - (u + κ e3 * t)) = y a - (u + κ e3 * t) := by omega
        rw [this] at q
        exact q
    · rw [nk]
      rcases hs with rfl | rfl
      · rw [if_pos rfl] at hn
        simp only [List.getD_cons_zero, List.getD_cons_succ] at hn
        show m ∣ y a - (u + (if (1 : Int) = 1 then κ e2 else _) * t)
        rw [if_pos rfl]
        have q := Int.dvd_sub y2 hn.1
        have : y e2 - (u + κ e2 * t) - (y e2 - y a) = y a - (u + κ e2 * t) := by omega
        rw [this] at q
        exact q
      · rw [if_neg (by decide)] at hn
        simp only [List.getD_cons_zero, List.getD_cons_succ] at hn
        show m ∣ y a - (u + (if (-1 : Int) = 1 then _ else 2 * κ e3 - κ e2) * t)
        rw [if_neg (by decide)]
        have q := Int.dvd_sub (Int.dvd_add (Int.dvd_add hn.2 (Int.dvd_mul_of_dvd_right hn.1 (b := 2))) (Int.dvd_mul_of_dvd_right y3 (b := 2))) y2
        have : y e2 + y a - 2 * y g + 2 * (y g - y e3) + 2 * (y e3 - (u + κ e3 * t)) - (y e2 - (u + κ e2 * t)) = y a - (u + (2 * κ e3 - κ e2) * t) := by
          rw [Int.sub_mul, Int.mul_assoc]
          omega
        rw [this] at q
        exact q
theorem level_kap : Kap levelW (fun x => x) 0 (-1) := by
  refine ⟨(fun c hc => by cases hc), rfl, (fun c hc => by cases hc), rfl, rfl, rfl, 0, 1, by decide, by decide, rfl, rfl, fun m y hy a ha => ?_⟩
  have : a = 0 ∨ a = 1 := by
    have : a ∈ [(0 : Int), 1, 1, 0] := ha
    simp only [List.mem_cons, List.not_mem_nil, or_false] at this
    omega
  rcases this with rfl | rfl
  · rw [Int.zero_mul, Int.add_zero, Int.sub_self]; exact Int.dvd_zero _
  · rw [Int.one_mul, show y 0 + (y 1 - y 0) = y 1 by omega, Int.sub_self]; exact Int.dvd_zero _
/-! ### along the list -/
def KapV (w : Web) (v : Int × Int) : Prop := ∃ κ, Kap w κ v.1 v.2 ∨ Kap w κ (-v.1) (-v.2)
theorem KapV.turn {w : Web} {v : Int × Int} (h : KapV w v) : KapV (quarterM w) (-v.2, v.1) := by
  obtain ⟨κ, h | h⟩ := h
  · obtain ⟨κ', h'⟩ := h.turn.ren (InjOn.anew _)
    exact ⟨κ', .inr (by rw [Int.neg_neg]; exact h')⟩
  · obtain ⟨κ', h'⟩ := h.turn.ren (InjOn.anew _)
    exact ⟨κ', .inl (by rw [Int.neg_neg] at h'; exact h')⟩
theorem KapV.beside {w : Web} {d : Dt} {v : Int × Int} (hT : Tang w d) (h : KapV w v) (a : Int) : ∀ n : Nat, KapV (besideN w (halfW a) n) (v.1 + (n : Int) * ((if a < 0 then -1 else 1) * v.2), v.2)
  | 0 => by
    rw [show ((0 : Nat) : Int) = 0 from rfl, Int.zero_mul, Int.add_zero]
    exact h
  | n + 1 => by
    have ih := KapV.beside hT h a n
    obtain ⟨g, k, e, h1, h2, h3⟩ := (hT.beside a n).glue a
    rw [besideN, e]
    have hs : (if a < 0 then (-1 : Int) else 1) = 1 ∨ (if a < 0 then (-1 : Int) else 1) = -1 := by split; exact .inr rfl; exact .inl rfl
    generalize (if a < 0 then (-1 : Int) else 1) = s at *
    have en : v.1 + ((n + 1 : Nat) : Int) * (s * v.2) = v.1 + (n : Int) * (s * v.2) + s * v.2 := by
      rw [show ((n + 1 : Nat) : Int) = (n : Int) + 1 from rfl, Int.add_mul, Int.one_mul]
      omega
    rw [en]
    obtain ⟨κ, q | q⟩ := ih
    · obtain ⟨κ', q'⟩ := q.twist s g k hs h1 h2 h3
      obtain ⟨κ'', q''⟩ := q'.ren (InjOn.anew _)
      exact ⟨κ'', .inl q''⟩
    · obtain ⟨κ', q'⟩ := q.twist s g k hs h1 h2 h3
      obtain ⟨κ'', q''⟩ := q'.ren (InjOn.anew _)
      refine ⟨κ'', .inr ?_⟩
      simp only at q''
      rw [show -(v.1 + (n : Int) * (s * v.2) + s * v.2) = -(v.1 + (n : Int) * (s * v.2)) + s * -v.2 by rw [Int.mul_neg]; omega]
      exact q''
theorem kap_of {l : List Int} (h : l ≠ []) : KapV (twistedM l) (vecM l) := by
  have step : ∀ (w : Web) (d : Dt) (v : Int × Int) (a : Int), Tang w d → KapV w v → KapV (besideN w (halfW a) a.natAbs) (v.1 + a * v.2, v.2) := fun w d v a hT hK => by
    have := KapV.beside hT hK a a.natAbs
    have e : (a.natAbs : Int) * ((if a < 0 then -1 else 1) * v.2) = a * v.2 := by
      rw [← Int.mul_assoc]
      congr 1
      split <;> omega
    rw [e] at this
    exact this
  cases l with
  | nil => exact absurd rfl h
  | cons a r =>
    have t0 : Tang levelW (dS d0) := ⟨[], [], [], level_two, rfl, rfl⟩
    have k0 : KapV levelW (0, 1) := ⟨fun x => x, .inr level_kap⟩
    have t1 : Tang (stepW levelW a true) (powT (dT 1) (dT (-1)) a (dS d0)) := by
      rw [← tw_pow]
      exact t0.beside a _
    have k1 : KapV (stepW levelW a true) (a, 1) := by
      have := step levelW _ (0, 1) a t0 k0
      simp only [Int.mul_one, Int.zero_add] at this
      exact this
    show KapV (r.foldl (fun w b => stepW w b false) (stepW levelW a true)) (r.foldl (fun v a => (a * v.1 - v.2, v.1)) (a * 1 - 0, 1))
    rw [Int.mul_one, Int.sub_zero]
    generalize stepW levelW a true = w at t1 k1
    generalize powT (dT 1) (dT (-1)) a (dS d0) = d at t1
    generalize (a, (1 : Int)) = v at k1 ⊢
    clear h t0 k0
    induction r generalizing w d v with
    | nil => exact k1
    | cons b r ih =>
      rw [List.foldl_cons, List.foldl_cons]
      have t2 : Tang (stepW w b false) (powT (dT 1) (dT (-1)) b (dS d)) := by
        rw [← tw_pow]
        exact t1.quarter.beside b _
      refine ih (stepW w b false) (powT (dT 1) (dT (-1)) b (dS d)) t2 (b * v.1 - v.2, v.1) ?_
      have := step (quarterM w) (dS d) (-v.2, v.1) b t1.quarter k1.turn
      simp only at this
      rw [show -v.2 + b * v.1 = b * v.1 - v.2 by omega] at this
      exact this
end TH
end

section
set_option Elab.async false
set_option linter.all false
set_option maxRecDepth 100000
/-! The text by places, what stands on the heap, promises. -/
namespace TH
open PySem PySem.Spec PyProof.Rows L2

def topS (i : Nat) : Stmt := PySem.Challenge.pw_tanglehouse_k97_whole_one_value_one_tang.main.body.getD i (.Pass ⟨0, 0, 0, 0⟩)

/-! ### the module's names -/
structure Gb (mg : Str → Option Value) : Prop where
  enumerate : mg "enumerate" = none
  tuple : mg "tuple" = none
  list : mg "list" = none
  len : mg "len" = none
  max : mg "max" = none
  min : mg "min" = none
  sorted : mg "sorted" = none
  set : mg "set" = none
  sum : mg "sum" = none
  abs : mg "abs" = none
  range : mg "range" = none
  zip : mg "zip" = none
  rim : ∃ t, mg "RIM" = some (.int (-1) t)
section
variable (P : Program) (w : World) (K : PySem.W.Frag) (mg : Str → Option Value) (base : Heap)
/-- a def of the text stands -/
def Fn (x : Str) (st : Stmt) (ps : List Str) : Prop := ∃ (f : Addr) (fd : FuncData), Fun K x x st f fd ∧ mg x = some (.ref f) ∧ Binds K fd ps []
/-- it keeps its promise -/
def Ok (k : Nat) (x : Str) (ps : List Str) (sp : Sp) : Prop := ∃ (f : Addr) (fd : FuncData), FnOk P w K mg base CX0 k f fd ps sp ∧ mg x = some (.ref f) ∧ PySem.W.keepIn K (.ref f) = true ∧ Binds K fd ps []
end

/-! ### heaps -/
section
variable {K : PySem.W.Frag} {H H' H1 : Hp}
theorem same_upd {p : Addr} {o : HO} (h : H p = none) : Same H (upd H p o) := fun b x e => by
  rw [upd_ne (ne_of_none e h)]
  exact e
/-- what was there behind H, and a new or changed object beyond it -/
theorem same_over {p : Addr} {o : HO} (s : Same H H1) (h : H p = none) : Same H (upd H1 p o) := fun b x e => by
  rw [upd_ne (ne_of_none e h)]
  exact s _ _ e
theorem same_new {p : Addr} {o : HO} (s : Same H H1) (h : H1 p = none) : Same H (upd H1 p o) := s.trans (same_upd h)
theorem seqT_same {a : Addr} {xs : List V} (e : Same H H') (h : SqT K H a xs) : SqT K H' a xs := by
  rcases h with (h | ⟨o, h⟩) | h
  · exact .inl (.inl (e _ _ h))
  · exact .inl (.inr ⟨o, e _ _ h⟩)
  · exact .inr h
theorem free_of {p : Addr} (s : Same H H1) (h : H1 p = none) : H p = none := s.free h
mutual
theorem dp_same (e : Same H H') : ∀ (d : PyData) (v : V), Dp K H v d → Dp K H' v d
  | .none, _, h => by cases h; exact .non
  | .bool b, _, h => by cases h; exact .bl b
  | .int i, _, h => by cases h; exact .int i
  | .str x, _, h => by cases h; exact .str x
  | .list ds, _, h => by
    cases h with
    | lst hs ha => exact .lst (e.seq hs) (dpAll_same e ds _ ha)
  | .tuple ds, _, h => by
    cases h with
    | tup hs ha => exact .tup (seqT_same e hs) (dpAll_same e ds _ ha)
theorem dpAll_same (e : Same H H') : ∀ (ds : List PyData) (vs : List V), DpAll K H vs ds → DpAll K H' vs ds
  | [], _, h => by cases h; exact .nil
  | d :: ds, _, h => by
    cases h with
    | cons h1 h2 => exact .cons (dp_same e d _ h1) (dpAll_same e ds _ h2)
end
theorem dp_int {v : V} {i : Int} (h : Dp K H v (.int i)) : v = .int i := by cases h; rfl
theorem dp_bl {v : V} {b : Bool} (h : Dp K H v (.bool b)) : v = .bl b := by cases h; rfl
theorem dp_tup {v : V} {ds : List PyData} (h : Dp K H v (.tuple ds)) : ∃ a xs, v = .ref a ∧ SqT K H a xs ∧ DpAll K H xs ds := by
  cases h with
  | tup hs ha => exact ⟨_, _, rfl, hs, ha⟩
theorem dp_lst {v : V} {ds : List PyData} (h : Dp K H v (.list ds)) : ∃ a xs, v = .ref a ∧ SqL K H a xs ∧ DpAll K H xs ds := by
  cases h with
  | lst hs ha => exact ⟨_, _, rfl, hs, ha⟩
theorem dpAll_nil {xs : List V} (h : DpAll K H xs []) : xs = [] := by cases h; rfl
theorem dpAll_cons {xs : List V} {d : PyData} {ds : List PyData} (h : DpAll K H xs (d :: ds)) : ∃ x r, xs = x :: r ∧ Dp K H x d ∧ DpAll K H r ds := by
  cases h with
  | cons h1 h2 => exact ⟨_, _, rfl, h1, h2⟩
theorem dpAll_len : ∀ {ds : List PyData} {xs : List V}, DpAll K H xs ds → xs.length = ds.length
  | [], _, h => by cases h; rfl
  | _ :: ds, _, h => by
    cases h with
    | cons h1 h2 => rw [List.length_cons, List.length_cons, dpAll_len h2]
theorem dpAll_get : ∀ {ds : List PyData} {xs : List V} {i : Nat} {d : PyData}, DpAll K H xs ds → ds[i]? = some d → ∃ x, xs[i]? = some x ∧ Dp K H x d
  | [], _, i, d, _, e => by simp at e
  | _ :: ds, _, 0, d, h, e => by
    cases h with
    | cons h1 h2 =>
      cases e
      exact ⟨_, rfl, h1⟩
  | _ :: ds, _, i + 1, d, h, e => by
    cases h with
    | cons h1 h2 =>
      obtain ⟨x, a, b⟩ := dpAll_get (i := i) h2 (by simpa using e)
      exact ⟨x, by simpa using a, b⟩
theorem dpAll_at : ∀ {ds : List PyData} {xs : List V} {i : Nat} {x : V}, DpAll K H xs ds → xs[i]? = some x → ∃ d, ds[i]? = some d ∧ Dp K H x d
  | [], _, i, x, h, e => by cases h; simp at e
  | _ :: ds, _, 0, x, h, e => by
    cases h with
    | cons h1 h2 =>
      cases e
      exact ⟨_, rfl, h1⟩
  | _ :: ds, _, i + 1, x, h, e => by
    cases h with
    | cons h1 h2 =>
      obtain ⟨d, a, b⟩ := dpAll_at (i := i) h2 (by simpa using e)
      exact ⟨d, by simpa using a, b⟩
theorem dpAll_app : ∀ {ds es : List PyData} {xs ys : List V}, DpAll K H xs ds → DpAll K H ys es → DpAll K H (xs ++ ys) (ds ++ es)
  | [], _, _, _, h, g => by cases h; exact g
  | _ :: ds, _, _, _, h, g => by
    cases h with
    | cons h1 h2 => exact .cons h1 (dpAll_app h2 g)
theorem dpAll_ints : ∀ {ns : List Int} {xs : List V}, DpAll K H xs (ns.map PyData.int) → xs = ns.map V.int
  | [], _, h => by cases h; rfl
  | n :: ns, _, h => by
    cases h with
    | cons h1 h2 =>
      cases h1
      rw [dpAll_ints h2]
      rfl
theorem dpAll_of_ints : ∀ (ns : List Int), DpAll K H (ns.map V.int) (ns.map PyData.int)
  | [] => .nil
  | n :: ns => .cons (.int n) (dpAll_of_ints ns)
theorem dpAll_one {x : V} {d : PyData} (h : Dp K H x d) : DpAll K H [x] [d] := .cons h .nil
theorem dpAll_take : ∀ {ds : List PyData} {xs : List V} (n : Nat), DpAll K H xs ds → DpAll K H (xs.take n) (ds.take n)
  | _, _, 0, _ => .nil
  | [], _, n + 1, h => by cases h; exact .nil
  | _ :: ds, _, n + 1, h => by
    cases h with
    | cons h1 h2 => exact .cons h1 (dpAll_take n h2)
theorem dpAll_drop : ∀ {ds : List PyData} {xs : List V} (n : Nat), DpAll K H xs ds → DpAll K H (xs.drop n) (ds.drop n)
  | _, _, 0, h => h
  | [], _, n + 1, h => by cases h; exact .nil
  | _ :: ds, _, n + 1, h => by
    cases h with
    | cons h1 h2 => exact dpAll_drop n h2

theorem ints_at {ns : List Int} {j : Nat} {x : V} (e : (ns.map V.int)[j]? = some x) : ∃ a, ns[j]? = some a ∧ x = .int a := by
  rw [List.getElem?_map] at e
  obtain ⟨a, h, r⟩ := Option.map_eq_some_iff.mp e
  exact ⟨a, h, r.symm⟩
/-! ### webs, spots -/
def tupI (ns : List Int) : PyData := .tuple (ns.map PyData.int)
def crD (cr : List (List Int)) : PyData := .tuple (cr.map tupI)
def webD (w : Web) : PyData := .tuple [crD w.cr, tupI w.en, .int w.rg]
theorem dp_tupI {v : V} {ns : List Int} (h : Dp K H v (tupI ns)) : ∃ a, v = .ref a ∧ SqT K H a (ns.map V.int) := by
  obtain ⟨a, xs, e, hs, ha⟩ := dp_tup h
  rw [dpAll_ints ha] at hs
  exact ⟨a, e, hs⟩
theorem tupI_dp {a : Addr} {ns : List Int} (h : SqT K H a (ns.map V.int)) : Dp K H (.ref a) (tupI ns) := .tup h (dpAll_of_ints ns)
theorem tupI_new {p : Addr} {ns : List Int} : Dp K (upd H p (.tup (ns.map V.int))) (.ref p) (tupI ns) := tupI_dp (.inl (.inl upd_same))
/-- a web at v: its address, its crossings', its ends' -/
theorem dp_web {v : V} {w : Web} (h : Dp K H v (webD w)) : ∃ a c e cs, v = .ref a ∧ SqT K H a [.ref c, .ref e, .int w.rg] ∧ SqT K H c cs ∧ DpAll K H cs (w.cr.map tupI) ∧ SqT K H e (w.en.map V.int) := by
  obtain ⟨a, xs, ev, hs, ha⟩ := dp_tup h
  obtain ⟨x, r, rfl, h1, h2⟩ := dpAll_cons ha
  obtain ⟨y, r2, rfl, h3, h4⟩ := dpAll_cons h2
  obtain ⟨z, r3, rfl, h5, h6⟩ := dpAll_cons h4
  cases dpAll_nil h6
  cases dp_int h5
  obtain ⟨c, cs, rfl, hc, hcs⟩ := dp_tup h1
  obtain ⟨e, rfl, he⟩ := dp_tupI h3
  exact ⟨a, c, e, cs, ev, hs, hc, hcs, he⟩
theorem web_dp {a c e : Addr} {cs : List V} {w : Web} (h1 : SqT K H a [.ref c, .ref e, .int w.rg]) (h2 : SqT K H c cs) (h3 : DpAll K H cs (w.cr.map tupI)) (h4 : SqT K H e (w.en.map V.int)) : Dp K H (.ref a) (webD w) :=
  .tup h1 (.cons (.tup h2 h3) (.cons (tupI_dp h4) (.cons (.int w.rg) .nil)))
/-- a spot's own tuple -/
def SpV (H : Hp) (v : V) (s : Spot) : Prop := ∃ a, v = .ref a ∧ H a = some (.tup [.int s.1, .int s.2])
theorem SpV.same {v : V} {s : Spot} (e : Same H H') (h : SpV H v s) : SpV H' v s := let ⟨a, b, c⟩ := h; ⟨a, b, e _ _ c⟩
abbrev SpL (H : Hp) : List V → List Spot → Prop := Paired (SpV H)
theorem SpL.same {vs : List V} {ss : List Spot} (e : Same H H') (h : SpL H vs ss) : SpL H' vs ss := Paired.mapP h fun _ _ q => q.same e
theorem Paired.app {α β : Type} {F : α → β → Prop} : ∀ {l₁ m₁ : List α} {l₂ m₂ : List β}, Paired F l₁ l₂ → Paired F m₁ m₂ → Paired F (l₁ ++ m₁) (l₂ ++ m₂)
  | _, _, _, _, .nil, h => h
  | _, _, _, _, .cons r t, h => .cons r (Paired.app t h)
theorem Paired.at1 {α β : Type} {F : α → β → Prop} : ∀ {l₁ : List α} {l₂ : List β} {i : Nat} {x : α}, Paired F l₁ l₂ → l₁[i]? = some x → ∃ y, l₂[i]? = some y ∧ F x y
  | _, _, _, _, .nil, e => by simp at e
  | _, _, 0, _, .cons r _, e => by cases e; exact ⟨_, rfl, r⟩
  | _, _, i + 1, x, .cons _ t, e => by
    obtain ⟨y, a, b⟩ := Paired.at1 (i := i) t (by simpa using e)
    exact ⟨y, by simpa using a, b⟩
theorem Paired.at2 {α β : Type} {F : α → β → Prop} : ∀ {l₁ : List α} {l₂ : List β} {i : Nat} {y : β}, Paired F l₁ l₂ → l₂[i]? = some y → ∃ x, l₁[i]? = some x ∧ F x y
  | _, _, _, _, .nil, e => by simp at e
  | _, _, 0, _, .cons r _, e => by cases e; exact ⟨_, rfl, r⟩
  | _, _, i + 1, y, .cons _ t, e => by
    obtain ⟨x, a, b⟩ := Paired.at2 (i := i) t (by simpa using e)
    exact ⟨x, by simpa using a, b⟩
end

/-! ### data without lists: it stays whatever lists and dicts do -/
structure KT (H H' : Hp) : Prop where
  tup : ∀ b xs, H b = some (.tup xs) → H' b = some (.tup xs)
  frz : ∀ b o u, H b = some (.frz o u) → H' b = some (.frz o u)
mutual
def noL : PyData → Bool
  | .list _ => false
  | .tuple ds => noLs ds
  | _ => true
def noLs : List PyData → Bool
  | [] => true
  | d :: ds => noL d && noLs ds
end
section
variable {K : PySem.W.Frag} {H H' H1 : Hp}
theorem KT.refl : KT H H := ⟨fun _ _ h => h, fun _ _ _ h => h⟩
theorem KT.trans (a : KT H H1) (b : KT H1 H') : KT H H' := ⟨fun c xs h => b.tup c xs (a.tup c xs h), fun c o u h => b.frz c o u (a.frz c o u h)⟩
theorem KT.of (s : Same H H') : KT H H' := ⟨fun _ _ h => s _ _ h, fun _ _ _ h => s _ _ h⟩
theorem KT.new {p : Addr} {o : HO} (h : H p = none) : KT H (upd H p o) := .of (same_upd h)
theorem KT.lst {p : Addr} {o : HO} {ys : List V} (h : H p = some (.lst ys)) : KT H (upd H p o) :=
  ⟨fun b xs e => by rw [upd_ne (ne_of e h (by intro z; cases z))]; exact e, fun b q u e => by rw [upd_ne (ne_of e h (by intro z; cases z))]; exact e⟩
theorem KT.dK {p : Addr} {o : HO} {ys : List (Key × V)} (h : H p = some (.dK ys)) : KT H (upd H p o) :=
  ⟨fun b xs e => by rw [upd_ne (ne_of e h (by intro z; cases z))]; exact e, fun b q u e => by rw [upd_ne (ne_of e h (by intro z; cases z))]; exact e⟩
theorem KT.dT {p : Addr} {o : HO} {ys : List (List Key × V)} (h : H p = some (.dT ys)) : KT H (upd H p o) :=
  ⟨fun b xs e => by rw [upd_ne (ne_of e h (by intro z; cases z))]; exact e, fun b q u e => by rw [upd_ne (ne_of e h (by intro z; cases z))]; exact e⟩
theorem seqT_kt {a : Addr} {xs : List V} (k : KT H H') (h : SqT K H a xs) : SqT K H' a xs := by
  rcases h with (h | ⟨o, h⟩) | h
  · exact .inl (.inl (k.tup _ _ h))
  · exact .inl (.inr ⟨o, k.frz _ _ _ h⟩)
  · exact .inr h
mutual
theorem dp_kt (e : KT H H') : ∀ (d : PyData) (v : V), noL d = true → Dp K H v d → Dp K H' v d
  | .none, _, _, h => by cases h; exact .non
  | .bool b, _, _, h => by cases h; exact .bl b
  | .int i, _, _, h => by cases h; exact .int i
  | .str x, _, _, h => by cases h; exact .str x
  | .list ds, _, n, _ => absurd n (by simp [noL])
  | .tuple ds, _, n, h => by
    cases h with
    | tup hs ha => exact .tup (seqT_kt e hs) (dpAll_kt e ds _ (by simpa [noL] using n) ha)
theorem dpAll_kt (e : KT H H') : ∀ (ds : List PyData) (vs : List V), noLs ds = true → DpAll K H vs ds → DpAll K H' vs ds
  | [], _, _, h => by cases h; exact .nil
  | d :: ds, _, n, h => by
    have n : (noL d && noLs ds) = true := n
    rw [Bool.and_eq_true] at n
    cases h with
    | cons h1 h2 => exact .cons (dp_kt e d _ n.1 h1) (dpAll_kt e ds _ n.2 h2)
end
theorem noLs_ints : ∀ ns : List Int, noLs (ns.map PyData.int) = true
  | [] => rfl
  | n :: ns => by
    show (noL (.int n) && noLs (ns.map PyData.int)) = true
    rw [noLs_ints ns]
    rfl
theorem noL_tupI (ns : List Int) : noL (tupI ns) = true := noLs_ints ns
theorem noLs_map {α : Type} {f : α → PyData} (h : ∀ a, noL (f a) = true) : ∀ l : List α, noLs (l.map f) = true
  | [] => rfl
  | a :: l => by
    show (noL (f a) && noLs (l.map f)) = true
    rw [h a, noLs_map h l]
    rfl
theorem noL_web (w : Web) : noL (webD w) = true := by
  show (noL (crD w.cr) && (noL (tupI w.en) && (noL (.int w.rg) && noLs []))) = true
  rw [noL_tupI, show noL (crD w.cr) = true from noLs_map noL_tupI w.cr]
  rfl
theorem SpV.kt {v : V} {s : Spot} (e : KT H H') (h : SpV H v s) : SpV H' v s := let ⟨a, b, c⟩ := h; ⟨a, b, e.tup _ _ c⟩
theorem SpL.kt {vs : List V} {ss : List Spot} (e : KT H H') (h : SpL H vs ss) : SpL H' vs ss := Paired.mapP h fun _ _ q => q.kt e
end

/-! ### small webs -/
structure Small (w : Web) : Prop where
  cr : w.cr.length ≤ 200
  sp : (allSpots w).length ≤ 1000

/-! ### rules whose reading is named, for blocks -/
def rTupOf (K : PySem.W.Frag) : List V → Hp → VK → Prop := fun xs H Q => ∃ p ys, xs = [.ref p] ∧ ((SqL K H p ys ∧ ∀ l, H l = none → Q (.ref l) (upd H l (.tup ys))) ∨ (SqT K H p ys ∧ Q (.ref p) H))
def rLenSeq (K : PySem.W.Frag) : List V → Hp → VK → Prop := fun xs H Q => ∃ p ys, xs = [.ref p] ∧ (SqL K H p ys ∨ SqT K H p ys) ∧ Q (.int ys.length) H
theorem call_tupK {X : Cx} : CallR X (.type "tuple") (rTupOf X.K) := call_tuple_of
theorem call_lenK {X : Cx} : CallR X (.builtin "len") (rLenSeq X.K) := call_len_seq
theorem boot_tup : bootBuiltins "tuple" = some (.type "tuple") := by decide +kernel
theorem boot_absB : bootBuiltins "abs" = some (.builtin "abs") := by decide +kernel

/-! ### walks of enumerate -/
section
variable {K : PySem.W.Frag} {a d : Addr} {xs : List V} {o : Obj}
theorem walk_enumT : Walk (IteT K a) xs.length (fun H => SqT K H a xs) (YPair (fun i => some (.int (i : Nat))) (fun i => xs[i]?)) := by
  refine ⟨fun i _ hi q => ⟨xs, xs[i], q, by simp [hi]⟩, fun _ q => ⟨xs, q, rfl⟩, fun i H v H' _ q y => ?_⟩
  obtain ⟨T, x, h1, h2, h3, h4⟩ := y
  exact ⟨T, .int (i : Nat), x, h1, h2, h3, rfl, h4 xs q⟩
theorem walk_enumD {kvs : List (Key × V)} : Walk (IteD d o kvs) kvs.length (fun H => H d = some (.frz o (.dK kvs))) (YPair (fun i => some (.int (i : Nat))) (fun i => kvs[i]?.map fun kv => kV kv.1)) := by
  refine ⟨fun _ _ hi q => ⟨q, hi⟩, fun _ q => ⟨q, rfl⟩, fun i H v H' _ _ y => ?_⟩
  obtain ⟨T, k, x, h1, h2, h3, h4⟩ := y
  exact ⟨T, .int (i : Nat), kV k, h2, h3, h4, rfl, by simp [h1]⟩
end
end TH
end

section
set_option Elab.async false
set_option linter.all false
set_option maxRecDepth 100000
namespace TH
open PySem PySem.Spec PyProof.Rows L2

/-! ### places -/
theorem Paired.split {α β : Type} {F : α → β → Prop} : ∀ {l₁ m₁ : List α} {l₂ : List β}, Paired F (l₁ ++ m₁) l₂ → ∃ a b, l₂ = a ++ b ∧ Paired F l₁ a ∧ Paired F m₁ b
  | [], m₁, l₂, h => ⟨[], l₂, rfl, .nil, h⟩
  | x :: l₁, m₁, _, h => by
    cases h with
    | cons r t =>
      obtain ⟨a, b, rfl, h1, h2⟩ := Paired.split t
      exact ⟨_ :: a, b, rfl, .cons r h1, h2⟩
theorem Paired.consInv {α β : Type} {F : α → β → Prop} {x : α} {l : List α} {m : List β} (h : Paired F (x :: l) m) : ∃ y r, m = y :: r ∧ F x y ∧ Paired F l r := by
  cases h with
  | cons r t => exact ⟨_, _, rfl, r, t⟩
theorem Paired.nilInv {α β : Type} {F : α → β → Prop} {m : List β} (h : Paired F ([] : List α) m) : m = [] := by
  cases h
  rfl
theorem putP_at : ∀ {P1 P2 : List (Int × List Spot)} {q : Int × List Spot} {a : Int} {s : Spot}, (∀ x ∈ P1, x.1 ≠ a) → q.1 = a → putP (P1 ++ q :: P2) a s = P1 ++ (q.1, q.2 ++ [s]) :: P2
  | [], P2, q, a, s, _, e => by
    show (if q.1 = a then (q.1, q.2 ++ [s]) :: P2 else q :: putP P2 a s) = _
    rw [if_pos e]
    rfl
  | x :: P1, P2, q, a, s, h, e => by
    show (if x.1 = a then (x.1, x.2 ++ [s]) :: (P1 ++ q :: P2) else x :: putP (P1 ++ q :: P2) a s) = _
    rw [if_neg (h x List.mem_cons_self), putP_at (fun y hy => h y (List.mem_cons_of_mem _ hy)) e]
    rfl
theorem putP_none : ∀ {P : List (Int × List Spot)} {a : Int} {s : Spot}, (∀ x ∈ P, x.1 ≠ a) → putP P a s = P ++ [(a, [s])]
  | [], _, _, _ => rfl
  | x :: P, a, s, h => by
    show (if x.1 = a then (x.1, x.2 ++ [s]) :: P else x :: putP P a s) = _
    rw [if_neg (h x List.mem_cons_self), putP_none fun y hy => h y (List.mem_cons_of_mem _ hy)]
    rfl
theorem length_putP : ∀ (P : List (Int × List Spot)) (a : Int) (s : Spot), (putP P a s).length ≤ P.length + 1
  | [], _, _ => Nat.le_refl _
  | x :: P, a, s => by
    show (if x.1 = a then (x.1, x.2 ++ [s]) :: P else x :: putP P a s).length ≤ _
    split
    · simp
    · have := length_putP P a s
      simp
      omega
theorem deep_putP {n : Nat} : ∀ (P : List (Int × List Spot)) (a : Int) (s : Spot), (∀ x ∈ P, x.2.length ≤ n) → ∀ x ∈ putP P a s, x.2.length ≤ n + 1
  | [], a, s, _, x, hx => by
    have e : x = (a, [s]) := by simpa [putP] using hx
    subst e
    simp
  | y :: P, a, s, h, x, hx => by
    have hx : x ∈ (if y.1 = a then (y.1, y.2 ++ [s]) :: P else y :: putP P a s) := hx
    split at hx
    · rcases List.mem_cons.mp hx with e | m
      · subst e
        have := h y List.mem_cons_self
        simp
        omega
      · have := h x (List.mem_cons_of_mem _ m)
        omega
    · rcases List.mem_cons.mp hx with e | m
      · subst e
        have := h x List.mem_cons_self
        omega
      · exact deep_putP P a s (fun z hz => h z (List.mem_cons_of_mem _ hz)) x m
theorem placesOf_snoc (l : List (Int × Spot)) (a : Int) (s : Spot) : placesOf (l ++ [(a, s)]) [] = putP (placesOf l []) a s := by
  unfold placesOf
  rw [List.foldl_append]
  rfl
theorem placesOf_len (l : List (Int × Spot)) : (placesOf l []).length ≤ l.length ∧ ∀ x ∈ placesOf l [], x.2.length ≤ l.length := by
  suffices ∀ (l : List (Int × Spot)) (acc : List (Int × List Spot)) (n : Nat), acc.length ≤ n → (∀ x ∈ acc, x.2.length ≤ n) → (placesOf l acc).length ≤ n + l.length ∧ ∀ x ∈ placesOf l acc, x.2.length ≤ n + l.length by
    have q := this l [] 0 (Nat.le_refl _) (fun x hx => by simp at hx)
    simpa using q
  intro l
  induction l with
  | nil => intro acc n h1 h2; exact ⟨h1, h2⟩
  | cons p l ih =>
    intro acc n h1 h2
    have q := ih (putP acc p.1 p.2) (n + 1) (Nat.le_trans (length_putP _ _ _) (by omega)) (deep_putP _ _ _ h2)
    have e : n + (p :: l).length = n + 1 + l.length := by simp; omega
    rw [e]
    exact q
abbrev PE3 := Int × Addr × List V
def kvE (E : List PE3) : List (Key × V) := E.map fun e => (Sum.inl e.1, V.ref e.2.1)
/-- the dict of arcs and their places, beyond H0 -/
def PlD (H0 H : Hp) (p : Addr) (ps : List (Int × List Spot)) : Prop := ∃ E : List PE3, H p = some (.dK (kvE E)) ∧ (∀ e ∈ E, H e.2.1 = some (.lst e.2.2) ∧ H0 e.2.1 = none) ∧ (E.map (·.2.1)).Nodup ∧
  Paired (fun e q => e.1 = q.1 ∧ SpL H e.2.2 q.2) E ps
theorem valE : ∀ {E : List PE3} {a : Int} {v : V}, valV (kvE E) (Sum.inl a) = some v → ∃ E1 e E2, E = E1 ++ e :: E2 ∧ e.1 = a ∧ v = .ref e.2.1 ∧ ∀ x ∈ E1, x.1 ≠ a
  | [], a, v, h => by simp [kvE, valV] at h
  | e :: E, a, v, h => by
    by_cases q : e.1 = a
    · have h : valV ((Sum.inl e.1, V.ref e.2.1) :: kvE E) (Sum.inl a) = some v := h
      rw [valV_pos (by rw [q])] at h
      exact ⟨[], e, E, rfl, q, (Option.some.inj h).symm, fun x hx => by simp at hx⟩
    · have h : valV ((Sum.inl e.1, V.ref e.2.1) :: kvE E) (Sum.inl a) = some v := h
      rw [valV_neg (fun z => q (Sum.inl.inj z))] at h
      obtain ⟨E1, e', E2, rfl, h1, h2, h3⟩ := valE h
      exact ⟨e :: E1, e', E2, rfl, h1, h2, fun x hx => by
        rcases List.mem_cons.mp hx with z | z
        · rw [z]; exact q
        · exact h3 x z⟩
theorem valE_none {E : List PE3} {a : Int} (h : valV (kvE E) (Sum.inl a) = none) : ∀ x ∈ E, x.1 ≠ a := fun x hx e => by
  have m : (Sum.inl a : Key) ∈ (kvE E).map (·.1) := List.mem_map.mpr ⟨(Sum.inl x.1, V.ref x.2.1), List.mem_map.mpr ⟨x, hx, rfl⟩, by rw [e]⟩
  exact valV_not h m
/-- the way through setdefault and append, the arc there -/
theorem pl_old {H0 H : Hp} {p q t : Addr} {a k j : Int} {l : List (Int × Spot)} {E1 E2 : List PE3} {e : PE3} (s : Same H0 H) (hp : H0 p = none) (hE : H p = some (.dK (kvE (E1 ++ e :: E2))))
    (hA : ∀ x ∈ E1 ++ e :: E2, H x.2.1 = some (.lst x.2.2) ∧ H0 x.2.1 = none) (hn : ((E1 ++ e :: E2).map (·.2.1)).Nodup) (hP : Paired (fun e q => e.1 = q.1 ∧ SpL H e.2.2 q.2) (E1 ++ e :: E2) (placesOf l []))
    (ea : e.1 = a) (h1 : ∀ x ∈ E1, x.1 ≠ a) (nq : H q = none) (nt : (upd H q (.lst [])) t = none) :
    Same H0 (upd (upd (upd H q (.lst [])) t (.tup [.int k, .int j])) e.2.1 (.lst (e.2.2 ++ [.ref t]))) ∧
    PlD H0 (upd (upd (upd H q (.lst [])) t (.tup [.int k, .int j])) e.2.1 (.lst (e.2.2 ++ [.ref t]))) p (placesOf (l ++ [(a, (k, j))]) []) := by
  have me : e ∈ E1 ++ e :: E2 := List.mem_append_right _ List.mem_cons_self
  have he := hA e me
  have neq : e.2.1 ≠ q := ne_of_none he.1 nq
  have net : e.2.1 ≠ t := ne_of_none (H := upd H q (.lst [])) (by rw [upd_ne neq]; exact he.1) nt
  have nep : p ≠ e.2.1 := ne_of hE he.1 (by intro z; cases z)
  have npq : p ≠ q := ne_of_none hE nq
  have npt : p ≠ t := ne_of_none (H := upd H q (.lst [])) (by rw [upd_ne npq]; exact hE) nt
  have nqt : q ≠ t := fun z => by
    rw [← z, upd_same] at nt
    cases nt
  have nt0 : H t = none := by
    rw [upd_ne (Ne.symm nqt)] at nt
    exact nt
  have s2 : Same H (upd (upd H q (.lst [])) t (.tup [.int k, .int j])) := same_new (same_upd nq) nt
  have tt : ∀ {x : V} {sp : Spot}, SpV H x sp → SpV (upd (upd (upd H q (.lst [])) t (.tup [.int k, .int j])) e.2.1 (.lst (e.2.2 ++ [.ref t]))) x sp := fun {x sp} ⟨b, h3, h4⟩ => by
    refine ⟨b, h3, ?_⟩
    rw [upd_ne (ne_of h4 he.1 (by intro z; cases z))]
    exact s2 _ _ h4
  refine ⟨same_over (s.trans s2) he.2, E1 ++ (e.1, e.2.1, e.2.2 ++ [.ref t]) :: E2, ?_, fun x hx => ?_, ?_, ?_⟩
  · rw [upd_ne nep, s2 _ _ hE]
    unfold kvE
    rw [List.map_append, List.map_append]
    rfl
  · rw [List.map_append, List.map_cons, List.nodup_append] at hn
    obtain ⟨n1, n2, n3⟩ := hn
    have n2' := (List.nodup_cons.mp n2).1
    rcases List.mem_append.mp hx with m | m
    · have q1 := hA x (List.mem_append_left _ m)
      have ne : x.2.1 ≠ e.2.1 := n3 x.2.1 (List.mem_map.mpr ⟨x, m, rfl⟩) e.2.1 List.mem_cons_self
      rw [upd_ne ne]
      exact ⟨s2 _ _ q1.1, q1.2⟩
    · rcases List.mem_cons.mp m with z | m
      · subst z
        exact ⟨upd_same, he.2⟩
      · have q1 := hA x (List.mem_append_right _ (List.mem_cons_of_mem _ m))
        have ne : x.2.1 ≠ e.2.1 := fun z => n2' (by rw [← z]; exact List.mem_map.mpr ⟨x, m, rfl⟩)
        rw [upd_ne ne]
        exact ⟨s2 _ _ q1.1, q1.2⟩
  · have e3 : (E1 ++ (e.1, e.2.1, e.2.2 ++ [V.ref t]) :: E2).map (·.2.1) = (E1 ++ e :: E2).map (·.2.1) := by simp
    rw [e3]
    exact hn
  · obtain ⟨P1, P2, eP, hP1, hP2⟩ := Paired.split hP
    obtain ⟨y, r, rfl, ⟨f1, f2⟩, hP3⟩ := Paired.consInv hP2
    rw [placesOf_snoc, eP, putP_at ?_ (f1.symm.trans ea)]
    · refine Paired.app (Paired.mapP hP1 fun z1 z2 ⟨g1, g2⟩ => ⟨g1, Paired.mapP g2 fun _ _ => tt⟩) (.cons ⟨f1, ?_⟩ (Paired.mapP hP3 fun z1 z2 ⟨g1, g2⟩ => ⟨g1, Paired.mapP g2 fun _ _ => tt⟩))
      refine Paired.app (Paired.mapP f2 fun _ _ => tt) (.cons ⟨t, rfl, ?_⟩ .nil)
      rw [upd_ne (Ne.symm net), upd_same]
    · intro z hz
      obtain ⟨i, hi⟩ := List.getElem?_of_mem hz
      obtain ⟨x, hx, g1, _⟩ := Paired.at2 hP1 hi
      rw [← g1]
      exact h1 x (List.mem_of_getElem? hx)
/-- .. the arc not there -/
theorem pl_new {H0 H : Hp} {p q t : Addr} {a k j : Int} {l : List (Int × Spot)} {E : List PE3} (s : Same H0 H) (hp : H0 p = none) (hE : H p = some (.dK (kvE E)))
    (hA : ∀ x ∈ E, H x.2.1 = some (.lst x.2.2) ∧ H0 x.2.1 = none) (hn : (E.map (·.2.1)).Nodup) (hP : Paired (fun e q => e.1 = q.1 ∧ SpL H e.2.2 q.2) E (placesOf l []))
    (hv : valV (kvE E) (Sum.inl a) = none) (nq : H q = none) (nt : (upd (upd H q (.lst [])) p (.dK (putK (kvE E) (Sum.inl a) (.ref q)))) t = none) :
    Same H0 (upd (upd (upd (upd H q (.lst [])) p (.dK (putK (kvE E) (Sum.inl a) (.ref q)))) t (.tup [.int k, .int j])) q (.lst ([] ++ [.ref t]))) ∧
    PlD H0 (upd (upd (upd (upd H q (.lst [])) p (.dK (putK (kvE E) (Sum.inl a) (.ref q)))) t (.tup [.int k, .int j])) q (.lst ([] ++ [.ref t]))) p (placesOf (l ++ [(a, (k, j))]) []) := by
  have npq : p ≠ q := ne_of_none hE nq
  have ntp : t ≠ p := fun z => by
    rw [z, upd_same] at nt
    cases nt
  have ntq : t ≠ q := fun z => by
    rw [z, upd_ne npq.symm, upd_same] at nt
    cases nt
  have nt0 : H t = none := by
    rw [upd_ne ntp, upd_ne ntq] at nt
    exact nt
  have q0 : H0 q = none := s.free nq
  have t0 : H0 t = none := s.free nt0
  have gen : ∀ b o, b ≠ p → H b = some o → (upd (upd (upd (upd H q (.lst [])) p (.dK (putK (kvE E) (Sum.inl a) (.ref q)))) t (.tup [.int k, .int j])) q (.lst ([] ++ [.ref t]))) b = some o := fun b o h1 h2 => by
    rw [upd_ne (ne_of_none h2 nq), upd_ne (ne_of_none h2 nt0), upd_ne h1, upd_ne (ne_of_none h2 nq)]
    exact h2
  have none := valE_none hv
  have tt : ∀ {x : V} {sp : Spot}, SpV H x sp → SpV (upd (upd (upd (upd H q (.lst [])) p (.dK (putK (kvE E) (Sum.inl a) (.ref q)))) t (.tup [.int k, .int j])) q (.lst ([] ++ [.ref t]))) x sp := fun {x sp} ⟨b, h3, h4⟩ =>
    ⟨b, h3, gen _ _ (ne_of h4 hE (by intro z; cases z)) h4⟩
  refine ⟨fun b o e => gen b o (ne_of_none e hp) (s _ _ e), E ++ [(a, q, [.ref t])], ?_, fun x hx => ?_, ?_, ?_⟩
  · rw [upd_ne npq, upd_ne (Ne.symm ntp), upd_same, putK_new _ hv]
    unfold kvE
    rw [List.map_append]
    rfl
  · rcases List.mem_append.mp hx with m | m
    · have q1 := hA x m
      exact ⟨gen _ _ (ne_of q1.1 hE (by intro z; cases z)) q1.1, q1.2⟩
    · have z : x = (a, q, [.ref t]) := by simpa using m
      subst z
      exact ⟨upd_same, q0⟩
  · rw [List.map_append]
    refine nd_snoc hn fun m => ?_
    obtain ⟨x, hx, e⟩ := List.mem_map.mp m
    have q1 := (hA x hx).1
    rw [show x.2.1 = q from e, nq] at q1
    cases q1
  · rw [placesOf_snoc, putP_none]
    · refine Paired.app (Paired.mapP hP fun z1 z2 ⟨g1, g2⟩ => ⟨g1, Paired.mapP g2 fun _ _ => tt⟩) (.cons ⟨rfl, .cons ⟨t, rfl, ?_⟩ .nil⟩ .nil)
      rw [upd_ne ntq, upd_same]
    · intro z hz
      obtain ⟨i, hi⟩ := List.getElem?_of_mem hz
      obtain ⟨x, hx, g1, _⟩ := Paired.at2 hP hi
      rw [← g1]
      exact none x (List.mem_of_getElem? hx)

/-- all spots of a prefix are in the dict at p -/
structure PlI (H0 H : Hp) (p : Addr) (l : List (Int × Spot)) : Prop where
  same : Same H0 H
  new : H0 p = none
  dict : PlD H0 H p (placesOf l [])
theorem PlI.start {H0 H : Hp} {p : Addr} (s : Same H0 H) (hp : H p = none) : PlI H0 (upd H p (.dK [])) p [] :=
  ⟨same_new s hp, s.free hp, [], upd_same, (fun e h => by simp at h), List.nodup_nil, .nil⟩
/-- a new tuple is laid beside -/
theorem PlI.aside {H0 H H1 : Hp} {p : Addr} {l : List (Int × Spot)} (I : PlI H0 H p l) (s : Same H H1) : PlI H0 H1 p l := by
  obtain ⟨h1, h2, E, h3, h4, h5, h6⟩ := I
  exact ⟨h1.trans s, h2, E, s _ _ h3, fun e he => ⟨s _ _ (h4 e he).1, (h4 e he).2⟩, h5, Paired.mapP h6 fun _ _ ⟨g1, g2⟩ => ⟨g1, g2.same s⟩⟩
/-- the list v is there to be appended to -/
def PutGo (K : PySem.W.Frag) (H0 : Hp) (p : Addr) (l : List (Int × Spot)) (a : Int) (v : V) (H1 : Hp) : Prop := tyV K "list" v H1 ∧ ∀ (k j : Int) (t : Addr), H1 t = none →
  ∃ l' xs, v = .ref l' ∧ (upd H1 t (.tup [.int k, .int j])) l' = some (.lst xs) ∧ xs.length < sizeLine ∧ PlI H0 (upd (upd H1 t (.tup [.int k, .int j])) l' (.lst (xs ++ [.ref t]))) p (l ++ [(a, (k, j))])
/-- found.setdefault(a, []).append((k, j)), behind [] -/
theorem PlI.put {K : PySem.W.Frag} {H0 H : Hp} {p : Addr} {l : List (Int × Spot)} (I : PlI H0 H p l) (hl : l.length ≤ 1000) (a : Int) {q : Addr} (nq : H q = none) :
    ∃ (kvs : List (Key × V)), (upd H q (.lst [])) p = some (.dK kvs) ∧ kvs.length < sizeLine ∧ (∀ v, valV kvs (Sum.inl a) = some v → PutGo K H0 p l a v (upd H q (.lst []))) ∧
      (valV kvs (Sum.inl a) = none → PutGo K H0 p l a (.ref q) (upd (upd H q (.lst [])) p (.dK (putK kvs (Sum.inl a) (.ref q))))) := by
  obtain ⟨s, hp, E, hE, hA, hn, hP⟩ := I
  have npq : p ≠ q := ne_of_none hE nq
  have hlen : E.length ≤ 1000 := by
    rw [Paired.length hP]
    exact Nat.le_trans (placesOf_len l).1 hl
  refine ⟨kvE E, by rw [upd_ne npq]; exact hE, small1000 (by unfold kvE; rw [List.length_map]; exact hlen), fun v hv => ?_, fun hv => ?_⟩
  · obtain ⟨E1, e, E2, rfl, ea, rfl, h1⟩ := valE hv
    have me : e ∈ E1 ++ e :: E2 := List.mem_append_right _ List.mem_cons_self
    have neq : e.2.1 ≠ q := ne_of_none (hA e me).1 nq
    have el : (upd H q (.lst [])) e.2.1 = some (.lst e.2.2) := by rw [upd_ne neq]; exact (hA e me).1
    refine ⟨.inl ⟨rfl, _, .inl (.inl el)⟩, fun k j t nt => ?_⟩
    have net : e.2.1 ≠ t := ne_of_none el nt
    obtain ⟨h2, h3⟩ := pl_old (k := k) (j := j) (l := l) s hp hE hA hn hP ea h1 nq nt
    refine ⟨e.2.1, e.2.2, rfl, by rw [upd_ne net]; exact el, small1000 ?_, ⟨h2, hp, h3⟩⟩
    obtain ⟨i, hi⟩ := List.getElem?_of_mem me
    obtain ⟨y, hy, _, g2⟩ := Paired.at1 hP hi
    rw [Paired.length g2]
    exact Nat.le_trans ((placesOf_len l).2 y (List.mem_of_getElem? hy)) hl
  · have el : (upd (upd H q (.lst [])) p (.dK (putK (kvE E) (Sum.inl a) (.ref q)))) q = some (.lst []) := by rw [upd_ne npq.symm, upd_same]
    refine ⟨.inl ⟨rfl, _, .inl (.inl el)⟩, fun k j t nt => ?_⟩
    have nqt : q ≠ t := ne_of_none el nt
    obtain ⟨h2, h3⟩ := pl_new (k := k) (j := j) (l := l) s hp hE hA hn hP hv nq nt
    exact ⟨q, [], rfl, by rw [upd_ne nqt]; exact el, by decide, ⟨h2, hp, h3⟩⟩

abbrev sPlaces : Stmt := topS 3
theorem scPl : FnScope ["web", "found", "number", "crossing", "place", "arc"] ["web"] (defScope sPlaces) := ⟨rfl, rfl, rfl, by decide +kernel, rfl, by decide +kernel, by decide +kernel⟩
def spPlaces (K : PySem.W.Frag) : Sp := fun vs H Q _ => ∃ v w, vs = [v] ∧ Dp K H v (webD w) ∧ Small w ∧ ∀ H' p, Same H H' → H p = none → PlD H H' p (places w) → Q (.ref p) H'
section
variable {P : Program} {w : World} {K : PySem.W.Frag} {mg : Str → Option Value} {base : Heap}
theorem crSpots_len : ∀ (cr : List (List Int)) (n : Nat), (crSpots cr n).length = (cr.map List.length).sum
  | [], _ => rfl
  | c :: r, n => by
    show (spotsAt (n : Int) c ++ crSpots r (n + 1)).length = _
    rw [List.length_append, crSpots_len r (n + 1)]
    simp [spotsAt]
theorem crSpots_take : ∀ {cr : List (List Int)} {n i : Nat} {c : List Int}, cr[i]? = some c → crSpots (cr.take (i + 1)) n = crSpots (cr.take i) n ++ spotsAt ((n + i : Nat) : Int) c
  | [], _, _, _, h => by simp at h
  | x :: r, n, 0, c, h => by
    have e : x = c := Option.some.inj h
    subst e
    show spotsAt (n : Int) x ++ crSpots [] (n + 1) = [] ++ spotsAt ((n + 0 : Nat) : Int) x
    simp [crSpots]
  | x :: r, n, i + 1, c, h => by
    have ih := crSpots_take (cr := r) (n := n + 1) (i := i) (c := c) h
    show spotsAt (n : Int) x ++ crSpots (r.take (i + 1)) (n + 1) = (spotsAt (n : Int) x ++ crSpots (r.take i) (n + 1)) ++ spotsAt ((n + (i + 1) : Nat) : Int) c
    rw [ih, List.append_assoc, show n + 1 + i = n + (i + 1) by omega]
theorem spotsAt_take {k : Int} {c : List Int} {j : Nat} {a : Int} (h : c[j]? = some a) : (spotsAt k c).take (j + 1) = (spotsAt k c).take j ++ [(a, (k, (j : Int)))] := by
  have q : (spotsAt k c)[j]? = some (a, (k, (j : Int))) := by
    unfold spotsAt
    rw [List.getElem?_map, List.getElem?_zipIdx, h]
    simp
  rw [List.take_add_one, q]
  rfl
theorem spotsAt_len (k : Int) (c : List Int) : (spotsAt k c).length = c.length := by simp [spotsAt]
theorem allSpots_len (w : Web) : (allSpots w).length = (w.cr.map List.length).sum + w.en.length := by
  unfold allSpots
  rw [List.length_append, crSpots_len, spotsAt_len]
theorem crSpots_le {cr : List (List Int)} {i : Nat} {n : Nat} {c : List Int} (h : cr[i]? = some c) : (crSpots (cr.take i) n).length + c.length ≤ (crSpots cr n).length := by
  have e := congrArg List.length (crSpots_take (n := n) h)
  rw [List.length_append, spotsAt_len, crSpots_len, crSpots_len] at e
  rw [crSpots_len, crSpots_len]
  have q : ((cr.take (i + 1)).map List.length).sum ≤ (cr.map List.length).sum := by
    have z : cr = cr.take (i + 1) ++ cr.drop (i + 1) := (List.take_append_drop _ _).symm
    rw [congrArg (fun t => (t.map List.length).sum) z, List.map_append, List.sum_append]
    simp
  omega
theorem ok_places (F : Fn K mg "places" sPlaces ["web"]) (g : Gb mg) : Ok P w K mg base 1 "places" ["web"] (spPlaces K) := by
  obtain ⟨f, fd, FF, m, b⟩ := F
  obtain ⟨rt, hrim⟩ := g.rim
  refine ⟨f, fd, ?_, m, FF.kp, b⟩
  refine FF.ok scPl (fun vs H Q E h => ?_) (fun cdv A outer s H vs Q E hr h => ?_)
  · obtain ⟨v, w, rfl, _⟩ := h
    rfl
  · obtain ⟨v, w, rfl, hD, ⟨_, hL⟩, q⟩ := h
    have hu := hu_of hr
    refine ⟨_, (pss_cons (ps_set (i := 1) scPl.nd rfl (.inl rfl) pe_dnewK)
 (pss_cons (ps_for PassesOwn.never rfl (pi_enumT (by rfl) g.enumerate (pa_cons (pe_ix ix_tup (pv 0) pe_int (fun _ _ => rfl)) pa_nil)) (pg_tup rfl (pgs_cons (pg_name (i := 2) scPl.nd rfl (.inl rfl)) (pgs_cons (pg_name (i := 3) scPl.nd rfl (.inl rfl)) pgs_nil)))
 (pss_one (ps_for PassesOwn.never rfl (pi_enumT (by rfl) g.enumerate (pa_cons (pv 3) pa_nil)) (pg_tup rfl (pgs_cons (pg_name (i := 4) scPl.nd rfl (.inl rfl)) (pgs_cons (pg_name (i := 5) scPl.nd rfl (.inl rfl)) pgs_nil)))
 (pss_one (ps_expr (pe_bm PySem.F.plainAttrs_list PySem.F.slot_list_append PySem.F.type_list_append mt_append (pe_dsetd (pv 1) (pv 5) (pe_lst pa_nil) ⟨rfl, rfl, rfl, rfl⟩) (pa_cons (pe_tup (pa_cons (pv 2) (pa_cons (pv 4) pa_nil))) pa_nil)))))))
 (pss_cons (ps_for PassesOwn.never rfl (pi_enumT (by rfl) g.enumerate (pa_cons (pe_ix ix_tup (pv 0) pe_int (fun _ _ => rfl)) pa_nil)) (pg_tup rfl (pgs_cons (pg_name (i := 4) scPl.nd rfl (.inl rfl)) (pgs_cons (pg_name (i := 5) scPl.nd rfl (.inl rfl)) pgs_nil)))
 (pss_one (ps_expr (pe_bm PySem.F.plainAttrs_list PySem.F.slot_list_append PySem.F.type_list_append mt_append (pe_dsetd (pv 1) (pv 5) (pe_lst pa_nil) ⟨rfl, rfl, rfl, rfl⟩) (pa_cons (pe_tup (pa_cons (pe_glob (v := .int (-1)) (by rfl) hrim ⟨_, rfl⟩) (pa_cons (pv 4) pa_nil))) pa_nil)))))
 (pss_one (ps_ret (pv 1)))))), ?_⟩
    obtain ⟨aw, ac, ae, cs, rfl, hW, hC, hCs, hE⟩ := dp_web hD
    refine fun p np => ?_
    have i0 : PlI H (upd H p (.dK [])) p [] := PlI.start (Same.refl H) np
    have hlc := dpAll_len hCs
    have la : (crSpots w.cr 0).length + w.en.length ≤ 1000 := by
      rw [allSpots_len] at hL
      rw [crSpots_len]
      exact hL
    refine ⟨.ref aw, rfl, aw, _, 0, _, rfl, rfl, seqT_same i0.same hW, atI_nat (j := 0) rfl, ac, cs, rfl, seqT_same i0.same hC, for_it walk_enumT
      (fun i σ H3 => ∃ y2 y3 y4 y5, σ = [some (.ref aw), some (.ref p), y2, y3, y4, y5] ∧ PlI H H3 p (crSpots (w.cr.take i) 0)) ⟨none, none, none, none, rfl, by simpa [crSpots] using i0⟩
      (fun i σ H3 _ ⟨_, _, _, _, _, I⟩ => seqT_same I.same hC) ?_ ?_⟩
    · rintro i x σ H3 H4 hi ⟨y2, y3, y4, y5, rfl, I⟩ ⟨T, x1, x2, rfl, nT, rfl, e1, e2⟩
      cases e1
      obtain ⟨d, hd, hx⟩ := dpAll_at hCs e2
      rw [List.getElem?_map] at hd
      obtain ⟨c, hc, rfl⟩ := Option.map_eq_some_iff.mp hd
      obtain ⟨ax, rfl, hX⟩ := dp_tupI hx
      have I2 := I.aside (same_upd (o := .tup [.int (i : Nat), .ref ax]) nT)
      have lc := crSpots_le (n := 0) hc
      refine ⟨T, _, rfl, .inl (.inl upd_same), rfl, _, _, rfl, _, _, rfl, rfl, ?_⟩
      refine ⟨.ref ax, rfl, ax, _, rfl, seqT_same I2.same hX, for_it walk_enumT
        (fun j σ H3 => ∃ y4 y5, σ = [some (.ref aw), some (.ref p), some (.int (i : Nat)), some (.ref ax), y4, y5] ∧ PlI H H3 p (crSpots (w.cr.take i) 0 ++ (spotsAt (i : Int) c).take j)) ⟨y4, y5, rfl, by simpa using I2⟩
        (fun j σ H3 _ ⟨_, _, _, I⟩ => seqT_same I.same hX) ?_ ?_⟩
      · rintro j x σ H5 H6 hj ⟨y4, y5, rfl, I3⟩ ⟨T2, x1, x2, rfl, nT2, rfl, e1, e2⟩
        cases e1
        obtain ⟨a, ha, rfl⟩ := ints_at e2
        have I4 := I3.aside (same_upd (o := .tup [.int (j : Nat), .int a]) nT2)
        rw [List.length_map] at hj
        refine ⟨T2, _, rfl, .inl (.inl upd_same), rfl, _, _, rfl, _, _, rfl, rfl, ?_⟩
        obtain ⟨E0, hE0, _⟩ := id I4.dict
        refine ⟨.ref p, rfl, p, rfl, .inl ⟨_, .inl hE0⟩, .int a, rfl, Nat.zero_le _, fun q nq => ?_⟩
        obtain ⟨kvs, g1, g2, g3, g4⟩ := I4.put (K := K) (by
          rw [List.length_append, List.length_take, spotsAt_len]
          omega) a nq
        refine ⟨kvs, Sum.inl a, g1, rfl, g2, fun v hv => ?_, fun hv => ?_⟩
        · obtain ⟨ty, go⟩ := g3 v hv
          refine ⟨ty, .int (i : Nat), rfl, .int (j : Nat), rfl, (by show 2 ≤ sizeLine; decide), fun t nt => ?_⟩
          obtain ⟨l', xs, e1, e2, e3, I5⟩ := go _ _ t nt
          rw [List.append_assoc, ← spotsAt_take ha] at I5
          exact ⟨l', xs, _, e1, rfl, e2, e3, _, _, rfl, I5⟩
        · obtain ⟨ty, go⟩ := g4 hv
          refine ⟨ty, .int (i : Nat), rfl, .int (j : Nat), rfl, (by show 2 ≤ sizeLine; decide), fun t nt => ?_⟩
          obtain ⟨l', xs, e1, e2, e3, I5⟩ := go _ _ t nt
          rw [List.append_assoc, ← spotsAt_take ha] at I5
          exact ⟨l', xs, _, e1, rfl, e2, e3, _, _, rfl, I5⟩
      · rintro σ H5 ⟨y4, y5, rfl, I3⟩
        refine ⟨_, _, _, _, rfl, ?_⟩
        rw [crSpots_take hc, Nat.zero_add]
        rw [List.take_of_length_le (l := spotsAt (i : Int) c) (by rw [spotsAt_len, List.length_map]; exact Nat.le_refl _)] at I3
        exact I3
    · rintro σ H3 ⟨y2, y3, y4, y5, rfl, I⟩
      rw [hlc, List.length_map, List.take_length] at I
      refine ⟨.ref aw, rfl, aw, _, 1, _, rfl, rfl, seqT_same I.same hW, atI_nat (j := 1) rfl, ae, _, rfl, seqT_same I.same hE, for_it walk_enumT
        (fun j σ H3 => ∃ y4 y5, σ = [some (.ref aw), some (.ref p), y2, y3, y4, y5] ∧ PlI H H3 p (crSpots w.cr 0 ++ (spotsAt (-1) w.en).take j)) ⟨y4, y5, rfl, by simpa using I⟩
        (fun j σ H3 _ ⟨_, _, _, I⟩ => seqT_same I.same hE) ?_ ?_⟩
      · rintro j x σ H5 H6 hj ⟨y4, y5, rfl, I3⟩ ⟨T2, x1, x2, rfl, nT2, rfl, e1, e2⟩
        cases e1
        obtain ⟨a, ha, rfl⟩ := ints_at e2
        have I4 := I3.aside (same_upd (o := .tup [.int (j : Nat), .int a]) nT2)
        rw [List.length_map] at hj
        refine ⟨T2, _, rfl, .inl (.inl upd_same), rfl, _, _, rfl, _, _, rfl, rfl, ?_⟩
        obtain ⟨E0, hE0, _⟩ := id I4.dict
        refine ⟨.ref p, rfl, p, rfl, .inl ⟨_, .inl hE0⟩, .int a, rfl, Nat.zero_le _, fun q nq => ?_⟩
        obtain ⟨kvs, g1, g2, g3, g4⟩ := I4.put (K := K) (by
          rw [List.length_append, List.length_take, spotsAt_len]
          omega) a nq
        refine ⟨kvs, Sum.inl a, g1, rfl, g2, fun v hv => ?_, fun hv => ?_⟩
        · obtain ⟨ty, go⟩ := g3 v hv
          refine ⟨ty, .int (j : Nat), rfl, (by show 2 ≤ sizeLine; decide), fun t nt => ?_⟩
          obtain ⟨l', xs, e1, e2, e3, I5⟩ := go _ _ t nt
          rw [List.append_assoc, ← spotsAt_take ha] at I5
          exact ⟨l', xs, _, e1, rfl, e2, e3, _, _, rfl, I5⟩
        · obtain ⟨ty, go⟩ := g4 hv
          refine ⟨ty, .int (j : Nat), rfl, (by show 2 ≤ sizeLine; decide), fun t nt => ?_⟩
          obtain ⟨l', xs, e1, e2, e3, I5⟩ := go _ _ t nt
          rw [List.append_assoc, ← spotsAt_take ha] at I5
          exact ⟨l', xs, _, e1, rfl, e2, e3, _, _, rfl, I5⟩
      · rintro σ H5 ⟨y4, y5, rfl, I3⟩
        rw [List.take_of_length_le (l := spotsAt (-1) w.en) (by rw [spotsAt_len, List.length_map]; exact Nat.le_refl _)] at I3
        exact ⟨.ref p, rfl, q _ _ I3.same I3.new I3.dict⟩
end
end TH
end

section
set_option Elab.async false
set_option linter.all false
set_option maxRecDepth 100000
namespace TH
open PySem PySem.Spec PyProof.Rows L2

/-- the dict at d tells f of all in l -/
def NamesD (H : Hp) (d : Addr) (l : List Int) (f : Int → Int) : Prop := ∃ kvs, H d = some (.dK kvs) ∧ ∀ a ∈ l, valV kvs (Sum.inl a) = some (.int (f a))
theorem NamesD.same {H H' : Hp} {d : Addr} {l : List Int} {f : Int → Int} (h : NamesD H d l f) (s : Same H H') : NamesD H' d l f := let ⟨k, a, b⟩ := h; ⟨k, s _ _ a, b⟩
theorem take_map {α β : Type} {f : α → β} {c : List α} {j : Nat} {a : α} (h : c[j]? = some a) : (c.map f).take (j + 1) = (c.map f).take j ++ [f a] := by
  rw [List.take_add_one, List.getElem?_map, h]
  rfl
abbrev sNamedBy : Stmt := topS 4
theorem scNb : FnScope ["web", "names", "crossings", "crossing", "arc"] ["web", "names"] (defScope sNamedBy) := ⟨rfl, rfl, rfl, by decide +kernel, rfl, by decide +kernel, by decide +kernel⟩
def spNamedBy (K : PySem.W.Frag) : Sp := fun vs H Q _ => ∃ v w d f, vs = [v, .ref d] ∧ Dp K H v (webD w) ∧ NamesD H d (arcs w) f ∧ Small w ∧ ∀ H' v', Same H H' → Dp K H' v' (webD (ren f w)) → Q v' H'
theorem sz1000 {n : Nat} (h : n ≤ 1000) : n ≤ sizeLine := Nat.le_of_lt (small1000 h)
theorem len_cr {w : Web} {c : List Int} (h : (allSpots w).length ≤ 1000) (m : c ∈ w.cr) : c.length ≤ 1000 := by
  rw [allSpots_len] at h
  have q : c.length ≤ (w.cr.map List.length).sum := by
    obtain ⟨a, b, e⟩ := List.append_of_mem m
    rw [e]
    simp
    omega
  omega
/-- [names[arc] for arc in t] -/
theorem lc_ren {K : PySem.W.Frag} {H3 : Hp} {a d D : Addr} {c : List Int} {ff : Int → Int} {σ : L2.St} {ni ci : Nat} {Qd : Hp → Prop} (hX : SqT K H3 a (c.map V.int)) (hN : NamesD H3 d c ff) (hl : c.length ≤ 1000) (nD : H3 D = none)
    (h1 : ∀ v, ((wipe σ [ci]).set ci v)[ni]? = some (some (.ref d))) (h2 : ∀ v, ((wipe σ [ci]).set ci v)[ci]? = some v) (h3 : ∀ v, wipe ((wipe σ [ci]).set ci v) [ci] = wipe σ [ci])
    (hd : ∀ H4, Same H3 H4 → H4 D = some (.lst ((c.map ff).map V.int)) → Qd H4) :
    ∃ W : Nat → Nat → Hp → Prop, (∃ m, W 0 m (upd H3 D (.lst []))) ∧ ∀ i m H, W i m H →
      ((Itt K a).stop i H ∧ Qd H) ∨ ((Itt K a).go i H ∧ ∃ Nx : Hp → Prop, (∀ H', Nx H' → ∃ m', m' < m ∧ W (i + 1) m' H') ∧ ∀ x H', (Itt K a).yld i H x H' → gName ci x (wipe σ [ci]) H' fun σ2 H2 => wipe σ2 [ci] = wipe σ [ci] ∧ tYes σ2 H2 fun b H3 =>
        if b = true then tDGet (tVar ni) (tVar ci) σ2 H3 fun y H4 => ∃ acc, H4 D = some (.lst acc) ∧ acc.length < sizeLine ∧ Nx (upd H4 D (.lst (acc ++ [y]))) else Nx H3) := by
  refine lc_tup (K := K) (a := a) (xs := c.map V.int) (fun j H4 => Same H3 H4 ∧ H4 D = some (.lst (((c.map ff).map V.int).take j))) ⟨same_upd nD, upd_same⟩ (fun j H4 _ ⟨s4, _⟩ => seqT_same s4 hX) ?_ ?_
  · rintro j y H4 hy4 ⟨s4, h4⟩
    obtain ⟨x, hx, rfl⟩ := ints_at hy4
    obtain ⟨kvs, hk, hv⟩ := hN.same s4
    refine ⟨h3 _, .ref d, h1 _, .int x, h2 _, d, .int (ff x), rfl, by rw [← hv x (List.mem_of_getElem? hx)]; exact DGet.k (k := Sum.inl x) hk, _, h4, ?_, same_over s4 nD, ?_⟩
    · rw [List.length_take, List.length_map, List.length_map]
      exact small1000 (by omega)
    · have e : (c.map ff)[j]? = some (ff x) := by rw [List.getElem?_map, hx]; rfl
      rw [upd_same, take_map e]
  · rintro H4 ⟨s4, h4⟩
    rw [List.take_of_length_le (by simp)] at h4
    exact hd H4 s4 h4
section
variable {P : Program} {w : World} {K : PySem.W.Frag} {mg : Str → Option Value} {base : Heap}
theorem ok_named_by (F : Fn K mg "named_by" sNamedBy ["web", "names"]) (g : Gb mg) : Ok P w K mg base 1 "named_by" ["web", "names"] (spNamedBy K) := by
  obtain ⟨f, fd, FF, m, b⟩ := F
  refine ⟨f, fd, ?_, m, FF.kp, b⟩
  refine FF.ok scNb (fun vs H Q E h => ?_) (fun cdv A outer s H vs Q E hr h => ?_)
  · obtain ⟨v, w, d, f, rfl, _⟩ := h
    rfl
  · obtain ⟨v, w, d, ff, rfl, hD, hN, ⟨hCr, hL⟩, q⟩ := h
    have hu := hu_of hr
    refine ⟨_, (pss_cons (ps_setLc (i := 2) (own := [("crossing", 3)]) (g := (gName 3)) (tt := tYes) (te := (tCB (rTupOf K) (tCons (tLc (iTup K (tVar 3)) (gName 4) tYes (tDGet (tVar 1) (tVar 4)) [4]) tNil))) rfl scNb.nd rfl rfl (sw_true rfl rfl rfl (by decide +kernel)) (pi_tup (pe_ix ix_tup (pv 0) pe_int (fun _ _ => rfl))) (blkOk_by (by kernel_rfl)) (fun _ _ _ _ _ => (pg_name (i := 3) scNb.nd rfl (.inl rfl))) (fun _ _ _ _ _ => pts_nil) (fun _ _ _ _ _ => (pe_callTy (r := rTupOf K) call_tupK (by rfl) g.tuple boot_tup (pa_cons (pe_lc (own := [("arc", 4)]) (g := (gName 4)) (tt := tYes) (te := (tDGet (tVar 1) (tVar 4))) rfl scNb.nd (pi_tup (pv 3)) (blkOk_by (by kernel_rfl)) (fun _ _ _ _ _ => (pg_name (i := 4) scNb.nd rfl (.inl rfl))) (fun _ _ _ _ _ => pts_nil) (fun _ _ _ _ _ => (pe_dget hu (pv 1) (pv 4) (fun _ _ => rfl)))) pa_nil))))
 (pss_one (ps_ret (pe_tup (pa_cons (pe_callTy (r := rTupOf K) call_tupK (by rfl) g.tuple boot_tup (pa_cons (pv 2) pa_nil)) (pa_cons (pe_callTy (r := rTupOf K) call_tupK (by rfl) g.tuple boot_tup (pa_cons (pe_lc (own := [("arc", 4)]) (g := (gName 4)) (tt := tYes) (te := (tDGet (tVar 1) (tVar 4))) rfl scNb.nd (pi_tup (pe_ix ix_tup (pv 0) pe_int (fun _ _ => rfl))) (blkOk_by (by kernel_rfl)) (fun _ _ _ _ _ => (pg_name (i := 4) scNb.nd rfl (.inl rfl))) (fun _ _ _ _ _ => pts_nil) (fun _ _ _ _ _ => (pe_dget hu (pv 1) (pv 4) (fun _ _ => rfl)))) pa_nil)) (pa_cons (pe_ix ix_tup (pv 0) pe_int (fun _ _ => rfl)) pa_nil))))))), ?_⟩
    obtain ⟨aw, ac, ae, cs, rfl, hW, hC, hCs, hE⟩ := dp_web hD
    have ec : cs.length = w.cr.length := by rw [dpAll_len hCs, List.length_map]
    -- crossings = [..]
    refine ⟨.ref aw, rfl, aw, _, 0, _, rfl, rfl, hW, atI_nat (j := 0) rfl, ac, rfl, ⟨_, hC⟩, fun D nD => ?_⟩
    refine lc_tup (K := K) (a := ac) (xs := cs) (fun i H3 => Same H H3 ∧ ∃ ys, H3 D = some (.lst ys) ∧ DpAll K H3 ys ((w.cr.take i).map fun c => tupI (c.map ff))) ⟨same_upd nD, [], upd_same, .nil⟩
      (fun i H3 _ ⟨s3, _⟩ => seqT_same s3 hC) ?_ ?_
    · rintro i x H3 hx ⟨s3, ys, hy, hys⟩
      obtain ⟨dd, hd, hdx⟩ := dpAll_at hCs hx
      rw [List.getElem?_map] at hd
      obtain ⟨c, hc, rfl⟩ := Option.map_eq_some_iff.mp hd
      obtain ⟨ax, rfl, hX⟩ := dp_tupI hdx
      have mc : c ∈ w.cr := List.mem_of_getElem? hc
      obtain ⟨kvs, hk, hv⟩ := hN.same s3
      refine ⟨rfl, .ref ax, rfl, ax, rfl, ⟨_, seqT_same s3 hX⟩, fun D2 nD2 => ?_⟩
      refine lc_ren (ff := ff) (d := d) (seqT_same s3 hX) ⟨kvs, hk, fun a ha => hv a (List.mem_append_left _ (List.mem_flatten.mpr ⟨c, mc, ha⟩))⟩ (len_cr hL mc) nD2 (fun _ => rfl) (fun _ => rfl) (fun _ => rfl) fun H4 s4 h4 => ?_
      refine ⟨D2, _, rfl, .inl ⟨.inl (.inl h4), fun t nt => ?_⟩⟩
      have h5 : (upd H4 t (.tup ((c.map ff).map V.int))) D = some (.lst ys) := same_new s4 nt _ _ hy
      have kt : KT H3 (upd (upd H4 t (.tup ((c.map ff).map V.int))) D (.lst (ys ++ [.ref t]))) := ((KT.of s4).trans (.new nt)).trans (.lst h5)
      refine ⟨ys, h5, ?_, same_over (s3.trans (same_new s4 nt)) nD, _, upd_same, ?_⟩
      · rw [dpAll_len hys, List.length_map, List.length_take]
        exact small1000 (by omega)
      · rw [List.take_add_one, hc, List.map_append]
        refine dpAll_app (dpAll_kt kt _ _ (noLs_map (fun c => noL_tupI _) _) hys) (dpAll_one (tupI_dp (.inl (.inl ?_))))
        rw [upd_ne (ne_of_none (s4 _ _ hy) nt).symm, upd_same]
    · rintro H3 ⟨s3, ys, hy, hys⟩
      rw [ec, List.take_length] at hys
      -- return (tuple(crossings), tuple([..]), web[2])
      refine ⟨.ref D, rfl, D, ys, rfl, .inl ⟨.inl (.inl hy), fun t nt => ?_⟩⟩
      have s4 : Same H3 (upd H3 t (.tup ys)) := same_upd nt
      obtain ⟨kvs, hk, hv⟩ := hN.same (s3.trans s4)
      refine ⟨.ref aw, rfl, aw, _, 1, _, rfl, rfl, seqT_same (s3.trans s4) hW, atI_nat (j := 1) rfl, ae, rfl, ⟨_, seqT_same (s3.trans s4) hE⟩, fun D2 nD2 => ?_⟩
      refine lc_ren (ff := ff) (d := d) (seqT_same (s3.trans s4) hE) ⟨kvs, hk, fun a ha => hv a (List.mem_append_right _ ha)⟩ (by rw [allSpots_len] at hL; omega) nD2 (fun _ => rfl) (fun _ => rfl) (fun _ => rfl) fun H4 s5 h5 => ?_
      refine ⟨D2, _, rfl, .inl ⟨.inl (.inl h5), fun t2 nt2 => ?_⟩⟩
      have s6 : Same H3 (upd H4 t2 (.tup ((w.en.map ff).map V.int))) := s4.trans (same_new s5 nt2)
      refine ⟨.ref aw, rfl, aw, _, 2, _, rfl, rfl, seqT_same (s3.trans s6) hW, atI_nat (j := 2) rfl, (by show 3 ≤ sizeLine; decide), fun t3 nt3 => ?_⟩
      have s7 := same_upd (o := .tup [.ref t, .ref t2, .int w.rg]) nt3
      have s8 : Same (upd H3 t (.tup ys)) (upd (upd H4 t2 (.tup ((w.en.map ff).map V.int))) t3 (.tup [.ref t, .ref t2, .int w.rg])) := (same_new s5 nt2).trans s7
      refine q _ _ (s3.trans (s6.trans s7)) (web_dp (w := ren ff w) (cs := ys) (.inl (.inl upd_same)) (seqT_same s8 (.inl (.inl upd_same))) ?_ (seqT_same s7 (.inl (.inl upd_same))))
      have e : (ren ff w).cr.map tupI = w.cr.map fun c => tupI (c.map ff) := by
        show (w.cr.map (·.map ff)).map tupI = _
        rw [List.map_map]
        rfl
      rw [e]
      exact dpAll_same (s6.trans s7) _ _ hys
end
end TH
end

section
set_option Elab.async false
set_option linter.all false
set_option maxRecDepth 100000
namespace TH
open PySem PySem.Spec PyProof.Rows L2

section
variable {K : PySem.W.Frag} {H : Hp} {Q : VK}
theorem catA_ok {a b : Addr} {xs ys : List V} (ha : SqT K H a xs) (hb : SqT K H b ys) (hz : xs.length + ys.length ≤ sizeLine) (q : ∀ H' c, Same H H' → SqT K H' c (xs ++ ys) → Q (.ref c) H') : rCatA K (.ref a) (.ref b) H Q := by
  refine ⟨a, b, xs, ys, rfl, rfl, ha, hb, hz, fun e => ?_, fun _ e => ?_, fun _ _ p np => ?_⟩
  · subst e
    exact q H b (Same.refl H) hb
  · subst e
    exact q H a (Same.refl H) (by rw [List.append_nil]; exact ha)
  · exact q _ p (same_upd np) (.inl (.inl upd_same))
theorem slA_ok {a : Addr} {xs : List V} {lo hi : Option Int} (ha : SqT K H a xs) (q : ∀ H' c, Same H H' → SqT K H' c (cutV xs lo hi) → Q (.ref c) H') : rSlA K (.ref a) lo hi H Q := by
  refine ⟨a, xs, rfl, ha, fun ⟨e1, e2⟩ => ?_, fun _ p np => q _ p (same_upd np) (.inl (.inl upd_same))⟩
  have e : cutV xs lo hi = xs := by
    unfold cutV
    rw [e1, e2]
    simp
  exact q H a (Same.refl H) (by rw [e]; exact ha)
theorem cutV_from (xs : List V) (k : Nat) : cutV xs (some (k : Int)) none = xs.drop k := by
  unfold cutV
  rw [HT.sIx_nat, HT.sIx_none]
  rcases Nat.le_total k xs.length with h | h
  · rw [Nat.min_eq_left h]
    exact List.take_of_length_le (by simp)
  · rw [Nat.min_eq_right h, List.drop_of_length_le (Nat.le_refl _), List.drop_of_length_le h]
    simp
theorem cutV_to (xs : List V) (k : Nat) : cutV xs none (some (k : Int)) = xs.take k := by
  unfold cutV
  rw [HT.sIx_nat, HT.sIx_none]
  rcases Nat.le_total k xs.length with h | h
  · rw [Nat.min_eq_left h]
    simp
  · rw [Nat.min_eq_right h, List.take_of_length_le h]
    simp
end

/-! ### named_anew -/
abbrev sAnew : Stmt := topS 5
theorem scAn : FnScope ["web", "names", "number", "arc"] ["web"] (defScope sAnew) := ⟨rfl, rfl, rfl, by decide +kernel, rfl, by decide +kernel, by decide +kernel⟩
def spAnew (K : PySem.W.Frag) : Sp := fun vs H Q _ => ∃ v w, vs = [v] ∧ Dp K H v (webD w) ∧ Small w ∧ ∀ H' v', Same H H' → Dp K H' v' (webD (anew w)) → Q v' H'
theorem PlD.keys {H0 H : Hp} {p : Addr} {ps : List (Int × List Spot)} (h : PlD H0 H p ps) : ∃ kvs : List (Key × V), H p = some (.dK kvs) ∧ kvs.map (·.1) = (ps.map (·.1)).map Sum.inl := by
  obtain ⟨E, h1, _, _, h4⟩ := h
  refine ⟨_, h1, ?_⟩
  have e : ∀ {E : List PE3} {ps : List (Int × List Spot)}, Paired (fun e q => e.1 = q.1 ∧ SpL H e.2.2 q.2) E ps → (kvE E).map (·.1) = (ps.map (·.1)).map Sum.inl := by
    intro E ps h
    induction h with
    | nil => rfl
    | cons r t ih =>
      show Sum.inl _ :: (kvE _).map (·.1) = _
      rw [ih, r.1]
      rfl
  exact e h4
theorem keys_len (w : Web) : (keys w).length ≤ (allSpots w).length := by
  unfold keys
  rw [List.length_map]
  exact (placesOf_len _).1
section
variable {P : Program} {w : World} {K : PySem.W.Frag} {mg : Str → Option Value} {base : Heap}
theorem ok_anew (F : Fn K mg "named_anew" sAnew ["web"]) (g : Gb mg) (O1 : Ok P w K mg base 1 "places" ["web"] (spPlaces K)) (O2 : Ok P w K mg base 1 "named_by" ["web", "names"] (spNamedBy K)) :
    Ok P w K mg base 2 "named_anew" ["web"] (spAnew K) := by
  obtain ⟨f, fd, FF, m, b⟩ := F
  obtain ⟨fP, dP, GP, mP, kP, bP⟩ := O1
  obtain ⟨fN, dN, GN, mN, kN, bN⟩ := O2
  refine ⟨f, fd, ?_, m, FF.kp, b⟩
  refine FF.ok scAn (fun vs H Q E h => ?_) (fun cdv A outer s H vs Q E hr h => ?_)
  · obtain ⟨v, w, rfl, _⟩ := h
    rfl
  · obtain ⟨v, w, rfl, hD, hS, q⟩ := h
    have hu := hu_of hr
    refine ⟨_, (pss_cons (ps_set (i := 1) scAn.nd rfl (.inl rfl) pe_dnewK)
 (pss_cons (ps_for PassesOwn.never rfl (pi_enumD (by rfl) g.enumerate (pa_cons (pe_call GP (hr.mono (by decide)) (by rfl) mP kP bP .nil pass0 (pa_cons (pv 0) pa_nil)) pa_nil)) (pg_tup rfl (pgs_cons (pg_name (i := 2) scAn.nd rfl (.inl rfl)) (pgs_cons (pg_name (i := 3) scAn.nd rfl (.inl rfl)) pgs_nil)))
 (pss_one (ps_dput hu (pv 1) (pv 3) (pv 2) rfl)))
 (pss_one (ps_ret (pe_call GN (hr.mono (by decide)) (by rfl) mN kN bN .nil pass0 (pa_cons (pv 0) (pa_cons (pv 1) pa_nil))))))), ?_⟩
    refine fun n nn => ?_
    have s1 : Same H (upd H n (.dK [])) := same_upd nn
    refine ⟨v, rfl, v, w, rfl, dp_same s1 _ _ hD, hS, fun H2 p s2 np hP => ?_⟩
    obtain ⟨kvs, hk, hkeys⟩ := hP.keys
    refine ⟨p, kvs, rfl, hk, fun o => ?_⟩
    have hkeys : kvs.map (·.1) = (keys w).map Sum.inl := hkeys
    have el : kvs.length = (keys w).length := by
      have e := congrArg List.length hkeys
      rw [List.length_map, List.length_map] at e
      exact e
    have npn : p ≠ n := fun z => by
      rw [z, upd_same] at np
      cases np
    have np0 : H p = none := s1.free np
    have h20 : H2 n = some (.dK []) := s2 _ _ upd_same
    refine for_it walk_enumD (fun i σ H3 => ∃ y2 y3, σ = [some v, some (.ref n), y2, y3] ∧ H3 p = some (.frz o (.dK kvs)) ∧ Same H H3 ∧ ∃ ns : List (Key × V), H3 n = some (.dK ns) ∧ ns.length ≤ i ∧ ∀ j a, j < i → (keys w)[j]? = some a → valV ns (Sum.inl a) = some (.int (j : Nat)))
      ⟨none, none, rfl, upd_same, same_over (s1.trans s2) np0, [], by rw [upd_ne npn.symm]; exact h20, Nat.le_refl _, fun j a h => by omega⟩ (fun i σ H3 _ ⟨_, _, _, h, _⟩ => h) ?_ ?_
    · rintro i x σ H3 H4 hi ⟨y2, y3, rfl, hp, s3, ns, hn, ln, hv⟩ ⟨T, x1, x2, rfl, nT, rfl, e1, e2⟩
      cases e1
      have hik : i < (keys w).length := by omega
      have e2 : kvs[i]?.map (fun kv => kV kv.1) = some x2 := e2
      have e3 : (kvs.map (·.1))[i]? = some (Sum.inl (keys w)[i]) := by
        rw [hkeys, List.getElem?_map, List.getElem?_eq_getElem hik]
        rfl
      have e4 : x2 = .int (keys w)[i] := by
        rw [List.getElem?_map] at e3
        obtain ⟨kv, h1, h2⟩ := Option.map_eq_some_iff.mp e3
        rw [h1] at e2
        have z := Option.some.inj e2
        rw [← z]
        show kV kv.1 = _
        rw [h2]
        rfl
      subst e4
      have s4 : Same H3 (upd H3 T (.tup [.int (i : Nat), .int (keys w)[i]])) := same_upd nT
      refine ⟨T, _, rfl, .inl (.inl upd_same), rfl, _, _, rfl, _, _, rfl, rfl, ?_⟩
      refine ⟨_, rfl, .ref n, rfl, .int (keys w)[i], rfl, n, _, rfl, DPut.k (k := Sum.inl (keys w)[i]) (s4 _ _ hn) (small1000 ?_), ?_⟩
      · have := keys_len w
        have := hS.sp
        omega
      · refine ⟨_, _, rfl, ?_, ?_, _, upd_same, ?_, fun j a hj ha => ?_⟩
        · rw [upd_ne (ne_of hp hn (by intro z; cases z))]
          exact s4 _ _ hp
        · exact same_over (s3.trans s4) nn
        · exact Nat.le_trans (length_putK _ _ _) (by omega)
        · rw [valV_put]
          by_cases hji : j = i
          · subst hji
            rw [List.getElem?_eq_getElem hik] at ha
            rw [if_pos (by rw [Option.some.inj ha])]
          · have hne : ¬ (Sum.inl a : Key) = Sum.inl (keys w)[i] := fun z => hji (nd_ix (keys_nodup w) ha (by rw [Sum.inl.inj z]; exact List.getElem?_eq_getElem hik))
            rw [if_neg hne]
            exact hv j a (by omega) ha
    · rintro σ H3 ⟨y2, y3, rfl, hp, s3, ns, hn, ln, hv⟩
      refine ⟨v, rfl, .ref n, rfl, v, w, n, idx (keys w), rfl, dp_same s3 _ _ hD, ⟨ns, hn, fun a ha => ?_⟩, hS, fun H4 v' s4 h4 => q H4 v' (s3.trans s4) h4⟩
      have ma := (mem_keys w a).mpr ha
      have hi : (keys w).idxOf a < (keys w).length := List.idxOf_lt_length_iff.mpr ma
      exact hv _ a (by omega) (by rw [List.getElem?_eq_getElem hi, List.getElem_idxOf hi])

/-! ### mirrored -/
abbrev sMirrored : Stmt := topS 6
theorem scMi : FnScope ["web", "crossings", "crossing"] ["web"] (defScope sMirrored) := ⟨rfl, rfl, rfl, by decide +kernel, rfl, by decide +kernel, by decide +kernel⟩
def spMirrored (K : PySem.W.Frag) : Sp := fun vs H Q _ => ∃ v w, vs = [v] ∧ Dp K H v (webD w) ∧ Small w ∧ ∀ H' v', Same H H' → Dp K H' v' (webD (mirroredM w)) → Q v' H'
theorem ok_mirrored (F : Fn K mg "mirrored" sMirrored ["web"]) (g : Gb mg) : Ok P w K mg base 1 "mirrored" ["web"] (spMirrored K) := by
  obtain ⟨f, fd, FF, m, b⟩ := F
  refine ⟨f, fd, ?_, m, FF.kp, b⟩
  refine FF.ok scMi (fun vs H Q E h => ?_) (fun cdv A outer s H vs Q E hr h => ?_)
  · obtain ⟨v, w, rfl, _⟩ := h
    rfl
  · obtain ⟨v, w, rfl, hD, hS, q⟩ := h
    refine ⟨_, (pss_cons (ps_setLc (i := 1) (own := [("crossing", 2)]) (g := (gName 2)) (tt := tYes) (te := (tOp (rCatA K) (tSl (rSlA K) (tVar 2) (tPart (tC _)) tNoPart) (tSl (rSlA K) (tVar 2) tNoPart (tPart (tC _))))) rfl scMi.nd rfl rfl (sw_true rfl rfl rfl (by decide +kernel)) (pi_tup (pe_ix ix_tup (pv 0) pe_int (fun _ _ => rfl))) (blkOk_by (by kernel_rfl)) (fun _ _ _ _ _ => (pg_name (i := 2) scMi.nd rfl (.inl rfl))) (fun _ _ _ _ _ => pts_nil) (fun _ _ _ _ _ => (pe_op op_catA (pe_slice sl_tupA (pv 2) (po_some pe_int) po_none) (pe_slice sl_tupA (pv 2) po_none (po_some pe_int)))))
 (pss_one (ps_ret (pe_tup (pa_cons (pe_callTy (r := rTupOf K) call_tupK (by rfl) g.tuple boot_tup (pa_cons (pv 1) pa_nil)) (pa_cons (pe_ix ix_tup (pv 0) pe_int (fun _ _ => rfl)) (pa_cons (pe_ix ix_tup (pv 0) pe_int (fun _ _ => rfl)) pa_nil))))))), ?_⟩
    obtain ⟨aw, ac, ae, cs, rfl, hW, hC, hCs, hE⟩ := dp_web hD
    have ec : cs.length = w.cr.length := by rw [dpAll_len hCs, List.length_map]
    refine ⟨.ref aw, rfl, aw, _, 0, _, rfl, rfl, hW, atI_nat (j := 0) rfl, ac, rfl, ⟨_, hC⟩, fun D nD => ?_⟩
    refine lc_tup (K := K) (a := ac) (xs := cs) (fun i H3 => Same H H3 ∧ ∃ ys, H3 D = some (.lst ys) ∧ DpAll K H3 ys ((w.cr.take i).map fun c => tupI (c.drop 1 ++ c.take 1))) ⟨same_upd nD, [], upd_same, .nil⟩
      (fun i H3 _ ⟨s3, _⟩ => seqT_same s3 hC) ?_ ?_
    · rintro i x H3 hx ⟨s3, ys, hy, hys⟩
      obtain ⟨dd, hd, hdx⟩ := dpAll_at hCs hx
      rw [List.getElem?_map] at hd
      obtain ⟨c, hc, rfl⟩ := Option.map_eq_some_iff.mp hd
      obtain ⟨ax, rfl, hX⟩ := dp_tupI hdx
      have mc : c ∈ w.cr := List.mem_of_getElem? hc
      have lc := len_cr hS.sp mc
      refine ⟨rfl, .ref ax, rfl, 1, rfl, ?_⟩
      dsimp only [tNoPart]
      refine slA_ok (seqT_same s3 hX) fun H4 b1 s4 h4 => ?_
      refine ⟨.ref ax, rfl, 1, rfl, ?_⟩
      show rSlA K (.ref ax) none (some 1) _ _
      refine slA_ok (seqT_same (s3.trans s4) hX) fun H5 b2 s5 h5 => ?_
      rw [show cutV (c.map V.int) (some 1) none = (c.map V.int).drop 1 from cutV_from _ 1] at h4
      rw [show cutV (c.map V.int) none (some 1) = (c.map V.int).take 1 from cutV_to _ 1] at h5
      refine catA_ok (seqT_same s5 h4) h5 ?_ fun H6 b3 s6 h6 => ?_
      · have h := sz1000 (n := c.length) lc
        simp
        have : min 1 c.length ≤ c.length := Nat.min_le_right _ _
        have := small1000 lc
        omega
      · have hD6 : H6 D = some (.lst ys) := s6 _ _ (s5 _ _ (s4 _ _ hy))
        have kt : KT H3 (upd H6 D (.lst (ys ++ [.ref b3]))) := ((KT.of s4).trans (.of (s5.trans s6))).trans (.lst hD6)
        refine ⟨ys, hD6, ?_, same_over (s3.trans (s4.trans (s5.trans s6))) nD, _, upd_same, ?_⟩
        · rw [dpAll_len hys, List.length_map, List.length_take]
          have := hS.cr
          exact small1000 (by omega)
        · rw [List.take_add_one, hc, List.map_append]
          refine dpAll_app (dpAll_kt kt _ _ (noLs_map (fun c => noL_tupI _) _) hys) (dpAll_one (tupI_dp ?_))
          refine seqT_kt (.lst hD6) ?_
          rw [List.map_append, List.map_drop, List.map_take]
          exact h6
    · rintro H3 ⟨s3, ys, hy, hys⟩
      rw [ec, List.take_length] at hys
      refine ⟨.ref D, rfl, D, ys, rfl, .inl ⟨.inl (.inl hy), fun t nt => ?_⟩⟩
      have s4 : Same H3 (upd H3 t (.tup ys)) := same_upd nt
      refine ⟨.ref aw, rfl, aw, _, 1, _, rfl, rfl, seqT_same (s3.trans s4) hW, atI_nat (j := 1) rfl, ?_⟩
      refine ⟨.ref aw, rfl, aw, _, 2, _, rfl, rfl, seqT_same (s3.trans s4) hW, atI_nat (j := 2) rfl, (by show 3 ≤ sizeLine; decide), fun t3 nt3 => ?_⟩
      have s7 := same_upd (o := .tup [.ref t, .ref ae, .int w.rg]) nt3
      refine q _ _ (s3.trans (s4.trans s7)) (web_dp (w := mirroredM w) (cs := ys) (.inl (.inl upd_same)) (seqT_same s7 (.inl (.inl upd_same))) ?_ (seqT_same (s3.trans (s4.trans s7)) hE))
      have e : (mirroredM w).cr.map tupI = w.cr.map fun c => tupI (c.drop 1 ++ c.take 1) := by
        show (w.cr.map _).map tupI = _
        rw [List.map_map]
        rfl
      rw [e]
      exact dpAll_same (s4.trans s7) _ _ hys

/-! ### shifted -/
abbrev sShifted : Stmt := topS 7
theorem scSh : FnScope ["web", "many"] ["web", "many"] (defScope sShifted) := ⟨rfl, rfl, rfl, by decide +kernel, rfl, by decide +kernel, by decide +kernel⟩
def spShifted (K : PySem.W.Frag) : Sp := fun vs H Q _ => ∃ v w, ∃ m : Nat, vs = [v, .int (m : Int)] ∧ Dp K H v (webD w) ∧ Small w ∧ ∀ H' v', Same H H' → Dp K H' v' (webD (shiftedM w m)) → Q v' H'
theorem ok_shifted (F : Fn K mg "shifted" sShifted ["web", "many"]) (g : Gb mg) : Ok P w K mg base 1 "shifted" ["web", "many"] (spShifted K) := by
  obtain ⟨f, fd, FF, m, b⟩ := F
  refine ⟨f, fd, ?_, m, FF.kp, b⟩
  refine FF.ok scSh (fun vs H Q E h => ?_) (fun cdv A outer s H vs Q E hr h => ?_)
  · obtain ⟨v, w, n, rfl, _⟩ := h
    rfl
  · obtain ⟨v, w, n, rfl, hD, hS, q⟩ := h
    refine ⟨_, (pss_one (ps_ret (pe_tup (pa_cons (pe_ix ix_tup (pv 0) pe_int (fun _ _ => rfl)) (pa_cons (pe_op op_catA (pe_slice sl_tupA (pe_ix ix_tup (pv 0) pe_int (fun _ _ => rfl)) (po_some (pv 1)) po_none) (pe_slice sl_tupA (pe_ix ix_tup (pv 0) pe_int (fun _ _ => rfl)) po_none (po_some (pv 1)))) (pa_cons (pe_ix ix_tup (pv 0) pe_int (fun _ _ => rfl)) pa_nil)))))), ?_⟩
    obtain ⟨aw, ac, ae, cs, rfl, hW, hC, hCs, hE⟩ := dp_web hD
    refine ⟨.ref aw, rfl, aw, _, 0, _, rfl, rfl, hW, atI_nat (j := 0) rfl, ?_⟩
    refine ⟨.ref aw, rfl, aw, _, 1, _, rfl, rfl, hW, atI_nat (j := 1) rfl, .int (n : Int), rfl, (n : Int), rfl, ?_⟩
    dsimp only [tNoPart]
    refine slA_ok hE fun H4 b1 s4 h4 => ?_
    refine ⟨.ref aw, rfl, aw, _, 1, _, rfl, rfl, seqT_same s4 hW, atI_nat (j := 1) rfl, .int (n : Int), rfl, (n : Int), rfl, ?_⟩
    show rSlA K (.ref ae) none (some (n : Int)) _ _
    refine slA_ok (seqT_same s4 hE) fun H5 b2 s5 h5 => ?_
    rw [cutV_from] at h4
    rw [cutV_to] at h5
    refine catA_ok (seqT_same s5 h4) h5 ?_ fun H6 b3 s6 h6 => ?_
    · have h := hS.sp
      rw [allSpots_len] at h
      have := sz1000 (n := w.en.length) (by omega)
      simp
      have : min n w.en.length ≤ w.en.length := Nat.min_le_right _ _
      omega
    · refine ⟨.ref aw, rfl, aw, _, 2, _, rfl, rfl, seqT_same (s4.trans (s5.trans s6)) hW, atI_nat (j := 2) rfl, (by show 3 ≤ sizeLine; decide), fun t3 nt3 => ?_⟩
      have s7 := same_upd (o := .tup [.ref ac, .ref b3, .int w.rg]) nt3
      have sA := s4.trans (s5.trans (s6.trans s7))
      refine q _ _ sA (web_dp (w := shiftedM w n) (cs := cs) (.inl (.inl upd_same)) (seqT_same sA hC) (dpAll_same sA _ _ hCs) (seqT_same s7 ?_))
      show SqT K H6 b3 ((w.en.drop n ++ w.en.take n).map V.int)
      rw [List.map_append, List.map_drop, List.map_take]
      exact h6
end
end TH
end

section
set_option Elab.async false
set_option linter.all false
set_option maxRecDepth 100000
namespace TH
open PySem PySem.Spec PyProof.Rows L2

/-! ### sizes -/
theorem len_ren (f : Int → Int) (w : Web) : (allSpots (ren f w)).length = (allSpots w).length ∧ (ren f w).cr.length = w.cr.length := by
  refine ⟨?_, by simp [ren]⟩
  rw [allSpots_len, allSpots_len]
  have e : ((ren f w).cr.map List.length) = w.cr.map List.length := by
    show (w.cr.map (·.map f)).map List.length = _
    rw [List.map_map]
    congr 1
    funext c
    simp
  rw [e]
  simp [ren]
theorem Small.ren {w : Web} (h : Small w) (f : Int → Int) : Small (ren f w) := ⟨by rw [(len_ren f w).2]; exact h.cr, by rw [(len_ren f w).1]; exact h.sp⟩
theorem Small.of {w : Web} {en : List Int} {r : Int} (h : Small w) (l : en.length ≤ w.en.length) : Small ⟨w.cr, en, r⟩ := by
  refine ⟨h.cr, ?_⟩
  have := h.sp
  rw [allSpots_len] at this ⊢
  show (w.cr.map List.length).sum + en.length ≤ 1000
  omega
theorem kept_len (en : List Int) (i j : Int) : (keptM en i j).length ≤ en.length := by
  unfold keptM
  rw [List.length_map]
  exact Nat.le_trans (List.length_filter_le _ _) (by simp)
theorem Small.joined {w : Web} (h : Small w) (i j : Nat) : Small (joinedM w i j) := by
  unfold joinedM
  dsimp only
  split
  · exact h.of (kept_len _ _ _)
  · exact (h.of (kept_len _ _ _)).ren _
theorem kept_sub {en : List Int} {i j : Int} {a : Int} (h : a ∈ keptM en i j) : a ∈ en := by
  unfold keptM at h
  obtain ⟨p, hp, rfl⟩ := List.mem_map.mp h
  have q := (List.mem_filter.mp hp).1
  obtain ⟨x, y⟩ := p
  have := List.mem_zipIdx q
  exact List.mem_of_getElem? (by have h1 := List.mem_zipIdx_iff_getElem?.mp q; exact h1)

abbrev sJoined : Stmt := topS 9
theorem scJo : FnScope ["web", "first", "last", "crossings", "ends", "rings", "kept", "names", "at", "arc"] ["web", "first", "last"] (defScope sJoined) := ⟨rfl, rfl, rfl, by decide +kernel, rfl, by decide +kernel, by decide +kernel⟩
def spJoined (K : PySem.W.Frag) : Sp := fun vs H Q _ => ∃ v w, ∃ i j : Nat, vs = [v, .int (i : Int), .int (j : Int)] ∧ Dp K H v (webD w) ∧ Small w ∧ i < w.en.length ∧ j < w.en.length ∧ ∀ H' v', Same H H' → Dp K H' v' (webD (joinedM w i j)) → Q v' H'
section
variable {P : Program} {w : World} {K : PySem.W.Frag} {mg : Str → Option Value} {base : Heap}
theorem ok_joined (F : Fn K mg "joined" sJoined ["web", "first", "last"]) (g : Gb mg) (O1 : Ok P w K mg base 1 "places" ["web"] (spPlaces K)) (O2 : Ok P w K mg base 1 "named_by" ["web", "names"] (spNamedBy K)) :
    Ok P w K mg base 2 "joined" ["web", "first", "last"] (spJoined K) := by
  obtain ⟨f, fd, FF, m, b⟩ := F
  obtain ⟨fP, dP, GP, mP, kP, bP⟩ := O1
  obtain ⟨fN, dN, GN, mN, kN, bN⟩ := O2
  refine ⟨f, fd, ?_, m, FF.kp, b⟩
  refine FF.ok scJo (fun vs H Q E h => ?_) (fun cdv A outer s H vs Q E hr h => ?_)
  · obtain ⟨v, w, i, j, rfl, _⟩ := h
    rfl
  · obtain ⟨v, w, i, j, rfl, hD, hS, hi, hj, q⟩ := h
    have hu := hu_of hr
    refine ⟨_, (pss_cons (ps_asg (pv 0) (pg_tup rfl (pgs_cons (pg_name (i := 3) scJo.nd rfl (.inl rfl)) (pgs_cons (pg_name (i := 4) scJo.nd rfl (.inl rfl)) (pgs_cons (pg_name (i := 5) scJo.nd rfl (.inl rfl)) pgs_nil)))))
 (pss_cons (ps_set (i := 6) scJo.nd rfl (.inl rfl) (pe_callTy (r := rTupOf K) call_tupK (by rfl) g.tuple boot_tup (pa_cons (pe_lc (own := [("at", 8), ("arc", 9)]) (g := (gTup K 2 (gCons (gName 8) (gCons (gName 9) gNil)))) (tt := (tTest (tOp (rIn K true) (tVar 8) (tTup (tCons (tVar 1) (tCons (tVar 2) tNil)))))) (te := (tVar 9)) rfl scJo.nd (pi_enumT (by rfl) g.enumerate (pa_cons (pv 4) pa_nil)) (blkOk_by (by kernel_rfl)) (fun _ _ _ _ _ => (pg_tup rfl (pgs_cons (pg_name (i := 8) scJo.nd rfl (.inl rfl)) (pgs_cons (pg_name (i := 9) scJo.nd rfl (.inl rfl)) pgs_nil)))) (fun _ _ _ _ _ => (pts_one (pt_cmpR op_notIn_seq (pv 8) (pe_tup (pa_cons (pv 1) (pa_cons (pv 2) pa_nil))) rfl))) (fun _ _ _ _ _ => (pv 9))) pa_nil)))
 (pss_cons (ps_if (pt_cmpR op_eq (pe_ix ix_tup (pv 4) (pv 1) (fun _ _ => rfl)) (pe_ix ix_tup (pv 4) (pv 2) (fun _ _ => rfl)) (nomark _)) (pss_one (ps_ret (pe_tup (pa_cons (pv 3) (pa_cons (pv 6) (pa_cons (pe_op op_add (pv 5) pe_int) pa_nil)))))) pss_nil)
 (pss_cons (ps_set (i := 7) scJo.nd rfl (.inl rfl) pe_dnewK)
 (pss_cons (ps_for PassesOwn.never rfl (pi_keysN (pe_call GP (hr.mono (by decide)) (by rfl) mP kP bP .nil pass0 (pa_cons (pv 0) pa_nil))) (pg_name (i := 9) scJo.nd rfl (.inl rfl))
 (pss_one (ps_dput hu (pv 7) (pv 9) (pv 9) rfl)))
 (pss_cons (ps_dput hu (pv 7) (pe_ix ix_tup (pv 4) (pv 2) (fun _ _ => rfl)) (pe_ix ix_tup (pv 4) (pv 1) (fun _ _ => rfl)) rfl)
 (pss_one (ps_ret (pe_call GN (hr.mono (by decide)) (by rfl) mN kN bN .nil pass0 (pa_cons (pe_tup (pa_cons (pv 3) (pa_cons (pv 6) (pa_cons (pv 5) pa_nil)))) (pa_cons (pv 7) pa_nil))))))))))), ?_⟩
    obtain ⟨aw, ac, ae, cs, rfl, hW, hC, hCs, hE⟩ := dp_web hD
    -- crossings, ends, rings = web
    refine ⟨.ref aw, rfl, aw, _, rfl, hW, rfl, _, _, rfl, _, _, rfl, _, _, rfl, rfl, ?_⟩
    -- kept = tuple([..])
    refine ⟨.ref ae, rfl, ae, _, rfl, hE, fun D nD => ?_⟩
    have hen : w.en.length ≤ 1000 := by
      have := hS.sp
      rw [allSpots_len] at this
      omega
    refine lc_it (walk_enumT (xs := w.en.map V.int)) (fun t H3 => Same H H3 ∧ H3 D = some (.lst ((((w.en.zipIdx.take t).filter fun p => decide (¬ ((p.2 : Int) = i ∨ (p.2 : Int) = j))).map (·.1)).map V.int))) ⟨same_upd nD, upd_same⟩
      (fun t H3 _ ⟨s3, _⟩ => seqT_same s3 hE) ?_ ?_
    · rintro t x H3 H4 ht ⟨s3, hy⟩ ⟨T, x1, x2, rfl, nT, rfl, e1, e2⟩
      cases e1
      obtain ⟨a, ha, rfl⟩ := ints_at e2
      have s4 : Same H3 (upd H3 T (.tup [.int (t : Nat), .int a])) := same_upd nT
      refine ⟨T, _, rfl, .inl (.inl upd_same), rfl, _, _, rfl, _, _, rfl, rfl, rfl, ?_⟩
      refine ⟨_, rfl, _, rfl, _, rfl, (by show 2 ≤ sizeLine; decide), fun p np => ?_⟩
      have s5 := same_new (o := .tup [.int (i : Int), .int (j : Int)]) s4 np
      refine ⟨p, _, rfl, .inr (.inl (.inl upd_same)), rfl, rfl, _, rfl, ?_⟩
      have ez : w.en.zipIdx[t]? = some (a, t) := by
        rw [List.getElem?_zipIdx, ha]
        simp
      have etk : w.en.zipIdx.take (t + 1) = w.en.zipIdx.take t ++ [(a, t)] := by
        rw [List.take_add_one, ez]
        rfl
      have ek : (if true = true then !inV (V.int (t : Nat)) [V.int (i : Int), V.int (j : Int)] else inV (V.int (t : Nat)) [V.int (i : Int), V.int (j : Int)]) = decide (¬ ((t : Int) = i ∨ (t : Int) = j)) := by
        rw [if_pos rfl]
        show (!(((i : Int) == (t : Int)) || (((j : Int) == (t : Int)) || false))) = _
        by_cases h1 : (t : Int) = i
        · have h1' : (i : Int) = t := h1.symm
          simp [h1']
        · by_cases h2 : (t : Int) = j
          · have h2' : (j : Int) = t := h2.symm
            simp [h2']
          · have h1' : ¬ (i : Int) = t := fun z => h1 z.symm
            have h2' : ¬ (j : Int) = t := fun z => h2 z.symm
            simp [h1, h2, h1', h2']
      rw [ek]
      by_cases hb : ¬ ((t : Int) = i ∨ (t : Int) = j)
      · rw [decide_eq_true hb]
        refine iteT ⟨_, rfl, _, s5 _ _ hy, ?_, same_over (s3.trans s5) nD, ?_⟩
        · rw [List.length_map, List.length_map]
          refine small1000 (Nat.le_trans (List.length_filter_le _ _) ?_)
          rw [List.length_take, List.length_zipIdx]
          omega
        · rw [upd_same, etk, List.filter_append, List.map_append, List.map_append]
          rw [show ([(a, t)].filter fun p => decide (¬ ((p.2 : Int) = i ∨ (p.2 : Int) = j))) = [(a, t)] by
            rw [List.filter_cons, if_pos (decide_eq_true hb)]
            rfl]
          rfl
      · rw [decide_eq_false hb]
        refine iteF ⟨s3.trans s5, ?_⟩
        rw [s5 _ _ hy, etk, List.filter_append]
        rw [show ([(a, t)].filter fun p => decide (¬ ((p.2 : Int) = i ∨ (p.2 : Int) = j))) = [] by
          rw [List.filter_cons, if_neg (by rw [decide_eq_false hb]; exact Bool.false_ne_true)]
          rfl]
        simp
    · rintro H3 ⟨s3, hy⟩
      rw [List.length_map, List.take_of_length_le (by rw [List.length_zipIdx]; exact Nat.le_refl _)] at hy
      have hy : H3 D = some (.lst ((keptM w.en i j).map V.int)) := hy
      refine ⟨D, _, rfl, .inl ⟨.inl (.inl hy), fun l nl => ?_⟩⟩
      have s4 : Same H (upd H3 l (.tup ((keptM w.en i j).map V.int))) := same_new s3 nl
      have hl4 : (upd H3 l (.tup ((keptM w.en i j).map V.int))) l = some (.tup ((keptM w.en i j).map V.int)) := upd_same
      generalize upd H3 l (.tup ((keptM w.en i j).map V.int)) = H4 at s4 hl4
      obtain ⟨a, ha⟩ : ∃ a, w.en[i]? = some a := ⟨_, List.getElem?_eq_getElem hi⟩
      obtain ⟨b, hb⟩ : ∃ b, w.en[j]? = some b := ⟨_, List.getElem?_eq_getElem hj⟩
      have ha' : (w.en.map V.int)[i]? = some (.int a) := by rw [List.getElem?_map, ha]; rfl
      have hb' : (w.en.map V.int)[j]? = some (.int b) := by rw [List.getElem?_map, hb]; rfl
      have ea : w.en.getD i 0 = a := by rw [List.getD_eq_getElem?_getD, ha]; rfl
      have eb : w.en.getD j 0 = b := by rw [List.getD_eq_getElem?_getD, hb]; rfl
      have hE4 := seqT_same s4 hE
      -- if ends[first] == ends[last]
      refine ⟨.ref ae, rfl, .int (i : Int), rfl, ae, _, _, .int a, rfl, rfl, hE4, atI_nat ha', .ref ae, rfl, .int (j : Int), rfl, ae, _, _, .int b, rfl, rfl, hE4, atI_nat hb', rfl, _, rfl, ite2 (fun e => ?_) (fun e => ?_)⟩
      · have e : a = b := V.int.inj (of_decide_eq_true e)
        refine ⟨.ref ac, rfl, .ref l, rfl, .int w.rg, rfl, w.rg, 1, rfl, rfl, (by show 3 ≤ sizeLine; decide), fun t nt => ?_⟩
        have s5 : Same H4 (upd H4 t (.tup [.ref ac, .ref l, .int (w.rg + 1)])) := same_upd nt
        have ej : joinedM w i j = ⟨w.cr, keptM w.en i j, w.rg + 1⟩ := by
          unfold joinedM
          dsimp only
          rw [ea, eb, if_pos e]
        refine q _ _ (s4.trans s5) ?_
        rw [ej]
        exact web_dp (w := ⟨w.cr, keptM w.en i j, w.rg + 1⟩) (cs := cs) (.inl (.inl upd_same)) (seqT_same (s4.trans s5) hC) (dpAll_same (s4.trans s5) _ _ hCs) (.inl (.inl (s5 _ _ hl4)))
      · have e : ¬ a = b := fun z => e (by rw [z]; exact decide_eq_true rfl)
        -- names = {}; for arc in places(web)
        refine fun n nn => ?_
        have s5 : Same H4 (upd H4 n (.dK [])) := same_upd nn
        refine ⟨.ref aw, rfl, .ref aw, w, rfl, dp_same (s4.trans s5) _ _ hD, hS, fun H6 p s6 np hP => ?_⟩
        obtain ⟨kvs, hk, hkeys⟩ := hP.keys
        have hkeys : kvs.map (·.1) = (keys w).map Sum.inl := hkeys
        have el : kvs.length = (keys w).length := by
          have e := congrArg List.length hkeys
          rw [List.length_map, List.length_map] at e
          exact e
        have lk : (keys w).length ≤ 1000 := Nat.le_trans (keys_len w) hS.sp
        have npn : p ≠ n := fun z => by
          rw [z, upd_same] at np
          cases np
        have np4 : H4 p = none := s5.free np
        refine ⟨p, kvs, rfl, hk, fun o => for_it walk_keys (fun t σ H3 => ∃ y9, σ = [some (.ref aw), some (.int (i : Int)), some (.int (j : Int)), some (.ref ac), some (.ref ae), some (.int w.rg), some (.ref l), some (.ref n), none, y9] ∧ H3 p = some (.frz o (.dK kvs)) ∧ Same H4 H3 ∧
            ∃ ns : List (Key × V), H3 n = some (.dK ns) ∧ ns.length ≤ t ∧ ∀ x, x ∈ (keys w).take t → valV ns (Sum.inl x) = some (.int x))
          ⟨none, rfl, upd_same, same_over (s5.trans s6) np4, [], by rw [upd_ne npn.symm]; exact s6 _ _ upd_same, Nat.le_refl _, fun x h => by simp at h⟩ (fun t σ H3 _ ⟨_, _, h, _⟩ => h) ?_ ?_⟩
        · rintro t x σ H3 H3' ht ⟨y9, rfl, hp, s7, ns, hn, ln, hv⟩ ⟨rfl, k, vv, hkv, rfl⟩
          have htk : t < (keys w).length := by omega
          have e3 : (kvs.map (·.1))[t]? = some (Sum.inl (keys w)[t]) := by
            rw [hkeys, List.getElem?_map, List.getElem?_eq_getElem htk]
            rfl
          rw [List.getElem?_map, hkv] at e3
          have ek : k = Sum.inl (keys w)[t] := Option.some.inj e3
          subst ek
          refine ⟨_, rfl, .ref n, rfl, _, rfl, n, _, rfl, DPut.k (k := Sum.inl (keys w)[t]) hn (small1000 (by omega)), ?_⟩
          refine ⟨_, rfl, ?_, same_over s7 nn, _, upd_same, Nat.le_trans (length_putK _ _ _) (by omega), fun x hx => ?_⟩
          · rw [upd_ne (ne_of hp hn (by intro z; cases z))]
            exact hp
          · rw [valV_put]
            rw [List.take_add_one, List.getElem?_eq_getElem htk] at hx
            rcases List.mem_append.mp hx with z | z
            · by_cases hxe : (Sum.inl x : Key) = Sum.inl (keys w)[t]
              · rw [if_pos hxe]
                exact congrArg (fun z => some (kV z)) hxe.symm
              · rw [if_neg hxe]
                exact hv x z
            · have z : x = (keys w)[t] := by simpa using z
              rw [if_pos (by rw [z]), z]
              rfl
        · rintro σ H3 ⟨y9, rfl, hp, s7, ns, hn, ln, hv⟩
          rw [el, List.take_length] at hv
          have hE7 := seqT_same s7 hE4
          refine ⟨.ref ae, rfl, .int (i : Int), rfl, ae, _, _, .int a, rfl, rfl, hE7, atI_nat ha', .ref n, rfl, .ref ae, rfl, .int (j : Int), rfl, ae, _, _, .int b, rfl, rfl, hE7, atI_nat hb', n, _, rfl, DPut.k (k := Sum.inl b) hn (small1000 (by omega)), ?_⟩
          have s8 : Same H4 (upd H3 n (.dK (putK ns (Sum.inl b) (.int a)))) := same_over s7 nn
          have hn8 : (upd H3 n (.dK (putK ns (Sum.inl b) (.int a)))) n = some (.dK (putK ns (Sum.inl b) (.int a))) := upd_same
          generalize upd H3 n (.dK (putK ns (Sum.inl b) (.int a))) = H8 at s8 hn8
          refine ⟨.ref ac, rfl, .ref l, rfl, .int w.rg, rfl, (by show 3 ≤ sizeLine; decide), fun t nt => ?_⟩
          have s9 : Same H8 (upd H8 t (.tup [.ref ac, .ref l, .int w.rg])) := same_upd nt
          have sA := s4.trans (s8.trans s9)
          have ej : joinedM w i j = ren (fun x => if x = b then a else x) ⟨w.cr, keptM w.en i j, w.rg⟩ := by
            unfold joinedM
            dsimp only
            rw [ea, eb, if_neg e]
          refine ⟨.ref n, rfl, .ref t, ⟨w.cr, keptM w.en i j, w.rg⟩, n, (fun x => if x = b then a else x), rfl, ?_, ⟨_, s9 _ _ hn8, fun x hx => ?_⟩, hS.of (kept_len _ _ _), fun H' v' s' h' => ?_⟩
          · exact web_dp (w := ⟨w.cr, keptM w.en i j, w.rg⟩) (cs := cs) (.inl (.inl upd_same)) (seqT_same sA hC) (dpAll_same sA _ _ hCs) (.inl (.inl (s9 _ _ (s8 _ _ hl4))))
          · rw [valV_put]
            by_cases hxb : x = b
            · rw [if_pos (by rw [hxb])]
              dsimp only
              rw [if_pos hxb]
            · rw [if_neg (fun z => hxb (Sum.inl.inj z))]
              dsimp only
              rw [if_neg hxb]
              refine hv x ((mem_keys w x).mpr ?_)
              rcases List.mem_append.mp hx with z | z
              · exact List.mem_append_left _ z
              · exact List.mem_append_right _ (kept_sub z)
          · rw [ej] at q
            exact q H' v' (sA.trans s') h'

/-! ### shut -/
abbrev sShut : Stmt := topS 10
theorem scSu : FnScope ["web", "place"] ["web", "place"] (defScope sShut) := ⟨rfl, rfl, rfl, by decide +kernel, rfl, by decide +kernel, by decide +kernel⟩
def spShut (K : PySem.W.Frag) : Sp := fun vs H Q _ => ∃ v w, ∃ i : Nat, vs = [v, .int (i : Int)] ∧ Dp K H v (webD w) ∧ Small w ∧ i < w.en.length ∧ ∀ H' v', Same H H' → Dp K H' v' (webD (shutM w i)) → Q v' H'
theorem ok_shut (F : Fn K mg "shut" sShut ["web", "place"]) (g : Gb mg) (O1 : Ok P w K mg base 2 "joined" ["web", "first", "last"] (spJoined K)) (O2 : Ok P w K mg base 2 "named_anew" ["web"] (spAnew K)) :
    Ok P w K mg base 3 "shut" ["web", "place"] (spShut K) := by
  obtain ⟨f, fd, FF, m, b⟩ := F
  obtain ⟨fJ, dJ, GJ, mJ, kJ, bJ⟩ := O1
  obtain ⟨fA, dA, GA, mA, kA, bA⟩ := O2
  refine ⟨f, fd, ?_, m, FF.kp, b⟩
  refine FF.ok scSu (fun vs H Q E h => ?_) (fun cdv A outer s H vs Q E hr h => ?_)
  · obtain ⟨v, w, i, rfl, _⟩ := h
    rfl
  · obtain ⟨v, w, i, rfl, hD, hS, hi, q⟩ := h
    refine ⟨_, (pss_one (ps_ret (pe_call GA (hr.mono (by decide)) (by rfl) mA kA bA .nil pass0 (pa_cons (pe_call GJ (hr.mono (by decide)) (by rfl) mJ kJ bJ .nil pass0 (pa_cons (pv 0) (pa_cons (pv 1) (pa_cons (pe_op op_mod (pe_op op_add (pv 1) pe_int) (pe_callB (r := rLenSeq K) call_lenK (by rfl) g.len PySem.boot_len (pa_cons (pe_ix ix_tup (pv 0) pe_int (fun _ _ => rfl)) pa_nil))) pa_nil)))) pa_nil)))), ?_⟩
    obtain ⟨aw, ac, ae, cs, rfl, hW, hC, hCs, hE⟩ := dp_web hD
    have hpos : (0 : Int) < ((w.en.map V.int).length : Int) := by
      rw [List.length_map]
      omega
    refine ⟨.ref aw, rfl, .int (i : Int), rfl, .int (i : Int), rfl, (i : Int), 1, rfl, rfl, ?_⟩
    refine ⟨.ref aw, rfl, aw, _, 1, _, rfl, rfl, hW, atI_nat (j := 1) rfl, ae, _, rfl, .inr hE, _, _, rfl, rfl, hpos, ?_⟩
    have em : ((i : Int) + 1) % ((w.en.map V.int).length : Int) = (((i + 1) % w.en.length : Nat) : Int) := by
      rw [List.length_map]
      simp
    have ev : [V.ref aw, V.int (i : Int), V.int (((i : Int) + 1) % ((w.en.map V.int).length : Int))] = [V.ref aw, V.int (i : Int), V.int (((i + 1) % w.en.length : Nat) : Int)] := by rw [em]
    exact ⟨_, w, i, (i + 1) % w.en.length, ev, hD, hS, hi, Nat.mod_lt _ (by omega), fun H' v' s' h' => ⟨v', _, rfl, h', hS.joined _ _, fun H2 v2 s2 h2 => q H2 v2 (s'.trans s2) h2⟩⟩

/-! ### side_by_side -/
abbrev sSide : Stmt := topS 11
theorem scSi : FnScope ["one", "other", "names", "first", "arc", "crossings", "ends", "rings"] ["one", "other"] (defScope sSide) := ⟨rfl, rfl, rfl, by decide +kernel, rfl, by decide +kernel, by decide +kernel⟩
def spSide (K : PySem.W.Frag) : Sp := fun vs H Q _ => ∃ v v2 u w, vs = [v, v2] ∧ Dp K H v (webD u) ∧ Dp K H v2 (webD w) ∧ Small u ∧ Small w ∧ ∀ H' v', Same H H' → Dp K H' v' (webD (sideM u w)) → Q v' H'
theorem greatest_spec : ∀ (l : List Int) (d m : Int), (l = [] → m = d) → (l ≠ [] → m ∈ l ∧ ∀ j ∈ l, j ≤ m) → m = greatest l d
  | [], d, m, h, _ => h rfl
  | a :: r, d, m, _, h => by
    obtain ⟨h1, h2⟩ := h (List.cons_ne_nil _ _)
    have key : ∀ (r : List Int) (a : Int), (r.foldl max a) ∈ a :: r ∧ ∀ j ∈ a :: r, j ≤ r.foldl max a := by
      intro r
      induction r with
      | nil => intro a; simp
      | cons b r ih =>
        intro a
        obtain ⟨g1, g2⟩ := ih (max a b)
        refine ⟨?_, fun j hj => ?_⟩
        · show r.foldl max (max a b) ∈ _
          rcases List.mem_cons.mp g1 with z | z
          · rw [z]
            rcases Int.le_total a b with q | q
            · rw [Int.max_eq_right q]
              simp
            · rw [Int.max_eq_left q]
              simp
          · simp [z]
        · show j ≤ r.foldl max (max a b)
          have g3 := g2 (max a b) List.mem_cons_self
          rcases List.mem_cons.mp hj with z | z
          · rw [z]
            have : a ≤ max a b := Int.le_max_left _ _
            omega
          · rcases List.mem_cons.mp z with z | z
            · rw [z]
              have : b ≤ max a b := Int.le_max_right _ _
              omega
            · exact g2 j (List.mem_cons_of_mem _ z)
    obtain ⟨k1, k2⟩ := key r a
    have e1 := h2 _ k1
    have e2 := k2 _ h1
    show m = r.foldl max a
    omega
theorem ok_side (F : Fn K mg "side_by_side" sSide ["one", "other"]) (g : Gb mg) (O1 : Ok P w K mg base 1 "places" ["web"] (spPlaces K)) (O2 : Ok P w K mg base 1 "named_by" ["web", "names"] (spNamedBy K)) :
    Ok P w K mg base 2 "side_by_side" ["one", "other"] (spSide K) := by
  obtain ⟨f, fd, FF, m, b⟩ := F
  obtain ⟨fP, dP, GP, mP, kP, bP⟩ := O1
  obtain ⟨fN, dN, GN, mN, kN, bN⟩ := O2
  refine ⟨f, fd, ?_, m, FF.kp, b⟩
  refine FF.ok scSi (fun vs H Q E h => ?_) (fun cdv A outer s H vs Q E hr h => ?_)
  · obtain ⟨v, v2, u, w, rfl, _⟩ := h
    rfl
  · obtain ⟨v, v2, u, w, rfl, hU, hD, hSu, hS, q⟩ := h
    have hu := hu_of hr
    refine ⟨_, (pss_cons (ps_set (i := 2) scSi.nd rfl (.inl rfl) pe_dnewK)
 (pss_cons (ps_set (i := 3) scSi.nd rfl (.inl rfl) (pe_op op_add pe_int (pe_callBK (cr_maxD rfl) (by rfl) g.max (by decide +kernel) (pa_cons (pe_call GP (hr.mono (by decide)) (by rfl) mP kP bP .nil pass0 (pa_cons (pv 0) pa_nil)) pa_nil) (pk_cons (pe_un un_neg pe_int) pk_nil))))
 (pss_cons (ps_for PassesOwn.never rfl (pi_keysN (pe_call GP (hr.mono (by decide)) (by rfl) mP kP bP .nil pass0 (pa_cons (pv 1) pa_nil))) (pg_name (i := 4) scSi.nd rfl (.inl rfl))
 (pss_one (ps_dput hu (pv 2) (pv 4) (pe_op op_add (pv 3) (pv 4)) rfl)))
 (pss_cons (ps_asg (pe_call GN (hr.mono (by decide)) (by rfl) mN kN bN .nil pass0 (pa_cons (pv 1) (pa_cons (pv 2) pa_nil))) (pg_tup rfl (pgs_cons (pg_name (i := 5) scSi.nd rfl (.inl rfl)) (pgs_cons (pg_name (i := 6) scSi.nd rfl (.inl rfl)) (pgs_cons (pg_name (i := 7) scSi.nd rfl (.inl rfl)) pgs_nil)))))
 (pss_one (ps_ret (pe_tup (pa_cons (pe_op op_catA (pe_ix ix_tup (pv 0) pe_int (fun _ _ => rfl)) (pv 5)) (pa_cons (pe_op op_catA (pe_ix ix_tup (pv 0) pe_int (fun _ _ => rfl)) (pv 6)) (pa_cons (pe_op op_add (pe_ix ix_tup (pv 0) pe_int (fun _ _ => rfl)) (pv 7)) pa_nil)))))))))), ?_⟩
    obtain ⟨aw, ac, ae, cs, rfl, hW, hC, hCs, hE⟩ := dp_web hU
    refine fun n nn => ?_
    have s1 : Same H (upd H n (.dK [])) := same_upd nn
    have hn1 : (upd H n (.dK [])) n = some (.dK []) := upd_same
    generalize upd H n (.dK []) = H1 at s1 hn1
    -- first = 1 + max(places(one), default=-1)
    refine ⟨.ref aw, rfl, .ref aw, u, rfl, dp_same s1 _ _ hU, hSu, fun H2 p s2 np hP => ?_⟩
    obtain ⟨kvs, hk, hkeys⟩ := hP.keys
    refine ⟨1, rfl, p, kvs, keys u, -1, rfl, rfl, hk, hkeys, fun mx h1 h2 => ⟨1, mx, rfl, rfl, ?_⟩⟩
    have emx : mx = greatest (keys u) (-1) := greatest_spec _ _ _ h1 h2
    -- for arc in places(other)
    have s12 := s1.trans s2
    refine ⟨v2, rfl, v2, w, rfl, dp_same s12 _ _ hD, hS, fun H3 p3 s3 np3 hP3 => ?_⟩
    obtain ⟨kvs3, hk3, hkeys3⟩ := hP3.keys
    have hkeys3 : kvs3.map (·.1) = (keys w).map Sum.inl := hkeys3
    have el : kvs3.length = (keys w).length := by
      have e := congrArg List.length hkeys3
      rw [List.length_map, List.length_map] at e
      exact e
    have lk : (keys w).length ≤ 1000 := Nat.le_trans (keys_len w) hS.sp
    have hn3 := s3 _ _ (s2 _ _ hn1)
    have npn : p3 ≠ n := (ne_of_none (s2 _ _ hn1) np3).symm
    have npH : H p3 = none := s12.free np3
    refine ⟨p3, kvs3, rfl, hk3, fun o => for_it walk_keys (fun t σ H4 => ∃ y4, σ = [some (.ref aw), some v2, some (.ref n), some (.int (1 + mx)), y4, none, none, none] ∧ H4 p3 = some (.frz o (.dK kvs3)) ∧ Same H H4 ∧
        ∃ ns : List (Key × V), H4 n = some (.dK ns) ∧ ns.length ≤ t ∧ ∀ x, x ∈ (keys w).take t → valV ns (Sum.inl x) = some (.int (1 + mx + x)))
      ⟨none, rfl, upd_same, same_over (s12.trans s3) npH, [], by rw [upd_ne npn.symm]; exact hn3, Nat.le_refl _, fun x h => by simp at h⟩ (fun t σ H3 _ ⟨_, _, h, _⟩ => h) ?_ ?_⟩
    · rintro t x σ H4 H4' ht ⟨y9, rfl, hp, s7, ns, hn, ln, hv⟩ ⟨rfl, k, vv, hkv, rfl⟩
      have htk : t < (keys w).length := by omega
      have e3 : (kvs3.map (·.1))[t]? = some (Sum.inl (keys w)[t]) := by
        rw [hkeys3, List.getElem?_map, List.getElem?_eq_getElem htk]
        rfl
      rw [List.getElem?_map, hkv] at e3
      have ek : k = Sum.inl (keys w)[t] := Option.some.inj e3
      subst ek
      refine ⟨.int (1 + mx), rfl, .int (keys w)[t], rfl, _, _, rfl, rfl, .ref n, rfl, _, rfl, n, _, rfl, DPut.k (k := Sum.inl (keys w)[t]) hn (small1000 (by omega)), ?_⟩
      refine ⟨_, rfl, ?_, same_over s7 nn, _, upd_same, Nat.le_trans (length_putK _ _ _) (by omega), fun x hx => ?_⟩
      · rw [upd_ne (ne_of hp hn (by intro z; cases z))]
        exact hp
      · rw [valV_put]
        rw [List.take_add_one, List.getElem?_eq_getElem htk] at hx
        rcases List.mem_append.mp hx with z | z
        · by_cases hxe : (Sum.inl x : Key) = Sum.inl (keys w)[t]
          · rw [if_pos hxe, ← Sum.inl.inj hxe]
          · rw [if_neg hxe]
            exact hv x z
        · have z : x = (keys w)[t] := by simpa using z
          rw [if_pos (by rw [z]), z]
    · rintro σ H4 ⟨y9, rfl, hp, s7, ns, hn, ln, hv⟩
      rw [el, List.take_length] at hv
      refine ⟨v2, rfl, .ref n, rfl, v2, w, n, (fun x => 1 + mx + x), rfl, dp_same s7 _ _ hD, ⟨ns, hn, fun x hx => hv x ((mem_keys w x).mpr hx)⟩, hS, fun H5 v5 s5 h5 => ?_⟩
      obtain ⟨bw, bc, be, bs, rfl, gW, gC, gCs, gE⟩ := dp_web h5
      refine ⟨bw, _, rfl, gW, rfl, _, _, rfl, _, _, rfl, _, _, rfl, rfl, ?_⟩
      have s75 := s7.trans s5
      refine ⟨.ref aw, rfl, aw, _, 0, _, rfl, rfl, seqT_same s75 hW, atI_nat (j := 0) rfl, .ref bc, rfl, ?_⟩
      refine catA_ok (seqT_same s75 hC) gC ?_ fun H6 c6 s6 h6 => ?_
      · rw [dpAll_len hCs, dpAll_len gCs, List.length_map, List.length_map]
        have := hSu.cr
        have := (hS.ren (fun x => 1 + mx + x)).cr
        exact sz1000 (by omega)
      · have s76 := s75.trans s6
        refine ⟨.ref aw, rfl, aw, _, 1, _, rfl, rfl, seqT_same s76 hW, atI_nat (j := 1) rfl, .ref be, rfl, ?_⟩
        refine catA_ok (seqT_same s76 hE) (seqT_same s6 gE) ?_ fun H8 c8 s8 h8 => ?_
        · have h1 := hSu.sp
          have h2 := (hS.ren (fun x => 1 + mx + x)).sp
          rw [allSpots_len] at h1 h2
          rw [List.length_map, List.length_map]
          have : (2000 : Nat) ≤ sizeLine := by decide
          omega
        · have s78 := s76.trans s8
          refine ⟨.ref aw, rfl, aw, _, 2, _, rfl, rfl, seqT_same s78 hW, atI_nat (j := 2) rfl, _, rfl, _, _, rfl, rfl, (by show 3 ≤ sizeLine; decide), fun t nt => ?_⟩
          have s9 := same_upd (o := .tup [.ref c6, .ref c8, .int (u.rg + w.rg)]) nt
          have e1 : sideM u w = ⟨u.cr ++ (ren (fun x => 1 + mx + x) w).cr, u.en ++ (ren (fun x => 1 + mx + x) w).en, u.rg + w.rg⟩ := by
            unfold sideM
            dsimp only
            rw [← emx]
            rfl
          refine q _ _ (s78.trans s9) ?_
          rw [e1]
          refine web_dp (w := ⟨u.cr ++ (ren (fun x => 1 + mx + x) w).cr, u.en ++ (ren (fun x => 1 + mx + x) w).en, u.rg + w.rg⟩) (.inl (.inl upd_same)) (seqT_same (s8.trans s9) h6) ?_ (seqT_same s9 ?_)
          · show DpAll K _ _ ((u.cr ++ (ren (fun x => 1 + mx + x) w).cr).map tupI)
            rw [List.map_append]
            exact dpAll_app (dpAll_same (s78.trans s9) _ _ hCs) (dpAll_same (s6.trans (s8.trans s9)) _ _ gCs)
          · show SqT K _ _ ((u.en ++ (ren (fun x => 1 + mx + x) w).en).map V.int)
            rw [List.map_append]
            exact h8
end
end TH
end

section
set_option Elab.async false
set_option linter.all false
set_option maxRecDepth 100000
namespace TH
open PySem PySem.Spec PyProof.Rows L2

theorem kept_tail : ∀ (en : List Int) (k : Nat) (i j : Int), i < k → j < k → ((en.zipIdx k).filter fun p => decide (¬ ((p.2 : Int) = i ∨ (p.2 : Int) = j))).map (·.1) = en
  | [], _, _, _, _, _ => rfl
  | a :: r, k, i, j, h1, h2 => by
    rw [List.zipIdx_cons, List.filter_cons, if_pos (by simp; omega), List.map_cons, kept_tail r (k + 1) i j (by omega) (by omega)]
theorem kept_from : ∀ (en : List Int) (k d : Nat), ((en.zipIdx k).filter fun p => decide (¬ ((p.2 : Int) = (k + d : Nat) ∨ (p.2 : Int) = (k + d + 1 : Nat)))).map (·.1) = en.take d ++ en.drop (d + 2)
  | [], _, _ => by simp
  | a :: r, k, 0 => by
    rw [List.zipIdx_cons, List.filter_cons, if_neg (by simp)]
    cases r with
    | nil => simp
    | cons b r =>
      rw [List.zipIdx_cons, List.filter_cons, if_neg (by simp)]
      rw [kept_tail r (k + 1 + 1) _ _ (by omega) (by omega)]
      simp
  | a :: r, k, d + 1 => by
    have ih := kept_from r (k + 1) d
    rw [show k + 1 + d = k + (d + 1) by omega] at ih
    rw [List.zipIdx_cons, List.filter_cons, if_pos (by simp; omega), List.map_cons, ih]
    simp
theorem kept_adj (en : List Int) (i : Nat) : keptM en i (i + 1 : Nat) = en.take i ++ en.drop (i + 2) := by
  have q := kept_from en 0 i
  rw [Nat.zero_add] at q
  exact q
theorem joined_en_len (w : Web) (i : Nat) (h : i + 1 < w.en.length) : (joinedM w i (i + 1)).en.length = w.en.length - 2 := by
  have e : (keptM w.en i (i + 1 : Nat)).length = w.en.length - 2 := by
    rw [kept_adj]
    simp
    omega
  unfold joinedM
  dsimp only
  split
  · exact e
  · show ((keptM w.en i (i + 1 : Nat)).map _).length = _
    rw [List.length_map]
    exact e
abbrev sGlued : Stmt := topS 12
theorem scGl : FnScope ["one", "other", "many", "web", "last"] ["one", "other", "many"] (defScope sGlued) := ⟨rfl, rfl, rfl, by decide +kernel, rfl, by decide +kernel, by decide +kernel⟩
def spGlued (K : PySem.W.Frag) : Sp := fun vs H Q _ => ∃ v v2 u w, vs = [v, v2, .int 2] ∧ Dp K H v (webD u) ∧ Dp K H v2 (webD w) ∧ Small u ∧ Small w ∧ Small (sideM u w) ∧ 2 ≤ u.en.length ∧ 2 ≤ w.en.length ∧ ∀ H' v', Same H H' → Dp K H' v' (webD (gluedM u w)) → Q v' H'
/-- behind t joinings -/
def glN (u w : Web) : Nat → Web
  | 0 => sideM u w
  | 1 => joinedM (sideM u w) (u.en.length - 1) u.en.length
  | _ => joinedM (joinedM (sideM u w) (u.en.length - 1) u.en.length) (u.en.length - 2) (u.en.length - 1)
theorem glN_small {u w : Web} (h : Small (sideM u w)) : ∀ t, Small (glN u w t)
  | 0 => h
  | 1 => h.joined _ _
  | _ + 2 => (h.joined _ _).joined _ _
section
variable {P : Program} {w : World} {K : PySem.W.Frag} {mg : Str → Option Value} {base : Heap}
theorem ok_glued (F : Fn K mg "glued" sGlued ["one", "other", "many"]) (g : Gb mg) (O1 : Ok P w K mg base 2 "side_by_side" ["one", "other"] (spSide K)) (O2 : Ok P w K mg base 2 "joined" ["web", "first", "last"] (spJoined K)) (O3 : Ok P w K mg base 2 "named_anew" ["web"] (spAnew K)) :
    Ok P w K mg base 3 "glued" ["one", "other", "many"] (spGlued K) := by
  obtain ⟨f, fd, FF, m, b⟩ := F
  obtain ⟨fS, dS, GS, mS, kS, bS⟩ := O1
  obtain ⟨fJ, dJ, GJ, mJ, kJ, bJ⟩ := O2
  obtain ⟨fA, dA, GA, mA, kA, bA⟩ := O3
  refine ⟨f, fd, ?_, m, FF.kp, b⟩
  refine FF.ok scGl (fun vs H Q E h => ?_) (fun cdv A outer s H vs Q E hr h => ?_)
  · obtain ⟨v, v2, u, w, rfl, _⟩ := h
    rfl
  · obtain ⟨v, v2, u, w, rfl, hU, hD, hSu, hS, hSS, l1, l2, q⟩ := h
    refine ⟨_, (pss_cons (ps_set (i := 3) scGl.nd rfl (.inl rfl) (pe_call GS (hr.mono (by decide)) (by rfl) mS kS bS .nil pass0 (pa_cons (pv 0) (pa_cons (pv 1) pa_nil))))
 (pss_cons (ps_for PassesOwn.never rfl (pi_range3 (by rfl) g.range (pa_cons (pe_op op_sub (pe_callB (r := rLenSeq K) call_lenK (by rfl) g.len PySem.boot_len (pa_cons (pe_ix ix_tup (pv 0) pe_int (fun _ _ => rfl)) pa_nil)) pe_int) (pa_cons (pe_op op_sub (pe_op op_sub (pe_callB (r := rLenSeq K) call_lenK (by rfl) g.len PySem.boot_len (pa_cons (pe_ix ix_tup (pv 0) pe_int (fun _ _ => rfl)) pa_nil)) pe_int) (pv 2)) (pa_cons (pe_un un_neg pe_int) pa_nil)))) (pg_name (i := 4) scGl.nd rfl (.inl rfl))
 (pss_one (ps_set (i := 3) scGl.nd rfl (.inl rfl) (pe_call GJ (hr.mono (by decide)) (by rfl) mJ kJ bJ .nil pass0 (pa_cons (pv 3) (pa_cons (pv 4) (pa_cons (pe_op op_add (pv 4) pe_int) pa_nil)))))))
 (pss_one (ps_ret (pe_call GA (hr.mono (by decide)) (by rfl) mA kA bA .nil pass0 (pa_cons (pv 3) pa_nil)))))), ?_⟩
    obtain ⟨aw, ac, ae, cs, rfl, hW, hC, hCs, hE⟩ := dp_web hU
    refine ⟨_, rfl, v2, rfl, _, v2, u, w, rfl, hU, hD, hSu, hS, fun H1 v1 s1 h1 => ?_⟩
    have hlen : ((u.en.map V.int).length : Int) = u.en.length := by rw [List.length_map]
    have b1 : (u.en.length : Int) ≤ 1000 := by
      have := hSu.sp
      rw [allSpots_len] at this
      omega
    have hW1 := seqT_same s1 hW
    have hE1 := seqT_same s1 hE
    refine ⟨.ref aw, rfl, aw, _, 1, _, rfl, rfl, hW1, atI_nat (j := 1) rfl, ae, _, rfl, .inr hE1, _, 1, rfl, rfl, ?_⟩
    refine ⟨.ref aw, rfl, aw, _, 1, _, rfl, rfl, hW1, atI_nat (j := 1) rfl, ae, _, rfl, .inr hE1, _, 1, rfl, rfl, .int 2, rfl, _, 2, rfl, rfl, 1, rfl, ?_⟩
    have e0 : ((((u.en.map V.int).length : Int) - 1) - ((((u.en.map V.int).length : Int) - 1) - 2)).toNat = 2 := by omega
    refine ⟨_, _, -1, 2, rfl, e0 ▸ RgC.neg (by omega) (by omega) (by omega) (by omega), ?_⟩
    refine for_it walk_rangeC (fun t σ H3 => ∃ v3 y4, σ = [some (.ref aw), some v2, some (.int 2), some v3, y4] ∧ Same H H3 ∧ Dp K H3 v3 (webD (glN u w t))) ⟨v1, none, rfl, s1, h1⟩ (fun _ _ _ _ _ => trivial) ?_ ?_
    · rintro t x σ H3 H4 ht ⟨v3, y4, rfl, s3, h3⟩ ⟨rfl, rfl⟩
      have hside : (sideM u w).en.length = u.en.length + w.en.length := by simp [sideM, ren]
      rcases (show t = 0 ∨ t = 1 by omega) with rfl | rfl
      · refine ⟨v3, rfl, _, rfl, _, rfl, _, 1, rfl, rfl, v3, sideM u w, u.en.length - 1, u.en.length, ?_, h3, hSS, by omega, by omega, fun H5 v5 s5 h5 => ⟨v5, _, rfl, s3.trans s5, h5⟩⟩
        have e1 : (((u.en.map V.int).length : Int) - 1) + ((0 : Nat) : Int) * -1 = ((u.en.length - 1 : Nat) : Int) := by rw [hlen]; omega
        have e2 : (((u.en.map V.int).length : Int) - 1) + ((0 : Nat) : Int) * -1 + 1 = (u.en.length : Int) := by rw [hlen]; omega
        show [v3, V.int ((((u.en.map V.int).length : Int) - 1) + ((0 : Nat) : Int) * -1), V.int ((((u.en.map V.int).length : Int) - 1) + ((0 : Nat) : Int) * -1 + 1)] = _
        rw [e2, e1]
      · have hj := joined_en_len (sideM u w) (u.en.length - 1) (by omega)
        rw [show u.en.length - 1 + 1 = u.en.length by omega] at hj
        refine ⟨v3, rfl, _, rfl, _, rfl, _, 1, rfl, rfl, v3, glN u w 1, u.en.length - 2, u.en.length - 1, ?_, h3, glN_small hSS 1, ?_, ?_, fun H5 v5 s5 h5 => ⟨v5, _, rfl, s3.trans s5, h5⟩⟩
        · have e1 : (((u.en.map V.int).length : Int) - 1) + ((1 : Nat) : Int) * -1 = ((u.en.length - 2 : Nat) : Int) := by rw [hlen]; omega
          have e2 : (((u.en.map V.int).length : Int) - 1) + ((1 : Nat) : Int) * -1 + 1 = ((u.en.length - 1 : Nat) : Int) := by rw [hlen]; omega
          show [v3, V.int ((((u.en.map V.int).length : Int) - 1) + ((1 : Nat) : Int) * -1), V.int ((((u.en.map V.int).length : Int) - 1) + ((1 : Nat) : Int) * -1 + 1)] = _
          rw [e2, e1]
        · show u.en.length - 2 < (joinedM (sideM u w) (u.en.length - 1) u.en.length).en.length
          omega
        · show u.en.length - 1 < (joinedM (sideM u w) (u.en.length - 1) u.en.length).en.length
          omega
    · rintro σ H3 ⟨v3, y4, rfl, s3, h3⟩
      exact ⟨v3, rfl, v3, glN u w 2, rfl, h3, glN_small hSS 2, fun H5 v5 s5 h5 => q H5 v5 (s3.trans s5) h5⟩

/-! ### beside, quarter, closed -/
abbrev sBeside : Stmt := topS 13
theorem scBs : FnScope ["one", "other"] ["one", "other"] (defScope sBeside) := ⟨rfl, rfl, rfl, by decide +kernel, rfl, by decide +kernel, by decide +kernel⟩
def spBeside (K : PySem.W.Frag) : Sp := fun vs H Q _ => ∃ v v2 u w, vs = [v, v2] ∧ Dp K H v (webD u) ∧ Dp K H v2 (webD w) ∧ Small u ∧ Small w ∧ Small (sideM u w) ∧ 2 ≤ u.en.length ∧ 2 ≤ w.en.length ∧ ∀ H' v', Same H H' → Dp K H' v' (webD (gluedM u w)) → Q v' H'
theorem ok_beside (F : Fn K mg "beside" sBeside ["one", "other"]) (g : Gb mg) (O1 : Ok P w K mg base 3 "glued" ["one", "other", "many"] (spGlued K)) :
    Ok P w K mg base 4 "beside" ["one", "other"] (spBeside K) := by
  obtain ⟨f, fd, FF, m, b⟩ := F
  obtain ⟨fG, dG, GG, mG, kG, bG⟩ := O1
  refine ⟨f, fd, ?_, m, FF.kp, b⟩
  refine FF.ok scBs (fun vs H Q E h => ?_) (fun cdv A outer s H vs Q E hr h => ?_)
  · obtain ⟨v, v2, u, w, rfl, _⟩ := h
    rfl
  · obtain ⟨v, v2, u, w, rfl, hU, hD, hSu, hS, hSS, l1, l2, q⟩ := h
    refine ⟨_, (pss_one (ps_ret (pe_call GG (hr.mono (by decide)) (by rfl) mG kG bG .nil pass0 (pa_cons (pv 0) (pa_cons (pv 1) (pa_cons pe_int pa_nil)))))), ?_⟩
    exact ⟨v, rfl, v2, rfl, v, v2, u, w, rfl, hU, hD, hSu, hS, hSS, l1, l2, q⟩
abbrev sQuarter : Stmt := topS 14
theorem scQu : FnScope ["one"] ["one"] (defScope sQuarter) := ⟨rfl, rfl, rfl, by decide +kernel, rfl, by decide +kernel, by decide +kernel⟩
def spQuarter (K : PySem.W.Frag) : Sp := fun vs H Q _ => ∃ v w, vs = [v] ∧ Dp K H v (webD w) ∧ Small w ∧ ∀ H' v', Same H H' → Dp K H' v' (webD (quarterM w)) → Q v' H'
theorem Small.shifted {w : Web} (h : Small w) (m : Nat) : Small (shiftedM w m) := by
  refine h.of ?_
  simp
  omega
theorem ok_quarter (F : Fn K mg "quarter" sQuarter ["one"]) (g : Gb mg) (O1 : Ok P w K mg base 1 "shifted" ["web", "many"] (spShifted K)) (O2 : Ok P w K mg base 2 "named_anew" ["web"] (spAnew K)) :
    Ok P w K mg base 3 "quarter" ["one"] (spQuarter K) := by
  obtain ⟨f, fd, FF, m, b⟩ := F
  obtain ⟨fS, dS, GS, mS, kS, bS⟩ := O1
  obtain ⟨fA, dA, GA, mA, kA, bA⟩ := O2
  refine ⟨f, fd, ?_, m, FF.kp, b⟩
  refine FF.ok scQu (fun vs H Q E h => ?_) (fun cdv A outer s H vs Q E hr h => ?_)
  · obtain ⟨v, w, rfl, _⟩ := h
    rfl
  · obtain ⟨v, w, rfl, hD, hS, q⟩ := h
    refine ⟨_, (pss_one (ps_ret (pe_call GA (hr.mono (by decide)) (by rfl) mA kA bA .nil pass0 (pa_cons (pe_call GS (hr.mono (by decide)) (by rfl) mS kS bS .nil pass0 (pa_cons (pv 0) (pa_cons pe_int pa_nil))) pa_nil)))), ?_⟩
    exact ⟨v, rfl, v, w, 3, rfl, hD, hS, fun H1 v1 s1 h1 => ⟨v1, _, rfl, h1, hS.shifted 3, fun H2 v2 s2 h2 => q H2 v2 (s1.trans s2) h2⟩⟩
abbrev sClosed : Stmt := topS 15
theorem scCl : FnScope ["one", "way"] ["one", "way"] (defScope sClosed) := ⟨rfl, rfl, rfl, by decide +kernel, rfl, by decide +kernel, by decide +kernel⟩
def spClosed (K : PySem.W.Frag) : Sp := fun vs H Q _ => ∃ v w, ∃ way : Int, vs = [v, .int way] ∧ Dp K H v (webD w) ∧ Small w ∧ w.en.length = 4 ∧ ∀ H' v', Same H H' → Dp K H' v' (webD (closedM w way)) → Q v' H'
theorem Small.anew {w : Web} (h : Small w) : Small (anew w) := h.ren _
theorem shut_small {w : Web} (h : Small w) (i : Nat) : Small (shutM w i) := (h.joined _ _).anew
theorem shut_len0 (w : Web) (h : w.en.length = 4) : (shutM w 0).en.length = 2 := by
  have q := joined_en_len w 0 (by omega)
  unfold shutM
  rw [h]
  show ((joinedM w 0 1).en.map _).length = 2
  rw [List.length_map, q, h]
theorem shut_len3 (w : Web) (h : w.en.length = 4) : (shutM w 3).en.length = 2 := by
  unfold shutM
  rw [h]
  show ((joinedM w 3 0).en.map _).length = 2
  rw [List.length_map]
  obtain ⟨cr, en, rg⟩ := w
  match en, h with
  | [a, b, c, d], _ =>
    unfold joinedM
    dsimp only
    split
    · rfl
    · rfl
theorem ok_closed (F : Fn K mg "closed" sClosed ["one", "way"]) (g : Gb mg) (O1 : Ok P w K mg base 3 "shut" ["web", "place"] (spShut K)) :
    Ok P w K mg base 4 "closed" ["one", "way"] (spClosed K) := by
  obtain ⟨f, fd, FF, m, b⟩ := F
  obtain ⟨fS, dS, GS, mS, kS, bS⟩ := O1
  refine ⟨f, fd, ?_, m, FF.kp, b⟩
  refine FF.ok scCl (fun vs H Q E h => ?_) (fun cdv A outer s H vs Q E hr h => ?_)
  · obtain ⟨v, w, way, rfl, _⟩ := h
    rfl
  · obtain ⟨v, w, way, rfl, hD, hS, hl, q⟩ := h
    refine ⟨_, (pss_cons (ps_if (pt_cmpR op_eq (pv 1) pe_int (nomark _)) (pss_one (ps_ret (pe_call GS (hr.mono (by decide)) (by rfl) mS kS bS .nil pass0 (pa_cons (pe_call GS (hr.mono (by decide)) (by rfl) mS kS bS .nil pass0 (pa_cons (pv 0) (pa_cons pe_int pa_nil))) (pa_cons pe_int pa_nil))))) pss_nil)
 (pss_one (ps_ret (pe_call GS (hr.mono (by decide)) (by rfl) mS kS bS .nil pass0 (pa_cons (pe_call GS (hr.mono (by decide)) (by rfl) mS kS bS .nil pass0 (pa_cons (pv 0) (pa_cons pe_int pa_nil))) (pa_cons pe_int pa_nil)))))), ?_⟩
    refine ⟨_, rfl, rfl, _, rfl, ite2 (fun e => ?_) (fun e => ?_)⟩
    · have e : way = 0 := V.int.inj (of_decide_eq_true e)
      refine ⟨v, rfl, v, w, 3, rfl, hD, hS, by omega, fun H1 v1 s1 h1 => ⟨v1, _, 0, rfl, h1, shut_small hS 3, by rw [shut_len3 w hl]; decide, fun H2 v2 s2 h2 => q H2 v2 (s1.trans s2) ?_⟩⟩
      unfold closedM
      rw [if_pos e]
      exact h2
    · have e : ¬ way = 0 := fun z => e (by rw [z]; exact decide_eq_true rfl)
      refine ⟨v, rfl, v, w, 0, rfl, hD, hS, by omega, fun H1 v1 s1 h1 => ⟨v1, _, 0, rfl, h1, shut_small hS 0, by rw [shut_len0 w hl]; decide, fun H2 v2 s2 h2 => q H2 v2 (s1.trans s2) ?_⟩⟩
      unfold closedM
      rw [if_neg e]
      exact h2
end
end TH
end

section
set_option Elab.async false
set_option linter.all false
set_option maxRecDepth 100000
namespace TH
open PySem PySem.Spec PyProof.Rows L2

/-! ### polynomials -/
def termD (t : Int × Int) : PyData := .tuple [.int t.1, .int t.2]
def polyD (l : Poly) : PyData := .tuple (l.map termD)
theorem noL_term (t : Int × Int) : noL (termD t) = true := rfl
theorem noL_poly (l : Poly) : noL (polyD l) = true := noLs_map noL_term l
theorem dp_term {K : PySem.W.Frag} {H : Hp} {v : V} {t : Int × Int} (h : Dp K H v (termD t)) : ∃ a, v = .ref a ∧ SqT K H a [.int t.1, .int t.2] := by
  obtain ⟨a, xs, e, hs, ha⟩ := dp_tup h
  obtain ⟨x, r, rfl, h1, h2⟩ := dpAll_cons ha
  obtain ⟨y, r2, rfl, h3, h4⟩ := dpAll_cons h2
  cases dpAll_nil h4
  cases dp_int h1
  cases dp_int h3
  exact ⟨a, e, hs⟩
theorem term_dp {K : PySem.W.Frag} {H : Hp} {a : Addr} {t : Int × Int} (h : SqT K H a [.int t.1, .int t.2]) : Dp K H (.ref a) (termD t) := .tup h (.cons (.int _) (.cons (.int _) .nil))
theorem term_at {K : PySem.W.Frag} {H : Hp} {l : Poly} {xs : List V} {i : Nat} {x : V} (h : DpAll K H xs (l.map termD)) (e : xs[i]? = some x) : ∃ t a, l[i]? = some t ∧ x = .ref a ∧ SqT K H a [.int t.1, .int t.2] := by
  obtain ⟨d, h1, h2⟩ := dpAll_at h e
  rw [List.getElem?_map] at h1
  obtain ⟨t, h3, rfl⟩ := Option.map_eq_some_iff.mp h1
  obtain ⟨a, h4, h5⟩ := dp_term h2
  exact ⟨t, a, h3, h4, h5⟩

/-! ### lifted -/
abbrev sLifted : Stmt := topS 19
theorem scLi : FnScope ["one", "many", "power", "number"] ["one", "many"] (defScope sLifted) := ⟨rfl, rfl, rfl, by decide +kernel, rfl, by decide +kernel, by decide +kernel⟩
def spLifted (K : PySem.W.Frag) : Sp := fun vs H Q _ => ∃ v l, ∃ k : Int, vs = [v, .int k] ∧ Dp K H v (polyD l) ∧ l.length ≤ 1000000 ∧ ∀ H' v', Same H H' → Dp K H' v' (polyD (liftedM l k)) → Q v' H'
theorem mill {n : Nat} (h : n ≤ 2000000) : n < sizeLine := Nat.lt_of_le_of_lt h (by decide)
section
variable {P : Program} {w : World} {K : PySem.W.Frag} {mg : Str → Option Value} {base : Heap}
theorem ok_lifted (F : Fn K mg "lifted" sLifted ["one", "many"]) (g : Gb mg) : Ok P w K mg base 1 "lifted" ["one", "many"] (spLifted K) := by
  obtain ⟨f, fd, FF, m, b⟩ := F
  refine ⟨f, fd, ?_, m, FF.kp, b⟩
  refine FF.ok scLi (fun vs H Q E h => ?_) (fun cdv A outer s H vs Q E hr h => ?_)
  · obtain ⟨v, l, k, rfl, _⟩ := h
    rfl
  · obtain ⟨v, l, k, rfl, hD, hL, q⟩ := h
    refine ⟨_, (pss_one (ps_ret (pe_callTy (r := rTupOf K) call_tupK (by rfl) g.tuple boot_tup (pa_cons (pe_lc (own := [("power", 2), ("number", 3)]) (g := (gTup K 2 (gCons (gName 2) (gCons (gName 3) gNil)))) (tt := tYes) (te := (tTup (tCons (tOp _ (tVar 2) (tVar 1)) (tCons (tVar 3) tNil)))) rfl scLi.nd (pi_tup (pv 0)) (blkOk_by (by kernel_rfl)) (fun _ _ _ _ _ => (pg_tup rfl (pgs_cons (pg_name (i := 2) scLi.nd rfl (.inl rfl)) (pgs_cons (pg_name (i := 3) scLi.nd rfl (.inl rfl)) pgs_nil)))) (fun _ _ _ _ _ => pts_nil) (fun _ _ _ _ _ => (pe_tup (pa_cons (pe_op op_add (pv 2) (pv 1)) (pa_cons (pv 3) pa_nil))))) pa_nil)))), ?_⟩
    obtain ⟨a, xs, rfl, hA, hXs⟩ := dp_tup hD
    have ex : xs.length = l.length := by rw [dpAll_len hXs, List.length_map]
    refine ⟨.ref a, rfl, a, rfl, ⟨_, hA⟩, fun D nD => ?_⟩
    refine lc_tup (K := K) (a := a) (xs := xs) (fun i H3 => Same H H3 ∧ ∃ ys, H3 D = some (.lst ys) ∧ DpAll K H3 ys ((liftedM (l.take i) k).map termD)) ⟨same_upd nD, [], upd_same, .nil⟩
      (fun i H3 _ ⟨s3, _⟩ => seqT_same s3 hA) ?_ ?_
    · rintro i x H3 hx ⟨s3, ys, hy, hys⟩
      obtain ⟨t, ta, ht, rfl, hT⟩ := term_at hXs hx
      refine ⟨ta, _, rfl, seqT_same s3 hT, rfl, _, _, rfl, _, _, rfl, rfl, rfl, ?_⟩
      refine ⟨_, rfl, _, rfl, t.1, k, rfl, rfl, _, rfl, (by show 2 ≤ sizeLine; decide), fun p np => ?_⟩
      have hp := same_upd (o := .tup [.int (t.1 + k), .int t.2]) np _ _ hy
      refine ⟨ys, hp, ?_, same_over (same_new s3 np) nD, _, upd_same, ?_⟩
      · rw [dpAll_len hys, List.length_map, liftedM, List.length_map, List.length_take]
        exact mill (by omega)
      · rw [List.take_add_one, ht]
        have e : liftedM (l.take i ++ [t]) k = liftedM (l.take i) k ++ [(t.1 + k, t.2)] := by
          unfold liftedM
          rw [List.map_append]
          rfl
        show DpAll K _ _ ((liftedM (l.take i ++ [t]) k).map termD)
        rw [e, List.map_append]
        refine dpAll_app (dpAll_kt ((KT.new np).trans (.lst hp)) _ _ (noLs_map noL_term _) hys) (dpAll_one (term_dp (.inl (.inl ?_))))
        rw [upd_ne (ne_of_none hy np).symm, upd_same]
    · rintro H3 ⟨s3, ys, hy, hys⟩
      rw [ex, List.take_length] at hys
      refine ⟨D, ys, rfl, .inl ⟨.inl (.inl hy), fun t nt => ?_⟩⟩
      exact q _ _ (same_new s3 nt) (.tup (.inl (.inl upd_same)) (dpAll_same (same_upd nt) _ _ hys))

/-! ### gathered -/
abbrev sGathered : Stmt := topS 17
theorem scGa : FnScope ["terms", "found", "power", "number"] ["terms"] (defScope sGathered) := ⟨rfl, rfl, rfl, by decide +kernel, rfl, by decide +kernel, by decide +kernel⟩
def spGathered (K : PySem.W.Frag) : Sp := fun vs H Q _ => ∃ v l, vs = [v] ∧ Dp K H v (polyD l) ∧ l.length ≤ 1000000 ∧ ∀ H' v', Same H H' → Dp K H' v' (polyD (gatheredM l)) → Q v' H'
/-- the dict behind some terms -/
def gaK (l : Poly) : List (Key × V) := (dedup (l.map (·.1)) []).map fun p => (Sum.inl p, V.int (sumAt l p))
theorem gaK_val (l : Poly) (p : Int) : valV (gaK l) (Sum.inl p) = if p ∈ dedup (l.map (·.1)) [] then some (.int (sumAt l p)) else none := by
  unfold gaK
  generalize dedup (l.map (·.1)) [] = d
  induction d with
  | nil => rfl
  | cons a r ih =>
    rw [List.map_cons]
    by_cases h : a = p
    · rw [valV_pos (by rw [h]), if_pos (by rw [h]; exact List.mem_cons_self), h]
    · rw [valV_neg (fun z => h (Sum.inl.inj z)), ih]
      have e : p ∈ a :: r ↔ p ∈ r := by
        rw [List.mem_cons]
        exact ⟨fun q => q.resolve_left fun z => h z.symm, .inr⟩
      by_cases m : p ∈ r
      · rw [if_pos m, if_pos (e.mpr m)]
      · rw [if_neg m, if_neg (fun z => m (e.mp z))]
theorem gaK_get (l : Poly) (p : Int) : (valV (gaK l) (Sum.inl p)).getD (.int 0) = .int (sumAt l p) := by
  rw [gaK_val]
  split
  · rfl
  · rename_i h
    rw [mem_dedup] at h
    rw [sumAt_out (fun z => h (.inl z))]
    rfl
theorem gaK_put (l : Poly) (p n : Int) : putK (gaK l) (Sum.inl p) (.int (sumAt l p + n)) = gaK (l ++ [(p, n)]) := by
  have hs : ∀ x, sumAt (l ++ [(p, n)]) x = sumAt l x + if p = x then n else 0 := fun x => by rw [sumAt_app, sumAt_one]
  have hd : dedup ((l ++ [(p, n)]).map (·.1)) [] = if p ∈ dedup (l.map (·.1)) [] then dedup (l.map (·.1)) [] else dedup (l.map (·.1)) [] ++ [p] := by
    rw [List.map_append]
    exact dedup_snoc _ _
  by_cases m : p ∈ dedup (l.map (·.1)) []
  · have hv := gaK_val l p
    rw [if_pos m] at hv
    have hany : ((gaK l).any fun kv => decide (kv.1 = Sum.inl p)) = true := by rw [valV_any, hv]; rfl
    unfold putK
    rw [if_pos hany]
    unfold gaK
    rw [hd, if_pos m, List.map_map]
    refine List.map_congr_left fun x _ => ?_
    show (if (Sum.inl x : Key) = Sum.inl p then _ else _) = _
    rw [hs]
    by_cases e : x = p
    · rw [if_pos (by rw [e]), if_pos e.symm, e]
    · rw [if_neg (fun z => e (Sum.inl.inj z)), if_neg (fun z => e z.symm)]
      simp
  · have hv := gaK_val l p
    rw [if_neg m] at hv
    rw [putK_new _ hv]
    unfold gaK
    rw [hd, if_neg m, List.map_append]
    congr 1
    · refine List.map_congr_left fun x hx => ?_
      rw [hs, if_neg (fun z => m (by rw [z]; exact hx))]
      simp
    · show [(Sum.inl p, V.int (sumAt l p + n))] = [(Sum.inl p, V.int (sumAt (l ++ [(p, n)]) p))]
      rw [hs, if_pos rfl]
theorem gaK_keys (l : Poly) : (gaK l).map (·.1) = (dedup (l.map (·.1)) []).map Sum.inl := by
  unfold gaK
  rw [List.map_map]
  rfl
theorem ok_gathered (F : Fn K mg "gathered" sGathered ["terms"]) (g : Gb mg) : Ok P w K mg base 1 "gathered" ["terms"] (spGathered K) := by
  obtain ⟨f, fd, FF, m, b⟩ := F
  refine ⟨f, fd, ?_, m, FF.kp, b⟩
  refine FF.ok scGa (fun vs H Q E h => ?_) (fun cdv A outer s H vs Q E hr h => ?_)
  · obtain ⟨v, l, rfl, _⟩ := h
    rfl
  · obtain ⟨v, l, rfl, hD, hL, q⟩ := h
    have hu := hu_of hr
    refine ⟨_, (pss_cons (ps_set (i := 1) scGa.nd rfl (.inr rfl) pe_dnewK)
 (pss_cons (ps_for PassesOwn.never rfl (pi_tup (pv 0)) (pg_tup rfl (pgs_cons (pg_name (i := 2) scGa.nd rfl (.inl rfl)) (pgs_cons (pg_name (i := 3) scGa.nd rfl (.inl rfl)) pgs_nil)))
 (pss_one (ps_dput hu (pv 1) (pv 2) (pe_op op_add (pe_dget2 hu (pv 1) (pv 2) pe_int ⟨rfl, rfl, rfl, rfl⟩) (pv 3)) rfl)))
 (pss_one (ps_ret (pe_callTy (r := rTupOf K) call_tupK (by rfl) g.tuple boot_tup (pa_cons (pe_lc (own := [("power", 2)]) (g := (gName 2)) (tt := (tTest (tOp _ (tDGet (tVar 1) (tVar 2)) (tC _)))) (te := (tTup (tCons (tVar 2) (tCons (tDGet (tVar 1) (tVar 2)) tNil)))) rfl scGa.nd (pi_list (pe_callB (cr_sortedD rfl) (by rfl) g.sorted (by decide +kernel) (pa_cons (pv 1) pa_nil))) (blkOk_by (by kernel_rfl)) (fun _ _ _ _ _ => (pg_name (i := 2) scGa.nd rfl (.inl rfl))) (fun _ _ _ _ _ => (pts_one (pt_cmpR op_ne (pe_dget hu (pv 1) (pv 2) (fun _ _ => rfl)) pe_int (nomark _)))) (fun _ _ _ _ _ => (pe_tup (pa_cons (pv 2) (pa_cons (pe_dget hu (pv 1) (pv 2) (fun _ _ => rfl)) pa_nil))))) pa_nil)))))), ?_⟩
    obtain ⟨a, xs, rfl, hA, hXs⟩ := dp_tup hD
    have ex : xs.length = l.length := by rw [dpAll_len hXs, List.length_map]
    refine fun d nd => ?_
    refine ⟨.ref a, rfl, a, rfl, ⟨_, seqT_same (same_upd nd) hA⟩, for_it walk_tup (fun i σ H3 => ∃ y2 y3, σ = [some (.ref a), some (.ref d), y2, y3] ∧ Same H H3 ∧ H3 d = some (.dK (gaK (l.take i)))) ⟨none, none, rfl, same_upd nd, upd_same⟩
      (fun i σ H3 _ ⟨_, _, _, s3, _⟩ => seqT_same s3 hA) ?_ ?_⟩
    · rintro i x σ H3 H4 hi ⟨y2, y3, rfl, s3, hd⟩ ⟨rfl, hx⟩
      obtain ⟨t, ta, ht, rfl, hT⟩ := term_at hXs hx
      refine ⟨ta, _, rfl, seqT_same s3 hT, rfl, _, _, rfl, _, _, rfl, rfl, ?_⟩
      refine ⟨.ref d, rfl, d, rfl, .inl ⟨_, .inl hd⟩, .int t.1, rfl, _, DGet.k (k := Sum.inl t.1) hd, .int t.2, rfl, _, t.2, gaK_get _ _, rfl, ?_⟩
      have hlen : (gaK (l.take i)).length < sizeLine := by
        have h1 := dedup_len ((l.take i).map (·.1)) []
        unfold gaK
        rw [List.length_map]
        rw [List.length_nil, Nat.zero_add, List.length_map, List.length_take] at h1
        exact mill (by omega)
      refine ⟨.ref d, rfl, .int t.1, rfl, d, _, rfl, DPut.k (k := Sum.inl t.1) hd hlen, _, _, rfl, same_over s3 nd, ?_⟩
      rw [upd_same, gaK_put, List.take_add_one, ht]
      rfl
    · rintro σ H3 ⟨y2, y3, rfl, s3, hd⟩
      rw [ex, List.take_length] at hd
      refine ⟨.ref d, rfl, d, gaK l, _, rfl, .inl hd, gaK_keys l, fun ys p perm pw np => ?_⟩
      have eys := sorted_ints perm pw
      have s4 : Same H3 (upd H3 p (.lst (ys.map V.int))) := same_upd np
      have hlen : ys.length ≤ 1000000 := by
        rw [perm.length_eq]
        have h1 := dedup_len (l.map (·.1)) []
        rw [List.length_nil, Nat.zero_add, List.length_map] at h1
        omega
      refine ⟨p, rfl, ⟨_, .inl (.inl upd_same)⟩, fun D nD => ?_⟩
      have hp4 : (upd H3 p (.lst (ys.map V.int))) p = some (.lst (ys.map V.int)) := upd_same
      generalize upd H3 p (.lst (ys.map V.int)) = H4 at s4 hp4 nD
      refine lc_list (K := K) (a := p) (xs := ys.map V.int) (fun i H5 => Same H4 H5 ∧ ∃ zs, H5 D = some (.lst zs) ∧ DpAll K H5 zs ((((ys.take i).filter fun p => decide (sumAt l p ≠ 0)).map fun p => (p, sumAt l p)).map termD)) ⟨same_upd nD, [], upd_same, .nil⟩
        (fun i H5 _ ⟨s5, _⟩ => .inl (.inl (s5 _ _ hp4))) ?_ ?_
      · rintro i x H5 hx ⟨s5, zs, hz, hzs⟩
        obtain ⟨pw', hpw, rfl⟩ := ints_at hx
        have hd5 := s5 _ _ (s4 _ _ hd)
        have hval : valV (gaK l) (Sum.inl pw') = some (.int (sumAt l pw')) := by
          rw [gaK_val, if_pos (perm.mem_iff.mp (List.mem_of_getElem? hpw))]
        have hget : DGet H5 d (.int pw') (some (.int (sumAt l pw'))) := by
          rw [← hval]
          exact DGet.k (k := Sum.inl pw') hd5
        refine ⟨rfl, .ref d, rfl, .int pw', rfl, d, .int (sumAt l pw'), rfl, hget, rfl, _, rfl, ?_⟩
        have ek : (!decide (V.int (sumAt l pw') = V.int 0)) = decide (sumAt l pw' ≠ 0) := by
          by_cases h0 : sumAt l pw' = 0
          · simp [h0]
          · have : ¬ V.int (sumAt l pw') = V.int 0 := fun z => h0 (V.int.inj z)
            simp [h0, this]
        rw [ek]
        by_cases h0 : sumAt l pw' ≠ 0
        · rw [decide_eq_true h0]
          refine iteT ⟨.int pw', rfl, .ref d, rfl, .int pw', rfl, d, _, rfl, hget, (by show 2 ≤ sizeLine; decide), fun t nt => ?_⟩
          have hz6 := same_upd (o := .tup [.int pw', .int (sumAt l pw')]) nt _ _ hz
          refine ⟨zs, hz6, ?_, same_over (same_new s5 nt) nD, _, upd_same, ?_⟩
          · rw [dpAll_len hzs, List.length_map, List.length_map]
            refine mill (Nat.le_trans (List.length_filter_le _ _) ?_)
            rw [List.length_take]
            omega
          · rw [List.take_add_one, hpw, List.filter_append, List.map_append, List.map_append]
            rw [show ((some pw').toList.filter fun p => decide (sumAt l p ≠ 0)) = [pw'] by
              show ([pw'].filter _) = _
              rw [List.filter_cons, if_pos (decide_eq_true h0)]
              rfl]
            refine dpAll_app (dpAll_kt ((KT.new nt).trans (.lst hz6)) _ _ (noLs_map noL_term _) hzs) (dpAll_one (term_dp (.inl (.inl ?_))))
            rw [upd_ne (ne_of_none hz nt).symm, upd_same]
        · rw [decide_eq_false h0]
          refine iteF ⟨s5, zs, hz, ?_⟩
          rw [List.take_add_one, hpw, List.filter_append]
          rw [show ((some pw').toList.filter fun p => decide (sumAt l p ≠ 0)) = [] by
            show ([pw'].filter _) = _
            rw [List.filter_cons, if_neg (by rw [decide_eq_false h0]; exact Bool.false_ne_true)]
            rfl]
          rw [List.append_nil]
          exact hzs
      · rintro H5 ⟨s5, zs, hz, hzs⟩
        rw [List.length_map, List.take_length] at hzs
        refine ⟨D, zs, rfl, .inl ⟨.inl (.inl hz), fun t nt => ?_⟩⟩
        refine q _ _ (s3.trans (s4.trans (same_new s5 nt))) (.tup (.inl (.inl upd_same)) ?_)
        have e : gatheredM l = (ys.filter fun p => decide (sumAt l p ≠ 0)).map fun p => (p, sumAt l p) := by
          unfold gatheredM
          rw [eys]
        rw [e]
        exact dpAll_same (same_upd nt) _ _ hzs

/-! ### minus -/
abbrev sMinus : Stmt := topS 18
theorem scMn : FnScope ["one", "other", "power", "number"] ["one", "other"] (defScope sMinus) := ⟨rfl, rfl, rfl, by decide +kernel, rfl, by decide +kernel, by decide +kernel⟩
def spMinus (K : PySem.W.Frag) : Sp := fun vs H Q _ => ∃ v v2 a b, vs = [v, v2] ∧ Dp K H v (polyD a) ∧ Dp K H v2 (polyD b) ∧ a.length + b.length ≤ 1000000 ∧ ∀ H' v', Same H H' → Dp K H' v' (polyD (minusM a b)) → Q v' H'
theorem ok_minus (F : Fn K mg "minus" sMinus ["one", "other"]) (g : Gb mg) (O1 : Ok P w K mg base 1 "gathered" ["terms"] (spGathered K)) : Ok P w K mg base 2 "minus" ["one", "other"] (spMinus K) := by
  obtain ⟨f, fd, FF, m, b⟩ := F
  obtain ⟨fG, dG, GG, mG, kG, bG⟩ := O1
  refine ⟨f, fd, ?_, m, FF.kp, b⟩
  refine FF.ok scMn (fun vs H Q E h => ?_) (fun cdv A outer s H vs Q E hr h => ?_)
  · obtain ⟨v, v2, a, b, rfl, _⟩ := h
    rfl
  · obtain ⟨v, v2, la, lb, rfl, hD, hD2, hL, q⟩ := h
    refine ⟨_, (pss_one (ps_ret (pe_call GG (hr.mono (by decide)) (by rfl) mG kG bG .nil pass0 (pa_cons (pe_op op_catA (pv 0) (pe_callTy (r := rTupOf K) call_tupK (by rfl) g.tuple boot_tup (pa_cons (pe_lc (own := [("power", 2), ("number", 3)]) (g := (gTup K 2 (gCons (gName 2) (gCons (gName 3) gNil)))) (tt := tYes) (te := (tTup (tCons (tVar 2) (tCons (tOp _ (tC _) (tVar 3)) tNil)))) rfl scMn.nd (pi_tup (pv 1)) (blkOk_by (by kernel_rfl)) (fun _ _ _ _ _ => (pg_tup rfl (pgs_cons (pg_name (i := 2) scMn.nd rfl (.inl rfl)) (pgs_cons (pg_name (i := 3) scMn.nd rfl (.inl rfl)) pgs_nil)))) (fun _ _ _ _ _ => pts_nil) (fun _ _ _ _ _ => (pe_tup (pa_cons (pv 2) (pa_cons (pe_op op_sub pe_int (pv 3)) pa_nil))))) pa_nil))) pa_nil)))), ?_⟩
    obtain ⟨a1, xs1, rfl, hA1, hX1⟩ := dp_tup hD
    obtain ⟨a, xs, rfl, hA, hXs⟩ := dp_tup hD2
    have ex : xs.length = lb.length := by rw [dpAll_len hXs, List.length_map]
    refine ⟨.ref a1, rfl, .ref a, rfl, a, rfl, ⟨_, hA⟩, fun D nD => ?_⟩
    refine lc_tup (K := K) (a := a) (xs := xs) (fun i H3 => Same H H3 ∧ ∃ ys, H3 D = some (.lst ys) ∧ DpAll K H3 ys ((negM (lb.take i)).map termD)) ⟨same_upd nD, [], upd_same, .nil⟩
      (fun i H3 _ ⟨s3, _⟩ => seqT_same s3 hA) ?_ ?_
    · rintro i x H3 hx ⟨s3, ys, hy, hys⟩
      obtain ⟨t, ta, ht, rfl, hT⟩ := term_at hXs hx
      refine ⟨ta, _, rfl, seqT_same s3 hT, rfl, _, _, rfl, _, _, rfl, rfl, rfl, ?_⟩
      refine ⟨_, rfl, _, rfl, 0, t.2, rfl, rfl, (by show 2 ≤ sizeLine; decide), fun p np => ?_⟩
      have hp := same_upd (o := .tup [.int t.1, .int (0 - t.2)]) np _ _ hy
      refine ⟨ys, hp, ?_, same_over (same_new s3 np) nD, _, upd_same, ?_⟩
      · rw [dpAll_len hys, List.length_map, negM, List.length_map, List.length_take]
        exact mill (by omega)
      · rw [List.take_add_one, ht]
        have e : negM (lb.take i ++ [t]) = negM (lb.take i) ++ [(t.1, 0 - t.2)] := by
          unfold negM
          rw [List.map_append]
          rfl
        show DpAll K _ _ ((negM (lb.take i ++ [t])).map termD)
        rw [e, List.map_append]
        refine dpAll_app (dpAll_kt ((KT.new np).trans (.lst hp)) _ _ (noLs_map noL_term _) hys) (dpAll_one (term_dp (.inl (.inl ?_))))
        rw [upd_ne (ne_of_none hy np).symm, upd_same]
    · rintro H3 ⟨s3, ys, hy, hys⟩
      rw [ex, List.take_length] at hys
      refine ⟨D, ys, rfl, .inl ⟨.inl (.inl hy), fun t nt => ?_⟩⟩
      have s4 := same_new (o := .tup ys) s3 nt
      refine catA_ok (seqT_same s4 hA1) (.inl (.inl upd_same)) ?_ fun H5 c s5 h5 => ?_
      · rw [dpAll_len hX1, dpAll_len hys, List.length_map, List.length_map, negM, List.length_map]
        exact Nat.le_of_lt (mill (by omega))
      · refine ⟨.ref c, la ++ negM lb, rfl, ?_, ?_, fun H6 v6 s6 h6 => q H6 v6 (s4.trans (s5.trans s6)) h6⟩
        · refine .tup h5 ?_
          rw [List.map_append]
          exact dpAll_app (dpAll_same (s4.trans s5) _ _ hX1) (dpAll_same ((same_upd nt).trans s5) _ _ hys)
        · rw [List.length_append, negM, List.length_map]
          omega
end
end TH
end

section
set_option Elab.async false
set_option linter.all false
set_option maxRecDepth 100000
namespace TH
open PySem PySem.Spec PyProof.Rows L2

/-! ### shapes -/
structure Shape (w : Web) (n : Nat) : Prop where
  cr : w.cr.length = n
  sm : (w.cr.map List.length).sum = 4 * n
  en : w.en.length = 4
theorem Shape.small {w : Web} {n : Nat} (h : Shape w n) (hn : n ≤ 100) : Small w := by
  refine ⟨by rw [h.cr]; omega, ?_⟩
  rw [allSpots_len, h.sm, h.en]
  omega
theorem sum_ren (f : Int → Int) (cr : List (List Int)) : ((cr.map (·.map f)).map List.length).sum = (cr.map List.length).sum := by
  rw [List.map_map]
  congr 2
  funext c
  simp
theorem ren_sum (f : Int → Int) (w : Web) : ((ren f w).cr.map List.length).sum = (w.cr.map List.length).sum := sum_ren f w.cr
theorem joined_cr (w : Web) (i j : Nat) : (joinedM w i j).cr.length = w.cr.length ∧ ((joinedM w i j).cr.map List.length).sum = (w.cr.map List.length).sum := by
  unfold joinedM
  dsimp only
  split
  · exact ⟨rfl, rfl⟩
  · exact ⟨by simp [ren], sum_ren _ _⟩
theorem Shape.side {u h : Web} {n k : Nat} (a : Shape u n) (b : Shape h k) (hn : n + k ≤ 100) : Small (sideM u h) := by
  have c1 : (sideM u h).cr.length = n + k := by simp [sideM, ren, a.cr, b.cr]
  refine ⟨by rw [c1]; omega, ?_⟩
  rw [allSpots_len]
  have e : ((sideM u h).cr.map List.length).sum = 4 * n + 4 * k := by
    show ((u.cr ++ (ren _ h).cr).map List.length).sum = _
    rw [List.map_append, List.sum_append, a.sm]
    rw [ren_sum, b.sm]
  rw [e]
  simp [sideM, ren, a.en, b.en]
  omega
theorem Shape.glued {u h : Web} {n k : Nat} (a : Shape u n) (b : Shape h k) : Shape (gluedM u h) (n + k) := by
  have c1 : (sideM u h).cr.length = n + k := by simp [sideM, ren, a.cr, b.cr]
  have c3 : (sideM u h).en.length = 8 := by simp [sideM, ren, a.en, b.en]
  have e : ((sideM u h).cr.map List.length).sum = 4 * n + 4 * k := by
    show ((u.cr ++ (ren _ h).cr).map List.length).sum = _
    rw [List.map_append, List.sum_append, a.sm]
    rw [ren_sum, b.sm]
  have l4 : u.en.length = 4 := a.en
  have j1 := joined_en_len (sideM u h) 3 (by omega)
  have j2 := joined_en_len (joinedM (sideM u h) 3 4) 2 (by rw [j1, c3]; decide)
  refine ⟨?_, ?_, ?_⟩
  · show ((joinedM (joinedM (sideM u h) _ _) _ _).cr.map _).length = _
    rw [List.length_map, (joined_cr _ _ _).1, (joined_cr _ _ _).1, c1]
  · unfold gluedM anew
    rw [ren_sum, (joined_cr _ _ _).2, (joined_cr _ _ _).2, e]
    omega
  · show ((joinedM (joinedM (sideM u h) (u.en.length - 1) u.en.length) (u.en.length - 2) (u.en.length - 1)).en.map _).length = 4
    rw [List.length_map, l4]
    show (joinedM (joinedM (sideM u h) 3 4) 2 3).en.length = 4
    rw [j2, j1, c3]
theorem Shape.quarter {u : Web} {n : Nat} (a : Shape u n) : Shape (quarterM u) n := by
  refine ⟨?_, ?_, ?_⟩
  · show (u.cr.map _).length = n
    rw [List.length_map, a.cr]
  · unfold quarterM anew
    rw [ren_sum]
    exact a.sm
  · show ((u.en.drop 3 ++ u.en.take 3).map _).length = 4
    simp [a.en]
theorem shape_level : Shape levelW 0 := ⟨rfl, rfl, rfl⟩
theorem shape_half (a : Int) : Shape (halfW a) 1 := by
  unfold halfW
  split <;> exact ⟨rfl, rfl, rfl⟩
theorem Shape.besideN {u h : Web} {n : Nat} (a : Shape u n) (b : Shape h 1) : ∀ k, Shape (besideN u h k) (n + k)
  | 0 => a
  | k + 1 => (a.besideN b k).glued b
def heft (l : List Int) : Nat := (l.map Int.natAbs).sum
theorem heft_snoc (l : List Int) (a : Int) : heft (l ++ [a]) = heft l + a.natAbs := by simp [heft]
theorem heft_take (l : List Int) (i : Nat) : heft (l.take i) ≤ heft l := by
  have e : heft l = heft (l.take i) + heft (l.drop i) := by
    unfold heft
    rw [← List.sum_append, ← List.map_append, List.take_append_drop]
  omega
theorem twisted_snoc (l : List Int) (a : Int) : twistedM (l ++ [a]) = stepW (twistedM l) a (l.isEmpty) := by
  cases l with
  | nil => rfl
  | cons b r =>
    show (r ++ [a]).foldl _ _ = _
    rw [List.foldl_append]
    rfl
theorem shape_twisted (l : List Int) : Shape (twistedM l) (heft l) := by
  suffices ∀ n (l : List Int), l.length = n → Shape (twistedM l) (heft l) from this _ l rfl
  intro n
  induction n with
  | zero =>
    intro l h
    rw [List.eq_nil_of_length_eq_zero h]
    exact shape_level
  | succ n ih =>
    intro l h
    have hne : l ≠ [] := fun z => by rw [z] at h; cases h
    have e := List.dropLast_concat_getLast hne
    rw [← e, twisted_snoc, heft_snoc]
    have s := ih l.dropLast (by rw [List.length_dropLast, h]; rfl)
    unfold stepW
    split
    · exact s.besideN (shape_half _) _
    · exact s.quarter.besideN (shape_half _) _

/-! ### lists of ints -/
def listD (l : List Int) : PyData := .list (l.map PyData.int)
theorem dp_list {K : PySem.W.Frag} {H : Hp} {v : V} {l : List Int} (h : Dp K H v (listD l)) : ∃ a, v = .ref a ∧ SqL K H a (l.map V.int) := by
  obtain ⟨a, xs, e, hs, ha⟩ := dp_lst h
  rw [dpAll_ints ha] at hs
  exact ⟨a, e, hs⟩
theorem list_dp {K : PySem.W.Frag} {H : Hp} {a : Addr} {l : List Int} (h : SqL K H a (l.map V.int)) : Dp K H (.ref a) (listD l) := .lst h (dpAll_of_ints l)

/-! ### parts -/
abbrev sInit : Stmt := inClass (topS 22) 0
abbrev sWebP : Stmt := inClass (topS 22) 1
abbrev sWebS : Stmt := inClass (topS 24) 0
/-- the classes Level and Single -/
structure Cd (K : PySem.W.Frag) (mg : Str → Option Value) (CL CS : Addr) : Prop where
  mL : mg "Level" = some (.ref CL)
  mS : mg "Single" = some (.ref CS)
  cL : Cls K CL
  cS : Cls K CS
  lo : NoAttr K CL "one"
  lp : NoAttr K CL "other"
  so : NoAttr K CS "one"
  sp : NoAttr K CS "other"
def spInit (K : PySem.W.Frag) : Sp := fun vs H Q _ => ∃ x C dx : Addr, vs = [.ref x, .non, .non] ∧ Cls K C ∧ NoAttr K C "one" ∧ NoAttr K C "other" ∧ H x = some (.ins C dx []) ∧
  ∀ H', (∀ b o, b ≠ x → H b = some o → H' b = some o) → (∃ fs, H' x = some (.ins C dx fs) ∧ fs.lookup ("web" : Str) = none) → Q .non H'
def spWeb (K : PySem.W.Frag) (w : Web) : Sp := fun vs H Q _ => ∃ x : Addr, vs = [.ref x] ∧ ∀ H' v', Same H H' → Dp K H' v' (webD w) → Q v' H'
theorem scIn : FnScope ["self", "one", "other"] ["self", "one", "other"] (defScope sInit) := ⟨rfl, rfl, rfl, by decide +kernel, rfl, by decide +kernel, by decide +kernel⟩
theorem scWp : FnScope ["self"] ["self"] (defScope sWebP) := ⟨rfl, rfl, rfl, by decide +kernel, rfl, by decide +kernel, by decide +kernel⟩
theorem scWs : FnScope ["self"] ["self"] (defScope sWebS) := ⟨rfl, rfl, rfl, by decide +kernel, rfl, by decide +kernel, by decide +kernel⟩
section
variable {P : Program} {w : World} {K : PySem.W.Frag} {mg : Str → Option Value} {base : Heap}
theorem ok_init {f : Addr} {fd : FuncData} (F : FunD K "__init__" "Part.__init__" (defArgs sInit) (defBody sInit) (defScope sInit) [.non, .non] [] f fd) : FnOk P w K mg base CX0 1 f fd ["self", "one", "other"] (spInit K) := by
  refine F.ok scIn (fun vs H Q E h => ?_) (fun cdv A outer s H vs Q E hr h => ?_)
  · obtain ⟨x, C, dx, rfl, _⟩ := h
    rfl
  · obtain ⟨x, C, dx, rfl, c, n1, n2, hx, q⟩ := h
    refine ⟨_, (pss_cons (ps_fld (pv 0) (pv 1) rfl) (pss_one (ps_fld (pv 0) (pv 2) rfl))), ?_⟩
    refine ⟨_, rfl, _, rfl, x, C, dx, _, rfl, hx, c, n1, (by decide), ?_⟩
    refine ⟨_, rfl, _, rfl, x, C, dx, _, rfl, upd_same, c, n2, (by decide), ?_⟩
    refine q _ (fun b o hb e => by rw [upd_ne hb, upd_ne hb]; exact e) ⟨_, upd_same, ?_⟩
    rw [lookup_putF, if_neg (by decide +kernel), lookup_putF, if_neg (by decide +kernel)]
    rfl
theorem ok_webP {f : Addr} {fd : FuncData} (F : Fun K "web" "Part.web" sWebP f fd) : FnOk P w K mg base CX0 1 f fd ["self"] (spWeb K levelW) := by
  refine F.ok scWp (fun vs H Q E h => ?_) (fun cdv A outer s H vs Q E hr h => ?_)
  · obtain ⟨x, rfl, _⟩ := h
    rfl
  · obtain ⟨x, rfl, q⟩ := h
    refine ⟨_, (pss_one (ps_ret (pe_tup (pa_cons (pe_tup pa_nil) (pa_cons (pe_tup (pa_cons pe_int (pa_cons pe_int (pa_cons pe_int (pa_cons pe_int pa_nil))))) (pa_cons pe_int pa_nil)))))), ?_⟩
    refine ⟨(by show 0 ≤ sizeLine; decide), fun t1 n1 => ?_⟩
    have s1 := same_upd (o := .tup []) n1
    refine ⟨(by show 4 ≤ sizeLine; decide), fun t2 n2 => ?_⟩
    have s2 := same_upd (o := .tup [.int 0, .int 1, .int 1, .int 0]) n2
    refine ⟨(by show 3 ≤ sizeLine; decide), fun t3 n3 => ?_⟩
    have s3 := same_upd (o := .tup [.ref t1, .ref t2, .int 0]) n3
    exact q _ _ (s1.trans (s2.trans s3)) (web_dp (w := levelW) (cs := []) (.inl (.inl upd_same)) (.inl (.inl (s3 _ _ (s2 _ _ upd_same)))) .nil (.inl (.inl (s3 _ _ upd_same))))
theorem ok_webS {f : Addr} {fd : FuncData} (F : Fun K "web" "Single.web" sWebS f fd) : FnOk P w K mg base CX0 1 f fd ["self"] (spWeb K singleW) := by
  refine F.ok scWs (fun vs H Q E h => ?_) (fun cdv A outer s H vs Q E hr h => ?_)
  · obtain ⟨x, rfl, _⟩ := h
    rfl
  · obtain ⟨x, rfl, q⟩ := h
    refine ⟨_, (pss_one (ps_ret (pe_tup (pa_cons (pe_tup (pa_cons (pe_tup (pa_cons pe_int (pa_cons pe_int (pa_cons pe_int (pa_cons pe_int pa_nil))))) pa_nil)) (pa_cons (pe_tup (pa_cons pe_int (pa_cons pe_int (pa_cons pe_int (pa_cons pe_int pa_nil))))) (pa_cons pe_int pa_nil)))))), ?_⟩
    refine ⟨(by show 4 ≤ sizeLine; decide), fun t0 n0 => ?_⟩
    have s0 := same_upd (o := .tup [.int 0, .int 1, .int 2, .int 3]) n0
    refine ⟨(by show 1 ≤ sizeLine; decide), fun t1 n1 => ?_⟩
    have s1 := same_upd (o := .tup [.ref t0]) n1
    refine ⟨(by show 4 ≤ sizeLine; decide), fun t2 n2 => ?_⟩
    have s2 := same_upd (o := .tup [.int 0, .int 1, .int 2, .int 3]) n2
    refine ⟨(by show 3 ≤ sizeLine; decide), fun t3 n3 => ?_⟩
    have s3 := same_upd (o := .tup [.ref t1, .ref t2, .int 0]) n3
    exact q _ _ (s0.trans (s1.trans (s2.trans s3))) (web_dp (w := singleW) (cs := [.ref t0]) (.inl (.inl upd_same)) (.inl (.inl (s3 _ _ (s2 _ _ upd_same)))) (dpAll_one (tupI_dp (ns := [0, 1, 2, 3]) (.inl (.inl (s3 _ _ (s2 _ _ (s1 _ _ upd_same))))))) (.inl (.inl (s3 _ _ upd_same))))
end
end TH
end

section
set_option Elab.async false
set_option linter.all false
set_option maxRecDepth 100000
namespace TH
open PySem PySem.Spec PyProof.Rows L2

/-! ### value -/
abbrev sValue : Stmt := topS 26
theorem scVa : FnScope ["twists", "top", "bottom", "many"] ["twists"] (defScope sValue) := ⟨rfl, rfl, rfl, by decide +kernel, rfl, by decide +kernel, by decide +kernel⟩
def pairD (x : Int × Int) : PyData := .tuple [.int x.1, .int x.2]
def spValue (K : PySem.W.Frag) : Sp := fun vs H Q _ => ∃ v l, vs = [v] ∧ Dp K H v (listD l) ∧ (∀ a ∈ l, a.natAbs ≤ 1000) ∧ ∀ H' v', Same H H' → Dp K H' v' (pairD (valueM l)) → Q v' H'
theorem vec_snoc (l : List Int) (a : Int) : vecM (l ++ [a]) = (a * (vecM l).1 - (vecM l).2, (vecM l).1) := by
  unfold vecM
  rw [List.foldl_append]
  rfl
section
variable {P : Program} {w : World} {K : PySem.W.Frag} {mg : Str → Option Value} {base : Heap}
theorem ok_value (F : Fn K mg "value" sValue ["twists"]) (g : Gb mg) : Ok P w K mg base 1 "value" ["twists"] (spValue K) := by
  obtain ⟨f, fd, FF, m, b⟩ := F
  refine ⟨f, fd, ?_, m, FF.kp, b⟩
  refine FF.ok scVa (fun vs H Q E h => ?_) (fun cdv A outer s H vs Q E hr h => ?_)
  · obtain ⟨v, l, rfl, _⟩ := h
    rfl
  · obtain ⟨v, l, rfl, hD, hb, q⟩ := h
    refine ⟨_, (pss_cons (ps_set (i := 1) scVa.nd rfl (.inl rfl) pe_int)
 (pss_cons (ps_set (i := 2) scVa.nd rfl (.inl rfl) pe_int)
 (pss_cons (ps_for PassesOwn.never rfl (pi_list (pv 0)) (pg_name (i := 3) scVa.nd rfl (.inl rfl))
 (pss_one (ps_par (i := 1) (j := 2) rfl scVa.nd rfl rfl (by decide) rfl rfl (pa_cons (pe_op op_sub (pe_op op_mul (pv 3) (pv 1)) (pv 2)) (pa_cons (pv 1) pa_nil)) (by rfl))))
 (pss_cons (ps_if (pt_cmpR op_eq (pv 2) pe_int (nomark _)) (pss_one (ps_ret (pe_tup (pa_cons pe_int (pa_cons pe_int pa_nil))))) pss_nil)
 (pss_cons (ps_if (pt_cmpR op_lt (pv 2) pe_int (nomark _)) (pss_one (ps_ret (pe_tup (pa_cons (pe_un un_neg (pv 1)) (pa_cons (pe_un un_neg (pv 2)) pa_nil))))) pss_nil)
 (pss_one (ps_ret (pe_tup (pa_cons (pv 1) (pa_cons (pv 2) pa_nil)))))))))), ?_⟩
    obtain ⟨a, rfl, hA⟩ := dp_list hD
    refine ⟨.ref a, rfl, a, rfl, ⟨_, hA⟩, for_list (K := K) (a := a) (xs := l.map V.int) (fun i σ H3 => ∃ y3, σ = [some (.ref a), some (.int (vecM (l.take i)).1), some (.int (vecM (l.take i)).2), y3] ∧ H3 = H) ⟨none, rfl, rfl⟩ (fun i σ H3 _ ⟨_, _, e⟩ => by rw [e]; exact hA) ?_ ?_⟩
    · rintro i x σ H3 hx ⟨y3, rfl, rfl⟩
      obtain ⟨n, hn, rfl⟩ := ints_at hx
      have hb' := hb n (List.mem_of_getElem? hn)
      refine ⟨.int n, rfl, _, rfl, _, _, rfl, rfl, .inl ⟨by omega, by omega⟩, _, rfl, _, _, rfl, rfl, _, rfl, _, _, rfl, ?_⟩
      refine ⟨some (.int n), ?_, rfl⟩
      rw [List.take_add_one, hn]
      show _ = [some (V.ref a), some (V.int (vecM (l.take i ++ [n])).1), some (V.int (vecM (l.take i ++ [n])).2), _]
      rw [vec_snoc]
      rfl
    · rintro σ H3 ⟨y3, rfl, rfl⟩
      rw [List.length_map, List.take_length]
      have ev : valueM l = if (vecM l).2 = 0 then (1, 0) else if (vecM l).2 < 0 then (-(vecM l).1, -(vecM l).2) else vecM l := rfl
      refine ⟨_, rfl, rfl, _, rfl, ite2 (fun e => ?_) (fun e => ?_)⟩
      · have e : (vecM l).2 = 0 := V.int.inj (of_decide_eq_true e)
        refine ⟨(by show 2 ≤ sizeLine; decide), fun t nt => q _ _ (same_upd nt) ?_⟩
        rw [ev, if_pos e]
        exact term_dp (t := (1, 0)) (.inl (.inl upd_same))
      · have e : ¬ (vecM l).2 = 0 := fun z => e (by rw [z]; exact decide_eq_true rfl)
        refine ⟨_, rfl, _, _, rfl, rfl, _, rfl, ite2 (fun e2 => ?_) (fun e2 => ?_)⟩
        · have e2 : (vecM l).2 < 0 := of_decide_eq_true e2
          refine ⟨_, rfl, _, rfl, _, rfl, _, rfl, (by show 2 ≤ sizeLine; decide), fun t nt => q _ _ (same_upd nt) ?_⟩
          rw [ev, if_neg e, if_pos e2]
          exact term_dp (t := (-(vecM l).1, -(vecM l).2)) (.inl (.inl upd_same))
        · have e2 : ¬ (vecM l).2 < 0 := fun z => e2 (decide_eq_true z)
          refine ⟨_, rfl, _, rfl, (by show 2 ≤ sizeLine; decide), fun t nt => q _ _ (same_upd nt) ?_⟩
          rw [ev, if_neg e, if_neg e2]
          exact term_dp (t := vecM l) (.inl (.inl upd_same))

/-! ### twisted -/
abbrev sTwisted : Stmt := topS 27
theorem scTw : FnScope ["twists", "found", "at", "many", "half", "time"] ["twists"] (defScope sTwisted) := ⟨rfl, rfl, rfl, by decide +kernel, rfl, by decide +kernel, by decide +kernel⟩
def spTwisted (K : PySem.W.Frag) : Sp := fun vs H Q _ => ∃ v l, vs = [v] ∧ Dp K H v (listD l) ∧ heft l ≤ 40 ∧ ∀ H' v', Same H H' → Dp K H' v' (webD (twistedM l)) → Q v' H'
theorem Same.ofMade {H H1 : Hp} {x dx C : Addr} (nx : H x = none) (nd : H dx = none) (k : ∀ b o, b ≠ x → (upd (upd H dx (.own x)) x (.ins C dx [])) b = some o → H1 b = some o) : Same H H1 := fun b o e =>
  k b o (ne_of_none e nx) (by rw [upd_ne (ne_of_none e nx), upd_ne (ne_of_none e nd)]; exact e)
theorem ok_twisted {CL CS fI fWL fWS : Addr} {fdI fdWL fdWS : FuncData} (F : Fn K mg "twisted" sTwisted ["twists"]) (g : Gb mg) (C : Cd K mg CL CS) (ML : Mk K CL fI) (MS : Mk K CS fI)
    (GI : FnOk P w K mg base CX0 1 fI fdI ["self", "one", "other"] (spInit K)) (bI : ∃ ds, Vals [.non, .non] ds ∧ Binds K fdI ["self", "one", "other"] ds)
    (GL : FnOk P w K mg base CX0 1 fWL fdWL ["self"] (spWeb K levelW)) (bL : Binds K fdWL ["self"] []) (mL : Meth K CL "web" fWL)
    (GS : FnOk P w K mg base CX0 1 fWS fdWS ["self"] (spWeb K singleW)) (bS : Binds K fdWS ["self"] []) (mS : Meth K CS "web" fWS)
    (O1 : Ok P w K mg base 1 "mirrored" ["web"] (spMirrored K)) (O2 : Ok P w K mg base 3 "quarter" ["one"] (spQuarter K)) (O3 : Ok P w K mg base 4 "beside" ["one", "other"] (spBeside K)) :
    Ok P w K mg base 5 "twisted" ["twists"] (spTwisted K) := by
  obtain ⟨f, fd, FF, m, b⟩ := F
  obtain ⟨dsI, vI, bI⟩ := bI
  obtain ⟨fM, dM, GM, mM, kM, bM⟩ := O1
  obtain ⟨fQ, dQ, GQ, mQ, kQ, bQ⟩ := O2
  obtain ⟨fB, dB, GB, mB, kB, bB⟩ := O3
  refine ⟨f, fd, ?_, m, FF.kp, b⟩
  refine FF.ok scTw (fun vs H Q E h => ?_) (fun cdv A outer s H vs Q E hr h => ?_)
  · obtain ⟨v, l, rfl, _⟩ := h
    rfl
  · obtain ⟨v, l, rfl, hD, hh, q⟩ := h
    refine ⟨_, (pss_cons (ps_set (i := 1) scTw.nd rfl (.inl rfl) (pe_meth0 (pe_make0 ML GI (hr.mono (by decide)) (by rfl) C.mL bI vI pass0) C.cL mL GL (hr.mono (by decide)) bL .nil pass0))
 (pss_cons (ps_for PassesOwn.never rfl (pi_enum (by rfl) g.enumerate (pa_cons (pv 0) pa_nil)) (pg_tup rfl (pgs_cons (pg_name (i := 2) scTw.nd rfl (.inl rfl)) (pgs_cons (pg_name (i := 3) scTw.nd rfl (.inl rfl)) pgs_nil)))
 (pss_cons (ps_set (i := 4) scTw.nd rfl (.inl rfl) (pe_meth0 (pe_make0 MS GI (hr.mono (by decide)) (by rfl) C.mS bI vI pass0) C.cS mS GS (hr.mono (by decide)) bS .nil pass0))
 (C8.pss_cut (ps_if (pt_cmpR op_lt (pv 3) pe_int (nomark _)) (pss_one (ps_set (i := 4) scTw.nd rfl (.inl rfl) (pe_call GM (hr.mono (by decide)) (by rfl) mM kM bM .nil pass0 (pa_cons (pv 4) pa_nil)))) pss_nil)
 (C8.pss_cut (ps_if (pt_cmpR op_gt (pv 2) pe_int (nomark _)) (pss_one (ps_set (i := 1) scTw.nd rfl (.inl rfl) (pe_call GQ (hr.mono (by decide)) (by rfl) mQ kQ bQ .nil pass0 (pa_cons (pv 1) pa_nil)))) pss_nil)
 (pss_one (ps_for PassesOwn.never rfl (pi_range1 (by rfl) g.range (pa_cons (pe_callB call_abs (by rfl) g.abs boot_absB (pa_cons (pv 3) pa_nil)) pa_nil)) (pg_name (i := 5) scTw.nd rfl (.inl rfl))
 (pss_one (ps_set (i := 1) scTw.nd rfl (.inl rfl) (pe_call GB (hr.mono (by decide)) (by rfl) mB kB bB .nil pass0 (pa_cons (pv 1) (pa_cons (pv 4) pa_nil)))))))))))
 (pss_one (ps_ret (pv 1))))), ?_⟩
    obtain ⟨a, rfl, hA⟩ := dp_list hD
    intro x dx nx ndx nex
    refine ⟨x, CL, dx, rfl, C.cL, C.lo, C.lp, upd_same, fun H1 k1 ⟨fs, h1, hl1⟩ => ⟨rfl, x, dx, fs, rfl, h1, hl1, x, rfl, fun H2 v2 s2 h2 => ?_⟩⟩
    have s12 : Same H H2 := (Same.ofMade nx ndx k1).trans s2
    refine ⟨.ref a, rfl, a, _, rfl, s12.seq hA, for_it walk_enum (fun i σ H3 => ∃ v y2 y3 y4 y5, σ = [some (.ref a), some v, y2, y3, y4, y5] ∧ Same H H3 ∧ Dp K H3 v (webD (twistedM (l.take i)))) ⟨v2, none, none, none, none, rfl, s12, h2⟩
      (fun i σ H3 _ ⟨_, _, _, _, _, _, s3, _⟩ => s3.seq hA) ?_ ?_⟩
    · rintro i x σ H3 H4 hi ⟨v, y2, y3, y4, y5, rfl, s3, h3⟩ ⟨T, x1, x2, rfl, nT, rfl, e1, e2⟩
      cases e1
      obtain ⟨n, hn, rfl⟩ := ints_at e2
      have s4 : Same H3 (upd H3 T (.tup [.int (i : Nat), .int n])) := same_upd nT
      refine ⟨T, _, rfl, .inl (.inl upd_same), rfl, _, _, rfl, _, _, rfl, rfl, ?_⟩
      generalize upd H3 T (.tup [.int (i : Nat), .int n]) = H4 at s4
      -- half = Single().web()
      intro x dx nx ndx nex
      refine ⟨x, CS, dx, rfl, C.cS, C.so, C.sp, upd_same, fun H5 k5 ⟨fs, h5, hl5⟩ => ⟨rfl, x, dx, fs, rfl, h5, hl5, x, rfl, fun H6 v6 s6 h6 => ?_⟩⟩
      have s46 : Same H4 H6 := (Same.ofMade nx ndx k5).trans s6
      have sh1 := shape_twisted (l.take i)
      have hti : heft (l.take i) + n.natAbs ≤ 40 := by
        have e : heft (l.take (i + 1)) = heft (l.take i) + n.natAbs := by
          rw [List.take_add_one, hn]
          exact heft_snoc _ _
        have := heft_take l (i + 1)
        omega
      -- if many < 0: half = mirrored(half)
      refine ⟨fun σ' H' => ∃ v7, σ' = [some (.ref a), some v, some (.int (i : Nat)), some (.int n), some v7, y5] ∧ Same H4 H' ∧ Dp K H' v7 (webD (halfW n)), ?_, ?_⟩
      · refine ⟨_, rfl, _, _, rfl, rfl, _, rfl, ite2 (fun e => ?_) (fun e => ?_)⟩
        · have e : n < 0 := of_decide_eq_true e
          refine ⟨v6, rfl, v6, singleW, rfl, h6, (⟨rfl, rfl, rfl⟩ : Shape singleW 1).small (by decide), fun H7 v7 s7 h7 => ⟨v7, rfl, s46.trans s7, ?_⟩⟩
          unfold halfW
          rw [if_pos e]
          exact h7
        · have e : ¬ n < 0 := fun z => e (decide_eq_true z)
          refine ⟨v6, rfl, s46, ?_⟩
          unfold halfW
          rw [if_neg e]
          exact h6
      · rintro σ' H7 ⟨v7, rfl, s7, h7⟩
        have h37 := dp_same (s4.trans s7) _ _ h3
        -- if at > 0: found = quarter(found)
        refine ⟨fun σ' H' => ∃ v8, σ' = [some (.ref a), some v8, some (.int (i : Nat)), some (.int n), some v7, y5] ∧ Same H7 H' ∧ Dp K H' v8 (webD (if (l.take i).isEmpty then twistedM (l.take i) else quarterM (twistedM (l.take i)))), ?_, ?_⟩
        · refine ⟨_, rfl, _, _, rfl, rfl, _, rfl, ite2 (fun e => ?_) (fun e => ?_)⟩
          · have e : (0 : Int) < ((i : Nat) : Int) := of_decide_eq_true e
            refine ⟨v, rfl, v, _, rfl, h37, sh1.small (by omega), fun H8 v8 s8 h8 => ⟨v8, rfl, s8, ?_⟩⟩
            rw [if_neg ?_]
            · exact h8
            · rw [List.isEmpty_iff]
              intro z
              rw [List.length_map] at hi
              have hl : (l.take i).length = i := by
                rw [List.length_take]
                omega
              rw [z] at hl
              have hl : 0 = i := hl
              omega
          · have e : ¬ (0 : Int) < ((i : Nat) : Int) := fun z => e (decide_eq_true z)
            refine ⟨v, rfl, Same.refl _, ?_⟩
            have e0 : i = 0 := by omega
            subst e0
            exact h37
        · rintro σ' H8 ⟨v8, rfl, s8, h8⟩
          have h78 := dp_same s8 _ _ h7
          have sh2 : Shape (if (l.take i).isEmpty then twistedM (l.take i) else quarterM (twistedM (l.take i))) (heft (l.take i)) := by
            split
            · exact sh1
            · exact sh1.quarter
          -- for time in range(abs(many))
          refine ⟨.int n, rfl, n, rfl, _, rfl, by omega, by omega, ?_⟩
          have en : (if n < 0 then -n else n).toNat = n.natAbs := by omega
          rw [en]
          refine for_it walk_range (fun t σ' H' => ∃ v9 y5, σ' = [some (.ref a), some v9, some (.int (i : Nat)), some (.int n), some v7, y5] ∧ Same H8 H' ∧ Dp K H' v9 (webD (besideN (if (l.take i).isEmpty then twistedM (l.take i) else quarterM (twistedM (l.take i))) (halfW n) t)))
            ⟨v8, y5, rfl, Same.refl _, h8⟩ (fun _ _ _ _ _ => trivial) ?_ ?_
          · rintro t x σ' H9 H9' ht ⟨v9, y5, rfl, s9, h9⟩ ⟨rfl, rfl⟩
            have sh3 := sh2.besideN (shape_half n) t
            refine ⟨v9, rfl, v7, rfl, v9, v7, _, halfW n, rfl, h9, dp_same s9 _ _ h78, sh3.small (by omega), (shape_half n).small (by decide), sh3.side (shape_half n) (by omega), by rw [sh3.en]; decide, by rw [(shape_half n).en]; decide, fun H10 v10 s10 h10 => ?_⟩
            exact ⟨v10, _, rfl, s9.trans s10, h10⟩
          · rintro σ' H9 ⟨v9, y5, rfl, s9, h9⟩
            refine ⟨v9, _, _, _, _, rfl, s3.trans (s4.trans (s7.trans (s8.trans s9))), ?_⟩
            rw [List.take_add_one, hn]
            show Dp K H9 v9 (webD (twistedM (l.take i ++ [n])))
            rw [twisted_snoc]
            exact h9
    · rintro σ H3 ⟨v, y2, y3, y4, y5, rfl, s3, h3⟩
      rw [List.length_map, List.take_length] at h3
      exact ⟨v, rfl, q H3 v s3 h3⟩
end
end TH
end

section
set_option Elab.async false
set_option linter.all false
set_option maxRecDepth 100000
namespace TH
open PySem PySem.Spec PyProof.Rows L2

/-! ### half_twist, twisted_sums -/
abbrev sHalf : Stmt := topS 28
theorem scHa : FnScope ["level", "upright", "way"] ["level", "upright", "way"] (defScope sHalf) := ⟨rfl, rfl, rfl, by decide +kernel, rfl, by decide +kernel, by decide +kernel⟩
def sumsD (x : Poly × Poly) : PyData := .tuple [polyD x.1, polyD x.2]
def spHalf (K : PySem.W.Frag) : Sp := fun vs H Q _ => ∃ v u, ∃ x : Poly × Poly, ∃ way : Int, vs = [v, u, .int way] ∧ Dp K H v (polyD x.1) ∧ Dp K H u (polyD x.2) ∧ x.1.length + x.2.length ≤ 400000 ∧ ∀ H' v', Same H H' → Dp K H' v' (sumsD (halfM x way)) → Q v' H'
theorem dp_sums {K : PySem.W.Frag} {H : Hp} {v : V} {x : Poly × Poly} (h : Dp K H v (sumsD x)) : ∃ a v1 v2, v = .ref a ∧ SqT K H a [v1, v2] ∧ Dp K H v1 (polyD x.1) ∧ Dp K H v2 (polyD x.2) := by
  obtain ⟨a, xs, e, hs, ha⟩ := dp_tup h
  obtain ⟨x1, r, rfl, h1, h2⟩ := dpAll_cons ha
  obtain ⟨x2, r2, rfl, h3, h4⟩ := dpAll_cons h2
  cases dpAll_nil h4
  exact ⟨a, x1, x2, e, hs, h1, h3⟩
theorem lifted_len (a : Poly) (k : Int) : (liftedM a k).length = a.length := by simp [liftedM]
theorem gathered_len (l : Poly) : (gatheredM l).length ≤ l.length := by
  unfold gatheredM
  rw [List.length_map]
  refine Nat.le_trans (List.length_filter_le _ _) ?_
  rw [List.length_mergeSort]
  have := dedup_len (l.map (·.1)) []
  rw [List.length_nil, Nat.zero_add, List.length_map] at this
  exact this
theorem half_len (x : Poly × Poly) (way : Int) : (halfM x way).1.length + (halfM x way).2.length ≤ 2 * (x.1.length + x.2.length) := by
  unfold halfM minusM
  dsimp only
  have := gathered_len (liftedM x.1 way ++ negM (liftedM x.2 (3 * way)))
  rw [List.length_append, lifted_len, negM, List.length_map, lifted_len] at this
  rw [lifted_len]
  unfold negM
  omega
theorem halfN_len (x : Poly × Poly) (way : Int) : ∀ n, (halfN x way n).1.length + (halfN x way n).2.length ≤ 2 ^ n * (x.1.length + x.2.length)
  | 0 => by simp [halfN]
  | n + 1 => by
    have h1 := halfN_len x way n
    have h2 := half_len (halfN x way n) way
    show (halfM (halfN x way n) way).1.length + (halfM (halfN x way n) way).2.length ≤ _
    rw [Nat.pow_succ, Nat.mul_comm (2 ^ n) 2, Nat.mul_assoc]
    omega
theorem sums_snoc (l : List Int) (a : Int) : sumsM (l ++ [a]) = halfN (if l.isEmpty then sumsM l else ((sumsM l).2, (sumsM l).1)) (signM a) a.natAbs := by
  cases l with
  | nil => rfl
  | cons b r =>
    show (r ++ [a]).foldl _ _ = _
    rw [List.foldl_append]
    rfl
theorem sums_len (l : List Int) : (sumsM l).1.length + (sumsM l).2.length ≤ 2 ^ heft l := by
  suffices ∀ n (l : List Int), l.length = n → (sumsM l).1.length + (sumsM l).2.length ≤ 2 ^ heft l from this _ l rfl
  intro n
  induction n with
  | zero =>
    intro l h
    rw [List.eq_nil_of_length_eq_zero h]
    exact Nat.le_refl _
  | succ n ih =>
    intro l h
    have hne : l ≠ [] := fun z => by rw [z] at h; cases h
    have e := List.dropLast_concat_getLast hne
    rw [← e, sums_snoc, heft_snoc, Nat.pow_add, Nat.mul_comm]
    have s := ih l.dropLast (by rw [List.length_dropLast, h]; rfl)
    refine Nat.le_trans (halfN_len _ _ _) (Nat.mul_le_mul_left _ ?_)
    split
    · exact s
    · dsimp only
      omega
section
variable {P : Program} {w : World} {K : PySem.W.Frag} {mg : Str → Option Value} {base : Heap}
theorem ok_half (F : Fn K mg "half_twist" sHalf ["level", "upright", "way"]) (g : Gb mg) (O1 : Ok P w K mg base 1 "lifted" ["one", "many"] (spLifted K)) (O2 : Ok P w K mg base 2 "minus" ["one", "other"] (spMinus K)) :
    Ok P w K mg base 3 "half_twist" ["level", "upright", "way"] (spHalf K) := by
  obtain ⟨f, fd, FF, m, b⟩ := F
  obtain ⟨fL, dL, GL, mL, kL, bL⟩ := O1
  obtain ⟨fM, dM, GM, mM, kM, bM⟩ := O2
  refine ⟨f, fd, ?_, m, FF.kp, b⟩
  refine FF.ok scHa (fun vs H Q E h => ?_) (fun cdv A outer s H vs Q E hr h => ?_)
  · obtain ⟨v, u, x, way, rfl, _⟩ := h
    rfl
  · obtain ⟨v, u, x, way, rfl, h1, h2, hl, q⟩ := h
    refine ⟨_, (pss_one (ps_ret (pe_tup (pa_cons (pe_call GL (hr.mono (by decide)) (by rfl) mL kL bL .nil pass0 (pa_cons (pv 0) (pa_cons (pe_un un_neg (pv 2)) pa_nil))) (pa_cons (pe_call GM (hr.mono (by decide)) (by rfl) mM kM bM .nil pass0 (pa_cons (pe_call GL (hr.mono (by decide)) (by rfl) mL kL bL .nil pass0 (pa_cons (pv 0) (pa_cons (pv 2) pa_nil))) (pa_cons (pe_call GL (hr.mono (by decide)) (by rfl) mL kL bL .nil pass0 (pa_cons (pv 1) (pa_cons (pe_op op_mul pe_int (pv 2)) pa_nil))) pa_nil))) pa_nil))))), ?_⟩
    refine ⟨v, rfl, .int way, rfl, way, rfl, v, x.1, -way, rfl, h1, by omega, fun H1 v1 s1 g1 => ?_⟩
    refine ⟨v, rfl, .int way, rfl, v, x.1, way, rfl, dp_same s1 _ _ h1, by omega, fun H2 v2 s2 g2 => ?_⟩
    refine ⟨u, rfl, .int way, rfl, 3, way, rfl, rfl, .inl ⟨by decide, by decide⟩, u, x.2, 3 * way, rfl, dp_same (s1.trans s2) _ _ h2, by omega, fun H3 v3 s3 g3 => ?_⟩
    refine ⟨v2, v3, _, _, rfl, dp_same s3 _ _ g2, g3, by rw [lifted_len, lifted_len]; omega, fun H4 v4 s4 g4 => ?_⟩
    refine ⟨(by show 2 ≤ sizeLine; decide), fun t nt => ?_⟩
    have s5 := same_upd (o := .tup [v1, v4]) nt
    have s25 := s2.trans (s3.trans (s4.trans s5))
    exact q _ _ (s1.trans s25) (.tup (.inl (.inl upd_same)) (.cons (dp_same s25 _ _ g1) (.cons (dp_same s5 _ _ g4) .nil)))
abbrev sSums : Stmt := topS 29
theorem scTs : FnScope ["twists", "level", "upright", "at", "many", "time"] ["twists"] (defScope sSums) := ⟨rfl, rfl, rfl, by decide +kernel, rfl, by decide +kernel, by decide +kernel⟩
def spSums (K : PySem.W.Frag) : Sp := fun vs H Q _ => ∃ v l, vs = [v] ∧ Dp K H v (listD l) ∧ heft l ≤ 17 ∧ ∀ H' v', Same H H' → Dp K H' v' (sumsD (sumsM l)) → Q v' H'
theorem ok_sums (F : Fn K mg "twisted_sums" sSums ["twists"]) (g : Gb mg) (O1 : Ok P w K mg base 3 "half_twist" ["level", "upright", "way"] (spHalf K)) :
    Ok P w K mg base 4 "twisted_sums" ["twists"] (spSums K) := by
  obtain ⟨f, fd, FF, m, b⟩ := F
  obtain ⟨fH, dH, GH, mH, kH, bH⟩ := O1
  refine ⟨f, fd, ?_, m, FF.kp, b⟩
  refine FF.ok scTs (fun vs H Q E h => ?_) (fun cdv A outer s H vs Q E hr h => ?_)
  · obtain ⟨v, l, rfl, _⟩ := h
    rfl
  · obtain ⟨v, l, rfl, hD, hh, q⟩ := h
    refine ⟨_, (pss_cons (ps_set (i := 1) scTs.nd rfl (.inl rfl) (pe_tup (pa_cons (pe_tup (pa_cons pe_int (pa_cons pe_int pa_nil))) pa_nil)))
 (pss_cons (ps_set (i := 2) scTs.nd rfl (.inl rfl) (pe_tup pa_nil))
 (pss_cons (ps_for PassesOwn.never rfl (pi_enum (by rfl) g.enumerate (pa_cons (pv 0) pa_nil)) (pg_tup rfl (pgs_cons (pg_name (i := 3) scTs.nd rfl (.inl rfl)) (pgs_cons (pg_name (i := 4) scTs.nd rfl (.inl rfl)) pgs_nil)))
 (C8.pss_cut (ps_if (pt_cmpR op_gt (pv 3) pe_int (nomark _)) (pss_one (ps_par (i := 1) (j := 2) rfl scTs.nd rfl rfl (by decide) rfl rfl (pa_cons (pv 2) (pa_cons (pv 1) pa_nil)) (by rfl))) pss_nil)
 (pss_one (ps_for PassesOwn.never rfl (pi_range1 (by rfl) g.range (pa_cons (pe_callB call_abs (by rfl) g.abs boot_absB (pa_cons (pv 4) pa_nil)) pa_nil)) (pg_name (i := 5) scTs.nd rfl (.inl rfl))
 (pss_one (ps_asg (pe_call GH (hr.mono (by decide)) (by rfl) mH kH bH .nil pass0 (pa_cons (pv 1) (pa_cons (pv 2) (pa_cons (pe_ifExp (pt_cmpR op_gt (pv 4) pe_int (nomark _)) pe_int (pe_un un_neg pe_int)) pa_nil)))) (pg_tup rfl (pgs_cons (pg_name (i := 1) scTs.nd rfl (.inl rfl)) (pgs_cons (pg_name (i := 2) scTs.nd rfl (.inl rfl)) pgs_nil)))))))))
 (pss_one (ps_ret (pe_tup (pa_cons (pv 1) (pa_cons (pv 2) pa_nil)))))))), ?_⟩
    obtain ⟨a, rfl, hA⟩ := dp_list hD
    -- level = ((0, 1),); upright = ()
    refine ⟨(by show 2 ≤ sizeLine; decide), fun t1 n1 => ?_⟩
    have s1 := same_upd (o := .tup [.int 0, .int 1]) n1
    refine ⟨(by show 1 ≤ sizeLine; decide), fun t2 n2 => ?_⟩
    have s2 := same_upd (o := .tup [.ref t1]) n2
    refine ⟨(by show 0 ≤ sizeLine; decide), fun t3 n3 => ?_⟩
    have s3 := same_upd (o := .tup []) n3
    have h1 := s3 _ _ (s2 _ _ (upd_same (H := H) (a := t1) (o := .tup [.int 0, .int 1])))
    have h2 := s3 _ _ (upd_same (H := upd H t1 (.tup [.int 0, .int 1])) (a := t2) (o := .tup [.ref t1]))
    have h3 : (upd (upd (upd H t1 (.tup [.int 0, .int 1])) t2 (.tup [.ref t1])) t3 (.tup [])) t3 = some (.tup []) := upd_same
    have s4 : Same H (upd (upd (upd H t1 (.tup [.int 0, .int 1])) t2 (.tup [.ref t1])) t3 (.tup [])) := s1.trans (s2.trans s3)
    generalize upd (upd (upd H t1 (.tup [.int 0, .int 1])) t2 (.tup [.ref t1])) t3 (.tup []) = H1 at h1 h2 h3 s4
    refine ⟨.ref a, rfl, a, _, rfl, s4.seq hA, for_it walk_enum (fun i σ H3 => ∃ v u y3 y4 y5, σ = [some (.ref a), some v, some u, y3, y4, y5] ∧ Same H H3 ∧ Dp K H3 v (polyD (sumsM (l.take i)).1) ∧ Dp K H3 u (polyD (sumsM (l.take i)).2))
      ⟨.ref t2, .ref t3, none, none, none, rfl, s4, .tup (.inl (.inl h2)) (dpAll_one (term_dp (t := (0, 1)) (.inl (.inl h1)))), .tup (.inl (.inl h3)) .nil⟩ (fun i σ H3 _ ⟨_, _, _, _, _, _, s3, _⟩ => s3.seq hA) ?_ ?_⟩
    · rintro i x σ H3 H4 hi ⟨v, u, y3, y4, y5, rfl, s3, d1, d2⟩ ⟨T, x1, x2, rfl, nT, rfl, e1, e2⟩
      cases e1
      obtain ⟨n, hn, rfl⟩ := ints_at e2
      have s5 : Same H3 (upd H3 T (.tup [.int (i : Nat), .int n])) := same_upd nT
      refine ⟨T, _, rfl, .inl (.inl upd_same), rfl, _, _, rfl, _, _, rfl, rfl, ?_⟩
      generalize upd H3 T (.tup [.int (i : Nat), .int n]) = H4 at s5
      have hti : heft (l.take i) + n.natAbs ≤ 17 := by
        have e : heft (l.take (i + 1)) = heft (l.take i) + n.natAbs := by
          rw [List.take_add_one, hn]
          exact heft_snoc _ _
        have := heft_take l (i + 1)
        omega
      have d1 := dp_same s5 _ _ d1
      have d2 := dp_same s5 _ _ d2
      refine ⟨fun σ' H' => ∃ v u, σ' = [some (.ref a), some v, some u, some (.int (i : Nat)), some (.int n), y5] ∧ H' = H4 ∧ Dp K H4 v (polyD (if (l.take i).isEmpty then sumsM (l.take i) else ((sumsM (l.take i)).2, (sumsM (l.take i)).1)).1) ∧
          Dp K H4 u (polyD (if (l.take i).isEmpty then sumsM (l.take i) else ((sumsM (l.take i)).2, (sumsM (l.take i)).1)).2), ?_, ?_⟩
      · refine ⟨_, rfl, _, _, rfl, rfl, _, rfl, ite2 (fun e => ?_) (fun e => ?_)⟩
        · have e : (0 : Int) < ((i : Nat) : Int) := of_decide_eq_true e
          refine ⟨u, rfl, v, rfl, _, _, rfl, ?_⟩
          have hne : ¬ (l.take i).isEmpty = true := by
            rw [List.isEmpty_iff]
            intro z
            rw [List.length_map] at hi
            have hl : (l.take i).length = i := by
              rw [List.length_take]
              omega
            rw [z] at hl
            have hl : 0 = i := hl
            omega
          rw [if_neg hne]
          exact ⟨u, v, rfl, rfl, d2, d1⟩
        · have e : ¬ (0 : Int) < ((i : Nat) : Int) := fun z => e (decide_eq_true z)
          have e0 : i = 0 := by omega
          subst e0
          exact ⟨v, u, rfl, rfl, d1, d2⟩
      · rintro σ' H4 ⟨v, u, rfl, rfl, d1, d2⟩
        refine ⟨.int n, rfl, n, rfl, _, rfl, by omega, by omega, ?_⟩
        have en : (if n < 0 then -n else n).toNat = n.natAbs := by omega
        rw [en]
        have hlen0 := sums_len (l.take i)
        have hlen1 : (if (l.take i).isEmpty then sumsM (l.take i) else ((sumsM (l.take i)).2, (sumsM (l.take i)).1)).1.length + (if (l.take i).isEmpty then sumsM (l.take i) else ((sumsM (l.take i)).2, (sumsM (l.take i)).1)).2.length ≤ 2 ^ heft (l.take i) := by
          split
          · exact hlen0
          · dsimp only
            omega
        generalize hx0 : (if (l.take i).isEmpty then sumsM (l.take i) else ((sumsM (l.take i)).2, (sumsM (l.take i)).1)) = x0 at d1 d2 hlen1
        refine for_it walk_range (fun t σ' H' => ∃ v u y5, σ' = [some (.ref a), some v, some u, some (.int (i : Nat)), some (.int n), y5] ∧ Same H4 H' ∧ Dp K H' v (polyD (halfN x0 (signM n) t).1) ∧ Dp K H' u (polyD (halfN x0 (signM n) t).2))
          ⟨v, u, y5, rfl, Same.refl _, d1, d2⟩ (fun _ _ _ _ _ => trivial) ?_ ?_
        · rintro t x σ' H9 H9' ht ⟨v, u, y5, rfl, s9, g1, g2⟩ ⟨rfl, rfl⟩
          have hlen : (halfN x0 (signM n) t).1.length + (halfN x0 (signM n) t).2.length ≤ 400000 := by
            refine Nat.le_trans (halfN_len _ _ _) (Nat.le_trans (Nat.mul_le_mul_left _ hlen1) ?_)
            rw [← Nat.pow_add]
            exact Nat.le_trans (Nat.pow_le_pow_right (by decide) (show t + heft (l.take i) ≤ 17 by omega)) (by decide)
          refine ⟨v, rfl, u, rfl, ?_⟩
          have key : ∀ way : Int, way = signM n → spHalf K [v, u, .int way] H9' (fun v' H' => gTup K 2 (gCons (gName 1) (gCons (gName 2) gNil)) v' [some (.ref a), some v, some u, some (.int (i : Nat)), some (.int n), some (.int (0 + (t : Nat)))] H'
              fun σ' H' => ∃ v u y5, σ' = [some (.ref a), some v, some u, some (.int (i : Nat)), some (.int n), y5] ∧ Same H4 H' ∧ Dp K H' v (polyD (halfN x0 (signM n) (t + 1)).1) ∧ Dp K H' u (polyD (halfN x0 (signM n) (t + 1)).2)) E0 := by
            rintro way rfl
            refine ⟨v, u, _, _, rfl, g1, g2, hlen, fun H10 v10 s10 h10 => ?_⟩
            obtain ⟨b1, v11, v12, rfl, hb, k1, k2⟩ := dp_sums h10
            exact ⟨b1, _, rfl, hb, rfl, _, _, rfl, _, _, rfl, rfl, v11, v12, _, rfl, s9.trans s10, k1, k2⟩
          have en2 : n ≠ 0 := by omega
          refine ⟨.int n, rfl, _, _, rfl, rfl, _, rfl, ?_⟩
          refine ite2 (fun e => ?_) (fun e => ?_)
          · have e : 0 < n := of_decide_eq_true e
            exact key 1 (by unfold signM; rw [if_pos (show n > 0 from e)])
          · have e : ¬ 0 < n := fun z => e (decide_eq_true z)
            exact ⟨1, rfl, key (-1) (by unfold signM; rw [if_neg (show ¬ n > 0 from e)])⟩
        · rintro σ' H9 ⟨v, u, y5, rfl, s9, g1, g2⟩
          refine ⟨v, u, _, _, _, rfl, s3.trans (s5.trans s9), ?_⟩
          rw [List.take_add_one, hn]
          show Dp K H9 v (polyD (sumsM (l.take i ++ [n])).1) ∧ Dp K H9 u (polyD (sumsM (l.take i ++ [n])).2)
          rw [sums_snoc, hx0]
          exact ⟨g1, g2⟩
    · rintro σ H3 ⟨v, u, y3, y4, y5, rfl, s3, d1, d2⟩
      rw [List.length_map, List.take_length] at d1 d2
      refine ⟨v, rfl, u, rfl, (by show 2 ≤ sizeLine; decide), fun t nt => ?_⟩
      have s5 := same_upd (o := .tup [v, u]) nt
      exact q _ _ (s3.trans s5) (.tup (.inl (.inl upd_same)) (.cons (dp_same s5 _ _ d1) (.cons (dp_same s5 _ _ d2) .nil)))
end
end TH
end

section
set_option Elab.async false
set_option linter.all false
set_option maxRecDepth 100000
namespace TH
open PySem PySem.Spec PyProof.Rows L2

/-! ### dicts keyed by spots -/
def kS (s : Spot) : List Key := [Sum.inl s.1, Sum.inl s.2]
theorem kS_inj {s t : Spot} (e : kS s = kS t) : s = t := by
  obtain ⟨a, b⟩ := s
  obtain ⟨c, d⟩ := t
  have h1 : (Sum.inl a : Key) = Sum.inl c ∧ [(Sum.inl b : Key)] = [Sum.inl d] := by simpa [kS] using e
  have h2 : (Sum.inl b : Key) = Sum.inl d := by simpa using h1.2
  rw [Sum.inl.inj h1.1, Sum.inl.inj h2]
theorem putS_keys (m : List (Spot × Spot)) (s t : Spot) : (putS m s t).map (·.1) = if s ∈ m.map (·.1) then m.map (·.1) else m.map (·.1) ++ [s] := by
  induction m with
  | nil => simp [putS]
  | cons e r ih =>
    unfold putS
    by_cases h : e.1 = s
    · simp [h]
    · have h' : ¬ s = e.1 := fun z => h z.symm
      rw [if_neg h, List.map_cons, ih]
      by_cases q : s ∈ r.map (·.1)
      · have q2 : s ∈ (e :: r).map (·.1) := by rw [List.map_cons]; exact List.mem_cons_of_mem _ q
        rw [if_pos q, if_pos q2]
        rfl
      · have q2 : ¬ s ∈ (e :: r).map (·.1) := by rw [List.map_cons, List.mem_cons, not_or]; exact ⟨h', q⟩
        rw [if_neg q, if_neg q2]
        rfl
theorem putS_nodup {m : List (Spot × Spot)} (h : (m.map (·.1)).Nodup) (s t : Spot) : ((putS m s t).map (·.1)).Nodup := by
  rw [putS_keys]
  split
  · exact h
  · rename_i q
    rw [List.nodup_append]
    refine ⟨h, by simp, fun x hx y hy z => q ?_⟩
    have e : y = s := by simpa using hy
    rw [← e, ← z]
    exact hx
theorem putS_len (m : List (Spot × Spot)) (s t : Spot) : (putS m s t).length ≤ m.length + 1 := by
  induction m with
  | nil => simp [putS]
  | cons e r ih =>
    unfold putS
    split
    · simp
    · simp
      omega
theorem putK_cons {κ : Type} [DecidableEq κ] (p : κ × V) (r : List (κ × V)) (k : κ) (v : V) (h : p.1 ∉ r.map (·.1)) : putK (p :: r) k v = if p.1 = k then (p.1, v) :: r else p :: putK r k v := by
  unfold putK
  by_cases e : p.1 = k
  · rw [if_pos (by simp [e]), if_pos e, List.map_cons, if_pos e]
    congr 1
    rw [List.map_congr_left (g := id)]
    · simp
    · intro x hx
      rw [if_neg]
      · rfl
      · intro z
        exact h (by rw [e, ← z]; exact List.mem_map.mpr ⟨x, hx, rfl⟩)
  · rw [if_neg e]
    by_cases a : (r.any fun kv => decide (kv.1 = k)) = true
    · rw [if_pos (by simp only [List.any_cons, a, Bool.or_true]), if_pos a, List.map_cons, if_neg e]
    · rw [if_neg (by simp only [List.any_cons, e, decide_false, Bool.false_or]; exact a), if_neg a]
      rfl
/-- the dict at d tells m -/
def SpP (H : Hp) (kv : List Key × V) (p : Spot × Spot) : Prop := kv.1 = kS p.1 ∧ SpV H kv.2 p.2
def TwD (H : Hp) (d : Addr) (m : List (Spot × Spot)) : Prop := ∃ kvs : List (List Key × V), H d = some (.dT kvs) ∧ Paired (SpP H) kvs m ∧ (m.map (·.1)).Nodup
theorem SpP.kt {H H' : Hp} (k : KT H H') {kv : List Key × V} {p : Spot × Spot} (h : SpP H kv p) : SpP H' kv p := ⟨h.1, h.2.kt k⟩
theorem pairS_keys {H : Hp} : ∀ {kvs : List (List Key × V)} {m : List (Spot × Spot)}, Paired (SpP H) kvs m → kvs.map (·.1) = (m.map (·.1)).map kS
  | _, _, .nil => rfl
  | _, _, .cons r t => by
    rw [List.map_cons, List.map_cons, List.map_cons, pairS_keys t, r.1]
theorem pairS_put {H : Hp} {s t : Spot} {v : V} (hv : SpV H v t) : ∀ {kvs : List (List Key × V)} {m : List (Spot × Spot)}, Paired (SpP H) kvs m → (m.map (·.1)).Nodup → Paired (SpP H) (putK kvs (kS s) v) (putS m s t)
  | _, _, .nil, _ => .cons ⟨rfl, hv⟩ .nil
  | kv :: kvs, p :: m, .cons r q, n => by
    rw [List.map_cons, List.nodup_cons] at n
    have hk : kv.1 ∉ kvs.map (·.1) := by
      rw [pairS_keys q, r.1]
      intro z
      obtain ⟨x, hx, e⟩ := List.mem_map.mp z
      exact n.1 (by rw [← kS_inj e]; exact hx)
    rw [putK_cons _ _ _ _ hk]
    unfold putS
    by_cases e : p.1 = s
    · rw [if_pos (by rw [r.1, e]), if_pos e, r.1, e]
      exact .cons ⟨rfl, hv⟩ q
    · rw [if_neg (by rw [r.1]; exact fun z => e (kS_inj z)), if_neg e]
      exact .cons r (pairS_put hv q n.2)
theorem pairS_get {H : Hp} {s t : Spot} : ∀ {kvs : List (List Key × V)} {m : List (Spot × Spot)}, Paired (SpP H) kvs m → m.lookup s = some t → ∃ v, valV kvs (kS s) = some v ∧ SpV H v t
  | _, _, .nil, h => by simp at h
  | kv :: kvs, p :: m, .cons r q, h => by
    rw [List.lookup_cons] at h
    by_cases e : s = p.1
    · rw [show (s == p.1) = true by rw [e]; exact beq_self_eq_true _] at h
      have h : p.2 = t := Option.some.inj h
      exact ⟨kv.2, valV_pos (by rw [r.1, e]), by rw [← h]; exact r.2⟩
    · rw [show (s == p.1) = false from beq_eq_false_iff_ne.mpr e] at h
      obtain ⟨v, h1, h2⟩ := pairS_get q h
      exact ⟨v, by rw [valV_neg (by rw [r.1]; exact fun z => e (kS_inj z).symm)]; exact h1, h2⟩
theorem TwD.get {H : Hp} {d : Addr} {m : List (Spot × Spot)} {s t : Spot} {x : V} (h : TwD H d m) (hl : m.lookup s = some t) (hx : SpV H x s) : ∃ v, DGet H d x (some v) ∧ SpV H v t := by
  obtain ⟨kvs, hd, hp, _⟩ := h
  obtain ⟨v, h1, h2⟩ := pairS_get hp hl
  obtain ⟨b, rfl, hb⟩ := hx
  refine ⟨v, ?_, h2⟩
  rw [← h1]
  exact DGet.t hd hb
theorem TwD.len {H : Hp} {d : Addr} {m : List (Spot × Spot)} (h : TwD H d m) : ∃ kvs : List (List Key × V), H d = some (.dT kvs) ∧ kvs.length = m.length := by
  obtain ⟨kvs, hd, hp, _⟩ := h
  exact ⟨kvs, hd, Paired.length hp⟩
/-- found[x] = y -/
theorem TwD.put {H : Hp} {d : Addr} {m : List (Spot × Spot)} {s t : Spot} {x y : V} (h : TwD H d m) (hx : SpV H x s) (hy : SpV H y t) (hl : m.length ≤ 100000) :
    ∃ H', DPut H d x y H' ∧ TwD H' d (putS m s t) ∧ KT H H' ∧ ∀ b, b ≠ d → H' b = H b := by
  obtain ⟨kvs, hd, hp, hn⟩ := h
  obtain ⟨b, rfl, hb⟩ := hx
  have k : KT H (upd H d (.dT (putK kvs (kS s) y))) := .dT hd
  refine ⟨_, DPut.t (k := kS s) hd hb (Nat.lt_of_le_of_lt (by rw [Paired.length hp]; exact hl) (by decide : (100000 : Nat) < sizeLine)), ⟨_, upd_same, Paired.mapP (pairS_put hy hp hn) fun _ _ => SpP.kt k, putS_nodup hn s t⟩, k, fun b hb => upd_ne hb⟩
theorem TwD.kt {H H' : Hp} {d : Addr} {m : List (Spot × Spot)} (h : TwD H d m) (k : KT H H') (e : H' d = H d) : TwD H' d m := by
  obtain ⟨kvs, hd, hp, hn⟩ := h
  exact ⟨kvs, by rw [e]; exact hd, Paired.mapP hp fun _ _ => SpP.kt k, hn⟩
theorem TwD.same {H H' : Hp} {d : Addr} {m : List (Spot × Spot)} (h : TwD H d m) (s : Same H H') : TwD H' d m := by
  obtain ⟨kvs, hd, hp, hn⟩ := h
  exact ⟨kvs, s _ _ hd, Paired.mapP hp fun _ _ => SpP.kt (.of s), hn⟩

/-! ### twins -/
abbrev sTwins : Stmt := topS 39
theorem scTn : FnScope ["web", "found", "one", "other"] ["web"] (defScope sTwins) := ⟨rfl, rfl, rfl, by decide +kernel, rfl, by decide +kernel, by decide +kernel⟩
def Twos (w : Web) : Prop := ∀ e ∈ places w, e.2.length = 2
def spTwins (K : PySem.W.Frag) : Sp := fun vs H Q _ => ∃ v w, vs = [v] ∧ Dp K H v (webD w) ∧ Small w ∧ Twos w ∧ ∀ H' d, Same H H' → H d = none → TwD H' d (twinsM w) → Q (.ref d) H'
theorem twinsOf_snoc (l : List (Int × List Spot)) (e : Int × List Spot) (s t : Spot) (h : e.2 = [s, t]) (m : List (Spot × Spot)) : twinsOf (l ++ [e]) m = putS (putS (twinsOf l m) s t) t s := by
  unfold twinsOf
  rw [List.foldl_append]
  show (match e.2 with | [s, t] => _ | _ => _) = _
  rw [h]
theorem twinsOf_len : ∀ (l : List (Int × List Spot)) (m : List (Spot × Spot)), (∀ e ∈ l, e.2.length = 2) → (twinsOf l m).length ≤ m.length + 2 * l.length
  | [], _, _ => Nat.le_refl _
  | e :: l, m, h => by
    have h2 := h e List.mem_cons_self
    match e, h2 with
    | (a, [s, t]), _ =>
      have ih := twinsOf_len l (putS (putS m s t) t s) fun x hx => h x (List.mem_cons_of_mem _ hx)
      have h3 := putS_len (putS m s t) t s
      have h4 := putS_len m s t
      show (twinsOf l (putS (putS m s t) t s)).length ≤ _
      simp
      omega
section
variable {P : Program} {w : World} {K : PySem.W.Frag} {mg : Str → Option Value} {base : Heap}
theorem ok_twins (F : Fn K mg "twins" sTwins ["web"]) (g : Gb mg) (O1 : Ok P w K mg base 1 "places" ["web"] (spPlaces K)) : Ok P w K mg base 2 "twins" ["web"] (spTwins K) := by
  obtain ⟨f, fd, FF, m, b⟩ := F
  obtain ⟨fP, dP, GP, mP, kP, bP⟩ := O1
  refine ⟨f, fd, ?_, m, FF.kp, b⟩
  refine FF.ok scTn (fun vs H Q E h => ?_) (fun cdv A outer s H vs Q E hr h => ?_)
  · obtain ⟨v, w, rfl, _⟩ := h
    rfl
  · obtain ⟨v, w, rfl, hD, hS, h2, q⟩ := h
    have hu := hu_of hr
    refine ⟨_, (pss_cons (ps_set (i := 1) scTn.nd rfl (.inl rfl) pe_dnewT)
 (pss_cons (ps_for PassesOwn.never rfl (pi_valsN (pe_call GP (hr.mono (by decide)) (by rfl) mP kP bP .nil pass0 (pa_cons (pv 0) pa_nil))) (pg_unl rfl (pgs_cons (pg_name (i := 2) scTn.nd rfl (.inl rfl)) (pgs_cons (pg_name (i := 3) scTn.nd rfl (.inl rfl)) pgs_nil)))
 (pss_cons (ps_dput hu (pv 1) (pv 2) (pv 3) rfl)
 (pss_one (ps_dput hu (pv 1) (pv 3) (pv 2) rfl))))
 (pss_one (ps_ret (pv 1))))), ?_⟩
    refine fun n nn => ?_
    have s1 : Same H (upd H n (.dT [])) := same_upd nn
    refine ⟨v, rfl, v, w, rfl, dp_same s1 _ _ hD, hS, fun H2 p s2 np hP => ?_⟩
    obtain ⟨E, hE, hA, hnd, hPd⟩ := hP
    have hn2 : H2 n = some (.dT []) := s2 _ _ upd_same
    have npn : p ≠ n := fun z => by
      rw [z, upd_same] at np
      cases np
    have np0 : H p = none := s1.free np
    refine ⟨p, kvE E, rfl, hE, fun o => ?_⟩
    have el : (kvE E).length = (places w).length := by
      unfold kvE
      rw [List.length_map, Paired.length hPd]
    have lp : (places w).length ≤ 1000 := Nat.le_trans (placesOf_len _).1 hS.sp
    -- behind the lock
    have hl : ∀ b o', b ≠ p → H2 b = some o' → (upd H2 p (.frz o (.dK (kvE E)))) b = some o' := fun b o' h1 h2 => by rw [upd_ne h1]; exact h2
    refine for_it walk_values (fun i σ H3 => ∃ y2 y3, σ = [some v, some (.ref n), y2, y3] ∧ H3 p = some (.frz o (.dK (kvE E))) ∧ Same H H3 ∧ (∀ b o', b ≠ p → b ≠ n → H2 b = some o' → H3 b = some o') ∧ TwD H3 n (twinsOf ((places w).take i) []))
      ⟨none, none, rfl, upd_same, same_over (s1.trans s2) np0, fun b o' h1 _ h2 => hl b o' h1 h2, [], hl _ _ npn.symm hn2, .nil, by simp [twinsOf]⟩ (fun i σ H3 _ ⟨_, _, _, h, _⟩ => h) ?_ ?_
    · rintro i x σ H3 H4 hi ⟨y2, y3, rfl, hp, s3, kp, tw⟩ ⟨rfl, k, hk⟩
      have hi2 : i < (places w).length := by omega
      obtain ⟨e, he, h7, hsp⟩ := Paired.at2 hPd (List.getElem?_eq_getElem hi2)
      have hk2 : (kvE E)[i]? = some (Sum.inl e.1, V.ref e.2.1) := by
        unfold kvE
        rw [List.getElem?_map, he]
        rfl
      rw [hk] at hk2
      have ex : x = V.ref e.2.1 := congrArg Prod.snd (Option.some.inj hk2)
      subst ex
      have me := List.mem_of_getElem? he
      have hle := (hA e me).1
      have nep : e.2.1 ≠ p := ne_of hle hE (by intro z; cases z)
      have nen : e.2.1 ≠ n := ne_of hle hn2 (by intro z; cases z)
      have hle3 := kp _ _ nep nen hle
      have h2e := h2 _ (List.getElem_mem hi2)
      obtain ⟨s, t, est⟩ : ∃ s t, (places w)[i].2 = [s, t] := by
        match h : (places w)[i].2, h2e with
        | [s, t], _ => exact ⟨s, t, rfl⟩
      rw [est] at hsp
      obtain ⟨x1, r1, ev1, hx1, hr1⟩ : ∃ x1 r1, e.2.2 = x1 :: r1 ∧ SpV H2 x1 s ∧ Paired (SpV H2) r1 [t] := by
        cases h : e.2.2 with
        | nil => rw [h] at hsp; cases hsp
        | cons a b =>
          rw [h] at hsp
          cases hsp with
          | cons q1 q2 => exact ⟨a, b, rfl, q1, q2⟩
      obtain ⟨x2, rfl, hx2⟩ : ∃ x2, r1 = [x2] ∧ SpV H2 x2 t := by
        cases hr1 with
        | cons q1 q2 =>
          cases q2
          exact ⟨_, rfl, q1⟩
      rw [ev1] at hle3
      have sv : ∀ {x : V} {sp : Spot}, SpV H2 x sp → SpV H4 x sp := fun ⟨b, e1, e2⟩ => ⟨b, e1, kp _ _ (ne_of e2 hE (by intro z; cases z)) (ne_of e2 hn2 (by intro z; cases z)) e2⟩
      have hlen : (twinsOf ((places w).take i) []).length ≤ 3000 := by
        have := twinsOf_len ((places w).take i) [] fun e he => h2 e (List.mem_of_mem_take he)
        rw [List.length_take, List.length_nil] at this
        omega
      obtain ⟨H5, p5, t5, k5, e5⟩ := tw.put (sv hx1) (sv hx2) (by omega)
      have hlen2 := putS_len (twinsOf ((places w).take i) []) s t
      have hlen3 : (putS (twinsOf ((places w).take i) []) s t).length ≤ 100000 := by omega
      obtain ⟨H6, p6, t6, k6, e6⟩ := t5.put ((sv hx2).kt k5) ((sv hx1).kt k5) hlen3
      refine ⟨e.2.1, _, rfl, .inl (.inl hle3), rfl, _, _, rfl, _, _, rfl, rfl, ?_⟩
      refine ⟨x2, rfl, .ref n, rfl, x1, rfl, n, H5, rfl, p5, ?_⟩
      refine ⟨x1, rfl, .ref n, rfl, x2, rfl, n, H6, rfl, p6, ?_⟩
      have e56 : ∀ b, b ≠ n → H6 b = H4 b := fun b hb => by rw [e6 b hb, e5 b hb]
      refine ⟨_, _, rfl, by rw [e56 p npn]; exact hp, fun b o' h => by rw [e56 b (ne_of_none h nn)]; exact s3 _ _ h, fun b o' h1 h2 h3 => by rw [e56 b h2]; exact kp b o' h1 h2 h3, ?_⟩
      rw [List.take_add_one, List.getElem?_eq_getElem hi2]
      show TwD H6 n (twinsOf ((places w).take i ++ [(places w)[i]]) [])
      rw [twinsOf_snoc _ _ s t est]
      exact t6
    · rintro σ H3 ⟨y2, y3, rfl, hp, s3, kp, tw⟩
      rw [el, List.take_length] at tw
      exact ⟨.ref n, rfl, q H3 n s3 nn tw⟩
end
end TH
end

section
set_option Elab.async false
set_option linter.all false
set_option maxRecDepth 100000
namespace TH
open PySem PySem.Spec PyProof.Rows L2

/-! ### arc_at -/
abbrev sArc : Stmt := topS 40
theorem scAa : FnScope ["web", "spot"] ["web", "spot"] (defScope sArc) := ⟨rfl, rfl, rfl, by decide +kernel, rfl, by decide +kernel, by decide +kernel⟩
def spArc (K : PySem.W.Frag) : Sp := fun vs H Q _ => ∃ v x w s, vs = [v, x] ∧ Dp K H v (webD w) ∧ SpV H x s ∧ SpotIn w s ∧ Q (.int (arcAt w s)) H
section
variable {P : Program} {w : World} {K : PySem.W.Frag} {mg : Str → Option Value} {base : Heap}
theorem ok_arc (F : Fn K mg "arc_at" sArc ["web", "spot"]) (g : Gb mg) : Ok P w K mg base 1 "arc_at" ["web", "spot"] (spArc K) := by
  obtain ⟨f, fd, FF, m, b⟩ := F
  obtain ⟨rt, hrim⟩ := g.rim
  refine ⟨f, fd, ?_, m, FF.kp, b⟩
  refine FF.ok scAa (fun vs H Q E h => ?_) (fun cdv A outer s H vs Q E hr h => ?_)
  · obtain ⟨v, x, w, s, rfl, _⟩ := h
    rfl
  · obtain ⟨v, x, w, s, rfl, hD, ⟨b, rfl, hb⟩, ⟨h0, hin⟩, q⟩ := h
    refine ⟨_, (pss_cons (ps_if (pt_cmpR op_eq (pe_ix ix_tup (pv 1) pe_int (fun _ _ => rfl)) (pe_glob (v := .int (-1)) (by rfl) hrim ⟨_, rfl⟩) (nomark _)) (pss_one (ps_ret (pe_ix ix_tup (pe_ix ix_tup (pv 0) pe_int (fun _ _ => rfl)) (pe_ix ix_tup (pv 1) pe_int (fun _ _ => rfl)) (fun _ _ => rfl)))) pss_nil)
 (pss_one (ps_ret (pe_ix ix_tup (pe_ix ix_tup (pe_ix ix_tup (pv 0) pe_int (fun _ _ => rfl)) (pe_ix ix_tup (pv 1) pe_int (fun _ _ => rfl)) (fun _ _ => rfl)) (pe_ix ix_tup (pv 1) pe_int (fun _ _ => rfl)) (fun _ _ => rfl))))), ?_⟩
    obtain ⟨aw, ac, ae, cs, rfl, hW, hC, hCs, hE⟩ := dp_web hD
    have hB : SqT K H b [.int s.1, .int s.2] := .inl (.inl hb)
    refine ⟨_, rfl, b, _, _, _, rfl, rfl, hB, atI_nat (j := 0) rfl, rfl, _, rfl, ite2 (fun e => ?_) (fun e => ?_)⟩
    · have e : s.1 = -1 := V.int.inj (of_decide_eq_true e)
      have hl : s.2.toNat < w.en.length := by
        rcases hin with z | z
        · exact z.2
        · omega
      refine ⟨_, rfl, aw, _, _, _, rfl, rfl, hW, atI_nat (j := 1) rfl, _, rfl, b, _, _, _, rfl, rfl, hB, atI_nat (j := 1) rfl, ae, _, _, .int (arcAt w s), rfl, rfl, hE, at_of (j := s.2.toNat) (by omega) ?_, q⟩
      unfold arcAt
      rw [if_pos e, List.getElem?_map, List.getD_eq_getElem?_getD, List.getElem?_eq_getElem hl]
      rfl
    · have e : ¬ s.1 = -1 := fun z => e (by rw [z]; exact decide_eq_true rfl)
      obtain ⟨k0, kl, jl⟩ : 0 ≤ s.1 ∧ s.1.toNat < w.cr.length ∧ s.2.toNat < (w.cr.getD s.1.toNat []).length := by
        rcases hin with z | z
        · exact absurd z.1 e
        · exact z
      have hc : w.cr[s.1.toNat]? = some (w.cr.getD s.1.toNat []) := by
        rw [List.getD_eq_getElem?_getD, List.getElem?_eq_getElem kl]
        rfl
      obtain ⟨x, hx, hdx⟩ := dpAll_get hCs (show (w.cr.map tupI)[s.1.toNat]? = some (tupI (w.cr.getD s.1.toNat [])) by rw [List.getElem?_map, hc]; rfl)
      obtain ⟨ax, rfl, hX⟩ := dp_tupI hdx
      refine ⟨_, rfl, aw, _, _, _, rfl, rfl, hW, atI_nat (j := 0) rfl, _, rfl, b, _, _, _, rfl, rfl, hB, atI_nat (j := 0) rfl, ac, _, _, .ref ax, rfl, rfl, hC, at_of (j := s.1.toNat) (by omega) hx, ?_⟩
      refine ⟨_, rfl, b, _, _, _, rfl, rfl, hB, atI_nat (j := 1) rfl, ax, _, _, .int (arcAt w s), rfl, rfl, hX, at_of (j := s.2.toNat) (by omega) ?_, q⟩
      unfold arcAt
      rw [if_neg e, List.getElem?_map, List.getD_eq_getElem?_getD (l := w.cr.getD s.1.toNat []), List.getElem?_eq_getElem jl]
      rfl

/-! ### road_from -/
abbrev sRoadFrom : Stmt := topS 41
theorem scRf : FnScope ["across", "begin", "found", "goal", "spot"] ["across", "begin"] (defScope sRoadFrom) := ⟨rfl, rfl, rfl, by decide +kernel, rfl, by decide +kernel, by decide +kernel⟩
def spRoad (K : PySem.W.Frag) : Sp := fun vs H Q _ => ∃ d x m b r, vs = [.ref d, x] ∧ TwD H d m ∧ SpV H x b ∧ Road m b r ∧ r.length ≤ 10000 ∧ ∀ H' p xs, Same H H' → H p = none → H' p = some (.lst xs) → SpL H' xs r → Q (.ref p) H'
theorem spV_dp {H : Hp} {v : V} {s : Spot} (h : SpV H v s) : Dp K H v (tupI [s.1, s.2]) := by
  obtain ⟨a, rfl, h⟩ := h
  exact tupI_dp (.inl (.inl h))
theorem eqv_spot (s t : Spot) : PyData.eqv (tupI [s.1, s.2]) (tupI [t.1, t.2]) = decide (s = t) := by
  have e : PyData.eqv (tupI [s.1, s.2]) (tupI [t.1, t.2]) = ((s.1 == t.1) && ((s.2 == t.2) && true)) := by
    simp only [tupI, List.map_cons, List.map_nil, PyData.eqv, PyData.eqvAll]
  rw [e]
  obtain ⟨a, b⟩ := s
  obtain ⟨c, d⟩ := t
  by_cases h1 : a = c
  · by_cases h2 : b = d
    · simp [h1, h2]
    · simp [h1, h2]
  · simp [h1]
theorem shaped_spot (s : Spot) : SeqAt.shaped (tupI [s.1, s.2]) = true := by
  first
    | rfl
    | decide
    | simp [tupI, SeqAt.shaped, PyData.canLay0, PyData.depth]
theorem ok_road (F : Fn K mg "road_from" sRoadFrom ["across", "begin"]) (g : Gb mg) : Ok P w K mg base 1 "road_from" ["across", "begin"] (spRoad K) := by
  obtain ⟨f, fd, FF, m, b⟩ := F
  obtain ⟨rt, hrim⟩ := g.rim
  refine ⟨f, fd, ?_, m, FF.kp, b⟩
  refine FF.ok scRf (fun vs H Q E h => ?_) (fun cdv A outer s H vs Q E hr h => ?_)
  · obtain ⟨d, x, m, b, r, rfl, _⟩ := h
    rfl
  · obtain ⟨d, x, m, b, r, rfl, hT, hx, ⟨t0, l0, hb0, hrun, rfl⟩, hlen, q⟩ := h
    have hu := hu_of hr
    refine ⟨_, (pss_cons (ps_set (i := 2) scRf.nd rfl (.inl rfl) (pe_lst (pa_cons (pv 1) pa_nil)))
 (pss_cons (ps_set (i := 3) scRf.nd rfl (.inl rfl) (pe_dget hu (pv 0) (pv 1) (fun _ _ => rfl)))
 (pss_cons (ps_while PassesOwn.never (pt_cmpR op_ne (pe_ix ix_tup (pv 3) pe_int (fun _ _ => rfl)) (pe_glob (v := .int (-1)) (by rfl) hrim ⟨_, rfl⟩) (nomark _))
 (pss_cons (ps_set (i := 4) scRf.nd rfl (.inl rfl) (pe_tup (pa_cons (pe_ix ix_tup (pv 3) pe_int (fun _ _ => rfl)) (pa_cons (pe_op op_mod (pe_op op_add (pe_ix ix_tup (pv 3) pe_int (fun _ _ => rfl)) pe_int) pe_int) pa_nil))))
 (pss_cons (ps_if (pt_cmpR (op_eqD hr.units) (pv 4) (pv 1) (nomark _)) (pss_one (ps_ret (pv 2))) pss_nil)
 (pss_cons (ps_expr (pe_bm PySem.F.plainAttrs_list PySem.F.slot_list_append PySem.F.type_list_append mt_append (pv 2) (pa_cons (pv 4) pa_nil)))
 (pss_one (ps_set (i := 3) scRf.nd rfl (.inl rfl) (pe_dget hu (pv 0) (pv 4) (fun _ _ => rfl))))))))
 (pss_one (ps_ret (pv 2)))))), ?_⟩
    refine ⟨_, rfl, (by show 1 ≤ sizeLine; decide), fun p np => ?_⟩
    have s1 : Same H (upd H p (.lst [x])) := same_upd np
    obtain ⟨v0, g0, hv0⟩ := (hT.same s1).get hb0 (hx.same s1)
    refine ⟨_, rfl, x, rfl, d, v0, rfl, g0, ?_⟩
    rw [List.length_cons] at hlen
    refine ⟨fun n σ H3 => ∃ gv gs y4 xs pre l, σ = [some (.ref d), some x, some (.ref p), some gv, y4] ∧ n = l.length ∧ Same H H3 ∧ H3 p = some (.lst xs) ∧ SpL H3 xs pre ∧ SpV H3 gv gs ∧ Run m b gs l ∧ b :: l0 = pre ++ l,
      ⟨l0.length, v0, t0, none, [x], [b], l0, rfl, rfl, s1, upd_same, .cons (hx.same s1) .nil, hv0, hrun, rfl⟩, ?_⟩
    rintro n σ H3 ⟨gv, gs, y4, xs, pre, l, rfl, rfl, s3, hp, hxs, ⟨ga, rfl, hga⟩, run, epre⟩
    have hG : SqT K H3 ga [.int gs.1, .int gs.2] := .inl (.inl hga)
    refine ⟨_, rfl, ga, _, _, _, rfl, rfl, hG, atI_nat (j := 0) rfl, rfl, _, rfl, ite2 (fun e => ?_) (fun e => ?_)⟩
    · have e : ¬ gs.1 = -1 := fun z => by
        rw [z] at e
        exact absurd e (by decide)
      cases run with
      | rim h => exact absurd h e
      | back _ ho =>
        refine ⟨fun _ _ => False, fun _ _ z => z.elim, ?_⟩
        refine ⟨_, rfl, ga, _, _, _, rfl, rfl, hG, atI_nat (j := 0) rfl, _, rfl, ga, _, _, _, rfl, rfl, hG, atI_nat (j := 1) rfl, _, 2, rfl, rfl, _, 4, rfl, rfl, (by show (0 : Int) < 4; decide), (by show 2 ≤ sizeLine; decide), fun t nt => ?_⟩
        have s4 : Same H3 (upd H3 t (.tup [.int gs.1, .int ((gs.2 + 2) % 4)])) := same_upd nt
        have hot : SpV (upd H3 t (.tup [.int gs.1, .int ((gs.2 + 2) % 4)])) (.ref t) (opp gs) := ⟨t, rfl, upd_same⟩
        refine ⟨_, rfl, x, rfl, _, _, spV_dp hot, spV_dp (hx.same (s3.trans s4)), shaped_spot _, shaped_spot _, _, rfl, ?_⟩
        rw [eqv_spot, decide_eq_true ho]
        refine iteT ⟨_, rfl, q _ p xs (s3.trans s4) np (s4 _ _ hp) ?_⟩
        rw [List.append_nil] at epre
        rw [epre]
        exact hxs.same s4
      | @step _ t1 l1 _ hne hlk run1 =>
        refine ⟨fun σ' H4 => ∃ gv gs y4 xs pre, σ' = [some (.ref d), some x, some (.ref p), some gv, y4] ∧ Same H H4 ∧ H4 p = some (.lst xs) ∧ SpL H4 xs pre ∧ SpV H4 gv gs ∧ Run m b gs l1 ∧ b :: l0 = pre ++ l1,
          fun σ' H4 ⟨gv, gs, y4, xs, pre, e1, e2, e3, e4, e5, e6, e7⟩ => ⟨l1.length, Nat.lt_succ_self _, gv, gs, y4, xs, pre, l1, e1, rfl, e2, e3, e4, e5, e6, e7⟩, ?_⟩
        refine ⟨_, rfl, ga, _, _, _, rfl, rfl, hG, atI_nat (j := 0) rfl, _, rfl, ga, _, _, _, rfl, rfl, hG, atI_nat (j := 1) rfl, _, 2, rfl, rfl, _, 4, rfl, rfl, (by show (0 : Int) < 4; decide), (by show 2 ≤ sizeLine; decide), fun t nt => ?_⟩
        have s4 : Same H3 (upd H3 t (.tup [.int gs.1, .int ((gs.2 + 2) % 4)])) := same_upd nt
        have hot : SpV (upd H3 t (.tup [.int gs.1, .int ((gs.2 + 2) % 4)])) (.ref t) (opp gs) := ⟨t, rfl, upd_same⟩
        refine ⟨_, rfl, x, rfl, _, _, spV_dp hot, spV_dp (hx.same (s3.trans s4)), shaped_spot _, shaped_spot _, _, rfl, ?_⟩
        rw [eqv_spot, decide_eq_false hne]
        refine iteF ?_
        generalize upd H3 t (.tup [.int gs.1, .int ((gs.2 + 2) % 4)]) = H4 at s4 hot
        have hp4 := s4 _ _ hp
        -- found.append(spot)
        refine ⟨_, rfl, .inl ⟨rfl, _, .inl (.inl hp4)⟩, _, rfl, p, xs, _, rfl, rfl, hp4, ?_, ?_⟩
        · have e1 := congrArg List.length epre
          rw [List.length_cons, List.length_append, List.length_cons] at e1
          rw [Paired.length hxs]
          exact mill (by omega)
        · have k5 : KT H4 (upd H4 p (.lst (xs ++ [.ref t]))) := .lst hp4
          have s5 : Same H (upd H4 p (.lst (xs ++ [.ref t]))) := same_over (s3.trans s4) np
          obtain ⟨v1, g1, hv1⟩ := (hT.same s5).get hlk (hot.kt k5)
          refine ⟨_, rfl, _, rfl, d, v1, rfl, g1, ?_⟩
          refine ⟨v1, t1, _, _, pre ++ [opp gs], rfl, s5, upd_same, Paired.app ((hxs.same s4).kt k5) (.cons (hot.kt k5) .nil), hv1, run1, ?_⟩
          rw [epre, List.append_assoc]
          rfl
    · have e : gs.1 = -1 := by
        by_cases z : gs.1 = -1
        · exact z
        · refine absurd ?_ e
          have : ¬ V.int gs.1 = V.int (-1) := fun h => z (V.int.inj h)
          simp [this]
      cases run with
      | rim h =>
        rw [List.append_nil] at epre
        refine ⟨_, rfl, q _ p xs s3 np hp ?_⟩
        rw [epre]
        exact hxs
      | back h _ => exact absurd e h
      | step h _ _ _ => exact absurd e h
end
end TH
end

section
set_option Elab.async false
set_option linter.all false
set_option maxRecDepth 100000
namespace TH
open PySem PySem.Spec PyProof.Rows L2

/-! ### roads -/
abbrev sRoads : Stmt := topS 42
theorem scRd : FnScope ["web", "across", "begins", "number", "done", "found", "begin", "road", "spot", "place"] ["web"] (defScope sRoads) := ⟨rfl, rfl, rfl, by decide +kernel, rfl, by decide +kernel, by decide +kernel⟩
def RdL (H0 H : Hp) (x : V) (r : List Spot) : Prop := ∃ a xs, x = .ref a ∧ H0 a = none ∧ H a = some (.lst xs) ∧ SpL H xs r
def spRoads (K : PySem.W.Frag) : Sp := fun vs H Q _ => ∃ v w R, vs = [v] ∧ Dp K H v (webD w) ∧ Small w ∧ Twos w ∧ Roads (twinsM w) (arcAt w) (beginsM w) [] R ∧ (∀ s ∈ beginsM w, SpotIn w s) ∧ (∀ r ∈ R, ∀ s ∈ r, SpotIn w s) ∧ R.flatten.length ≤ 10000 ∧ R.length ≤ 10000 ∧
  ∀ H' p xs, Same H H' → H p = none → H' p = some (.lst xs) → Paired (RdL H H') xs R → Q (.ref p) H'
/-- [(k, place) for place in range(n)] -/
theorem lc_spots {H1 : Hp} {D : Addr} {k : Int} {n : Nat} {σ : L2.St} {ci : Nat} {te0 : TE} {Qd : Hp → Prop} (nD : H1 D = none) (hn : n ≤ 1000)
    (ht : ∀ (x : V) (H : Hp) (Q : VK), Q (.int k) H → te0 ((wipe σ [ci]).set ci (some x)) H Q) (h2 : ∀ v, ((wipe σ [ci]).set ci v)[ci]? = some v) (h3 : ∀ v, wipe ((wipe σ [ci]).set ci v) [ci] = wipe σ [ci])
    (hd : ∀ H4 xs, Same H1 H4 → H4 D = some (.lst xs) → SpL H4 xs ((List.range n).map fun (j : Nat) => (k, (j : Int))) → Qd H4) :
    ∃ W : Nat → Nat → Hp → Prop, (∃ m, W 0 m (upd H1 D (.lst []))) ∧ ∀ i m H, W i m H →
      ((Itr 0 n).stop i H ∧ Qd H) ∨ ((Itr 0 n).go i H ∧ ∃ Nx : Hp → Prop, (∀ H', Nx H' → ∃ m', m' < m ∧ W (i + 1) m' H') ∧ ∀ x H', (Itr 0 n).yld i H x H' → gName ci x (wipe σ [ci]) H' fun σ2 H2 => wipe σ2 [ci] = wipe σ [ci] ∧ tYes σ2 H2 fun b H3 =>
        if b = true then tTup (tCons te0 (tCons (tVar ci) tNil)) σ2 H3 fun y H4 => ∃ acc, H4 D = some (.lst acc) ∧ acc.length < sizeLine ∧ Nx (upd H4 D (.lst (acc ++ [y]))) else Nx H3) := by
  refine lc_range (fun i H4 => Same H1 H4 ∧ ∃ xs, H4 D = some (.lst xs) ∧ SpL H4 xs ((List.range i).map fun (j : Nat) => (k, (j : Int)))) ⟨same_upd nD, [], upd_same, .nil⟩ ?_ ?_
  · rintro i H4 hi ⟨s4, xs, hx, hxs⟩
    refine ⟨h3 _, ?_⟩
    refine ht _ _ _ ⟨_, h2 _, (by show 2 ≤ sizeLine; decide), fun t nt => ?_⟩
    have h5 : upd H4 t (.tup [.int k, .int (0 + (i : Int))]) D = some (.lst xs) := same_upd nt _ _ hx
    have kt : KT H4 (upd (upd H4 t (.tup [.int k, .int (0 + (i : Int))])) D (.lst (xs ++ [.ref t]))) := (KT.new nt).trans (.lst h5)
    refine ⟨xs, h5, ?_, same_over (same_new s4 nt) nD, _, upd_same, ?_⟩
    · rw [Paired.length hxs, List.length_map, List.length_range]
      exact small1000 (by omega)
    · rw [List.range_succ, List.map_append]
      refine Paired.app (hxs.kt kt) (.cons ⟨t, rfl, ?_⟩ .nil)
      rw [upd_ne (ne_of_none hx nt).symm, upd_same, Int.zero_add]
  · rintro H4 ⟨s4, xs, hx, hxs⟩
    exact hd H4 xs s4 hx hxs
theorem RdL.same {H0 H H' : Hp} {x : V} {r : List Spot} (h : RdL H0 H x r) (s : Same H H') : RdL H0 H' x r := let ⟨a, xs, e, h0, h1, h2⟩ := h; ⟨a, xs, e, h0, s _ _ h1, h2.same s⟩
theorem fourOf_len (k : Int) : (fourOf k).length = 4 := by simp [fourOf]
theorem flat_len (n : Nat) : ((List.range n).flatMap fun (k : Nat) => fourOf (k : Int)).length = 4 * n := by
  induction n with
  | zero => rfl
  | succ n ih =>
    rw [List.range_succ, List.flatMap_append, List.length_append, ih]
    simp [fourOf_len]
    omega
/-- the dict of the arcs that are done -/
def DoneD (H : Hp) (d : Addr) (done : List Int) : Prop := ∃ ks, H d = some (.dK ks) ∧ (∀ a, (valV ks (Sum.inl a)).isSome = decide (a ∈ done)) ∧ ks.length ≤ done.length
theorem DoneD.put {H : Hp} {d : Addr} {done : List Int} (h : DoneD H d done) (hl : done.length ≤ 1000000) (a : Int) : ∃ H', DPut H d (.int a) (.bl true) H' ∧ DoneD H' d (done ++ [a]) ∧ KT H H' ∧ ∀ b, b ≠ d → H' b = H b := by
  obtain ⟨ks, h1, h2, h3⟩ := h
  refine ⟨_, DPut.k (k := Sum.inl a) h1 (mill (by omega)), ⟨_, upd_same, fun b => ?_, ?_⟩, .dK h1, fun b hb => upd_ne hb⟩
  · rw [valV_put]
    by_cases e : b = a
    · simp [e]
    · rw [if_neg (by simpa using e), h2 b]
      simp [e]
  · have := length_putK ks (Sum.inl a) (V.bl true)
    simp
    omega
def RdX (H0 : Hp) (p d : Addr) (H : Hp) (x : V) (r : List Spot) : Prop := ∃ a xs, x = .ref a ∧ (a ≠ p ∧ a ≠ d ∧ H0 a = none) ∧ H a = some (.lst xs) ∧ SpL H xs r
theorem RdX.mono {H0 : Hp} {p d : Addr} {H H' : Hp} (k : KT H H') (h : ∀ a xs, (a ≠ p ∧ a ≠ d ∧ H0 a = none) → H a = some (.lst xs) → H' a = some (.lst xs)) {x : V} {r : List Spot} (q : RdX H0 p d H x r) : RdX H0 p d H' x r := let ⟨a, xs, e, h1, h2, h3⟩ := q; ⟨a, xs, e, h1, h a xs h1 h2, h3.kt k⟩
section
variable {P : Program} {w : World} {K : PySem.W.Frag} {mg : Str → Option Value} {base : Heap}
theorem ok_roads (F : Fn K mg "roads" sRoads ["web"]) (g : Gb mg) (O1 : Ok P w K mg base 2 "twins" ["web"] (spTwins K)) (O2 : Ok P w K mg base 1 "arc_at" ["web", "spot"] (spArc K)) (O3 : Ok P w K mg base 1 "road_from" ["across", "begin"] (spRoad K)) : Ok P w K mg base 3 "roads" ["web"] (spRoads K) := by
  obtain ⟨f, fd, FF, m, b⟩ := F
  obtain ⟨rt, hrim⟩ := g.rim
  obtain ⟨fT, dT, GT, mT, kT, bT⟩ := O1
  obtain ⟨fA, dA, GA, mA, kA, bA⟩ := O2
  obtain ⟨fR, dR, GR, mR, kR, bR⟩ := O3
  refine ⟨f, fd, ?_, m, FF.kp, b⟩
  refine FF.ok scRd (fun vs H Q E h => ?_) (fun cdv A outer s H vs Q E hr h => ?_)
  · obtain ⟨v, w, R, rfl, _⟩ := h
    rfl
  · obtain ⟨v, w, R, rfl, hD, hS, h2, hR, hb, hrs, hfl, hRl, q⟩ := h
    have hu := hu_of hr
    refine ⟨_, (pss_cons (ps_set (i := 1) scRd.nd rfl (.inl rfl) (pe_call GT (hr.mono (by decide)) (by rfl) mT kT bT .nil pass0 (pa_cons (pv 0) pa_nil)))
 (pss_cons (ps_setLc (i := 2) (own := [("place", 9)]) (g := (gName 9)) (tt := tYes) (te := (tTup (tCons (tC _) (tCons (tVar 9) tNil)))) rfl scRd.nd rfl rfl (sw_true rfl rfl rfl (by decide +kernel)) (pi_range1 (by rfl) g.range (pa_cons (pe_callB (r := rLenSeq K) call_lenK (by rfl) g.len PySem.boot_len (pa_cons (pe_ix ix_tup (pv 0) pe_int (fun _ _ => rfl)) pa_nil)) pa_nil)) (blkOk_by (by kernel_rfl)) (fun _ _ _ _ _ => (pg_name (i := 9) scRd.nd rfl (.inl rfl))) (fun _ _ _ _ _ => pts_nil) (fun _ _ _ _ _ => (pe_tup (pa_cons (pe_glob (v := .int (-1)) (by rfl) hrim ⟨_, rfl⟩) (pa_cons (pv 9) pa_nil)))))
 (pss_cons (ps_for PassesOwn.never rfl (pi_range1 (by rfl) g.range (pa_cons (pe_callB (r := rLenSeq K) call_lenK (by rfl) g.len PySem.boot_len (pa_cons (pe_ix ix_tup (pv 0) pe_int (fun _ _ => rfl)) pa_nil)) pa_nil)) (pg_name (i := 3) scRd.nd rfl (.inr rfl))
 (pss_one (ps_expr (pe_bm PySem.F.plainAttrs_list PySem.F.slot_list_extend PySem.F.type_list_extend mt_extend (pv 2) (pa_cons (pe_lc (own := [("place", 9)]) (g := (gName 9)) (tt := tYes) (te := (tTup (tCons (tVar 3) (tCons (tVar 9) tNil)))) rfl scRd.nd (pi_range1 (by rfl) g.range (pa_cons pe_int pa_nil)) (blkOk_by (by kernel_rfl)) (fun _ _ _ _ _ => (pg_name (i := 9) scRd.nd rfl (.inl rfl))) (fun _ _ _ _ _ => pts_nil) (fun _ _ _ _ _ => (pe_tup (pa_cons (pv 3) (pa_cons (pv 9) pa_nil))))) pa_nil)))))
 (pss_cons (ps_set (i := 4) scRd.nd rfl (.inl rfl) pe_dnewK)
 (pss_cons (ps_set (i := 5) scRd.nd rfl (.inl rfl) (pe_lst pa_nil))
 (pss_cons (ps_for PassesOwn.never rfl (pi_list (pv 2)) (pg_name (i := 6) scRd.nd rfl (.inl rfl))
 (pss_one (ps_if (pt_cmp (pc_dnotin hu (pe_call GA (hr.mono (by decide)) (by rfl) mA kA bA .nil pass0 (pa_cons (pv 0) (pa_cons (pv 6) pa_nil))) (pv 4))) (pss_cons (ps_set (i := 7) scRd.nd rfl (.inl rfl) (pe_call GR (hr.mono (by decide)) (by rfl) mR kR bR .nil pass0 (pa_cons (pv 1) (pa_cons (pv 6) pa_nil))))
 (pss_cons (ps_expr (pe_bm PySem.F.plainAttrs_list PySem.F.slot_list_append PySem.F.type_list_append mt_append (pv 5) (pa_cons (pv 7) pa_nil)))
 (pss_one (ps_for PassesOwn.never rfl (pi_list (pv 7)) (pg_name (i := 8) scRd.nd rfl (.inl rfl))
 (pss_one (ps_dput hu (pv 4) (pe_call GA (hr.mono (by decide)) (by rfl) mA kA bA .nil pass0 (pa_cons (pv 0) (pa_cons (pv 8) pa_nil))) pe_bl rfl)))))) pss_nil)))
 (pss_one (ps_ret (pv 5))))))))), ?_⟩
    refine ⟨v, rfl, v, w, rfl, hD, hS, h2, fun H1 t s1 nt hT => ?_⟩
    obtain ⟨aw, ac, ae, cs, rfl, hW, hC, hCs, hE⟩ := dp_web hD
    have lcr : w.cr.length ≤ 1000 := Nat.le_trans hS.cr (by decide)
    have len : w.en.length ≤ 1000 := by
      have := hS.sp
      rw [allSpots_len] at this
      omega
    have ec : cs.length = w.cr.length := by rw [dpAll_len hCs, List.length_map]
    refine ⟨.ref aw, rfl, aw, _, 1, _, rfl, rfl, seqT_same s1 hW, atI_nat (j := 1) rfl, ae, _, rfl, .inr (seqT_same s1 hE), _, rfl, (by rw [List.length_map]; omega), (by rw [List.length_map]; omega), fun D nD => ?_⟩
    rw [List.length_map]
    refine lc_spots (k := -1) nD len (fun _ _ _ h => h) (fun _ => rfl) (fun _ => rfl) fun H2 xs0 s2 h20 hx0 => ?_
    -- the crossings' places
    refine ⟨.ref aw, rfl, aw, _, 0, _, rfl, rfl, seqT_same (s1.trans s2) hW, atI_nat (j := 0) rfl, ac, _, rfl, .inr (seqT_same (s1.trans s2) hC), _, rfl, (by omega), (by omega), ?_⟩
    rw [ec]
    refine for_range (fun i σ H3 => ∃ y3 y9 xs, σ = [some (.ref aw), some (.ref t), some (.ref D), y3, none, none, none, none, none, y9] ∧ Same H1 H3 ∧ H3 D = some (.lst xs) ∧ SpL H3 xs (rimOf w.en.length ++ (List.range i).flatMap fun (k : Nat) => fourOf (k : Int)))
      ⟨none, none, xs0, rfl, s2, h20, by rw [List.range_zero, List.flatMap_nil, List.append_nil]; exact hx0⟩ ?_ ?_
    · rintro i σ H3 hi ⟨y3, y9, xs, rfl, s3, h3, hx3⟩
      rw [Int.zero_add]
      have hl3 := Paired.length hx3
      rw [List.length_append, flat_len, rimOf, List.length_map, List.length_range] at hl3
      refine ⟨_, rfl, .inl ⟨rfl, _, .inl (.inl h3)⟩, 4, rfl, by decide, by decide, fun D2 nD2 => ?_⟩
      refine lc_spots (k := (i : Int)) nD2 (by decide) (fun _ _ _ h => ⟨_, rfl, h⟩) (fun _ => rfl) (fun _ => rfl) fun H4 ys s4 h4 hy4 => ?_
      have e4 := Paired.length hy4
      rw [List.length_map, List.length_range] at e4
      refine ⟨D, D2, xs, ys, rfl, rfl, s4 _ _ h3, h4, ?_, ?_⟩
      · refine Nat.le_of_lt (mill ?_)
        rw [hl3, e4]
        show _ + 4 ≤ _
        omega
      · refine ⟨_, _, _, rfl, same_over (s3.trans s4) nD, upd_same, ?_⟩
        have kt : KT H4 (upd H4 D (.lst (xs ++ ys))) := .lst (s4 _ _ h3)
        rw [List.range_succ, List.flatMap_append, ← List.append_assoc]
        refine Paired.app ((hx3.same s4).kt kt) ?_
        rw [List.flatMap_cons, List.flatMap_nil, List.append_nil]
        exact hy4.kt kt
    · rintro σ H3 ⟨y3, y9, xs, rfl, s3, h3, hx3⟩
      have hx3 : SpL H3 xs (beginsM w) := hx3
      refine fun pd nd => ⟨(by show 0 ≤ sizeLine; decide), fun pf nf => ?_⟩
      have s4 : Same H3 (upd (upd H3 pd (.dK [])) pf (.lst [])) := same_new (same_upd nd) nf
      have n3d : H3 pf = none := (same_upd nd).free nf
      have edf : pd ≠ pf := fun z => by
        rw [← z, upd_same] at nf
        cases nf
      have eDd : D ≠ pd := ne_of_none h3 nd
      have eDf : D ≠ pf := ne_of_none h3 n3d
      have hd6 : DoneD (upd (upd H3 pd (.dK [])) pf (.lst [])) pd [] := ⟨[], by rw [upd_ne edf, upd_same], fun a => by simp [valV], Nat.le_refl _⟩
      have hf6 : (upd (upd H3 pd (.dK [])) pf (.lst [])) pf = some (.lst []) := upd_same
      generalize upd (upd H3 pd (.dK [])) pf (.lst []) = H6 at s4 hd6 hf6
      have n1d : H1 pd = none := s3.free nd
      have n1f : H1 pf = none := s3.free n3d
      have len_x : xs.length = (beginsM w).length := Paired.length hx3
      refine ⟨.ref D, rfl, D, rfl, ⟨xs, .inl (.inl (s4 _ _ h3))⟩, ?_⟩
      refine for_list (xs := xs) (fun i σ H7 => ∃ y6 y7 y8 done xr R0 R1, σ = [some (.ref aw), some (.ref t), some (.ref D), y3, some (.ref pd), some (.ref pf), y6, y7, y8, y9] ∧ Same H1 H7 ∧ KT H6 H7 ∧ H7 D = some (.lst xs) ∧ DoneD H7 pd done ∧ H7 pf = some (.lst xr) ∧
          R = R0 ++ R1 ∧ done.length = R0.flatten.length ∧ Roads (twinsM w) (arcAt w) ((beginsM w).drop i) done R1 ∧ Paired (RdX H pf pd H7) xr R0)
        ⟨none, none, none, [], [], [], R, rfl, s3.trans s4, .refl, s4 _ _ h3, hd6, hf6, rfl, rfl, hR, .nil⟩ (fun i σ H7 _ ⟨_, _, _, _, _, _, _, _, _, _, h, _⟩ => .inl (.inl h)) ?_ ?_
      · rintro i x σ H7 hi ⟨y6, y7, y8, done, xr, R0, R1, rfl, s7, k7, hD7, hd7, hf7, hRe, hdl, hR7, hr7⟩
        obtain ⟨b0, hb0, hxb⟩ := Paired.at1 hx3 hi
        have mb := List.mem_of_getElem? hb0
        have hxb7 : SpV H7 x b0 := (hxb.same s4).kt k7
        obtain ⟨ks, hk1, hk2, hk3⟩ := hd7
        refine ⟨.ref aw, rfl, x, rfl, .ref aw, x, w, b0, rfl, dp_same (s1.trans s7) _ _ hD, hxb7, hb _ mb, _, rfl, pd, _, rfl, DGet.k (k := Sum.inl (arcAt w b0)) hk1, ?_⟩
        have ed : (beginsM w).drop i = b0 :: (beginsM w).drop (i + 1) := by
          obtain ⟨hlt, e⟩ := List.getElem?_eq_some_iff.mp hb0
          rw [List.drop_eq_getElem_cons hlt, e]
        rw [ed] at hR7
        have hk2b := hk2 (arcAt w b0)
        cases hR7 with
        | skip hin hr =>
          rw [decide_eq_true hin] at hk2b
          rw [hk2b]
          refine ⟨_, rfl, iteF ?_⟩
          exact ⟨_, _, _, done, xr, R0, R1, rfl, s7, k7, hD7, ⟨ks, hk1, hk2, hk3⟩, hf7, hRe, hdl, hr, hr7⟩
        | @road _ _ _ r R2 hnin hroad hr =>
          rw [decide_eq_false hnin] at hk2b
          rw [hk2b]
          refine ⟨_, rfl, iteT ?_⟩
          have mr : r ∈ R := by rw [hRe]; exact List.mem_append_right _ List.mem_cons_self
          have hfl2 : R0.flatten.length + r.length ≤ 10000 := by
            rw [hRe, List.flatten_append, List.length_append, List.flatten_cons, List.length_append] at hfl
            omega
          have lR0 : R0.length ≤ 10000 := by
            rw [hRe, List.length_append] at hRl
            omega
          refine ⟨.ref t, rfl, x, rfl, t, x, twinsM w, b0, r, rfl, hT.same s7, hxb7, hroad, by omega, fun H8 p ys s8 np hp hys => ?_⟩
          have hf8 := s8 _ _ hf7
          have epf : p ≠ pf := fun z => by
            rw [z, hf7] at np
            cases np
          have epd : p ≠ pd := fun z => by
            rw [z, hk1] at np
            cases np
          have epD : p ≠ D := fun z => by
            rw [z, hD7] at np
            cases np
          refine ⟨_, rfl, .inl ⟨rfl, _, .inl (.inl hf8)⟩, _, rfl, pf, xr, _, rfl, rfl, hf8, mill (by rw [Paired.length hr7]; omega), ?_⟩
          have k9 : KT H8 (upd H8 pf (.lst (xr ++ [.ref p]))) := .lst hf8
          have s9 : Same H1 (upd H8 pf (.lst (xr ++ [.ref p]))) := same_over (s7.trans s8) n1f
          have hp9 : (upd H8 pf (.lst (xr ++ [.ref p]))) p = some (.lst ys) := by rw [upd_ne epf]; exact hp
          have hD9 : (upd H8 pf (.lst (xr ++ [.ref p]))) D = some (.lst xs) := by rw [upd_ne eDf]; exact s8 _ _ hD7
          have hd9 : DoneD (upd H8 pf (.lst (xr ++ [.ref p]))) pd done := ⟨ks, by rw [upd_ne edf]; exact s8 _ _ hk1, hk2, hk3⟩
          have hr9 : Paired (RdX H pf pd (upd H8 pf (.lst (xr ++ [.ref p])))) (xr ++ [.ref p]) (R0 ++ [r]) := by
            refine Paired.app (Paired.mapP hr7 fun _ _ z => z.mono ((KT.of s8).trans k9) fun a xs e h => ?_) (.cons ⟨p, ys, rfl, ⟨epf, epd, s1.free (s7.free np)⟩, hp9, hys.kt k9⟩ .nil)
            rw [upd_ne e.1]
            exact s8 _ _ h
          have hf9 : (upd H8 pf (.lst (xr ++ [.ref p]))) pf = some (.lst (xr ++ [.ref p])) := upd_same
          have k69 := k7.trans ((KT.of s8).trans k9)
          have hys9 := hys.kt k9
          generalize upd H8 pf (.lst (xr ++ [.ref p])) = H9 at k9 s9 hp9 hD9 hd9 hr9 hf9 k69 hys9
          refine ⟨.ref p, rfl, p, rfl, ⟨ys, .inl (.inl hp9)⟩, ?_⟩
          refine for_list (xs := ys) (fun j σ Ha => ∃ y8, σ = [some (.ref aw), some (.ref t), some (.ref D), y3, some (.ref pd), some (.ref pf), some x, some (.ref p), y8, y9] ∧ Same H1 Ha ∧ KT H9 Ha ∧ Ha p = some (.lst ys) ∧ Ha D = some (.lst xs) ∧ DoneD Ha pd (done ++ (r.take j).map (arcAt w)) ∧ Ha pf = some (.lst (xr ++ [.ref p])) ∧ Paired (RdX H pf pd Ha) (xr ++ [.ref p]) (R0 ++ [r]))
            ⟨_, rfl, s9, .refl, hp9, hD9, by rw [List.take_zero, List.map_nil, List.append_nil]; exact hd9, hf9, hr9⟩ (fun j σ Ha _ ⟨_, _, _, _, h, _⟩ => .inl (.inl h)) ?_ ?_
          · rintro j z σ Ha hj ⟨z8, rfl, sa, ka, hpa, hDa, hda, hfa, hra⟩
            obtain ⟨sp, hsp, hz⟩ := Paired.at1 hys9 hj
            have msp := List.mem_of_getElem? hsp
            have hza := hz.kt ka
            have hjr : j < r.length := (List.getElem?_eq_some_iff.mp hsp).1
            obtain ⟨Hb, pb, db, kb, eb⟩ := hda.put (by rw [List.length_append, List.length_map, List.length_take]; omega) (arcAt w sp)
            refine ⟨.ref pd, rfl, .ref aw, rfl, z, rfl, .ref aw, z, w, sp, rfl, dp_same (s1.trans sa) _ _ hD, hza, hrs r mr sp msp, pd, Hb, rfl, pb, ?_⟩
            refine ⟨_, rfl, fun b o h => by rw [eb b (ne_of_none h n1d)]; exact sa _ _ h, ka.trans kb, by rw [eb p epd]; exact hpa, by rw [eb D eDd]; exact hDa, ?_, by rw [eb pf edf.symm]; exact hfa, Paired.mapP hra fun _ _ z => z.mono kb fun a xs e h => ?_⟩
            · rw [List.take_add_one, hsp, List.map_append, ← List.append_assoc]
              exact db
            · rw [eb a e.2.1]
              exact h
          · rintro σ Ha ⟨z8, rfl, sa, ka, hpa, hDa, hda, hfa, hra⟩
            have lys : ys.length = r.length := Paired.length hys
            rw [lys, List.take_length] at hda
            refine ⟨_, _, _, _, _, R0 ++ [r], R2, rfl, sa, k69.trans ka, hDa, hda, hfa, by rw [hRe, List.append_assoc]; rfl, ?_, hr, hra⟩
            rw [List.length_append, List.flatten_append, List.length_append, List.length_map, hdl]
            simp
      · rintro σ H7 ⟨y6, y7, y8, done, xr, R0, R1, rfl, s7, k7, hD7, hd7, hf7, hRe, hdl, hR7, hr7⟩
        rw [len_x, List.drop_length] at hR7
        cases hR7
        rw [List.append_nil] at hRe
        subst hRe
        exact ⟨_, rfl, q H7 pf xr (s1.trans s7) (s1.free n1f) hf7 (Paired.mapP hr7 fun _ _ ⟨a, xs, e, h1, h2, h3⟩ => ⟨a, xs, e, h1.2.2, h2, h3⟩)⟩
end
end TH
end

section
set_option Elab.async false
set_option linter.all false
set_option maxRecDepth 100000
namespace TH
open PySem PySem.Spec PyProof.Rows L2

structure RdOk (w : Web) (R : List (List Spot)) : Prop where
  small : Small w
  twos : Twos w
  roads : Roads (twinsM w) (arcAt w) (beginsM w) [] R
  begins : ∀ s ∈ beginsM w, SpotIn w s
  spots : ∀ r ∈ R, ∀ s ∈ r, SpotIn w s
  flat : R.flatten.length ≤ 10000
  len : R.length ≤ 10000
  ne : ∀ r ∈ R, r ≠ []
/-! ### sorted pairs -/
def kOf (H : Hp) (x : V) : Int × Int := match x with
  | .ref t => match H t with
    | some (.tup [.int i, .int j]) => (i, j)
    | _ => (0, 0)
  | _ => (0, 0)
theorem kOf_sp {H : Hp} {x : V} {s : Spot} (h : SpV H x s) : kOf H x = s := by
  obtain ⟨a, rfl, h⟩ := h
  unfold kOf
  simp only [h]
theorem srtd_sp {H : Hp} : ∀ {xs : List V} {J : List Spot}, SpL H xs J → J.Pairwise (fun a b => a.1 < b.1) → SrtO.Srtd (ltP (kOf H)) xs
  | _, _, .nil, _ => List.Pairwise.nil
  | x :: xs, j :: J, .cons h t, p => by
    rw [List.pairwise_cons] at p
    refine List.pairwise_cons.mpr ⟨fun y hy => ?_, srtd_sp t p.2⟩
    obtain ⟨i, hi⟩ := List.mem_iff_getElem?.mp hy
    obtain ⟨j2, h2, hy2⟩ := Paired.at1 t hi
    have := p.1 j2 (List.mem_of_getElem? h2)
    refine SrtO.lexB_no.mpr ?_
    rw [kOf_sp h, kOf_sp hy2]
    omega

theorem spl_head {H : Hp} {xs : List V} {r : List Spot} (h : SpL H xs r) (n : r ≠ []) : ∃ x, xs[0]? = some x ∧ SpV H x (r.headD (0, 0)) := by
  cases h with
  | nil => exact absurd rfl n
  | cons a b => exact ⟨_, rfl, a⟩
theorem spl_last {H : Hp} {xs : List V} {r : List Spot} (h : SpL H xs r) (n : r ≠ []) : ∃ x, atI xs (-1) = some x ∧ SpV H x (r.getLastD (0, 0)) := by
  have hl := Paired.length h
  have n2 : xs ≠ [] := by
    intro z
    rw [z] at hl
    exact n (List.length_eq_zero_iff.mp hl.symm)
  obtain ⟨y, hy, hxy⟩ := Paired.at1 h (i := xs.length - 1) (x := xs.getLast n2) (by rw [List.getLast_eq_getElem n2, List.getElem?_eq_getElem])
  refine ⟨xs.getLast n2, ?_, ?_⟩
  · have e := atI_last xs.dropLast (xs.getLast n2)
    rw [List.dropLast_concat_getLast] at e
    exact e
  · have : r.getLastD (0, 0) = y := by
      rw [List.getLastD_eq_getLast?, List.getLast?_eq_getElem?, ← hl, hy]
      rfl
    rw [this]
    exact hxy

theorem spl_dp {K : PySem.W.Frag} {H : Hp} : ∀ {xs : List V} {r : List Spot}, SpL H xs r → DpAll K H xs (r.map fun s => tupI [s.1, s.2])
  | _, _, .nil => .nil
  | _, _, .cons a b => .cons (spV_dp a) (spl_dp b)

/-! ### how_strung -/
abbrev sStrung : Stmt := topS 43
theorem scHs : FnScope ["web", "across", "closing", "joining", "road"] ["web"] (defScope sStrung) := ⟨rfl, rfl, rfl, by decide +kernel, rfl, by decide +kernel, by decide +kernel⟩
def strD (c : Int × List Spot) : PyData := .tuple [.int c.1, .tuple (c.2.map fun s => tupI [s.1, s.2])]
def spStrung (K : PySem.W.Frag) : Sp := fun vs H Q _ => ∃ v w R, vs = [v] ∧ Dp K H v (webD w) ∧ RdOk w R ∧ (∀ r ∈ R, (r.headD (0, 0)).1 = -1 → ∃ t, (twinsM w).lookup (r.getLastD (0, 0)) = some t) ∧ (strungOf w.rg (twinsM w) R).2.Pairwise (fun a b => a.1 < b.1) ∧
  ∀ H' v', Same H H' → Dp K H' v' (strD (strungOf w.rg (twinsM w) R)) → Q v' H'
section
variable {P : Program} {w : World} {K : PySem.W.Frag} {mg : Str → Option Value} {base : Heap}
theorem strung_snoc (rg : Int) (m : List (Spot × Spot)) (R : List (List Spot)) (r : List Spot) : strungOf rg m (R ++ [r]) = if (r.headD (0, 0)).1 = -1 then ((strungOf rg m R).1, (strungOf rg m R).2 ++ [((r.headD (0, 0)).2, ((m.lookup (r.getLastD (0, 0))).getD (0, 0)).2)]) else ((strungOf rg m R).1 + 1, (strungOf rg m R).2) := by
  unfold strungOf
  by_cases h : (r.headD (0, 0)).1 = -1
  · rw [if_pos h]
    simp only [List.filter_append, List.filter_cons, List.filter_nil, decide_eq_true h, decide_eq_false (fun z : (r.headD (0, 0)).1 ≠ -1 => z h), List.map_append, List.append_nil, if_true, if_false, Bool.false_eq_true]
    rfl
  · rw [if_neg h]
    simp only [List.filter_append, List.filter_cons, List.filter_nil, decide_eq_false h, decide_eq_true (show (r.headD (0, 0)).1 ≠ -1 from h), List.map_append, List.append_nil, if_true, if_false, Bool.false_eq_true, List.length_append, List.map_nil]
    congr 1
    simp
    omega
theorem ok_strung (F : Fn K mg "how_strung" sStrung ["web"]) (g : Gb mg) (O1 : Ok P w K mg base 2 "twins" ["web"] (spTwins K)) (O2 : Ok P w K mg base 3 "roads" ["web"] (spRoads K)) : Ok P w K mg base 4 "how_strung" ["web"] (spStrung K) := by
  obtain ⟨f, fd, FF, m, b⟩ := F
  obtain ⟨rt, hrim⟩ := g.rim
  obtain ⟨fT, dT, GT, mT, kT, bT⟩ := O1
  obtain ⟨fR, dR, GR, mR, kR, bR⟩ := O2
  refine ⟨f, fd, ?_, m, FF.kp, b⟩
  refine FF.ok scHs (fun vs H Q E h => ?_) (fun cdv A outer s H vs Q E hr h => ?_)
  · obtain ⟨v, w, R, rfl, _⟩ := h
    rfl
  · obtain ⟨v, w, R, rfl, hD, hR, hlk, hJ, q⟩ := h
    have hu := hu_of hr
    refine ⟨_, (pss_cons (ps_set (i := 1) scHs.nd rfl (.inl rfl) (pe_call GT (hr.mono (by decide)) (by rfl) mT kT bT .nil pass0 (pa_cons (pv 0) pa_nil)))
 (pss_cons (ps_set (i := 2) scHs.nd rfl (.inl rfl) (pe_ix ix_tup (pv 0) pe_int (fun _ _ => rfl)))
 (pss_cons (ps_set (i := 3) scHs.nd rfl (.inl rfl) (pe_lst pa_nil))
 (pss_cons (ps_for PassesOwn.never rfl (pi_list (pe_call GR (hr.mono (by decide)) (by rfl) mR kR bR .nil pass0 (pa_cons (pv 0) pa_nil))) (pg_name (i := 4) scHs.nd rfl (.inl rfl))
 (pss_one (ps_if (pt_cmpR op_eq (pe_ix ix_tup (pe_ix ix_list (pv 4) pe_int (fun _ _ => rfl)) pe_int (fun _ _ => rfl)) (pe_glob (v := .int (-1)) (by rfl) hrim ⟨_, rfl⟩) (nomark _)) (pss_one (ps_expr (pe_bm PySem.F.plainAttrs_list PySem.F.slot_list_append PySem.F.type_list_append mt_append (pv 3) (pa_cons (pe_tup (pa_cons (pe_ix ix_tup (pe_ix ix_list (pv 4) pe_int (fun _ _ => rfl)) pe_int (fun _ _ => rfl)) (pa_cons (pe_ix ix_tup (pe_dget hu (pv 1) (pe_ix ix_list (pv 4) (pe_un un_neg pe_int) (fun _ _ => rfl)) (fun _ _ => rfl)) pe_int (fun _ _ => rfl)) pa_nil))) pa_nil)))) (pss_one (ps_set (i := 2) scHs.nd rfl (.inl rfl) (pe_op op_add (pv 2) pe_int))))))
 (pss_one (ps_ret (pe_tup (pa_cons (pv 2) (pa_cons (pe_callTy (r := rTupOf K) call_tupK (by rfl) g.tuple boot_tup (pa_cons (pe_callB cr_sortedPO (by rfl) g.sorted (by decide +kernel) (pa_cons (pv 3) pa_nil)) pa_nil)) pa_nil))))))))), ?_⟩
    refine ⟨v, rfl, v, w, rfl, hD, hR.small, hR.twos, fun H1 t s1 nt hT => ?_⟩
    obtain ⟨aw, ac, ae, cs, rfl, hW, hC, hCs, hE⟩ := dp_web hD
    refine ⟨.ref aw, rfl, aw, _, 2, _, rfl, rfl, seqT_same s1 hW, atI_nat (j := 2) rfl, (by show 0 ≤ sizeLine; decide), fun pj nj => ?_⟩
    have s2 := same_upd (o := .lst []) nj
    have hj2 : (upd H1 pj (.lst [])) pj = some (.lst []) := upd_same
    generalize upd H1 pj (.lst []) = H2 at s2 hj2
    refine ⟨.ref aw, rfl, .ref aw, w, R, rfl, dp_same (s1.trans s2) _ _ hD, hR.small, hR.twos, hR.roads, hR.begins, hR.spots, hR.flat, hR.len, fun H3 p xs s3 np hp hx => ?_⟩
    refine ⟨p, rfl, ⟨xs, .inl (.inl hp)⟩, ?_⟩
    have ejp : p ≠ pj := fun z => by
      rw [z, hj2] at np
      cases np
    refine for_list (xs := xs) (fun i σ Ha => ∃ y4 xj, σ = [some (.ref aw), some (.ref t), some (.int (strungOf w.rg (twinsM w) (R.take i)).1), some (.ref pj), y4] ∧ Same H1 Ha ∧ KT H3 Ha ∧ (∀ b o, b ≠ pj → H3 b = some o → Ha b = some o) ∧ Ha pj = some (.lst xj) ∧ SpL Ha xj (strungOf w.rg (twinsM w) (R.take i)).2)
      ⟨none, [], by rw [List.take_zero]; simp [strungOf]; rfl, s2.trans s3, .refl, fun _ _ _ h => h, s3 _ _ hj2, .nil⟩ (fun i σ Ha _ ⟨_, _, _, _, _, h, _⟩ => .inl (.inl (h _ _ ejp hp))) ?_ ?_
    · rintro i x σ Ha hi ⟨y4, xj, rfl, sa, ka, fa, hja, hxj⟩
      obtain ⟨r, hri, ra, rxs, rfl, na, hra, hrx⟩ := Paired.at1 hx hi
      have mr := List.mem_of_getElem? hri
      have eraj : ra ≠ pj := fun z => by
        rw [z, hj2] at na
        cases na
      have hra2 := fa _ _ eraj hra
      have hrx2 := hrx.kt ka
      obtain ⟨x0, h0, b0, rfl, hb0⟩ := spl_head hrx2 (hR.ne r mr)
      obtain ⟨xl, hl, hbl⟩ := spl_last hrx2 (hR.ne r mr)
      have hL : SqL K Ha ra rxs := .inl (.inl hra2)
      have hB : SqT K Ha b0 [.int (r.headD (0, 0)).1, .int (r.headD (0, 0)).2] := .inl (.inl hb0)
      have etk : R.take (i + 1) = R.take i ++ [r] := by rw [List.take_add_one, hri]; rfl
      refine ⟨.ref ra, rfl, ra, _, _, _, rfl, rfl, hL, atI_nat (j := 0) h0, b0, _, _, _, rfl, rfl, hB, atI_nat (j := 0) rfl, rfl, _, rfl, ite2 (fun e => ?_) (fun e => ?_)⟩
      · have e : (r.headD (0, 0)).1 = -1 := V.int.inj (of_decide_eq_true e)
        obtain ⟨tt, htt⟩ := hlk r mr e
        obtain ⟨vt, g1, hvt⟩ := (hT.same sa).get htt hbl
        obtain ⟨ta, rfl, hta⟩ := hvt
        refine ⟨_, rfl, .inl ⟨rfl, _, .inl (.inl hja)⟩, ?_⟩
        refine ⟨.ref ra, rfl, ra, _, _, _, rfl, rfl, hL, atI_nat (j := 0) h0, b0, _, _, _, rfl, rfl, hB, atI_nat (j := 1) rfl, ?_⟩
        refine ⟨_, rfl, .ref ra, rfl, 1, rfl, ra, _, _, _, rfl, rfl, hL, hl, t, _, rfl, g1, ta, _, _, _, rfl, rfl, .inl (.inl hta), atI_nat (j := 1) rfl, (by show 2 ≤ sizeLine; decide), fun q1 nq => ?_⟩
        have sq : Same Ha (upd Ha q1 (.tup [.int (r.headD (0, 0)).2, .int tt.2])) := same_upd nq
        have hq : SpV (upd Ha q1 (.tup [.int (r.headD (0, 0)).2, .int tt.2])) (.ref q1) ((r.headD (0, 0)).2, tt.2) := ⟨q1, rfl, upd_same⟩
        generalize upd Ha q1 (.tup [.int (r.headD (0, 0)).2, .int tt.2]) = Hb at sq hq
        have hjb := sq _ _ hja
        have kb : KT Hb (upd Hb pj (.lst (xj ++ [.ref q1]))) := .lst hjb
        have lj : xj.length ≤ 10000 := by
          rw [Paired.length hxj]
          show ((R.take i).filter _ |>.map _).length ≤ _
          rw [List.length_map]
          refine Nat.le_trans (List.length_filter_le _ _) ?_
          rw [List.length_take]
          have := hR.len
          omega
        refine ⟨pj, xj, _, rfl, rfl, hjb, mill (by omega), some (.ref ra), _, ?_, same_over (sa.trans sq) nj, ka.trans ((KT.of sq).trans kb), fun b o hb h => by rw [upd_ne hb]; exact sq _ _ (fa b o hb h), upd_same, ?_⟩
        · rw [etk, strung_snoc, if_pos e]
          rfl
        · rw [etk, strung_snoc, if_pos e, htt]
          exact Paired.app ((hxj.same sq).kt kb) (.cons (hq.kt kb) .nil)
      · have e : ¬ (r.headD (0, 0)).1 = -1 := by
          intro z
          rw [z] at e
          exact e rfl
        refine ⟨_, rfl, _, _, rfl, rfl, some (.ref ra), xj, ?_, sa, ka, fa, hja, ?_⟩
        · rw [etk, strung_snoc, if_neg e]
          rfl
        · rw [etk, strung_snoc, if_neg e]
          exact hxj
    · rintro σ Ha ⟨y4, xj, rfl, sa, ka, fa, hja, hxj⟩
      have ex : xs.length = R.length := Paired.length hx
      rw [ex, List.take_length] at hxj
      rw [ex, List.take_length]
      refine ⟨_, rfl, _, rfl, pj, xj, kOf Ha, rfl, .inl (.inl hja), fun x hx => ?_, fun ys p2 h1 h2 n2 => ?_⟩
      · obtain ⟨i, hi⟩ := List.mem_iff_getElem?.mp hx
        obtain ⟨j2, h2, hy2⟩ := Paired.at1 hxj hi
        have e := kOf_sp hy2
        obtain ⟨b2, rfl, hb2⟩ := hy2
        exact ⟨b2, rfl, by rw [e]; exact hb2⟩
      · have ey : ys = xj := SrtO.stb_uniq (ltP_swo _) h1 (srtd_sp hxj hJ) h2
        subst ey
        refine ⟨p2, ys, rfl, .inl ⟨.inl (.inl upd_same), fun t3 n3 => ⟨(by show 2 ≤ sizeLine; decide), fun t4 n4 => ?_⟩⟩⟩
        have s5 : Same Ha (upd (upd (upd Ha p2 (.lst ys)) t3 (.tup ys)) t4 (.tup [.int (strungOf w.rg (twinsM w) R).1, .ref t3])) := same_new (same_new (same_upd n2) n3) n4
        refine q _ _ (s1.trans (sa.trans s5)) ?_
        refine .tup (.inl (.inl upd_same)) (.cons (.int _) (.cons (.tup (.inl (.inl (same_upd n4 _ _ upd_same))) ?_) .nil))
        exact spl_dp (hxj.same s5)
end
end TH
end

section
set_option Elab.async false
set_option linter.all false
set_option maxRecDepth 100000
namespace TH
open PySem PySem.Spec PyProof.Rows L2

/-! ### signed -/
abbrev sSigned : Stmt := topS 44
theorem scSg : FnScope ["web", "passed", "number", "road", "spot", "found", "beneath", "left", "above", "right"] ["web"] (defScope sSigned) := ⟨rfl, rfl, rfl, by decide +kernel, rfl, by decide +kernel, by decide +kernel⟩
def TrV (H : Hp) (v : V) (t : Int × Int × Int) : Prop := ∃ a, v = .ref a ∧ H a = some (.tup [.int t.1, .int t.2.1, .int t.2.2])
theorem TrV.kt {H H' : Hp} {v : V} {t : Int × Int × Int} (k : KT H H') (h : TrV H v t) : TrV H' v t := let ⟨a, b, c⟩ := h; ⟨a, b, k.tup _ _ c⟩
structure SgOk (w : Web) (R : List (List Spot)) : Prop where
  rd : RdOk w R
  all : ∀ k, k < w.cr.length → (∃ s, (passedOf R [] 0).lookup ((k : Int), 0) = some s) ∧ ∃ s, (passedOf R [] 0).lookup ((k : Int), 1) = some s
def sgM (w : Web) (R : List (List Spot)) : List (Int × Int × Int) := signedOf w.cr.length (passedOf R [] 0)
def spSigned (K : PySem.W.Frag) : Sp := fun vs H Q _ => ∃ v w R, vs = [v] ∧ Dp K H v (webD w) ∧ SgOk w R ∧
  ∀ H' p xs, Same H H' → H p = none → H' p = some (.lst xs) → Paired (TrV H') xs (sgM w R) → Q (.ref p) H'
def putsOf (n : Int) (r : List Spot) (m : List (Spot × Spot)) : List (Spot × Spot) := r.foldl (fun m s => putS m (s.1, s.2 % 2) (n, s.2)) m
theorem passedOf_cons (r : List Spot) (R : List (List Spot)) (m : List (Spot × Spot)) (n : Nat) : passedOf (r :: R) m n = passedOf R (putsOf n r m) (n + 1) := by
  rw [passedOf]
  rfl
theorem passedOf_snoc (r : List Spot) : ∀ (R : List (List Spot)) (m : List (Spot × Spot)) (n : Nat), passedOf (R ++ [r]) m n = putsOf (n + R.length : Nat) r (passedOf R m n)
  | [], m, n => by
    rw [List.nil_append, passedOf_cons]
    simp [passedOf]
  | q :: R, m, n => by
    rw [List.cons_append, passedOf_cons, passedOf_snoc r R, passedOf_cons]
    congr 2
    simp
    omega
theorem putsOf_len (n : Int) : ∀ (r : List Spot) (m : List (Spot × Spot)), (putsOf n r m).length ≤ m.length + r.length
  | [], m => Nat.le_refl _
  | s :: r, m => by
    have h := putsOf_len n r (putS m (s.1, s.2 % 2) (n, s.2))
    have h2 := putS_len m (s.1, s.2 % 2) (n, s.2)
    show (putsOf n r (putS m (s.1, s.2 % 2) (n, s.2))).length ≤ _
    simp
    omega
theorem putsOf_snoc (n : Int) (r : List Spot) (s : Spot) (m : List (Spot × Spot)) : putsOf n (r ++ [s]) m = putS (putsOf n r m) (s.1, s.2 % 2) (n, s.2) := by
  unfold putsOf
  rw [List.foldl_append]
  rfl
theorem passedOf_len : ∀ (R : List (List Spot)) (m : List (Spot × Spot)) (n : Nat), (passedOf R m n).length ≤ m.length + R.flatten.length
  | [], m, n => Nat.le_refl _
  | r :: R, m, n => by
    rw [passedOf_cons]
    have h := passedOf_len R (putsOf n r m) (n + 1)
    have h2 := putsOf_len n r m
    rw [List.flatten_cons, List.length_append]
    omega
section
variable {P : Program} {w : World} {K : PySem.W.Frag} {mg : Str → Option Value} {base : Heap}
theorem ok_signed (F : Fn K mg "signed" sSigned ["web"]) (g : Gb mg) (O2 : Ok P w K mg base 3 "roads" ["web"] (spRoads K)) : Ok P w K mg base 4 "signed" ["web"] (spSigned K) := by
  obtain ⟨f, fd, FF, m, b⟩ := F
  obtain ⟨fR, dR, GR, mR, kR, bR⟩ := O2
  refine ⟨f, fd, ?_, m, FF.kp, b⟩
  refine FF.ok scSg (fun vs H Q E h => ?_) (fun cdv A outer s H vs Q E hr h => ?_)
  · obtain ⟨v, w, R, rfl, _⟩ := h
    rfl
  · obtain ⟨v, w, R, rfl, hD, ⟨hR, hall⟩, q⟩ := h
    have hu := hu_of hr
    refine ⟨_, (pss_cons (ps_set (i := 1) scSg.nd rfl (.inl rfl) pe_dnewT)
 (pss_cons (ps_for PassesOwn.never rfl (pi_enum (by rfl) g.enumerate (pa_cons (pe_call GR (hr.mono (by decide)) (by rfl) mR kR bR .nil pass0 (pa_cons (pv 0) pa_nil)) pa_nil)) (pg_tup rfl (pgs_cons (pg_name (i := 2) scSg.nd rfl (.inl rfl)) (pgs_cons (pg_name (i := 3) scSg.nd rfl (.inl rfl)) pgs_nil)))
 (pss_one (ps_for PassesOwn.never rfl (pi_list (pv 3)) (pg_name (i := 4) scSg.nd rfl (.inl rfl))
 (pss_one (ps_dput hu (pv 1) (pe_tup (pa_cons (pe_ix ix_tup (pv 4) pe_int (fun _ _ => rfl)) (pa_cons (pe_op op_mod (pe_ix ix_tup (pv 4) pe_int (fun _ _ => rfl)) pe_int) pa_nil))) (pe_tup (pa_cons (pv 2) (pa_cons (pe_ix ix_tup (pv 4) pe_int (fun _ _ => rfl)) pa_nil))) rfl)))))
 (pss_cons (ps_set (i := 5) scSg.nd rfl (.inl rfl) (pe_lst pa_nil))
 (pss_cons (ps_for PassesOwn.never rfl (pi_range1 (by rfl) g.range (pa_cons (pe_callB (r := rLenSeq K) call_lenK (by rfl) g.len PySem.boot_len (pa_cons (pe_ix ix_tup (pv 0) pe_int (fun _ _ => rfl)) pa_nil)) pa_nil)) (pg_name (i := 2) scSg.nd rfl (.inl rfl))
 (pss_cons (ps_asg (pe_dget hu (pv 1) (pe_tup (pa_cons (pv 2) (pa_cons pe_int pa_nil))) (fun _ _ => rfl)) (pg_tup rfl (pgs_cons (pg_name (i := 6) scSg.nd rfl (.inl rfl)) (pgs_cons (pg_name (i := 7) scSg.nd rfl (.inl rfl)) pgs_nil))))
 (pss_cons (ps_asg (pe_dget hu (pv 1) (pe_tup (pa_cons (pv 2) (pa_cons pe_int pa_nil))) (fun _ _ => rfl)) (pg_tup rfl (pgs_cons (pg_name (i := 8) scSg.nd rfl (.inl rfl)) (pgs_cons (pg_name (i := 9) scSg.nd rfl (.inl rfl)) pgs_nil))))
 (pss_one (ps_expr (pe_bm PySem.F.plainAttrs_list PySem.F.slot_list_append PySem.F.type_list_append mt_append (pv 5) (pa_cons (pe_tup (pa_cons (pv 6) (pa_cons (pv 8) (pa_cons (pe_op op_sub (pe_op op_mod (pe_op op_sub (pv 9) (pv 7)) pe_int) pe_int) pa_nil)))) pa_nil)))))))
 (pss_one (ps_ret (pv 5))))))), ?_⟩
    refine fun pd nd => ?_
    have s1 := same_upd (o := .dT []) nd
    have hd1 : TwD (upd H pd (.dT [])) pd [] := ⟨[], upd_same, .nil, List.nodup_nil⟩
    generalize upd H pd (.dT []) = H1 at s1 hd1
    obtain ⟨aw, ac, ae, cs, rfl, hW, hC, hCs, hE⟩ := dp_web hD
    refine ⟨.ref aw, rfl, .ref aw, w, R, rfl, dp_same s1 _ _ hD, hR.small, hR.twos, hR.roads, hR.begins, hR.spots, hR.flat, hR.len, fun H3 p xs s3 np hp hx => ?_⟩
    have n1 : H1 pd ≠ none := by
      obtain ⟨_, h, _⟩ := hd1
      rw [h]
      exact Option.some_ne_none _
    have epd : p ≠ pd := fun z => n1 (by rw [← z]; exact np)
    refine ⟨p, xs, rfl, .inl (.inl hp), ?_⟩
    have lxs : xs.length = R.length := Paired.length hx
    refine for_it walk_enum (fun i σ Ha => ∃ y2 y3 y4, σ = [some (.ref aw), some (.ref pd), y2, y3, y4, none, none, none, none, none] ∧ Same H Ha ∧ KT H3 Ha ∧ (∀ b o, b ≠ pd → H3 b = some o → Ha b = some o) ∧ TwD Ha pd (passedOf (R.take i) [] 0))
      ⟨none, none, none, rfl, s1.trans s3, .refl, fun _ _ _ h => h, by rw [List.take_zero]; exact hd1.same s3⟩ (fun i σ Ha _ ⟨_, _, _, _, _, _, h, _⟩ => .inl (.inl (h _ _ epd hp))) ?_ ?_
    · rintro i x σ Ha Hb hi ⟨y2, y3, y4, rfl, sa, ka, fa, da⟩ ⟨T, x1, x2, rfl, nT, rfl, h1, h2⟩
      have h1 : V.int (i : Nat) = x1 := Option.some.inj h1
      subst h1
      obtain ⟨r, hri, ra, rxs, rfl, na, hra, hrx⟩ := Paired.at1 hx h2
      have mr := List.mem_of_getElem? hri
      have era : ra ≠ pd := fun z => n1 (by rw [← z]; exact na)
      have sT := same_upd (o := .tup [.int (i : Nat), .ref ra]) nT
      have etk : R.take (i + 1) = R.take i ++ [r] := by rw [List.take_add_one, hri]; rfl
      have hra2 := sT _ _ (fa _ _ era hra)
      have hrx2 := (hrx.kt ka).same sT
      have dT := da.same sT
      have htT : (upd Ha T (.tup [.int (i : Nat), .ref ra])) T = some (.tup [.int (i : Nat), .ref ra]) := upd_same
      have sbT := sa.trans sT
      have kT := ka.trans (.of sT)
      have fT := fun b o (hb : b ≠ pd) (h : H3 b = some o) => sT _ _ (fa b o hb h)
      generalize upd Ha T (.tup [.int (i : Nat), .ref ra]) = Hc at sT hra2 hrx2 dT htT sbT kT fT
      refine ⟨T, _, rfl, .inl (.inl htT), rfl, _, _, rfl, _, _, rfl, rfl, ?_⟩
      refine ⟨.ref ra, rfl, ra, rfl, ⟨rxs, .inl (.inl hra2)⟩, ?_⟩
      have lR := List.length_take_le i R
      have li : i < R.length := by omega
      have hfl : (R.take i).flatten.length + r.length ≤ 10000 := by
        have e : R = R.take i ++ (r :: R.drop (i + 1)) := by
          obtain ⟨hlt, e⟩ := List.getElem?_eq_some_iff.mp hri
          rw [← e, ← List.drop_eq_getElem_cons hlt, List.take_append_drop]
        have h := hR.flat
        rw [e, List.flatten_append, List.flatten_cons, List.length_append, List.length_append] at h
        omega
      refine for_list (xs := rxs) (fun j σ Hd => ∃ y4, σ = [some (.ref aw), some (.ref pd), some (.int (i : Nat)), some (.ref ra), y4, none, none, none, none, none] ∧ Same H Hd ∧ KT Hc Hd ∧ Hd ra = some (.lst rxs) ∧ (∀ b o, b ≠ pd → Hc b = some o → Hd b = some o) ∧ TwD Hd pd (putsOf (i : Nat) (r.take j) (passedOf (R.take i) [] 0)))
        ⟨_, rfl, sbT, .refl, hra2, fun _ _ _ h => h, dT⟩ (fun j σ Hd _ ⟨_, _, _, _, h, _⟩ => .inl (.inl h)) ?_ ?_
      · rintro j z σ Hd hj ⟨z4, rfl, sd, kd, hrd, fd, dd⟩
        obtain ⟨sp, hsp, hz⟩ := Paired.at1 hrx2 hj
        obtain ⟨bz, rfl, hbz⟩ := hz.kt kd
        have hB : SqT K Hd bz [.int sp.1, .int sp.2] := .inl (.inl hbz)
        have hjr : j < r.length := (List.getElem?_eq_some_iff.mp hsp).1
        refine ⟨_, rfl, _, rfl, bz, _, _, _, rfl, rfl, hB, atI_nat (j := 1) rfl, (by show 2 ≤ sizeLine; decide), fun t1 n1 => ?_⟩
        have se := same_upd (o := .tup [.int (i : Nat), .int sp.2]) n1
        have hv : SpV (upd Hd t1 (.tup [.int (i : Nat), .int sp.2])) (.ref t1) ((i : Nat), sp.2) := ⟨t1, rfl, upd_same⟩
        generalize upd Hd t1 (.tup [.int (i : Nat), .int sp.2]) = He at se hv
        have hB2 := seqT_same se hB
        refine ⟨_, rfl, _, rfl, bz, _, _, _, rfl, rfl, hB2, atI_nat (j := 0) rfl, _, rfl, bz, _, _, _, rfl, rfl, hB2, atI_nat (j := 1) rfl, _, 2, rfl, rfl, (by show (0 : Int) < 2; decide), (by show 2 ≤ sizeLine; decide), fun t2 n2 => ?_⟩
        have sf := same_upd (o := .tup [.int sp.1, .int (sp.2 % 2)]) n2
        have hk : SpV (upd He t2 (.tup [.int sp.1, .int (sp.2 % 2)])) (.ref t2) (sp.1, sp.2 % 2) := ⟨t2, rfl, upd_same⟩
        generalize upd He t2 (.tup [.int sp.1, .int (sp.2 % 2)]) = Hf at sf hk
        have sdf := se.trans sf
        obtain ⟨Hg, pg, dg, kg, eg⟩ := (dd.same sdf).put hk (hv.same sf) (by
          have h1 := putsOf_len (i : Nat) (r.take j) (passedOf (R.take i) [] 0)
          have h2 := passedOf_len (R.take i) [] 0
          rw [List.length_take] at h1
          rw [List.length_nil] at h2
          omega)
        refine ⟨pd, Hg, rfl, pg, ?_⟩
        refine ⟨_, rfl, fun b o h => by rw [eg b (ne_of_none h nd)]; exact sdf _ _ (sd _ _ h), kd.trans ((KT.of sdf).trans kg), by rw [eg _ era]; exact sdf _ _ hrd, fun b o hb h => by rw [eg b hb]; exact sdf _ _ (fd b o hb h), ?_⟩
        rw [List.take_add_one, hsp]
        show TwD Hg pd (putsOf _ (r.take j ++ [sp]) _)
        rw [putsOf_snoc]
        exact dg
      · rintro σ Hd ⟨z4, rfl, sd, kd, hrd, fd, dd⟩
        have lr : rxs.length = r.length := Paired.length hrx
        rw [lr, List.take_length] at dd
        refine ⟨_, _, _, rfl, sd, kT.trans kd, fun b o hb h => fd b o hb (fT b o hb h), ?_⟩
        rw [etk, passedOf_snoc, List.length_take, Nat.min_eq_left (by omega), Nat.zero_add]
        exact dd
    · rintro σ Ha ⟨y2, y3, y4, rfl, sa, ka, fa, da⟩
      rw [lxs, List.take_length] at da
      refine ⟨(by show 0 ≤ sizeLine; decide), fun pf nf => ?_⟩
      have s5 := same_upd (o := .lst []) nf
      have hf5 : (upd Ha pf (.lst [])) pf = some (.lst []) := upd_same
      generalize upd Ha pf (.lst []) = H5 at s5 hf5
      have ec : cs.length = w.cr.length := by rw [dpAll_len hCs, List.length_map]
      have lcr : w.cr.length ≤ 200 := hR.small.cr
      have d5 := da.same s5
      have nf2 := sa.free nf
      have efd : pf ≠ pd := fun z => by
        rw [z] at nf
        obtain ⟨_, h, _⟩ := da
        rw [nf] at h
        cases h
      refine ⟨.ref aw, rfl, aw, _, 0, _, rfl, rfl, seqT_same (sa.trans s5) hW, atI_nat (j := 0) rfl, ac, _, rfl, .inr (seqT_same (sa.trans s5) hC), _, rfl, (by omega), (by omega), ?_⟩
      rw [ec]
      refine for_range (fun i σ H6 => ∃ y2 y6 y7 y8 y9 xs, σ = [some (.ref aw), some (.ref pd), y2, y3, y4, some (.ref pf), y6, y7, y8, y9] ∧ Same H H6 ∧ H6 pf = some (.lst xs) ∧ TwD H6 pd (passedOf R [] 0) ∧ Paired (TrV H6) xs (signedOf i (passedOf R [] 0)))
        ⟨_, _, _, _, _, [], rfl, sa.trans s5, hf5, d5, .nil⟩ ?_ ?_
      · rintro i σ H6 hi ⟨z2, z6, z7, z8, z9, xs, rfl, s6, h6, d6, hxs⟩
        rw [Int.zero_add]
        obtain ⟨⟨v0, l0⟩, v1, l1⟩ := hall i (by omega)
        refine ⟨_, rfl, _, rfl, (by show 2 ≤ sizeLine; decide), fun t1 n1 => ?_⟩
        have sa1 := same_upd (o := .tup [.int (i : Nat), .int 0]) n1
        have hk1 : SpV (upd H6 t1 (.tup [.int (i : Nat), .int 0])) (.ref t1) ((i : Nat), 0) := ⟨t1, rfl, upd_same⟩
        obtain ⟨u0, g0, b0, rfl, hb0⟩ := (d6.same sa1).get l0 hk1
        generalize upd H6 t1 (.tup [.int (i : Nat), .int 0]) = H7 at sa1 g0 hb0
        refine ⟨pd, _, rfl, g0, b0, _, rfl, .inl (.inl hb0), rfl, _, _, rfl, _, _, rfl, rfl, ?_⟩
        refine ⟨_, rfl, _, rfl, (by show 2 ≤ sizeLine; decide), fun t2 n2 => ?_⟩
        have sa2 := same_upd (o := .tup [.int (i : Nat), .int 1]) n2
        have hk2 : SpV (upd H7 t2 (.tup [.int (i : Nat), .int 1])) (.ref t2) ((i : Nat), 1) := ⟨t2, rfl, upd_same⟩
        obtain ⟨u1, g1, b1, rfl, hb1⟩ := (d6.same (sa1.trans sa2)).get l1 hk2
        generalize upd H7 t2 (.tup [.int (i : Nat), .int 1]) = H8 at sa2 g1 hb1
        refine ⟨pd, _, rfl, g1, b1, _, rfl, .inl (.inl hb1), rfl, _, _, rfl, _, _, rfl, rfl, ?_⟩
        have s68 := sa1.trans sa2
        have h8 := s68 _ _ h6
        refine ⟨_, rfl, .inl ⟨rfl, _, .inl (.inl h8)⟩, ?_⟩
        refine ⟨_, rfl, _, rfl, _, rfl, _, rfl, _, _, rfl, rfl, _, 4, rfl, rfl, (by show (0 : Int) < 4; decide), _, _, rfl, rfl, (by show 3 ≤ sizeLine; decide), fun t3 n3 => ?_⟩
        have lx : xs.length = i := by
          rw [Paired.length hxs, signedOf, List.length_map, List.length_range]
        have s9 := same_upd (o := .tup [.int v0.1, .int v1.1, .int ((v1.2 - v0.2) % 4 - 2)]) n3
        have ht : TrV (upd H8 t3 (.tup [.int v0.1, .int v1.1, .int ((v1.2 - v0.2) % 4 - 2)])) (.ref t3) (v0.1, v1.1, (v1.2 - v0.2) % 4 - 2) := ⟨t3, rfl, upd_same⟩
        generalize upd H8 t3 (.tup [.int v0.1, .int v1.1, .int ((v1.2 - v0.2) % 4 - 2)]) = H9 at s9 ht
        have h9 := s9 _ _ h8
        have k9 : KT H9 (upd H9 pf (.lst (xs ++ [.ref t3]))) := .lst h9
        have s69 := s68.trans s9
        refine ⟨pf, xs, _, rfl, rfl, h9, mill (by omega), _, _, _, _, _, _, rfl, same_over (s6.trans s69) nf2, upd_same, ?_, ?_⟩
        · obtain ⟨kvs, q1, q2, q3⟩ := d6.same s69
          exact ⟨kvs, by rw [upd_ne efd.symm]; exact q1, Paired.mapP q2 fun _ _ z => z.kt k9, q3⟩
        · have e : signedOf (i + 1) (passedOf R [] 0) = signedOf i (passedOf R [] 0) ++ [(v0.1, v1.1, (v1.2 - v0.2) % 4 - 2)] := by
            unfold signedOf
            rw [List.range_succ, List.map_append, List.map_cons, List.map_nil]
            unfold signAt
            rw [l0, l1]
            rfl
          rw [e]
          exact Paired.app (Paired.mapP hxs fun _ _ z => z.kt ((KT.of s69).trans k9)) (.cons (ht.kt k9) .nil)
      · rintro σ H6 ⟨z2, z6, z7, z8, z9, xs, rfl, s6, h6, d6, hxs⟩
        exact ⟨_, rfl, q H6 pf xs s6 nf2 h6 hxs⟩
end
end TH
end

section
set_option Elab.async false
set_option linter.all false
set_option maxRecDepth 100000
namespace TH
open PySem PySem.Spec PyProof.Rows L2

/-! ### turns -/
abbrev sTurns : Stmt := topS 45
theorem scTu : FnScope ["web", "one", "other", "sign"] ["web"] (defScope sTurns) := ⟨rfl, rfl, rfl, by decide +kernel, rfl, by decide +kernel, by decide +kernel⟩
def spTurns (K : PySem.W.Frag) : Sp := fun vs H Q _ => ∃ v w R, vs = [v] ∧ Dp K H v (webD w) ∧ SgOk w R ∧ ∀ H', Same H H' → Q (.int (turnsOf (sgM w R))) H'
theorem sgM_len (w : Web) (R : List (List Spot)) : (sgM w R).length = w.cr.length := by
  unfold sgM signedOf
  rw [List.length_map, List.length_range]
theorem TrV.same {H H' : Hp} {v : V} {t : Int × Int × Int} (k : Same H H') (h : TrV H v t) : TrV H' v t := h.kt (.of k)
theorem turnsOf_snoc (S : List (Int × Int × Int)) (t : Int × Int × Int) : turnsOf (S ++ [t]) = turnsOf S + if t.1 = t.2.1 then t.2.2 else 0 := by
  unfold turnsOf
  rw [List.filter_append, List.map_append, List.sum_append]
  congr 1
  by_cases e : t.1 = t.2.1
  · rw [List.filter_cons_of_pos (by simp [e]), if_pos e]
    simp
  · rw [List.filter_cons_of_neg (by simp [e]), if_neg e]
    rfl
section
variable {P : Program} {w : World} {K : PySem.W.Frag} {mg : Str → Option Value} {base : Heap}
theorem ok_turns (F : Fn K mg "turns" sTurns ["web"]) (g : Gb mg) (O2 : Ok P w K mg base 4 "signed" ["web"] (spSigned K)) : Ok P w K mg base 5 "turns" ["web"] (spTurns K) := by
  obtain ⟨f, fd, FF, m, b⟩ := F
  obtain ⟨fS, dS, GS, mS, kS, bS⟩ := O2
  refine ⟨f, fd, ?_, m, FF.kp, b⟩
  refine FF.ok scTu (fun vs H Q E h => ?_) (fun cdv A outer s H vs Q E hr h => ?_)
  · obtain ⟨v, w, R, rfl, _⟩ := h
    rfl
  · obtain ⟨v, w, R, rfl, hD, hS, q⟩ := h
    refine ⟨_, (pss_one (ps_ret (pe_callB (cr_sum rfl) (by rfl) g.sum (by decide +kernel) (pa_cons (pe_lc (own := [("one", 1), ("other", 2), ("sign", 3)]) (g := (gTup K 3 (gCons (gName 1) (gCons (gName 2) (gCons (gName 3) gNil))))) (tt := (tTest (tOp _ (tVar 1) (tVar 2)))) (te := (tVar 3)) rfl scTu.nd (pi_list (pe_call GS (hr.mono (by decide)) (by rfl) mS kS bS .nil pass0 (pa_cons (pv 0) pa_nil))) (blkOk_by (by kernel_rfl)) (fun _ _ _ _ _ => (pg_tup rfl (pgs_cons (pg_name (i := 1) scTu.nd rfl (.inl rfl)) (pgs_cons (pg_name (i := 2) scTu.nd rfl (.inl rfl)) (pgs_cons (pg_name (i := 3) scTu.nd rfl (.inl rfl)) pgs_nil))))) (fun _ _ _ _ _ => (pts_one (pt_cmpR op_eq (pv 1) (pv 2) (nomark _)))) (fun _ _ _ _ _ => (pv 3))) pa_nil)))), ?_⟩
    refine ⟨v, rfl, v, w, R, rfl, hD, hS, fun H1 p xs s1 np hp hx => ?_⟩
    have ll := Paired.length hx
    rw [sgM_len] at ll
    have lcr := hS.rd.small.cr
    refine ⟨p, rfl, ⟨xs, .inl (.inl hp)⟩, fun D nD => ?_⟩
    refine lc_list (K := K) (a := p) (xs := xs) (fun i H4 => Same H1 H4 ∧ ∃ ns : List Int, ns.length ≤ i ∧ H4 D = some (.lst (ns.map V.int)) ∧ ns.sum = turnsOf ((sgM w R).take i)) ⟨same_upd nD, [], Nat.le_refl _, upd_same, rfl⟩ (fun i H4 _ ⟨s4, _⟩ => .inl (.inl (s4 _ _ hp))) ?_ ?_
    · rintro i x H4 hi ⟨s4, ns, ln, hn, en⟩
      obtain ⟨t, ht, a, rfl, ha⟩ := Paired.at1 hx hi
      have ha4 : SqT K H4 a [.int t.1, .int t.2.1, .int t.2.2] := .inl (.inl (s4 _ _ ha))
      have etk : (sgM w R).take (i + 1) = (sgM w R).take i ++ [t] := by rw [List.take_add_one, ht]; rfl
      refine ⟨a, _, rfl, ha4, rfl, ⟨_, _, rfl, _, _, rfl, _, _, rfl, rfl, ?_⟩⟩
      refine ⟨rfl, _, rfl, _, rfl, rfl, _, rfl, ite2 (fun e => ?_) (fun e => ?_)⟩
      · have e : t.1 = t.2.1 := V.int.inj (of_decide_eq_true e)
        refine ⟨_, rfl, _, hn, mill (by rw [List.length_map]; have := (List.getElem?_eq_some_iff.mp hi).1; omega), same_over s4 nD, ns ++ [t.2.2], by simp; omega, ?_, ?_⟩
        · rw [upd_same, List.map_append]
          rfl
        · rw [etk, turnsOf_snoc, if_pos e, List.sum_append, en]
          simp
      · have e : ¬ t.1 = t.2.1 := fun z => e (by rw [z]; exact decide_eq_true rfl)
        refine ⟨s4, ns, by omega, hn, ?_⟩
        rw [etk, turnsOf_snoc, if_neg e, en, Int.add_zero]
    · rintro H4 ⟨s4, ns, ln, hn, en⟩
      rw [Paired.length hx, List.take_length] at en
      refine ⟨D, ns, rfl, .inl (.inl hn), ?_⟩
      rw [en]
      exact q H4 (s1.trans s4)

/-! ### links -/
abbrev sLinks : Stmt := topS 46
theorem scLk : FnScope ["web", "found", "one", "other", "sign", "pair", "many"] ["web"] (defScope sLinks) := ⟨rfl, rfl, rfl, by decide +kernel, rfl, by decide +kernel, by decide +kernel⟩
def spLinks (K : PySem.W.Frag) : Sp := fun vs H Q _ => ∃ v w R, vs = [v] ∧ Dp K H v (webD w) ∧ SgOk w R ∧ ∀ H' p, Same H H' → H p = none → H' p = some (.lst (((linksOf (sgM w R)).mergeSort (· ≤ ·)).map V.int)) → Q (.ref p) H'
def lkK (m : List (Spot × Int)) : List (List Key × V) := m.map fun p => (kS p.1, V.int p.2)
def getI (m : List (Spot × Int)) (s : Spot) : Int := (m.lookup s).getD 0
theorem lkK_get (m : List (Spot × Int)) (s : Spot) : (valV (lkK m) (kS s)).getD (.int 0) = .int (getI m s) := by
  induction m with
  | nil => rfl
  | cons e r ih =>
    unfold getI at *
    rw [List.lookup_cons]
    by_cases h : s = e.1
    · rw [show (s == e.1) = true by rw [h]; exact beq_self_eq_true _]
      show (valV ((kS e.1, V.int e.2) :: lkK r) (kS s)).getD _ = _
      rw [valV_pos (by rw [h])]
      rfl
    · rw [show (s == e.1) = false from beq_eq_false_iff_ne.mpr h]
      show (valV ((kS e.1, V.int e.2) :: lkK r) (kS s)).getD _ = _
      rw [valV_neg (fun z => h (kS_inj z).symm)]
      exact ih
theorem addS_keys (m : List (Spot × Int)) (s : Spot) (t : Int) : (addS m s t).map (·.1) = if s ∈ m.map (·.1) then m.map (·.1) else m.map (·.1) ++ [s] := by
  induction m with
  | nil => simp [addS]
  | cons e r ih =>
    unfold addS
    by_cases h : e.1 = s
    · simp [h]
    · have h' : ¬ s = e.1 := fun z => h z.symm
      rw [if_neg h, List.map_cons, ih]
      by_cases q : s ∈ r.map (·.1)
      · have q2 : s ∈ (e :: r).map (·.1) := by rw [List.map_cons]; exact List.mem_cons_of_mem _ q
        rw [if_pos q, if_pos q2]
        rfl
      · have q2 : ¬ s ∈ (e :: r).map (·.1) := by rw [List.map_cons, List.mem_cons, not_or]; exact ⟨h', q⟩
        rw [if_neg q, if_neg q2]
        rfl
theorem addS_nodup {m : List (Spot × Int)} (h : (m.map (·.1)).Nodup) (s : Spot) (t : Int) : ((addS m s t).map (·.1)).Nodup := by
  rw [addS_keys]
  split
  · exact h
  · rename_i q
    rw [List.nodup_append]
    refine ⟨h, by simp, fun x hx y hy z => q ?_⟩
    have e : y = s := by simpa using hy
    rw [← e, ← z]
    exact hx
theorem addS_len (m : List (Spot × Int)) (s : Spot) (t : Int) : (addS m s t).length ≤ m.length + 1 := by
  induction m with
  | nil => simp [addS]
  | cons e r ih =>
    unfold addS
    split
    · simp
    · simp
      omega
theorem lkK_put (s : Spot) (t : Int) : ∀ (m : List (Spot × Int)), (m.map (·.1)).Nodup → putK (lkK m) (kS s) (.int (getI m s + t)) = lkK (addS m s t)
  | [], _ => rfl
  | e :: r, n => by
    rw [List.map_cons, List.nodup_cons] at n
    have hk : kS e.1 ∉ (lkK r).map (·.1) := by
      intro z
      unfold lkK at z
      rw [List.map_map] at z
      obtain ⟨x, hx, h⟩ := List.mem_map.mp z
      exact n.1 (by rw [← kS_inj h]; exact List.mem_map.mpr ⟨x, hx, rfl⟩)
    show putK ((kS e.1, V.int e.2) :: lkK r) (kS s) _ = _
    rw [putK_cons _ _ _ _ hk]
    unfold addS getI
    rw [List.lookup_cons]
    by_cases h : e.1 = s
    · rw [if_pos (by rw [h]), if_pos h, show (s == e.1) = true by rw [h]; exact beq_self_eq_true _]
      show (kS e.1, V.int (e.2 + t)) :: lkK r = (kS s, V.int (e.2 + t)) :: lkK r
      rw [h]
    · rw [if_neg (fun z => h (kS_inj z)), if_neg h, show (s == e.1) = false from beq_eq_false_iff_ne.mpr fun z => h z.symm]
      show _ = (kS e.1, V.int e.2) :: lkK (addS r s t)
      rw [← lkK_put s t r n.2]
      rfl
theorem linkOf_snoc (S : List (Int × Int × Int)) (t : Int × Int × Int) : linkOf (S ++ [t]) = if t.1 = t.2.1 then linkOf S else addS (linkOf S) (min t.1 t.2.1, max t.1 t.2.1) t.2.2 := by
  unfold linkOf
  rw [List.foldl_append]
  rfl
theorem linkOf_ok (S : List (Int × Int × Int)) : ((linkOf S).map (·.1)).Nodup ∧ (linkOf S).length ≤ S.length := by
  have : ∀ n, ((linkOf (S.take n)).map (·.1)).Nodup ∧ (linkOf (S.take n)).length ≤ n := by
    intro n
    induction n with
    | zero => exact ⟨List.nodup_nil, Nat.le_refl _⟩
    | succ n ih =>
      rw [List.take_add_one]
      cases h : S[n]? with
      | none =>
        rw [show (none : Option (Int × Int × Int)).toList = [] from rfl, List.append_nil]
        exact ⟨ih.1, by omega⟩
      | some t =>
        show ((linkOf (S.take n ++ [t])).map (·.1)).Nodup ∧ _
        rw [show (some t).toList = [t] from rfl, linkOf_snoc]
        split
        · exact ⟨ih.1, by omega⟩
        · exact ⟨addS_nodup ih.1 _ _, by have := addS_len (linkOf (S.take n)) (min t.1 t.2.1, max t.1 t.2.1) t.2.2; omega⟩
  have h := this S.length
  rw [List.take_length] at h
  exact h
theorem min_eq (i j : Int) : (if j < i then j else i) = min i j := by
  split <;> omega
theorem max_eq (i j : Int) : (if j > i then j else i) = max i j := by
  split <;> omega
theorem ok_links (F : Fn K mg "links" sLinks ["web"]) (g : Gb mg) (O2 : Ok P w K mg base 4 "signed" ["web"] (spSigned K)) : Ok P w K mg base 5 "links" ["web"] (spLinks K) := by
  obtain ⟨f, fd, FF, m, b⟩ := F
  obtain ⟨fS, dS, GS, mS, kkS, bS⟩ := O2
  refine ⟨f, fd, ?_, m, FF.kp, b⟩
  refine FF.ok scLk (fun vs H Q E h => ?_) (fun cdv A outer s H vs Q E hr h => ?_)
  · obtain ⟨v, w, R, rfl, _⟩ := h
    rfl
  · obtain ⟨v, w, R, rfl, hD, hS, q⟩ := h
    have hu := hu_of hr
    refine ⟨_, (pss_cons (ps_set (i := 1) scLk.nd rfl (.inl rfl) pe_dnewT)
 (pss_cons (ps_for PassesOwn.never rfl (pi_list (pe_call GS (hr.mono (by decide)) (by rfl) mS kkS bS .nil pass0 (pa_cons (pv 0) pa_nil))) (pg_tup rfl (pgs_cons (pg_name (i := 2) scLk.nd rfl (.inl rfl)) (pgs_cons (pg_name (i := 3) scLk.nd rfl (.inl rfl)) (pgs_cons (pg_name (i := 4) scLk.nd rfl (.inl rfl)) pgs_nil))))
 (pss_one (ps_if (pt_cmpR op_ne (pv 2) (pv 3) (nomark _)) (pss_cons (ps_set (i := 5) scLk.nd rfl (.inl rfl) (pe_tup (pa_cons (pe_callB (call_min2 rfl) (by rfl) g.min (by decide +kernel) (pa_cons (pv 2) (pa_cons (pv 3) pa_nil))) (pa_cons (pe_callB (call_max2 rfl) (by rfl) g.max (by decide +kernel) (pa_cons (pv 2) (pa_cons (pv 3) pa_nil))) pa_nil))))
 (pss_one (ps_dput hu (pv 1) (pv 5) (pe_op op_add (pe_dget2 hu (pv 1) (pv 5) pe_int ⟨rfl, rfl, rfl, rfl⟩) (pv 4)) rfl))) pss_nil)))
 (pss_one (ps_ret (pe_callB cr_sortedI (by rfl) g.sorted (by decide +kernel) (pa_cons (pe_lc (own := [("many", 6)]) (g := (gName 6)) (tt := (tTest (tOp _ (tVar 6) (tC _)))) (te := (tCB _ (tCons (tVar 6) tNil))) rfl scLk.nd (pi_valsT (pv 1)) (blkOk_by (by kernel_rfl)) (fun _ _ _ _ _ => (pg_name (i := 6) scLk.nd rfl (.inl rfl))) (fun _ _ _ _ _ => (pts_one (pt_cmpR op_ne (pv 6) pe_int (nomark _)))) (fun _ _ _ _ _ => (pe_callB call_abs (by rfl) g.abs boot_absB (pa_cons (pv 6) pa_nil)))) pa_nil)))))), ?_⟩
    refine fun d nd => ?_
    have s1 := same_upd (o := .dT []) nd
    have hd1 : (upd H d (.dT [])) d = some (.dT []) := upd_same
    generalize upd H d (.dT []) = H1 at s1 hd1
    refine ⟨v, rfl, v, w, R, rfl, dp_same s1 _ _ hD, hS, fun H3 p xs s3 np hp hx => ?_⟩
    have ll := Paired.length hx
    rw [sgM_len] at ll
    have lcr := hS.rd.small.cr
    have epd : p ≠ d := fun z => by
      rw [z, hd1] at np
      cases np
    have npH := s1.free np
    refine ⟨p, rfl, ⟨xs, .inl (.inl hp)⟩, ?_⟩
    refine for_list (xs := xs) (fun i σ Ha => ∃ y2 y3 y4 y5, σ = [some v, some (.ref d), y2, y3, y4, y5, none] ∧ Same H Ha ∧ KT H3 Ha ∧ Ha p = some (.lst xs) ∧ Ha d = some (.dT (lkK (linkOf ((sgM w R).take i)))))
      ⟨none, none, none, none, rfl, s1.trans s3, .refl, hp, s3 _ _ hd1⟩ (fun i σ Ha _ ⟨_, _, _, _, _, _, _, h, _⟩ => .inl (.inl h)) ?_ ?_
    · rintro i x σ Ha hi ⟨y2, y3, y4, y5, rfl, sa, ka, pa, da⟩
      obtain ⟨t, ht, hx1⟩ := Paired.at1 hx hi
      obtain ⟨a, rfl, ha⟩ := hx1.kt ka
      have ha4 : SqT K Ha a [.int t.1, .int t.2.1, .int t.2.2] := .inl (.inl ha)
      have etk : (sgM w R).take (i + 1) = (sgM w R).take i ++ [t] := by rw [List.take_add_one, ht]; rfl
      refine ⟨a, _, rfl, ha4, rfl, ⟨_, _, rfl, _, _, rfl, _, _, rfl, rfl, ?_⟩⟩
      refine ⟨_, rfl, _, rfl, rfl, _, rfl, ite2 (fun e => ?_) (fun e => ?_)⟩
      · have e : ¬ t.1 = t.2.1 := fun z => by
          rw [z] at e
          simp at e
        refine ⟨_, rfl, _, rfl, _, _, rfl, _, rfl, _, rfl, _, _, rfl, (by show 2 ≤ sizeLine; decide), fun q1 nq => ?_⟩
        rw [min_eq, max_eq]
        have sq := same_upd (o := .tup [.int (min t.1 t.2.1), .int (max t.1 t.2.1)]) nq
        have hq : (upd Ha q1 (.tup [.int (min t.1 t.2.1), .int (max t.1 t.2.1)])) q1 = some (.tup ((kS (min t.1 t.2.1, max t.1 t.2.1)).map kV)) := upd_same
        generalize upd Ha q1 (.tup [.int (min t.1 t.2.1), .int (max t.1 t.2.1)]) = Hb at sq hq
        have db := sq _ _ da
        obtain ⟨hnd, hll⟩ := linkOf_ok ((sgM w R).take i)
        rw [List.length_take, sgM_len] at hll
        refine ⟨.ref d, rfl, d, rfl, .inr ⟨_, .inl db⟩, .ref q1, rfl, _, DGet.t db hq, .int t.2.2, rfl, _, t.2.2, lkK_get _ _, rfl, ?_⟩
        refine ⟨.ref d, rfl, .ref q1, rfl, d, _, rfl, DPut.t (k := kS (min t.1 t.2.1, max t.1 t.2.1)) db hq (mill (by unfold lkK; rw [List.length_map]; omega)), _, _, _, _, rfl, same_over (sa.trans sq) nd, ka.trans ((KT.of sq).trans (.dT db)), by rw [upd_ne epd]; exact sq _ _ pa, ?_⟩
        rw [upd_same, lkK_put _ _ _ hnd, etk, linkOf_snoc, if_neg e]
      · have e : t.1 = t.2.1 := by
          by_cases z : t.1 = t.2.1
          · exact z
          · refine absurd ?_ e
            have : ¬ V.int t.1 = V.int t.2.1 := fun h => z (V.int.inj h)
            simp [this]
        refine ⟨_, _, _, _, rfl, sa, ka, pa, ?_⟩
        rw [etk, linkOf_snoc, if_pos e]
        exact da
    · rintro σ Ha ⟨y2, y3, y4, y5, rfl, sa, ka, pa, da⟩
      rw [Paired.length hx, List.take_length] at da
      obtain ⟨hnd, hll⟩ := linkOf_ok (sgM w R)
      rw [sgM_len] at hll
      refine ⟨.ref d, rfl, d, _, rfl, da, fun o D nD => ?_⟩
      have lk : (lkK (linkOf (sgM w R))).length = (linkOf (sgM w R)).length := by unfold lkK; rw [List.length_map]
      have s5 : Same H (upd Ha d (.frz o (.dT (lkK (linkOf (sgM w R)))))) := same_over sa nd
      have hd5 : (upd Ha d (.frz o (.dT (lkK (linkOf (sgM w R)))))) d = some (.frz o (.dT (lkK (linkOf (sgM w R))))) := upd_same
      generalize upd Ha d (.frz o (.dT (lkK (linkOf (sgM w R))))) = H5 at s5 hd5 nD
      refine lc_it (walk_valsT (d := d) (o := o) (kvs := lkK (linkOf (sgM w R)))) (fun i H6 => Same H5 H6 ∧ ∃ ns : List Int, ns.length ≤ i ∧ H6 D = some (.lst (ns.map V.int)) ∧ ns = ((((linkOf (sgM w R)).take i).map (·.2)).filter fun n => decide (n ≠ 0)).map fun n => if n < 0 then -n else n)
        ⟨same_upd nD, [], Nat.le_refl _, upd_same, rfl⟩ (fun i H6 _ ⟨s6, _⟩ => s6 _ _ hd5) ?_ ?_
      · rintro i x H6 H7 hi ⟨s6, ns, ln, hn, en⟩ ⟨rfl, k, hk⟩
        unfold lkK at hk
        rw [List.getElem?_map] at hk
        obtain ⟨e, he, h2⟩ := Option.map_eq_some_iff.mp hk
        have h2 : V.int e.2 = x := congrArg Prod.snd h2
        subst h2
        have etk : (linkOf (sgM w R)).take (i + 1) = (linkOf (sgM w R)).take i ++ [e] := by rw [List.take_add_one, he]; rfl
        refine ⟨rfl, _, rfl, rfl, _, rfl, ite2 (fun z => ?_) (fun z => ?_)⟩
        · have z : e.2 ≠ 0 := fun y => by
            rw [y] at z
            simp at z
          refine ⟨_, rfl, e.2, rfl, _, hn, mill (by rw [List.length_map]; omega), same_over s6 nD, ns ++ [if e.2 < 0 then -e.2 else e.2], by simp; omega, ?_, ?_⟩
          · rw [upd_same, List.map_append]
            rfl
          · rw [etk, List.map_append, List.filter_append, List.map_append, ← en]
            congr 1
            rw [List.map_cons, List.map_nil, List.filter_cons_of_pos (by simpa using z)]
            rfl
        · have z : e.2 = 0 := by
            by_cases y : e.2 = 0
            · exact y
            · refine absurd ?_ z
              have : ¬ V.int e.2 = V.int 0 := fun h => y (V.int.inj h)
              simp [this]
          refine ⟨s6, ns, by omega, hn, ?_⟩
          rw [etk, List.map_append, List.filter_append, List.map_append, ← en, List.map_cons, List.map_nil, List.filter_cons_of_neg (by simp [z])]
          simp
      · rintro H6 ⟨s6, ns, ln, hn, en⟩
        rw [lk, List.take_length] at en
        refine ⟨D, ns, rfl, .inl (.inl hn), fun ys p2 perm pw n2 => ?_⟩
        have e : ns = linksOf (sgM w R) := en
        have eys := sorted_ints perm pw
        rw [eys, e] at *
        exact q _ p2 (s5.trans (s6.trans (same_upd n2))) ((s5.trans s6).free n2) upd_same
end
end TH
end

section
set_option Elab.async false
set_option linter.all false
set_option maxRecDepth 100000
namespace TH
open PySem PySem.Spec PyProof.Rows L2

/-! ### groups -/
abbrev sGroups : Stmt := topS 31
theorem scGr : FnScope ["web", "found", "number", "arc", "crossing", "former", "later"] ["web"] (defScope sGroups) := ⟨rfl, rfl, rfl, by decide +kernel, rfl, by decide +kernel, by decide +kernel⟩
def gK (ks : List Int) (f : Int → Int) : List (Key × V) := ks.map fun a => (Sum.inl a, V.int (f a))
theorem gK_congr {ks : List Int} {f g : Int → Int} (h : ∀ a ∈ ks, f a = g a) : gK ks f = gK ks g := List.map_congr_left fun a ha => by rw [h a ha]
theorem gK_get (f : Int → Int) (a : Int) : ∀ (ks : List Int), a ∈ ks → valV (gK ks f) (Sum.inl a) = some (.int (f a))
  | [], h => by cases h
  | b :: ks, h => by
    show valV ((Sum.inl b, V.int (f b)) :: gK ks f) _ = _
    by_cases e : b = a
    · rw [valV_pos (by rw [e]), e]
    · rw [valV_neg (fun z => e (Sum.inl.inj z))]
      rcases List.mem_cons.mp h with z | z
      · exact absurd z.symm e
      · exact gK_get f a ks z
theorem gK_none (f : Int → Int) (a : Int) : ∀ (ks : List Int), a ∉ ks → valV (gK ks f) (Sum.inl a) = none
  | [], _ => rfl
  | b :: ks, h => by
    rw [List.mem_cons, not_or] at h
    show valV ((Sum.inl b, V.int (f b)) :: gK ks f) _ = _
    rw [valV_neg (fun z => h.1 (Sum.inl.inj z).symm)]
    exact gK_none f a ks h.2
theorem gK_put (f : Int → Int) (a n : Int) {ks : List Int} (h : a ∈ ks) : putK (gK ks f) (Sum.inl a) (.int n) = gK ks fun x => if x = a then n else f x := by
  have hany : ((gK ks f).any fun kv => decide (kv.1 = Sum.inl a)) = true := by rw [valV_any, gK_get f a ks h]; rfl
  unfold putK
  rw [if_pos hany]
  unfold gK
  rw [List.map_map]
  refine List.map_congr_left fun x _ => ?_
  show (if (Sum.inl x : Key) = Sum.inl a then _ else _) = _
  by_cases e : x = a
  · rw [if_pos (by rw [e])]
    show (Sum.inl x, V.int n) = (Sum.inl x, V.int (if x = a then n else f x))
    rw [if_pos e]
  · rw [if_neg (fun z => e (Sum.inl.inj z))]
    show (Sum.inl x, V.int (f x)) = (Sum.inl x, V.int (if x = a then n else f x))
    rw [if_neg e]
theorem gK_dget {H : Hp} {d : Addr} {ks : List Int} {f : Int → Int} {a : Int} (h : H d = some (.dK (gK ks f))) (m : a ∈ ks) : DGet H d (.int a) (some (.int (f a))) := by
  rw [← gK_get f a ks m]
  exact DGet.k (k := Sum.inl a) h
theorem gK_new (f : Int → Int) (a : Int) {ks : List Int} (h : a ∉ ks) : putK (gK ks f) (Sum.inl a) (.int (f a)) = gK (ks ++ [a]) f := by
  rw [putK_new _ (gK_none f a ks h)]
  unfold gK
  rw [List.map_append]
  rfl
def Fours (w : Web) : Prop := ∀ c ∈ w.cr, c.length = 4
def spGroups (K : PySem.W.Frag) : Sp := fun vs H Q _ => ∃ v w, vs = [v] ∧ Dp K H v (webD w) ∧ Small w ∧ Fours w ∧ ∀ H' d, Same H H' → H d = none → H' d = some (.dK (gK (keys w) (groupF w))) → Q (.ref d) H'
section
variable {P : Program} {w : World} {K : PySem.W.Frag} {mg : Str → Option Value} {base : Heap}
theorem ok_groups (F : Fn K mg "groups" sGroups ["web"]) (g : Gb mg) (O1 : Ok P w K mg base 1 "places" ["web"] (spPlaces K)) : Ok P w K mg base 2 "groups" ["web"] (spGroups K) := by
  obtain ⟨f, fd, FF, m, b⟩ := F
  obtain ⟨fP, dP, GP, mP, kP, bP⟩ := O1
  refine ⟨f, fd, ?_, m, FF.kp, b⟩
  refine FF.ok scGr (fun vs H Q E h => ?_) (fun cdv A outer s H vs Q E hr h => ?_)
  · obtain ⟨v, w, rfl, _⟩ := h
    rfl
  · obtain ⟨v, w, rfl, hD, hS, h4, q⟩ := h
    have hu := hu_of hr
    refine ⟨_, (pss_cons (ps_set (i := 1) scGr.nd rfl (.inl rfl) pe_dnewK)
 (pss_cons (ps_for PassesOwn.never rfl (pi_enumD (by rfl) g.enumerate (pa_cons (pe_call GP (hr.mono (by decide)) (by rfl) mP kP bP .nil pass0 (pa_cons (pv 0) pa_nil)) pa_nil)) (pg_tup rfl (pgs_cons (pg_name (i := 2) scGr.nd rfl (.inl rfl)) (pgs_cons (pg_name (i := 3) scGr.nd rfl (.inl rfl)) pgs_nil)))
 (pss_one (ps_dput hu (pv 1) (pv 3) (pv 2) rfl)))
 (pss_cons (ps_for PassesOwn.never rfl (pi_tup (pe_ix ix_tup (pv 0) pe_int (fun _ _ => rfl))) (pg_name (i := 4) scGr.nd rfl (.inl rfl))
 (pss_cons (ps_set (i := 5) scGr.nd rfl (.inl rfl) (pe_dget hu (pv 1) (pe_ix ix_tup (pv 4) pe_int (fun _ _ => rfl)) (fun _ _ => rfl)))
 (pss_cons (ps_set (i := 6) scGr.nd rfl (.inl rfl) (pe_dget hu (pv 1) (pe_ix ix_tup (pv 4) pe_int (fun _ _ => rfl)) (fun _ _ => rfl)))
 (pss_one (ps_for PassesOwn.never rfl (pi_list (pe_callTy (call_list_dK rfl) (by rfl) g.list (by decide +kernel) (pa_cons (pv 1) pa_nil))) (pg_name (i := 3) scGr.nd rfl (.inl rfl))
 (pss_one (ps_if (pt_cmpR op_eq (pe_dget hu (pv 1) (pv 3) (fun _ _ => rfl)) (pv 5) (nomark _)) (pss_one (ps_dput hu (pv 1) (pv 3) (pv 6) rfl)) pss_nil)))))))
 (pss_one (ps_ret (pv 1)))))), ?_⟩
    refine fun n nn => ?_
    have s1 : Same H (upd H n (.dK [])) := same_upd nn
    refine ⟨v, rfl, v, w, rfl, dp_same s1 _ _ hD, hS, fun H2 p s2 np hP => ?_⟩
    obtain ⟨kvs, hk, hkeys⟩ := hP.keys
    refine ⟨p, kvs, rfl, hk, fun o => ?_⟩
    have hkeys : kvs.map (·.1) = (keys w).map Sum.inl := hkeys
    have el : kvs.length = (keys w).length := by
      have e := congrArg List.length hkeys
      rw [List.length_map, List.length_map] at e
      exact e
    have npn : p ≠ n := fun z => by
      rw [z, upd_same] at np
      cases np
    have np0 : H p = none := s1.free np
    have h20 : H2 n = some (.dK []) := s2 _ _ upd_same
    have lk : (keys w).length ≤ 1000 := by
      have := keys_len w
      have := hS.sp
      omega
    refine for_it walk_enumD (fun i σ H3 => ∃ y2 y3, σ = [some v, some (.ref n), y2, y3, none, none, none] ∧ H3 p = some (.frz o (.dK kvs)) ∧ Same H H3 ∧ H3 n = some (.dK (gK ((keys w).take i) (idx (keys w)))))
      ⟨none, none, rfl, upd_same, same_over (s1.trans s2) np0, by rw [upd_ne npn.symm]; exact h20⟩ (fun i σ H3 _ ⟨_, _, _, h, _⟩ => h) ?_ ?_
    · rintro i x σ H3 H4 hi ⟨y2, y3, rfl, hp, s3, hn⟩ ⟨T, x1, x2, rfl, nT, rfl, e1, e2⟩
      cases e1
      have hik : i < (keys w).length := by omega
      have e2 : kvs[i]?.map (fun kv => kV kv.1) = some x2 := e2
      have e3 : (kvs.map (·.1))[i]? = some (Sum.inl (keys w)[i]) := by
        rw [hkeys, List.getElem?_map, List.getElem?_eq_getElem hik]
        rfl
      have e4 : x2 = .int (keys w)[i] := by
        rw [List.getElem?_map] at e3
        obtain ⟨kv, h1, h2⟩ := Option.map_eq_some_iff.mp e3
        rw [h1] at e2
        have z := Option.some.inj e2
        rw [← z]
        show kV kv.1 = _
        rw [h2]
        rfl
      subst e4
      have s4 : Same H3 (upd H3 T (.tup [.int (i : Nat), .int (keys w)[i]])) := same_upd nT
      refine ⟨T, _, rfl, .inl (.inl upd_same), rfl, _, _, rfl, _, _, rfl, rfl, ?_⟩
      refine ⟨_, rfl, .ref n, rfl, .int (keys w)[i], rfl, n, _, rfl, DPut.k (k := Sum.inl (keys w)[i]) (s4 _ _ hn) (mill ?_), ?_⟩
      · unfold gK
        rw [List.length_map, List.length_take]
        omega
      · refine ⟨_, _, rfl, ?_, ?_, ?_⟩
        · rw [upd_ne (ne_of hp hn (by intro z; cases z))]
          exact s4 _ _ hp
        · exact same_over (s3.trans s4) nn
        · have hix : ((i : Nat) : Int) = idx (keys w) (keys w)[i] := by
            unfold idx
            rw [(keys_nodup w).idxOf_getElem]
          have hno : (keys w)[i] ∉ (keys w).take i := fun z => by
            obtain ⟨j, hj⟩ := List.mem_iff_getElem?.mp z
            rw [List.getElem?_take] at hj
            split at hj
            · rename_i hlt
              have := nd_ix (keys_nodup w) hj (List.getElem?_eq_getElem hik)
              omega
            · cases hj
          rw [upd_same, hix, gK_new _ _ hno, List.take_add_one, List.getElem?_eq_getElem hik]
          rfl
    · rintro σ H3 ⟨y2, y3, rfl, hp, s3, hn⟩
      rw [el, List.take_length] at hn
      obtain ⟨aw, ac, ae, cs, rfl, hW, hC, hCs, hE⟩ := dp_web hD
      have ec : cs.length = w.cr.length := by rw [dpAll_len hCs, List.length_map]
      refine ⟨.ref aw, rfl, aw, _, 0, _, rfl, rfl, seqT_same s3 hW, atI_nat (j := 0) rfl, ac, rfl, ⟨_, seqT_same s3 hC⟩, ?_⟩
      refine for_it walk_tup (fun i σ H5 => ∃ y3 y4 y5 y6, σ = [some (.ref aw), some (.ref n), y2, y3, y4, y5, y6] ∧ Same H H5 ∧ H5 n = some (.dK (gK (keys w) ((w.cr.take i).foldl mergeG (idx (keys w))))))
        ⟨_, _, _, _, rfl, s3, hn⟩ (fun i σ H5 _ ⟨_, _, _, _, _, s5, _⟩ => seqT_same s5 hC) ?_ ?_
      · rintro i x σ H5 H6 hi ⟨z3, z4, z5, z6, rfl, s5, h5⟩ ⟨rfl, hx⟩
        obtain ⟨dd, hd, hdx⟩ := dpAll_at hCs hx
        rw [List.getElem?_map] at hd
        obtain ⟨c, hc, rfl⟩ := Option.map_eq_some_iff.mp hd
        obtain ⟨ax, rfl, hX⟩ := dp_tupI hdx
        have mc : c ∈ w.cr := List.mem_of_getElem? hc
        have lc := h4 c mc
        have hX5 := seqT_same s5 hX
        have e3 : (c.map V.int)[3]? = some (.int (c.getD 3 0)) := by
          rw [List.getElem?_map, List.getD_eq_getElem?_getD, List.getElem?_eq_getElem (by omega)]
          rfl
        have e1 : (c.map V.int)[1]? = some (.int (c.getD 1 0)) := by
          rw [List.getElem?_map, List.getD_eq_getElem?_getD, List.getElem?_eq_getElem (by omega)]
          rfl
        have mk : ∀ j, j < 4 → c.getD j 0 ∈ keys w := fun j hj => by
          refine (mem_keys w _).mpr (List.mem_append_left _ (List.mem_flatten.mpr ⟨c, mc, ?_⟩))
          rw [List.getD_eq_getElem?_getD, List.getElem?_eq_getElem (by omega)]
          exact List.getElem_mem _
        generalize hF : (w.cr.take i).foldl mergeG (idx (keys w)) = F at h5
        have etk : (w.cr.take (i + 1)).foldl mergeG (idx (keys w)) = mergeG F c := by
          rw [List.take_add_one, hc, List.foldl_append, hF]
          rfl
        refine ⟨.ref n, rfl, .ref ax, rfl, ax, _, 3, _, rfl, rfl, hX5, atI_nat (j := 3) e3, n, _, rfl, gK_dget h5 (mk 3 (by decide)), ?_⟩
        refine ⟨.ref n, rfl, .ref ax, rfl, ax, _, 1, _, rfl, rfl, hX5, atI_nat (j := 1) e1, n, _, rfl, gK_dget h5 (mk 1 (by decide)), ?_⟩
        refine ⟨.ref n, rfl, n, _, rfl, h5, fun q1 nq => ?_⟩
        have eks : (gK (keys w) F).map (fun kv => kV kv.1) = (keys w).map V.int := by
          unfold gK
          rw [List.map_map]
          rfl
        rw [eks]
        have s6 := same_upd (o := .lst ((keys w).map V.int)) nq
        have hq : (upd H6 q1 (.lst ((keys w).map V.int))) q1 = some (.lst ((keys w).map V.int)) := upd_same
        have enq : q1 ≠ n := (ne_of_none h5 nq).symm
        generalize upd H6 q1 (.lst ((keys w).map V.int)) = H7 at s6 hq
        have h7 := s6 _ _ h5
        refine ⟨q1, rfl, ⟨_, .inl (.inl hq)⟩, ?_⟩
        refine for_list (xs := (keys w).map V.int) (fun j σ H8 => ∃ y3, σ = [some (.ref aw), some (.ref n), y2, y3, some (.ref ax), some (.int (F (c.getD 3 0))), some (.int (F (c.getD 1 0)))] ∧ Same H H8 ∧ H8 q1 = some (.lst ((keys w).map V.int)) ∧ H8 n = some (.dK (gK (keys w) fun x => if x ∈ (keys w).take j then mergeG F c x else F x)))
          ⟨_, rfl, s5.trans s6, hq, by rw [h7]; congr 2⟩ (fun j σ H8 _ ⟨_, _, _, h, _⟩ => .inl (.inl h)) ?_ ?_
        · rintro j x σ H8 hj ⟨u3, rfl, s8, hq8, h8⟩
          obtain ⟨a, ha, rfl⟩ := ints_at hj
          have hjk : j < (keys w).length := (List.getElem?_eq_some_iff.mp ha).1
          have hno : a ∉ (keys w).take j := fun z => by
            obtain ⟨l, hl⟩ := List.mem_iff_getElem?.mp z
            rw [List.getElem?_take] at hl
            split at hl
            · rename_i hlt
              have := nd_ix (keys_nodup w) hl ha
              omega
            · cases hl
          have hmem : ∀ x, x ∈ (keys w).take (j + 1) ↔ x ∈ (keys w).take j ∨ x = a := fun x => by
            rw [List.take_add_one, ha, List.mem_append]
            simp
          have ma : a ∈ keys w := List.mem_of_getElem? ha
          have hg := gK_dget h8 ma
          rw [if_neg hno] at hg
          refine ⟨.ref n, rfl, .int a, rfl, n, _, rfl, hg, _, rfl, rfl, _, rfl, ite2 (fun e => ?_) (fun e => ?_)⟩
          · have e : F a = F (c.getD 3 0) := V.int.inj (of_decide_eq_true e)
            refine ⟨_, rfl, .ref n, rfl, .int a, rfl, n, _, rfl, DPut.k (k := Sum.inl a) h8 (mill (by unfold gK; rw [List.length_map]; omega)), ?_⟩
            refine ⟨_, rfl, same_over s8 nn, by rw [upd_ne enq]; exact hq8, ?_⟩
            rw [upd_same, gK_put _ _ _ ma]
            congr 2
            refine gK_congr fun x _ => ?_
            by_cases z : x = a
            · rw [if_pos z, if_pos ((hmem x).mpr (.inr z)), z]
              unfold mergeG
              rw [if_pos e]
            · rw [if_neg z]
              by_cases y : x ∈ (keys w).take j
              · rw [if_pos y, if_pos ((hmem x).mpr (.inl y))]
              · rw [if_neg y, if_neg (fun u => ((hmem x).mp u).elim y z)]
          · have e : ¬ F a = F (c.getD 3 0) := fun z => e (by rw [z]; exact decide_eq_true rfl)
            refine ⟨_, rfl, s8, hq8, ?_⟩
            rw [h8]
            congr 2
            refine gK_congr fun x _ => ?_
            by_cases z : x = a
            · rw [z, if_neg hno, if_pos ((hmem a).mpr (.inr rfl))]
              unfold mergeG
              rw [if_neg e]
            · by_cases y : x ∈ (keys w).take j
              · rw [if_pos y, if_pos ((hmem x).mpr (.inl y))]
              · rw [if_neg y, if_neg (fun u => ((hmem x).mp u).elim y z)]
        · rintro σ H8 ⟨u3, rfl, s8, hq8, h8⟩
          refine ⟨_, _, _, _, rfl, s8, ?_⟩
          rw [h8, etk]
          congr 2
          refine gK_congr fun x hx => ?_
          rw [List.length_map, List.take_length, if_pos hx]
      · rintro σ H5 ⟨z3, z4, z5, z6, rfl, s5, h5⟩
        rw [ec, List.take_length] at h5
        exact ⟨_, rfl, q H5 n s5 nn h5⟩
end
end TH
end

section
set_option Elab.async false
set_option linter.all false
set_option maxRecDepth 100000
namespace TH
open PySem PySem.Spec PyProof.Rows L2

/-! ### wants -/
abbrev sWants : Stmt := topS 32
theorem scWa : FnScope ["web", "m", "found", "columns", "rows", "a", "b", "c", "d", "row", "arc", "many", "at"] ["web", "m"] (defScope sWants) := ⟨rfl, rfl, rfl, by decide +kernel, rfl, by decide +kernel, by decide +kernel⟩
def RowV (H : Hp) (x : V) (r : List Int) : Prop := ∃ a, x = .ref a ∧ H a = some (.lst (r.map V.int))
def RowsD (H : Hp) (p : Addr) (rows : List (List Int)) : Prop := ∃ xs, H p = some (.lst xs) ∧ Paired (RowV H) xs rows
def spWants (K : PySem.W.Frag) : Sp := fun vs H Q _ => ∃ v m w, vs = [v, .int m] ∧ Dp K H v (webD w) ∧ Small w ∧ Fours w ∧ (keys w).length < 64 ∧ 0 < m ∧
  ∀ H' t p, Same H H' → H p = none → H' t = some (.tup [.ref p, .int (colsOf w).length]) → RowsD H' p (rowsOf w m) → Q (.ref t) H'
/-- a heap of which just G is kept -/
theorem heap_gen {G X : Hp → Prop} {H : Hp} (h : G H) (k : ∀ H', G H' → X H') : X H := k H h
theorem addAt_len (r : List Int) (j : Nat) (n m : Int) : (addAt r j n m).length = r.length := List.length_set
theorem addAts_len (f : Int → Nat) (m : Int) (z : Int) (n : Nat) : ∀ (L : List Spot), (L.foldl (fun r p => addAt r (f p.1) p.2 m) (List.replicate n z)).length = n := by
  have : ∀ (L : List Spot) (r : List Int), (L.foldl (fun r p => addAt r (f p.1) p.2 m) r).length = r.length := by
    intro L
    induction L with
    | nil => exact fun r => rfl
    | cons p L ih => exact fun r => by rw [List.foldl_cons, ih, addAt_len]
  intro L
  rw [this, List.length_replicate]
theorem ixN_nat {n j : Nat} (h : j < n) : ixN n (j : Int) = some j := by
  unfold ixN
  rw [if_pos (by omega), if_pos (by omega)]
  simp
theorem Paired.mem {α β : Type} {F : α → β → Prop} : ∀ {l : List α} {m : List β}, Paired F l m → Paired (fun x y => F x y ∧ x ∈ l) l m
  | _, _, .nil => .nil
  | _, _, .cons r t => .cons ⟨r, List.mem_cons_self⟩ (Paired.mapP (Paired.mem t) fun _ _ h => ⟨h.1, List.mem_cons_of_mem _ h.2⟩)
theorem rising_uniq : ∀ {a b : List Int}, a.Pairwise (· < ·) → b.Pairwise (· < ·) → (∀ k, k ∈ a ↔ k ∈ b) → a = b
  | [], [], _, _, _ => rfl
  | [], y :: b, _, _, h => absurd ((h y).mpr List.mem_cons_self) (by simp)
  | x :: a, [], _, _, h => absurd ((h x).mp List.mem_cons_self) (by simp)
  | x :: a, y :: b, ha, hb, h => by
    rw [List.pairwise_cons] at ha hb
    have e : x = y := by
      rcases List.mem_cons.mp ((h x).mp List.mem_cons_self) with e | e
      · exact e
      · rcases List.mem_cons.mp ((h y).mpr List.mem_cons_self) with e2 | e2
        · exact e2.symm
        · have h1 := hb.1 x e
          have h2 := ha.1 y e2
          omega
    subst e
    rw [rising_uniq ha.2 hb.2 fun k => ?_]
    have hk := h k
    rw [List.mem_cons, List.mem_cons] at hk
    constructor
    · intro z
      have := ha.1 k z
      rcases hk.mp (.inr z) with q | q
      · omega
      · exact q
    · intro z
      have := hb.1 k z
      rcases hk.mpr (.inr z) with q | q
      · omega
      · exact q
theorem cols_mem (w : Web) (k : Int) : k ∈ colsOf w ↔ k ∈ (keys w).map (groupF w) := by
  unfold colsOf
  rw [(List.mergeSort_perm _ _).mem_iff, mem_dedup]
  simp
theorem cols_rising (w : Web) : (colsOf w).Pairwise (· < ·) := by
  have h2 := List.pairwise_mergeSort (le := fun a b : Int => decide (a ≤ b)) (fun a b c h1 h2 => by simp at *; omega) (fun a b => by simp; omega) (dedup ((keys w).map (groupF w)) [])
  have h3 : (colsOf w).Nodup := (List.mergeSort_perm _ _).nodup_iff.mpr (nodup_dedup _ _ List.nodup_nil)
  exact (h2.and h3).imp fun ⟨a, b⟩ => by
    have := of_decide_eq_true a
    omega
theorem cols_uniq (w : Web) {ns : List Int} (pw : ns.Pairwise (· < ·)) (h : ∀ k, k ∈ ns ↔ k ∈ (keys w).map (groupF w)) : ns = colsOf w :=
  rising_uniq pw (cols_rising w) fun k => by rw [h, cols_mem]
section
variable {P : Program} {W0 : World} {K : PySem.W.Frag} {mg : Str → Option Value} {base : Heap}
theorem ok_wants (F : Fn K mg "wants" sWants ["web", "m"]) (g : Gb mg) (O1 : Ok P W0 K mg base 2 "groups" ["web"] (spGroups K)) : Ok P W0 K mg base 3 "wants" ["web", "m"] (spWants K) := by
  obtain ⟨f, fd, FF, mm, b⟩ := F
  obtain ⟨fG, dG, GG, mG, kG, bG⟩ := O1
  refine ⟨f, fd, ?_, mm, FF.kp, b⟩
  refine FF.ok scWa (fun vs H Q E h => ?_) (fun cdv A outer s H vs Q E hr h => ?_)
  · obtain ⟨v, m, w, rfl, _⟩ := h
    rfl
  · obtain ⟨v, m, w, rfl, hD, hS, h4, hk, hm, q⟩ := h
    have hu := hu_of hr
    refine ⟨_, (pss_cons (ps_set (i := 2) scWa.nd rfl (.inl rfl) (pe_call GG (hr.mono (by decide)) (by rfl) mG kG bG .nil pass0 (pa_cons (pv 0) pa_nil)))
 (pss_cons (ps_set (i := 3) scWa.nd rfl (.inl rfl) (pe_callB (cr_sortedSet rfl) (by rfl) g.sorted (by decide +kernel) (pa_cons (pe_callTy (cr_setL rfl) (by rfl) g.set (by decide +kernel) (pa_cons (pe_listVals rfl (by rfl) g.list (pv 2)) pa_nil)) pa_nil)))
 (pss_cons (ps_set (i := 4) scWa.nd rfl (.inl rfl) (pe_lst pa_nil))
 (pss_cons (ps_for PassesOwn.never rfl (pi_tup (pe_ix ix_tup (pv 0) pe_int (fun _ _ => rfl))) (pg_tup rfl (pgs_cons (pg_name (i := 5) scWa.nd rfl (.inl rfl)) (pgs_cons (pg_name (i := 6) scWa.nd rfl (.inl rfl)) (pgs_cons (pg_name (i := 7) scWa.nd rfl (.inl rfl)) (pgs_cons (pg_name (i := 8) scWa.nd rfl (.inl rfl)) pgs_nil)))))
 (pss_cons (ps_set (i := 9) scWa.nd rfl (.inl rfl) (pe_op op_rep (pe_lst (pa_cons pe_int pa_nil)) (pe_callB (r := rLenSeq K) call_lenK (by rfl) g.len PySem.boot_len (pa_cons (pv 3) pa_nil))))
 (pss_cons (ps_for PassesOwn.never rfl (pi_tup (pe_tup (pa_cons (pe_tup (pa_cons (pv 5) (pa_cons pe_int pa_nil))) (pa_cons (pe_tup (pa_cons (pv 7) (pa_cons pe_int pa_nil))) (pa_cons (pe_tup (pa_cons (pv 6) (pa_cons (pe_un un_neg pe_int) pa_nil))) pa_nil))))) (pg_tup rfl (pgs_cons (pg_name (i := 10) scWa.nd rfl (.inl rfl)) (pgs_cons (pg_name (i := 11) scWa.nd rfl (.inl rfl)) pgs_nil)))
 (pss_cons (ps_set (i := 12) scWa.nd rfl (.inl rfl) (pe_bm PySem.F.plainAttrs_list PySem.F.slot_list_index PySem.F.type_list_index mt_index (pv 3) (pa_cons (pe_dget hu (pv 2) (pv 10) (fun _ _ => rfl)) pa_nil)))
 (pss_one (ps_asg (pe_op op_mod (pe_op op_add (pe_ix ix_list (pv 9) (pv 12) (fun _ _ => rfl)) (pv 11)) (pv 1)) (pg_sub (pv 9) (pv 12) set_list)))))
 (pss_one (ps_expr (pe_bm PySem.F.plainAttrs_list PySem.F.slot_list_append PySem.F.type_list_append mt_append (pv 4) (pa_cons (pv 9) pa_nil)))))))
 (pss_one (ps_ret (pe_tup (pa_cons (pv 4) (pa_cons (pe_callB (r := rLenSeq K) call_lenK (by rfl) g.len PySem.boot_len (pa_cons (pv 3) pa_nil)) pa_nil))))))))), ?_⟩
    refine ⟨v, rfl, v, w, rfl, hD, hS, h4, fun H1 d s1 nd hd => ?_⟩
    have lgk : (gK (keys w) (groupF w)).map (·.2) = ((keys w).map (groupF w)).map V.int := by
      unfold gK
      rw [List.map_map, List.map_map]
      rfl
    refine ⟨.ref d, rfl, d, _, rfl, hd, fun p2 np2 => ?_⟩
    rw [lgk]
    refine ⟨p2, _, rfl, .inl (.inl upd_same), ?_, fun p3 c np3 hc => ?_⟩
    · rw [List.length_map]
      exact Nat.lt_of_le_of_lt hk (by decide)
    rw [List.length_map] at hc
    refine ⟨p3, _, c, rfl, upd_same, by omega, fun ns p4 pw hmem hln np4 => ?_⟩
    have ens : ns = colsOf w := cols_uniq w pw fun k => by rw [hmem k]; simp
    subst ens
    have s2 := same_new (same_new (same_upd (o := .lst (((keys w).map (groupF w)).map V.int)) np2) (o := SetO W0 p3 (fun j => decide (j ∈ (keys w).map (groupF w))) c) np3) (o := .lst ((colsOf w).map V.int)) np4
    have hcl : (upd (upd (upd H1 p2 (.lst (((keys w).map (groupF w)).map V.int))) p3 (SetO W0 p3 (fun j => decide (j ∈ (keys w).map (groupF w))) c)) p4 (.lst ((colsOf w).map V.int))) p4 = some (.lst ((colsOf w).map V.int)) := upd_same
    refine heap_gen (G := fun H2 => Same H1 H2 ∧ H2 p4 = some (.lst ((colsOf w).map V.int))) ⟨s2, hcl⟩ fun H2 ⟨s2, hcl⟩ => ?_
    refine ⟨(by show 0 ≤ sizeLine; decide), fun pr nr => ?_⟩
    have s3 := same_upd (o := .lst []) nr
    have hr3 : (upd H2 pr (.lst [])) pr = some (.lst []) := upd_same
    generalize upd H2 pr (.lst []) = H3 at s3 hr3
    have hd3 := s3 _ _ (s2 _ _ hd)
    have hc3 := s3 _ _ hcl
    have s12 := s1.trans s2
    obtain ⟨aw, ac, ae, cs, rfl, hW, hC, hCs, hE⟩ := dp_web hD
    have ec : cs.length = w.cr.length := by rw [dpAll_len hCs, List.length_map]
    have lcols : (colsOf w).length ≤ 64 := by omega
    refine ⟨.ref aw, rfl, aw, _, 0, _, rfl, rfl, seqT_same (s12.trans s3) hW, atI_nat (j := 0) rfl, ac, rfl, ⟨_, seqT_same (s12.trans s3) hC⟩, ?_⟩
    refine for_it walk_tup (fun i σ H5 => ∃ y5 y6 y7 y8 y9 ya yb yc xs, σ = [some (.ref aw), some (.int m), some (.ref d), some (.ref p4), some (.ref pr), y5, y6, y7, y8, y9, ya, yb, yc] ∧ Same H2 H5 ∧ H5 pr = some (.lst xs) ∧ Paired (RowV H5) xs ((w.cr.take i).map (rowOf (colsOf w) (groupF w) m)))
      ⟨none, none, none, none, none, none, none, none, [], rfl, s3, hr3, .nil⟩ (fun i σ H5 _ ⟨_, _, _, _, _, _, _, _, _, _, s5, _⟩ => seqT_same (s12.trans s5) hC) ?_ ?_
    · rintro i x σ H5 H6 hi ⟨y5, y6, y7, y8, y9, ya, yb, yc, xs, rfl, s5, h5, hx5⟩ ⟨rfl, hx⟩
      obtain ⟨dd, hdd, hdx⟩ := dpAll_at hCs hx
      rw [List.getElem?_map] at hdd
      obtain ⟨cc, hcc, rfl⟩ := Option.map_eq_some_iff.mp hdd
      obtain ⟨ax, rfl, hX⟩ := dp_tupI hdx
      have mc : cc ∈ w.cr := List.mem_of_getElem? hcc
      have lc := h4 cc mc
      obtain ⟨c0, c1, c2, c3, rfl⟩ : ∃ c0 c1 c2 c3, cc = [c0, c1, c2, c3] := by
        match cc, lc with
        | [c0, c1, c2, c3], _ => exact ⟨c0, c1, c2, c3, rfl⟩
      have hX5 := seqT_same (s12.trans s5) hX
      have mk : ∀ x, x ∈ [c0, c1, c2, c3] → x ∈ keys w := fun x hx => (mem_keys w _).mpr (List.mem_append_left _ (List.mem_flatten.mpr ⟨_, mc, hx⟩))
      refine ⟨ax, _, rfl, hX5, rfl, _, _, rfl, _, _, rfl, _, _, rfl, _, _, rfl, rfl, ?_⟩
      -- row = [0] * len(columns)
      refine ⟨(by show 1 ≤ sizeLine; decide), fun q1 nq1 => ?_⟩
      have hq1 : (upd H6 q1 (.lst [.int 0])) q1 = some (.lst [.int 0]) := upd_same
      have s6 := same_upd (o := .lst [.int 0]) nq1
      generalize upd H6 q1 (.lst [.int 0]) = H7 at s6 hq1
      have hc7 := s6 _ _ (s5 _ _ hcl)
      refine ⟨.ref p4, rfl, p4, _, rfl, .inl (.inl (.inl hc7)), q1, _, _, rfl, rfl, hq1, ?_, ?_, ?_, fun q2 nq2 => ?_⟩
      · rw [List.length_map]; omega
      · rw [List.length_map]; omega
      · rw [List.length_map]
        refine Nat.le_of_lt (mill ?_)
        simp
        omega
      have erow : (List.replicate (((colsOf w).map V.int).length : Int).toNat [V.int 0]).flatten = (List.replicate (colsOf w).length (0 : Int)).map V.int := by
        rw [List.length_map, Int.toNat_natCast, List.map_replicate]
        generalize (colsOf w).length = n
        induction n with
        | zero => rfl
        | succ n ih => rw [List.replicate_succ, List.replicate_succ, List.flatten_cons, ih]; rfl
      rw [erow]
      have s7 := same_upd (o := .lst ((List.replicate (colsOf w).length (0 : Int)).map V.int)) nq2
      have hq2 : (upd H7 q2 (.lst ((List.replicate (colsOf w).length (0 : Int)).map V.int))) q2 = some (.lst ((List.replicate (colsOf w).length (0 : Int)).map V.int)) := upd_same
      generalize upd H7 q2 (.lst ((List.replicate (colsOf w).length (0 : Int)).map V.int)) = H8 at s7 hq2
      have s68 := s6.trans s7
      -- the three
      refine ⟨.int c0, rfl, (by show 2 ≤ sizeLine; decide), fun t1 n1 => ⟨.int c2, rfl, (by show 2 ≤ sizeLine; decide), fun t2 n2 => ⟨.int c1, rfl, 2, rfl, (by show 2 ≤ sizeLine; decide), fun t3 n3 => ⟨(by show 3 ≤ sizeLine; decide), fun t4 n4 => ?_⟩⟩⟩⟩
      have s9 : Same H8 (upd (upd (upd (upd H8 t1 (.tup [.int c0, .int 1])) t2 (.tup [.int c2, .int 1])) t3 (.tup [.int c1, .int (-2)])) t4 (.tup [.ref t1, .ref t2, .ref t3])) := same_new (same_new (same_new (same_upd n1) n2) n3) n4
      have ht4 : (upd (upd (upd (upd H8 t1 (.tup [.int c0, .int 1])) t2 (.tup [.int c2, .int 1])) t3 (.tup [.int c1, .int (-2)])) t4 (.tup [.ref t1, .ref t2, .ref t3])) t4 = some (.tup [.ref t1, .ref t2, .ref t3]) := upd_same
      have hsp : SpL (upd (upd (upd (upd H8 t1 (.tup [.int c0, .int 1])) t2 (.tup [.int c2, .int 1])) t3 (.tup [.int c1, .int (-2)])) t4 (.tup [.ref t1, .ref t2, .ref t3])) [.ref t1, .ref t2, .ref t3] [(c0, 1), (c2, 1), (c1, -2)] := by
        refine .cons ⟨t1, rfl, ?_⟩ (.cons ⟨t2, rfl, ?_⟩ (.cons ⟨t3, rfl, ?_⟩ .nil))
        · exact same_new (same_new (same_upd n2) n3) n4 _ _ upd_same
        · exact same_new (same_upd n3) n4 _ _ upd_same
        · exact same_upd n4 _ _ upd_same
      generalize upd (upd (upd (upd H8 t1 (.tup [.int c0, .int 1])) t2 (.tup [.int c2, .int 1])) t3 (.tup [.int c1, .int (-2)])) t4 (.tup [.ref t1, .ref t2, .ref t3]) = H9 at s9 ht4 hsp
      have s69 := s68.trans s9
      have hq9 := s9 _ _ hq2
      have n6q : H6 q2 = none := s6.free nq2
      refine ⟨t4, rfl, ⟨_, .inl (.inl ht4)⟩, ?_⟩
      refine for_it walk_tup (fun j σ Ha => ∃ ya yb yc, σ = [some (.ref aw), some (.int m), some (.ref d), some (.ref p4), some (.ref pr), some (.int c0), some (.int c1), some (.int c2), some (.int c3), some (.ref q2), ya, yb, yc] ∧ Same H6 Ha ∧ KT H9 Ha ∧ Ha q2 = some (.lst (((([(c0, 1), (c2, 1), (c1, -2)] : List Spot).take j).foldl (fun r p => addAt r ((colsOf w).idxOf (groupF w p.1)) p.2 m) (List.replicate (colsOf w).length 0)).map V.int)))
        ⟨_, _, _, rfl, s69, .refl, hq9⟩ (fun j σ Ha _ ⟨_, _, _, _, _, k, _⟩ => .inl (.inl (k.tup _ _ ht4))) ?_ ?_
      · rintro j x σ Ha Hb hj ⟨ua, ub, uc, rfl, sa, ka, qa⟩ ⟨rfl, hx⟩
        obtain ⟨sp, hsp2, hspx⟩ := Paired.at1 hsp hx
        obtain ⟨tx, rfl, htx⟩ := hspx.kt ka
        have msp : sp.1 ∈ keys w := by
          refine mk _ ?_
          have hm := List.mem_of_getElem? hsp2
          simp only [List.mem_cons, List.not_mem_nil, or_false] at hm
          rcases hm with rfl | rfl | rfl
          all_goals simp
        refine ⟨tx, _, rfl, .inl (.inl htx), rfl, _, _, rfl, _, _, rfl, rfl, ?_⟩
        have hda := sa _ _ (s5 _ _ (s2 _ _ hd))
        have hca := sa _ _ (s5 _ _ hcl)
        have mcol : groupF w sp.1 ∈ colsOf w := (cols_mem w _).mpr (List.mem_map.mpr ⟨_, msp, rfl⟩)
        have hix : (colsOf w).idxOf (groupF w sp.1) < (colsOf w).length := List.idxOf_lt_length_iff.mpr mcol
        generalize hrow : ((([(c0, 1), (c2, 1), (c1, -2)] : List Spot).take j).foldl (fun r p => addAt r ((colsOf w).idxOf (groupF w p.1)) p.2 m) (List.replicate (colsOf w).length 0)) = row at qa
        have lrow : row.length = (colsOf w).length := by
          rw [← hrow]
          exact addAts_len (fun x => (colsOf w).idxOf (groupF w x)) m 0 _ _
        have hz : ((colsOf w).map V.int)[(colsOf w).idxOf (groupF w sp.1)]? = some (.int (groupF w sp.1)) := by
          rw [List.getElem?_map, List.getElem?_eq_getElem hix, List.getElem_idxOf hix]
          rfl
        have hnz : ∀ (l : Nat) (z' : V), l < (colsOf w).idxOf (groupF w sp.1) → ((colsOf w).map V.int)[l]? = some z' → eqV z' (.int (groupF w sp.1)) = false := by
          intro l z' hl h
          rw [List.getElem?_map] at h
          obtain ⟨u, hu2, rfl⟩ := Option.map_eq_some_iff.mp h
          show (u == groupF w sp.1) = false
          refine beq_eq_false_iff_ne.mpr fun e => ?_
          have e2 : (colsOf w)[(colsOf w).idxOf (groupF w sp.1)]? = some (groupF w sp.1) := by rw [List.getElem?_eq_getElem hix, List.getElem_idxOf hix]
          rw [e] at hu2
          have := nd_ix ((cols_rising w).imp fun h => by omega) hu2 e2
          omega
        have hfl : ((colsOf w).map V.int).all flatV = true := by
          rw [List.all_eq_true]
          intro x hx
          obtain ⟨u, _, rfl⟩ := List.mem_map.mp hx
          rfl
        refine ⟨.ref p4, rfl, .inl ⟨rfl, _, .inl (.inl hca)⟩, .ref d, rfl, _, rfl, d, _, rfl, gK_dget hda msp, p4, _, _, (colsOf w).idxOf (groupF w sp.1), _, rfl, rfl, .inl (.inl hca), rfl, hfl, hz, beq_self_eq_true (groupF w sp.1), hnz, ?_⟩
        have hat : (row.map V.int)[(colsOf w).idxOf (groupF w sp.1)]? = some (.int (row.getD ((colsOf w).idxOf (groupF w sp.1)) 0)) := by
          rw [List.getElem?_map, List.getD_eq_getElem?_getD, List.getElem?_eq_getElem (by omega)]
          rfl
        refine ⟨.ref q2, rfl, _, rfl, q2, _, _, _, rfl, rfl, .inl (.inl qa), atI_nat hat, _, rfl, _, _, rfl, rfl, _, rfl, _, m, rfl, rfl, hm, .ref q2, rfl, _, rfl, q2, _, _, (colsOf w).idxOf (groupF w sp.1), rfl, rfl, qa, ixN_nat (by rw [List.length_map]; omega), ?_⟩
        refine ⟨_, _, _, rfl, same_over sa n6q, ka.trans (.lst qa), ?_⟩
        rw [upd_same, List.take_add_one, hsp2, List.foldl_append, hrow, ← List.map_set]
        rfl
      · rintro σ Ha ⟨ua, ub, uc, rfl, sa, ka, qa⟩
        have hpa := sa _ _ h5
        have eqr : q2 ≠ pr := fun z => by
          rw [z, h5] at n6q
          cases n6q
        have lx : xs.length ≤ 1000 := by
          rw [Paired.length hx5, List.length_map, List.length_take]
          have := hS.cr
          omega
        refine ⟨_, rfl, .inl ⟨rfl, _, .inl (.inl hpa)⟩, _, rfl, pr, xs, _, rfl, rfl, hpa, mill (by omega), ?_⟩
        refine ⟨_, _, _, _, _, _, _, _, _, rfl, same_over (s5.trans sa) nr, upd_same, ?_⟩
        rw [List.take_add_one, hcc, List.map_append]
        refine Paired.app ?_ (.cons ⟨q2, rfl, ?_⟩ .nil)
        · refine Paired.mapP (Paired.mem hx5) fun x r ⟨⟨a, e, h⟩, hm2⟩ => ⟨a, e, ?_⟩
          have nea : a ≠ pr := fun z => by
            rw [z, h5] at h
            have h2 := HO.lst.inj (Option.some.inj h)
            rw [h2, e] at hm2
            obtain ⟨n, _, h3⟩ := List.mem_map.mp hm2
            cases h3
          rw [upd_ne nea]
          exact sa _ _ h
        · rw [upd_ne eqr, qa]
          rfl
    · rintro σ H5 ⟨y5, y6, y7, y8, y9, ya, yb, yc, xs, rfl, s5, h5, hx5⟩
      rw [ec, List.take_length] at hx5
      refine ⟨_, rfl, .ref p4, rfl, p4, _, rfl, .inl (.inl (.inl (s5 _ _ hcl))), (by show 2 ≤ sizeLine; decide), fun t nt => ?_⟩
      have s6 := same_upd (o := .tup [.ref pr, .int ((colsOf w).map V.int).length]) nt
      refine q _ t pr (s12.trans (s5.trans s6)) (s12.free nr) ?_ ⟨xs, s6 _ _ h5, Paired.mapP hx5 fun _ _ ⟨a, e, h⟩ => ⟨a, e, s6 _ _ h⟩⟩
      rw [upd_same, List.length_map]
end
end TH
end

section
set_option Elab.async false
set_option linter.all false
set_option maxRecDepth 100000
namespace TH
open PySem PySem.Spec PyProof.Rows L2

/-! ### least_entry -/
abbrev sLeast : Stmt := topS 33
theorem scLe : FnScope ["rows", "best", "at", "row", "column", "number"] ["rows"] (defScope sLeast) := ⟨rfl, rfl, rfl, by decide +kernel, rfl, by decide +kernel, by decide +kernel⟩
/-- the place of a least one of L that is not nought -/
def BestOn (H : Hp) (v : V) (rows : List (List Int)) (L : List Int) : Prop := (v = .non ∧ ∀ n ∈ L, n = 0) ∨ ∃ (i j : Nat) (r : List Int) (e : Int), SpV H v ((i : Int), (j : Int)) ∧ rows[i]? = some r ∧ r[j]? = some e ∧ e ≠ 0 ∧ ∀ n ∈ L, n ≠ 0 → e ≤ n
theorem BestOn.same {H H' : Hp} {v : V} {rows : List (List Int)} {L : List Int} (s : Same H H') (h : BestOn H v rows L) : BestOn H' v rows L := by
  rcases h with h | ⟨i, j, r, e, h1, h2⟩
  · exact .inl h
  · exact .inr ⟨i, j, r, e, h1.same s, h2⟩
def spLeast (K : PySem.W.Frag) : Sp := fun vs H Q _ => ∃ p rows, vs = [.ref p] ∧ RowsD H p rows ∧ ∀ H' v, Same H H' → BestOn H' v rows rows.flatten → Q v H'
theorem RowsD.same {H H' : Hp} {p : Addr} {rows : List (List Int)} (s : Same H H') (h : RowsD H p rows) : RowsD H' p rows := let ⟨xs, h1, h2⟩ := h; ⟨xs, s _ _ h1, Paired.mapP h2 fun _ _ ⟨a, e, h⟩ => ⟨a, e, s _ _ h⟩⟩
section
variable {P : Program} {W0 : World} {K : PySem.W.Frag} {mg : Str → Option Value} {base : Heap}
theorem ok_least (F : Fn K mg "least_entry" sLeast ["rows"]) (g : Gb mg) : Ok P W0 K mg base 1 "least_entry" ["rows"] (spLeast K) := by
  obtain ⟨f, fd, FF, mm, b⟩ := F
  refine ⟨f, fd, ?_, mm, FF.kp, b⟩
  refine FF.ok scLe (fun vs H Q E h => ?_) (fun cdv A outer s H vs Q E hr h => ?_)
  · obtain ⟨p, rows, rfl, _⟩ := h
    rfl
  · obtain ⟨p, rows, rfl, ⟨xs, hp, hx⟩, q⟩ := h
    refine ⟨_, (pss_cons (ps_set (i := 1) scLe.nd rfl (.inl rfl) pe_non)
 (pss_cons (ps_for PassesOwn.never rfl (pi_enum (by rfl) g.enumerate (pa_cons (pv 0) pa_nil)) (pg_tup rfl (pgs_cons (pg_name (i := 2) scLe.nd rfl (.inl rfl)) (pgs_cons (pg_name (i := 3) scLe.nd rfl (.inl rfl)) pgs_nil)))
 (pss_one (ps_for PassesOwn.never rfl (pi_enum (by rfl) g.enumerate (pa_cons (pv 3) pa_nil)) (pg_tup rfl (pgs_cons (pg_name (i := 4) scLe.nd rfl (.inl rfl)) (pgs_cons (pg_name (i := 5) scLe.nd rfl (.inl rfl)) pgs_nil)))
 (pss_one (ps_if (PW.pt (pw_and (pt_cmpR op_ne (pv 5) pe_int (nomark _)) (pw_and1 (PW.pt (pw_or (pt_cmpR op_isN (pv 1) pe_non (nomark _)) (pw_or1 (pt_cmpR op_lt (pv 5) (pe_ix ix_list (pe_ix ix_list (pv 0) (pe_ix ix_tup (pv 1) pe_int (fun _ _ => rfl)) (fun _ _ => rfl)) (pe_ix ix_tup (pv 1) pe_int (fun _ _ => rfl)) (fun _ _ => rfl)) (nomark _)))))))) (pss_one (ps_set (i := 1) scLe.nd rfl (.inl rfl) (pe_tup (pa_cons (pv 2) (pa_cons (pv 4) pa_nil))))) pss_nil)))))
 (pss_one (ps_ret (pv 1))))), ?_⟩
    refine ⟨.ref p, rfl, p, xs, rfl, .inl (.inl hp), ?_⟩
    have lx := Paired.length hx
    refine for_it walk_enum (fun i σ Ha => ∃ v y2 y3 y4 y5, σ = [some (.ref p), some v, y2, y3, y4, y5] ∧ Same H Ha ∧ BestOn Ha v rows (rows.take i).flatten)
      ⟨_, _, _, _, _, rfl, .refl _, .inl ⟨rfl, fun n h => by simp at h⟩⟩ (fun i σ Ha _ ⟨_, _, _, _, _, _, s, _⟩ => .inl (.inl (s _ _ hp))) ?_ ?_
    · rintro i x σ Ha Hb hi ⟨v, y2, y3, y4, y5, rfl, sa, ba⟩ ⟨T, x1, x2, rfl, nT, rfl, h1, h2⟩
      have h1 : V.int (i : Nat) = x1 := Option.some.inj h1
      subst h1
      obtain ⟨r, hr2, ra, rfl, hra⟩ := Paired.at1 hx h2
      have sT := same_upd (o := .tup [.int (i : Nat), .ref ra]) nT
      have htT : (upd Ha T (.tup [.int (i : Nat), .ref ra])) T = some (.tup [.int (i : Nat), .ref ra]) := upd_same
      generalize upd Ha T (.tup [.int (i : Nat), .ref ra]) = Hc at sT htT
      refine ⟨T, _, rfl, .inl (.inl htT), rfl, _, _, rfl, _, _, rfl, rfl, ?_⟩
      have sc := sa.trans sT
      refine ⟨.ref ra, rfl, ra, _, rfl, .inl (.inl (sc _ _ hra)), ?_⟩
      refine for_it walk_enum (fun j σ Hd => ∃ v y4 y5, σ = [some (.ref p), some v, some (.int (i : Nat)), some (.ref ra), y4, y5] ∧ Same H Hd ∧ BestOn Hd v rows ((rows.take i).flatten ++ r.take j))
        ⟨_, _, _, rfl, sc, by rw [List.take_zero, List.append_nil]; exact ba.same sT⟩ (fun j σ Hd _ ⟨_, _, _, _, s, _⟩ => .inl (.inl (s _ _ hra))) ?_ ?_
      · rintro j x σ Hd He hj ⟨v, z4, z5, rfl, sd, bd⟩ ⟨T2, x1, x2, rfl, nT2, rfl, h3, h4⟩
        have h3 : V.int (j : Nat) = x1 := Option.some.inj h3
        subst h3
        obtain ⟨n, hn, rfl⟩ := ints_at h4
        have sT2 := same_upd (o := .tup [.int (j : Nat), .int n]) nT2
        have htT2 : (upd Hd T2 (.tup [.int (j : Nat), .int n])) T2 = some (.tup [.int (j : Nat), .int n]) := upd_same
        generalize upd Hd T2 (.tup [.int (j : Nat), .int n]) = Hf at sT2 htT2
        refine ⟨T2, _, rfl, .inl (.inl htT2), rfl, _, _, rfl, _, _, rfl, rfl, ?_⟩
        have sf := sd.trans sT2
        have bf := bd.same sT2
        have ej : r.take (j + 1) = r.take j ++ [n] := by rw [List.take_add_one, hn]; rfl
        -- a new best
        have keep : BestOn Hf v rows ((rows.take i).flatten ++ r.take (j + 1)) → ∃ v' y4 y5, [some (V.ref p), some v, some (V.int (i : Nat)), some (V.ref ra), some (V.int (j : Nat)), some (V.int n)] = [some (.ref p), some v', some (.int (i : Nat)), some (.ref ra), y4, y5] ∧ Same H Hf ∧ BestOn Hf v' rows ((rows.take i).flatten ++ r.take (j + 1)) := fun h => ⟨_, _, _, rfl, sf, h⟩
        have new : n ≠ 0 → (∀ k ∈ (rows.take i).flatten ++ r.take j, k ≠ 0 → n ≤ k) → ∀ T3, Hf T3 = none → ∃ v' y4 y5, [some (V.ref p), some (V.ref T3), some (V.int (i : Nat)), some (V.ref ra), some (V.int (j : Nat)), some (V.int n)] = [some (.ref p), some v', some (.int (i : Nat)), some (.ref ra), y4, y5] ∧ Same H (upd Hf T3 (.tup [.int (i : Nat), .int (j : Nat)])) ∧ BestOn (upd Hf T3 (.tup [.int (i : Nat), .int (j : Nat)])) v' rows ((rows.take i).flatten ++ r.take (j + 1)) := by
          intro hn0 hle T3 n3
          refine ⟨_, _, _, rfl, same_new sf n3, .inr ⟨i, j, r, n, ⟨T3, rfl, upd_same⟩, hr2, hn, hn0, fun k hk hk0 => ?_⟩⟩
          rw [ej, ← List.append_assoc, List.mem_append] at hk
          rcases hk with hk | hk
          · exact hle k hk hk0
          · rw [List.mem_singleton] at hk
            omega
        refine ⟨_, rfl, rfl, _, rfl, ite2 (fun e => ?_) (fun e => ?_)⟩
        · have e : n ≠ 0 := fun z => by
            rw [z] at e
            simp at e
          refine ⟨_, rfl, rfl, _, rfl, ?_⟩
          rcases bf with ⟨rfl, hz⟩ | ⟨i2, j2, r2, e2, ⟨ab, rfl, hab⟩, hi2, hj2, he0, hle⟩
          · refine iteT (iteT ⟨.int (i : Nat), rfl, _, rfl, (by show 2 ≤ sizeLine; decide), fun T3 n3 => new e (fun k hk hk0 => absurd (hz k hk) hk0) T3 n3⟩)
          · refine iteF ?_
            obtain ⟨x2, hx2, a2, rfl, ha2⟩ := Paired.at2 hx hi2
            have hB : SqT K Hf ab [.int (i2 : Nat), .int (j2 : Nat)] := .inl (.inl hab)
            have h2 : (r2.map V.int)[j2]? = some (.int e2) := by rw [List.getElem?_map, hj2]; rfl
            refine ⟨_, rfl, .ref p, rfl, .ref ab, rfl, ab, _, _, _, rfl, rfl, hB, atI_nat (j := 0) rfl, p, xs, _, _, rfl, rfl, .inl (.inl (sf _ _ hp)), atI_nat hx2, .ref ab, rfl, ab, _, _, _, rfl, rfl, hB, atI_nat (j := 1) rfl, a2, _, _, _, rfl, rfl, .inl (.inl (sf _ _ ha2)), atI_nat h2, _, _, rfl, rfl, _, rfl, ite2 (fun c => ?_) (fun c => ?_)⟩
            · have c := of_decide_eq_true c
              refine ⟨.int (i : Nat), rfl, _, rfl, (by show 2 ≤ sizeLine; decide), fun T3 n3 => new e (fun k hk hk0 => ?_) T3 n3⟩
              have := hle k hk hk0
              omega
            · have c : ¬ n < e2 := fun z => c (decide_eq_true z)
              refine keep (.inr ⟨i2, j2, r2, e2, ⟨ab, rfl, hab⟩, hi2, hj2, he0, fun k hk hk0 => ?_⟩)
              rw [ej, ← List.append_assoc, List.mem_append] at hk
              rcases hk with hk | hk
              · exact hle k hk hk0
              · rw [List.mem_singleton] at hk
                omega
        · have e : n = 0 := by
            by_cases y : n = 0
            · exact y
            · refine absurd ?_ e
              have : ¬ V.int n = V.int 0 := fun h => y (V.int.inj h)
              simp [this]
          refine iteF (keep ?_)
          rcases bf with ⟨h1, hz⟩ | ⟨i2, j2, r2, e2, h1, hi2, hj2, he0, hle⟩
          · refine .inl ⟨h1, fun k hk => ?_⟩
            rw [ej, ← List.append_assoc, List.mem_append] at hk
            rcases hk with hk | hk
            · exact hz k hk
            · rw [List.mem_singleton] at hk
              omega
          · refine .inr ⟨i2, j2, r2, e2, h1, hi2, hj2, he0, fun k hk hk0 => ?_⟩
            rw [ej, ← List.append_assoc, List.mem_append] at hk
            rcases hk with hk | hk
            · exact hle k hk hk0
            · rw [List.mem_singleton] at hk
              omega
      · rintro σ Hd ⟨v, z4, z5, rfl, sd, bd⟩
        rw [List.length_map, List.take_length] at bd
        refine ⟨_, _, _, _, _, rfl, sd, ?_⟩
        rw [List.take_add_one, hr2]
        show BestOn Hd v rows ((rows.take i ++ [r]).flatten)
        rw [List.flatten_append, List.flatten_singleton]
        exact bd
    · rintro σ Ha ⟨v, y2, y3, y4, y5, rfl, sa, ba⟩
      rw [lx, List.take_length] at ba
      exact ⟨v, rfl, q Ha v sa ba⟩
end
end TH
end

section
set_option Elab.async false
set_option linter.all false
set_option maxRecDepth 100000
namespace TH
open PySem PySem.Spec PyProof.Rows L2

/-! ### cleared -/
abbrev sCleared : Stmt := topS 34
theorem scClr : FnScope ["rows", "at", "column", "m", "head", "empty", "number", "often", "one", "other"] ["rows", "at", "column", "m"] (defScope sCleared) := ⟨rfl, rfl, rfl, by decide +kernel, rfl, by decide +kernel, by decide +kernel⟩
structure Sized (rows : List (List Int)) (k : Nat) (m : Int) : Prop where
  len : ∀ r ∈ rows, r.length = k
  lo : ∀ r ∈ rows, ∀ n ∈ r, 0 ≤ n ∧ n < m
def EmptyAt (rows : List (List Int)) (at_ col n : Nat) : Prop := ∀ i, i < n → i ≠ at_ → (rows.getD i []).getD col 0 = 0
def spCleared (K : PySem.W.Frag) : Sp := fun vs H Q _ => ∃ p rows at_ col k m, vs = [.ref p, .int (at_ : Nat), .int (col : Nat), .int m] ∧ RowsD H p rows ∧ rows.length ≤ 1000 ∧ k ≤ 1000 ∧ Sized rows k m ∧ at_ < rows.length ∧ col < k ∧ 0 < (rows.getD at_ []).getD col 0 ∧ 0 < m ∧ m ≤ 1000 ∧
  ∀ H' b, KT H H' → (∀ c o, c ≠ p → H c = some o → H' c = some o) → RowsD H' p (clearN rows at_ col m rows.length) → (b = true ↔ EmptyAt (clearN rows at_ col m rows.length) at_ col rows.length) → Q (.bl b) H'
theorem clearN_len (rows : List (List Int)) (at_ col : Nat) (m : Int) : ∀ n, (clearN rows at_ col m n).length = rows.length
  | 0 => rfl
  | n + 1 => by
    unfold clearN
    split
    · exact clearN_len rows at_ col m n
    · rw [List.length_set]
      exact clearN_len rows at_ col m n
theorem subRow_lo {k m : Int} (hm : 0 < m) : ∀ {r head : List Int}, ∀ n ∈ subRow k r head m, 0 ≤ n ∧ n < m
  | [], _, n, hn => by simp [subRow] at hn
  | _ :: _, [], n, hn => by simp [subRow] at hn
  | a :: r, b :: head, n, hn => by
    rcases List.mem_cons.mp (show n ∈ (a - k * b) % m :: subRow k r head m from hn) with z | z
    · rw [z]
      exact ⟨Int.emod_nonneg _ (by omega), Int.emod_lt_of_pos _ hm⟩
    · exact subRow_lo hm n z
theorem clearN_sized {rows : List (List Int)} {at_ col k : Nat} {m : Int} (h : Sized rows k m) (hat : at_ < rows.length) (hm : 0 < m) : ∀ n, Sized (clearN rows at_ col m n) k m
  | 0 => h
  | n + 1 => by
    have ih := clearN_sized (col := col) h hat hm n
    unfold clearN
    split
    · exact ih
    · have hh : (rows.getD at_ []).length = k := by
        rw [List.getD_eq_getElem?_getD, List.getElem?_eq_getElem hat]
        exact h.len _ (List.getElem_mem _)
      by_cases hn : n < (clearN rows at_ col m n).length
      · have hr : ((clearN rows at_ col m n).getD n []).length = k := by
          rw [List.getD_eq_getElem?_getD, List.getElem?_eq_getElem hn]
          exact ih.len _ (List.getElem_mem _)
        refine ⟨fun r hr2 => ?_, fun r hr2 => ?_⟩
        · rcases List.mem_or_eq_of_mem_set hr2 with z | z
          · exact ih.len r z
          · rw [z]
            unfold subRow
            rw [List.length_zipWith, hr, hh]
            omega
        · rcases List.mem_or_eq_of_mem_set hr2 with z | z
          · exact ih.lo r z
          · rw [z]
            exact subRow_lo hm
      · rw [List.set_eq_of_length_le (by omega)]
        exact ih
theorem rowNe {H : Hp} {p a : Addr} {xs : List V} {rows : List (List Int)} {r : List Int} (hp : H p = some (.lst xs)) (_ : Paired (RowV H) xs rows) (hm : V.ref a ∈ xs) (ha : H a = some (.lst (r.map V.int))) : a ≠ p := by
  intro z
  rw [z, hp] at ha
  rw [HO.lst.inj (Option.some.inj ha)] at hm
  obtain ⟨n, _, h3⟩ := List.mem_map.mp hm
  cases h3
theorem Paired.set {α β : Type} {F : α → β → Prop} {x : α} {y : β} (h : F x y) : ∀ {l : List α} {m : List β} (i : Nat), Paired F l m → Paired F (l.set i x) (m.set i y)
  | _, _, _, .nil => .nil
  | _, _, 0, .cons _ t => .cons h t
  | _, _, i + 1, .cons r t => .cons r (Paired.set h i t)
section
variable {P : Program} {W0 : World} {K : PySem.W.Frag} {mg : Str → Option Value} {base : Heap}
theorem ok_cleared (F : Fn K mg "cleared" sCleared ["rows", "at", "column", "m"]) (g : Gb mg) : Ok P W0 K mg base 1 "cleared" ["rows", "at", "column", "m"] (spCleared K) := by
  obtain ⟨f, fd, FF, mm, b⟩ := F
  refine ⟨f, fd, ?_, mm, FF.kp, b⟩
  refine FF.ok scClr (fun vs H Q E h => ?_) (fun cdv A outer s H vs Q E hr h => ?_)
  · obtain ⟨p, rows, at_, col, k, m, rfl, _⟩ := h
    rfl
  · obtain ⟨p, rows, at_, col, k, m, rfl, hR, hl, hk, hS, hat, hcol, hpos, hm, hm1, q⟩ := h
    refine ⟨_, (pss_cons (ps_set (i := 4) scClr.nd rfl (.inl rfl) (pe_ix ix_list (pv 0) (pv 1) (fun _ _ => rfl)))
 (pss_cons (ps_set (i := 5) scClr.nd rfl (.inl rfl) pe_bl)
 (pss_cons (ps_for PassesOwn.never rfl (pi_range1 (by rfl) g.range (pa_cons (pe_callB (r := rLenSeq K) call_lenK (by rfl) g.len PySem.boot_len (pa_cons (pv 0) pa_nil)) pa_nil)) (pg_name (i := 6) scClr.nd rfl (.inl rfl))
 (pss_one (ps_if (pt_cmpR op_ne (pv 6) (pv 1) (nomark _)) (pss_cons (ps_set (i := 7) scClr.nd rfl (.inr rfl) (pe_op op_fdiv (pe_ix ix_list (pe_ix ix_list (pv 0) (pv 6) (fun _ _ => rfl)) (pv 2) (fun _ _ => rfl)) (pe_ix ix_list (pv 4) (pv 2) (fun _ _ => rfl))))
 (pss_cons (ps_asg (pe_lc (own := [("one", 8), ("other", 9)]) (g := (gTup K 2 (gCons (gName 8) (gCons (gName 9) gNil)))) (tt := tYes) (te := (tOp _ (tOp _ (tVar 8) (tOp _ (tVar 7) (tVar 9))) (tVar 3))) rfl scClr.nd (pi_zip (by rfl) g.zip (pa_cons (pe_ix ix_list (pv 0) (pv 6) (fun _ _ => rfl)) (pa_cons (pv 4) pa_nil))) (blkOk_by (by kernel_rfl)) (fun _ _ _ _ _ => (pg_tup rfl (pgs_cons (pg_name (i := 8) scClr.nd rfl (.inl rfl)) (pgs_cons (pg_name (i := 9) scClr.nd rfl (.inl rfl)) pgs_nil)))) (fun _ _ _ _ _ => pts_nil) (fun _ _ _ _ _ => (pe_op op_mod (pe_op op_sub (pv 8) (pe_op op_mul (pv 7) (pv 9))) (pv 3)))) (pg_sub (pv 0) (pv 6) set_list))
 (pss_one (ps_set (i := 5) scClr.nd rfl (.inl rfl) (pe_and (pv 5) (pe_one (pe_cmpR op_eq (pe_ix ix_list (pe_ix ix_list (pv 0) (pv 6) (fun _ _ => rfl)) (pv 2) (fun _ _ => rfl)) pe_int (nomark _)))))))) pss_nil)))
 (pss_one (ps_ret (pv 5)))))), ?_⟩
    obtain ⟨xs, hp, hx⟩ := hR
    have lx := Paired.length hx
    have hh : rows[at_]? = some (rows.getD at_ []) := by rw [List.getD_eq_getElem?_getD, List.getElem?_eq_getElem hat]; rfl
    generalize hhead : rows.getD at_ [] = head at hh hpos
    obtain ⟨x0, hx0, ah, rfl, hah⟩ := Paired.at2 hx hh
    have lhead : head.length = k := hS.len _ (List.mem_of_getElem? hh)
    refine ⟨.ref p, rfl, _, rfl, p, xs, _, _, rfl, rfl, .inl (.inl hp), atI_nat hx0, ?_⟩
    refine ⟨.ref p, rfl, p, xs, rfl, .inl (.inl (.inl hp)), _, rfl, (by omega), (by omega), ?_⟩
    have eph : ah ≠ p := rowNe hp hx (List.mem_of_getElem? hx0) hah
    refine for_range (fun i σ Ha => ∃ bb y6 y7 y8 y9, σ = [some (.ref p), some (.int (at_ : Nat)), some (.int (col : Nat)), some (.int m), some (.ref ah), some (.bl bb), y6, y7, y8, y9] ∧ KT H Ha ∧ (∀ c o, c ≠ p → H c = some o → Ha c = some o) ∧ RowsD Ha p (clearN rows at_ col m i) ∧ (bb = true ↔ EmptyAt (clearN rows at_ col m i) at_ col i))
      ⟨true, none, none, none, none, rfl, .refl, fun _ _ _ h => h, ⟨xs, hp, hx⟩, by simp [EmptyAt]⟩ ?_ ?_
    · rintro i σ Ha hi ⟨bb, y6, y7, y8, y9, rfl, ka, fa, ⟨ys, hya, hy⟩, hbb⟩
      rw [Int.zero_add]
      have hi : i < rows.length := by omega
      have ly := Paired.length hy
      rw [clearN_len] at ly
      refine ⟨_, rfl, _, rfl, rfl, _, rfl, ite2 (fun e => ?_) (fun e => ?_)⟩
      · have e : i ≠ at_ := fun z => by
          rw [z] at e
          simp at e
        have hri : (clearN rows at_ col m i)[i]? = some ((clearN rows at_ col m i).getD i []) := by rw [List.getD_eq_getElem?_getD, List.getElem?_eq_getElem (by rw [clearN_len]; exact hi)]; rfl
        have eN : clearN rows at_ col m (i + 1) = (clearN rows at_ col m i).set i (subRow (oftenOf ((clearN rows at_ col m i).getD i []) head col) ((clearN rows at_ col m i).getD i []) head m) := by
          rw [clearN, if_neg e, hhead]
        have hSi := clearN_sized (col := col) hS hat hm i
        have hSi1 := clearN_sized (col := col) hS hat hm (i + 1)
        generalize hr : (clearN rows at_ col m i).getD i [] = r at hri eN
        have lr : r.length = k := hSi.len _ (List.mem_of_getElem? hri)
        obtain ⟨xi, hxi, ai, rfl, hai⟩ := Paired.at2 hy hri
        have hah2 := fa _ _ eph hah
        have er : (r.map V.int)[col]? = some (.int (r.getD col 0)) := by
          rw [List.getElem?_map, List.getD_eq_getElem?_getD, List.getElem?_eq_getElem (by omega)]
          rfl
        have eh : (head.map V.int)[col]? = some (.int (head.getD col 0)) := by
          rw [List.getElem?_map, List.getD_eq_getElem?_getD, List.getElem?_eq_getElem (by omega)]
          rfl
        have bnd : ∀ (l : List Int), (∀ n ∈ l, 0 ≤ n ∧ n < m) → ∀ j, -1 < l.getD j 0 ∧ l.getD j 0 < 1001 := fun l hl j => by
          rw [List.getD_eq_getElem?_getD]
          cases h : l[j]? with
          | none => exact ⟨by show (-1 : Int) < 0; decide, by show (0 : Int) < 1001; decide⟩
          | some n =>
            have := hl n (List.mem_of_getElem? h)
            show -1 < n ∧ n < 1001
            omega
        have br := bnd r (hSi.lo _ (List.mem_of_getElem? hri)) col
        have bh := bnd head (hS.lo _ (List.mem_of_getElem? hh)) col
        refine ⟨.ref p, rfl, _, rfl, p, ys, _, _, rfl, rfl, .inl (.inl hya), atI_nat hxi, _, rfl, ai, _, _, _, rfl, rfl, .inl (.inl hai), atI_nat er, .ref ah, rfl, _, rfl, ah, _, _, _, rfl, rfl, .inl (.inl hah2), atI_nat eh, _, _, rfl, rfl, ⟨hpos, by omega⟩, ?_⟩
        have bof : 0 ≤ oftenOf r head col ∧ oftenOf r head col ≤ 1001 := by
          unfold oftenOf
          refine ⟨Int.ediv_nonneg (by omega) (by omega), ?_⟩
          refine Int.le_trans (Int.ediv_le_self _ (by omega)) (by omega)
        refine ⟨.ref p, rfl, _, rfl, p, ys, _, _, rfl, rfl, .inl (.inl hya), atI_nat hxi, .ref ah, rfl, ai, ah, _, _, rfl, .inl (.inl hai), .inl (.inl hah2), fun D nD => ?_⟩
        have lsub : (subRow (oftenOf r head col) r head m).length = k := by
          unfold subRow
          rw [List.length_zipWith, lr, lhead]
          omega
        refine lc_it (walk_zip (n := k) (xs := r.map V.int) (ys := head.map V.int) (by rw [List.length_map, List.length_map, lr, lhead]; omega)) (fun j H4 => Same Ha H4 ∧ H4 D = some (.lst (((subRow (oftenOf r head col) r head m).take j).map V.int))) ⟨same_upd nD, upd_same⟩
          (fun j H4 _ ⟨s4, _⟩ => ⟨.inl (.inl (s4 _ _ hai)), .inl (.inl (s4 _ _ hah2))⟩) ?_ ?_
        · rintro j x H4 H5 hj ⟨s4, h4⟩ ⟨T, x1, x2, rfl, nT, rfl, h1, h2⟩
          obtain ⟨a, ha, rfl⟩ := ints_at h1
          obtain ⟨bq, hb, rfl⟩ := ints_at h2
          have sT := same_upd (o := .tup [.int a, .int bq]) nT
          have hT : (upd H4 T (.tup [.int a, .int bq])) T = some (.tup [.int a, .int bq]) := upd_same
          generalize upd H4 T (.tup [.int a, .int bq]) = H5 at sT hT
          refine ⟨T, _, rfl, .inl (.inl hT), rfl, _, _, rfl, _, _, rfl, rfl, ?_⟩
          refine ⟨rfl, _, rfl, _, rfl, _, rfl, _, bq, rfl, rfl, (show CMul (oftenOf r head col) bq from .inl ⟨by omega, by omega⟩), _, _, rfl, rfl, _, rfl, _, m, rfl, rfl, hm, _, sT _ _ h4, mill ?_, same_over (s4.trans sT) nD, ?_⟩
          · rw [List.length_map, List.length_take]
            omega
          · have e : (subRow (oftenOf r head col) r head m)[j]? = some ((a - oftenOf r head col * bq) % m) := by
              unfold subRow
              rw [List.getElem?_zipWith, ha, hb]
            rw [upd_same, List.take_add_one, e, List.map_append]
            rfl
        · rintro H4 ⟨s4, h4⟩
          rw [← lsub, List.take_length] at h4
          have h4p := s4 _ _ hya
          refine ⟨.ref p, rfl, _, rfl, p, ys, _, i, rfl, rfl, h4p, ixN_nat (by omega), ?_⟩
          have epD : p ≠ D := ne_of_none hya nD
          have k5 : KT H4 (upd H4 p (.lst (ys.set i (.ref D)))) := .lst h4p
          have hD5 : (upd H4 p (.lst (ys.set i (.ref D)))) D = some (.lst ((subRow (oftenOf r head col) r head m).map V.int)) := by rw [upd_ne epD.symm]; exact h4
          have hR5 : Paired (RowV (upd H4 p (.lst (ys.set i (.ref D))))) (ys.set i (.ref D)) (clearN rows at_ col m (i + 1)) := by
            rw [eN]
            refine Paired.set ⟨D, rfl, hD5⟩ i (Paired.mapP (Paired.mem hy) fun x r2 ⟨⟨a, ex, ha⟩, hm2⟩ => ⟨a, ex, ?_⟩)
            have nea : a ≠ p := rowNe hya hy (by rw [← ex]; exact hm2) ha
            rw [upd_ne nea]
            exact s4 _ _ ha
          have hp5 : (upd H4 p (.lst (ys.set i (.ref D)))) p = some (.lst (ys.set i (.ref D))) := upd_same
          have f5 : ∀ c o, c ≠ p → H c = some o → (upd H4 p (.lst (ys.set i (.ref D)))) c = some o := fun c o hc h => by rw [upd_ne hc]; exact s4 _ _ (fa c o hc h)
          generalize upd H4 p (.lst (ys.set i (.ref D))) = H5 at k5 hD5 hR5 hp5 f5
          have k6 := ka.trans ((KT.of s4).trans k5)
          have hset : (ys.set i (.ref D))[i]? = some (.ref D) := by rw [List.getElem?_set_self (by omega)]
          have hgi : (clearN rows at_ col m (i + 1)).getD i [] = subRow (oftenOf r head col) r head m := by
            rw [eN, List.getD_eq_getElem?_getD, List.getElem?_set_self (by rw [clearN_len]; exact hi)]
            rfl
          have es : ((subRow (oftenOf r head col) r head m).map V.int)[col]? = some (.int (((clearN rows at_ col m (i + 1)).getD i []).getD col 0)) := by
            rw [hgi, List.getElem?_map, List.getD_eq_getElem?_getD, List.getElem?_eq_getElem (by omega)]
            rfl
          have hEm : EmptyAt (clearN rows at_ col m (i + 1)) at_ col (i + 1) ↔ EmptyAt (clearN rows at_ col m i) at_ col i ∧ ((clearN rows at_ col m (i + 1)).getD i []).getD col 0 = 0 := by
            have hne : ∀ j, j ≠ i → (clearN rows at_ col m (i + 1)).getD j [] = (clearN rows at_ col m i).getD j [] := fun j hj => by
              rw [eN, List.getD_eq_getElem?_getD, List.getElem?_set_ne (fun z => hj z.symm), List.getD_eq_getElem?_getD]
            constructor
            · intro h
              refine ⟨fun j hj hn => ?_, h i (by omega) e⟩
              rw [← hne j (by omega)]
              exact h j (by omega) hn
            · rintro ⟨h1, h2⟩ j hj hn
              by_cases z : j = i
              · rw [z]
                exact h2
              · rw [hne j z]
                exact h1 j (by omega) hn
          refine ⟨_, rfl, bb, rfl, ?_⟩
          cases bb with
          | true =>
            refine iteT ⟨.ref p, rfl, _, rfl, p, _, _, _, rfl, rfl, .inl (.inl hp5), atI_nat hset, _, rfl, D, _, _, _, rfl, rfl, .inl (.inl hD5), atI_nat es, rfl, _, _, _, _, _, rfl, k6, f5, ⟨_, hp5, hR5⟩, ?_⟩
            rw [hEm, ← hbb]
            simp
          | false =>
            refine iteF ⟨false, _, _, _, _, rfl, k6, f5, ⟨_, hp5, hR5⟩, ?_⟩
            rw [hEm, ← hbb]
            simp
      · have e : i = at_ := by
          by_cases y : i = at_
          · exact y
          · refine absurd ?_ e
            have : ¬ V.int (i : Nat) = V.int (at_ : Nat) := fun h => y (by have := V.int.inj h; omega)
            simp [this]
        have eN : clearN rows at_ col m (i + 1) = clearN rows at_ col m i := by rw [clearN, if_pos e]
        refine ⟨bb, _, _, _, _, rfl, ka, fa, by rw [eN]; exact ⟨ys, hya, hy⟩, ?_⟩
        rw [eN, hbb]
        constructor
        · intro h j hj hne
          exact h j (by omega) hne
        · intro h j hj hne
          exact h j (by omega) hne
    · rintro σ Ha ⟨bb, y6, y7, y8, y9, rfl, ka, fa, hra, hbb⟩
      have e : (xs.length : Int).toNat = rows.length := by omega
      rw [e] at hra hbb
      exact ⟨_, rfl, q Ha bb ka fa hra hbb⟩
end
end TH
end

section
set_option Elab.async false
set_option linter.all false
set_option maxRecDepth 100000
namespace TH
open PySem PySem.Spec PyProof.Rows L2

/-! ### divisor, as_often -/
abbrev sDivisor : Stmt := topS 35
theorem scDv : FnScope ["one", "other"] ["one", "other"] (defScope sDivisor) := ⟨rfl, rfl, rfl, by decide +kernel, rfl, by decide +kernel, by decide +kernel⟩
def spDivisor : Sp := fun vs H Q _ => ∃ a b : Nat, vs = [.int a, .int b] ∧ Q (.int (Nat.gcd a b : Nat)) H
abbrev sOften : Stmt := topS 36
theorem scOf : FnScope ["m", "many", "found", "k"] ["m", "many"] (defScope sOften) := ⟨rfl, rfl, rfl, by decide +kernel, rfl, by decide +kernel, by decide +kernel⟩
def spOften : Sp := fun vs H Q _ => ∃ (m : Int) (n : Nat), vs = [.int m, .int (n : Int)] ∧ 0 ≤ m ∧ m ≤ 1000 ∧ n ≤ 100000 ∧ Q (.int (m ^ n)) H
section
variable {P : Program} {W0 : World} {K : PySem.W.Frag} {mg : Str → Option Value} {base : Heap}
theorem ok_divisor (F : Fn K mg "divisor" sDivisor ["one", "other"]) (g : Gb mg) : Ok P W0 K mg base 1 "divisor" ["one", "other"] spDivisor := by
  obtain ⟨f, fd, FF, mm, b⟩ := F
  refine ⟨f, fd, ?_, mm, FF.kp, b⟩
  refine FF.ok scDv (fun vs H Q E h => ?_) (fun cdv A outer s H vs Q E hr h => ?_)
  · obtain ⟨a, b, rfl, _⟩ := h
    rfl
  · obtain ⟨a, b, rfl, q⟩ := h
    refine ⟨_, (pss_cons (ps_while PassesOwn.never (pt_cmpR op_gt (pv 1) pe_int (nomark _))
 (pss_one (ps_par (i := 0) (j := 1) rfl scDv.nd rfl rfl (by decide) rfl rfl (pa_cons (pv 1) (pa_cons (pe_op op_mod (pv 0) (pv 1)) pa_nil)) (by rfl))))
 (pss_one (ps_ret (pv 0)))), ?_⟩
    refine ⟨fun n σ Ha => ∃ x y : Nat, σ = [some (.int x), some (.int y)] ∧ n = y ∧ Ha = H ∧ Nat.gcd x y = Nat.gcd a b, ⟨b, a, b, rfl, rfl, rfl, rfl⟩, ?_⟩
    rintro y σ Ha ⟨x, y', rfl, en, rfl, e⟩
    subst en
    refine ⟨_, rfl, _, _, rfl, rfl, _, rfl, ite2 (fun c => ?_) (fun c => ?_)⟩
    · have c : (0 : Int) < y := of_decide_eq_true c
      have c2 : 0 < y := by omega
      refine ⟨fun σ' H' => ∃ x2 y2 : Nat, σ' = [some (.int x2), some (.int y2)] ∧ y2 < y ∧ H' = Ha ∧ Nat.gcd x2 y2 = Nat.gcd a b, fun σ' H' ⟨x2, y2, e1, e2, e3, e4⟩ => ⟨y2, e2, x2, y2, e1, rfl, e3, e4⟩, ?_⟩
      refine ⟨_, rfl, _, rfl, _, rfl, _, _, rfl, rfl, c, ?_⟩
      refine ⟨_, _, rfl, y, x % y, rfl, Nat.mod_lt _ c2, rfl, ?_⟩
      rw [Nat.gcd_comm, ← Nat.gcd_rec, Nat.gcd_comm]
      exact e
    · have c : ¬ (0 : Int) < y := fun z => c (decide_eq_true z)
      have c2 : y = 0 := by omega
      subst c2
      rw [Nat.gcd_zero_right] at e
      subst e
      exact ⟨_, rfl, q⟩
theorem ok_often (F : Fn K mg "as_often" sOften ["m", "many"]) (g : Gb mg) : Ok P W0 K mg base 1 "as_often" ["m", "many"] spOften := by
  obtain ⟨f, fd, FF, mm, b⟩ := F
  refine ⟨f, fd, ?_, mm, FF.kp, b⟩
  refine FF.ok scOf (fun vs H Q E h => ?_) (fun cdv A outer s H vs Q E hr h => ?_)
  · obtain ⟨a, b, rfl, _⟩ := h
    rfl
  · obtain ⟨m, n, rfl, hm, hm2, hn, q⟩ := h
    refine ⟨_, (pss_cons (ps_set (i := 2) scOf.nd rfl (.inl rfl) pe_int)
 (pss_cons (ps_for PassesOwn.never rfl (pi_range1 (by rfl) g.range (pa_cons (pv 1) pa_nil)) (pg_name (i := 3) scOf.nd rfl (.inl rfl))
 (pss_one (ps_set (i := 2) scOf.nd rfl (.inl rfl) (pe_op op_mul (pv 2) (pv 0)))))
 (pss_one (ps_ret (pv 2))))), ?_⟩
    refine ⟨_, rfl, _, rfl, (by omega), (by omega), ?_⟩
    refine for_range (fun i σ Ha => ∃ y3, σ = [some (.int m), some (.int (n : Int)), some (.int (m ^ i)), y3] ∧ Ha = H) ⟨none, by rw [Int.pow_zero]; rfl, rfl⟩ ?_ ?_
    · rintro i σ Ha hi ⟨y3, rfl, rfl⟩
      refine ⟨_, rfl, _, rfl, _, m, rfl, rfl, .inr ⟨by omega, by omega⟩, _, by rw [Int.pow_succ]; rfl, rfl⟩
    · rintro σ Ha ⟨y3, rfl, rfl⟩
      exact ⟨_, rfl, q⟩
end
end TH
end

section
set_option Elab.async false
set_option linter.all false
set_option maxRecDepth 100000
namespace TH
open PySem PySem.Spec PyProof.Rows L2

/-! ### colours -/
def IsLeast (rows : List (List Int)) (i j : Nat) : Prop := ∃ r e, rows[i]? = some r ∧ r[j]? = some e ∧ e ≠ 0 ∧ ∀ n ∈ rows.flatten, n ≠ 0 → e ≤ n
def remOf (rows : List (List Int)) (i j : Nat) : List Int := (rows.getD i []).map fun n => n % (rows.getD i []).getD j 0
structure ElimSys (m : Int) (k : Nat) (Inv : List (List Int) → Nat → Int → Prop) (mu : List (List Int) → Nat) (N : Int) : Prop where
  sized : ∀ rows many found, Inv rows many found → Sized rows k m ∧ rows.length ≤ 1000
  bnd : ∀ rows many found, Inv rows many found → many ≤ 1000 ∧ CMulW found (m ^ many)
  fin : ∀ rows many found, Inv rows many found → (∀ n ∈ rows.flatten, n = 0) → found * m ^ many = N
  far : ∀ rows many found i j, Inv rows many found → IsLeast rows i j → ¬ EmptyAt (clearN rows i j m rows.length) i j rows.length → Inv (clearN rows i j m rows.length) many found ∧ mu (clearN rows i j m rows.length) < mu rows
  nul : ∀ rows many found i j, Inv rows many found → IsLeast rows i j → EmptyAt (clearN rows i j m rows.length) i j rows.length → (remOf rows i j).sum = 0 →
    1 ≤ many ∧ Inv ((clearN rows i j m rows.length).set i (remOf rows i j)) (many - 1) (found * (Nat.gcd m.toNat ((rows.getD i []).getD j 0).toNat : Nat)) ∧ mu ((clearN rows i j m rows.length).set i (remOf rows i j)) < mu rows
  red : ∀ rows many found i j, Inv rows many found → IsLeast rows i j → EmptyAt (clearN rows i j m rows.length) i j rows.length → (remOf rows i j).sum ≠ 0 →
    Inv ((clearN rows i j m rows.length).set i ((remOf rows i j).set j ((rows.getD i []).getD j 0))) many found ∧ mu ((clearN rows i j m rows.length).set i ((remOf rows i j).set j ((rows.getD i []).getD j 0))) < mu rows
abbrev sColours : Stmt := topS 37
theorem scCo : FnScope ["web", "m", "rows", "many", "found", "entry", "at", "column", "head", "least", "number"] ["web", "m"] (defScope sColours) := ⟨rfl, rfl, rfl, by decide +kernel, rfl, by decide +kernel, by decide +kernel⟩
def spColours (K : PySem.W.Frag) : Sp := fun vs H Q _ => ∃ v m w Inv mu N rg, vs = [v, .int m] ∧ Dp K H v (webD w) ∧ Small w ∧ Fours w ∧ (keys w).length < 64 ∧ 0 < m ∧ m ≤ 1000 ∧ w.rg = (rg : Nat) ∧ rg ≤ 1000 ∧
  ElimSys m (colsOf w).length Inv mu N ∧ Inv (rowsOf w m) (colsOf w).length (m ^ rg) ∧ ∀ H', Same H H' → Q (.int N) H'
theorem clearN_at (rows : List (List Int)) (a col : Nat) (m : Int) : ∀ n, (clearN rows a col m n)[a]? = rows[a]?
  | 0 => rfl
  | n + 1 => by
    unfold clearN
    split
    · exact clearN_at rows a col m n
    · rename_i h
      rw [List.getElem?_set_ne h]
      exact clearN_at rows a col m n
section
variable {P : Program} {W0 : World} {K : PySem.W.Frag} {mg : Str → Option Value} {base : Heap}
theorem ok_colours (F : Fn K mg "colours" sColours ["web", "m"]) (g : Gb mg) (O1 : Ok P W0 K mg base 3 "wants" ["web", "m"] (spWants K)) (O2 : Ok P W0 K mg base 1 "as_often" ["m", "many"] spOften) (O3 : Ok P W0 K mg base 1 "least_entry" ["rows"] (spLeast K))
    (O4 : Ok P W0 K mg base 1 "cleared" ["rows", "at", "column", "m"] (spCleared K)) (O5 : Ok P W0 K mg base 1 "divisor" ["one", "other"] spDivisor) : Ok P W0 K mg base 4 "colours" ["web", "m"] (spColours K) := by
  obtain ⟨f, fd, FF, mm, b⟩ := F
  obtain ⟨fW, dW, GW, mW, kW, bW⟩ := O1
  obtain ⟨fO, dO, GO, mO, kO, bO⟩ := O2
  obtain ⟨fL, dL, GL, mL, kL, bL⟩ := O3
  obtain ⟨fC, dC, GC, mC, kC, bC⟩ := O4
  obtain ⟨fD, dD, GD, mD, kD, bD⟩ := O5
  refine ⟨f, fd, ?_, mm, FF.kp, b⟩
  refine FF.ok scCo (fun vs H Q E h => ?_) (fun cdv A outer s H vs Q E hr h => ?_)
  · obtain ⟨v, m, w, Inv, mu, N, rg, rfl, _⟩ := h
    rfl
  · obtain ⟨v, m, w, Inv, mu, N, rg, rfl, hD, hS, h4, hk, hm, hm1, hrg, hrg2, hE, hI, q⟩ := h
    refine ⟨_, (pss_cons (ps_asg (pe_call GW (hr.mono (by decide)) (by rfl) mW kW bW .nil pass0 (pa_cons (pv 0) (pa_cons (pv 1) pa_nil))) (pg_tup rfl (pgs_cons (pg_name (i := 2) scCo.nd rfl (.inl rfl)) (pgs_cons (pg_name (i := 3) scCo.nd rfl (.inl rfl)) pgs_nil))))
 (pss_cons (ps_set (i := 4) scCo.nd rfl (.inl rfl) (pe_call GO (hr.mono (by decide)) (by rfl) mO kO bO .nil pass0 (pa_cons (pv 1) (pa_cons (pe_ix ix_tup (pv 0) pe_int (fun _ _ => rfl)) pa_nil))))
 (pss_cons (ps_set (i := 5) scCo.nd rfl (.inl rfl) (pe_call GL (hr.mono (by decide)) (by rfl) mL kL bL .nil pass0 (pa_cons (pv 2) pa_nil)))
 (pss_cons (ps_while PassesOwn.never (pt_cmpR op_notN (pv 5) pe_non (nomark _))
 (pss_cons (ps_asg (pv 5) (pg_tup rfl (pgs_cons (pg_name (i := 6) scCo.nd rfl (.inl rfl)) (pgs_cons (pg_name (i := 7) scCo.nd rfl (.inl rfl)) pgs_nil))))
 (C8.pss_cut (ps_if (pt_val (pe_call GC (hr.mono (by decide)) (by rfl) mC kC bC .nil pass0 (pa_cons (pv 2) (pa_cons (pv 6) (pa_cons (pv 7) (pa_cons (pv 1) pa_nil)))))) (pss_cons (ps_set (i := 8) scCo.nd rfl (.inl rfl) (pe_ix ix_list (pv 2) (pv 6) (fun _ _ => rfl)))
 (pss_cons (ps_set (i := 9) scCo.nd rfl (.inr rfl) (pe_ix ix_list (pv 8) (pv 7) (fun _ _ => rfl)))
 (pss_cons (ps_asg (pe_lc (own := [("number", 10)]) (g := (gName 10)) (tt := tYes) (te := (tOp _ (tVar 10) (tVar 9))) rfl scCo.nd (pi_list (pv 8)) (blkOk_by (by kernel_rfl)) (fun _ _ _ _ _ => (pg_name (i := 10) scCo.nd rfl (.inl rfl))) (fun _ _ _ _ _ => pts_nil) (fun _ _ _ _ _ => (pe_op op_mod (pv 10) (pv 9)))) (pg_sub (pv 2) (pv 6) set_list))
 (pss_one (ps_if (pt_cmpR op_eq (pe_callB (cr_sum rfl) (by rfl) g.sum (by decide +kernel) (pa_cons (pe_ix ix_list (pv 2) (pv 6) (fun _ _ => rfl)) pa_nil)) pe_int (nomark _)) (pss_cons (ps_set (i := 4) scCo.nd rfl (.inl rfl) (pe_op op_mul (pv 4) (pe_call GD (hr.mono (by decide)) (by rfl) mD kD bD .nil pass0 (pa_cons (pv 1) (pa_cons (pv 9) pa_nil)))))
 (pss_one (ps_set (i := 3) scCo.nd rfl (.inl rfl) (pe_op op_sub (pv 3) pe_int)))) (pss_one (ps_asg (pv 9) (pg_sub (pe_ix ix_list (pv 2) (pv 6) (fun _ _ => rfl)) (pv 7) set_list)))))))) pss_nil)
 (pss_one (ps_set (i := 5) scCo.nd rfl (.inl rfl) (pe_call GL (hr.mono (by decide)) (by rfl) mL kL bL .nil pass0 (pa_cons (pv 2) pa_nil)))))))
 (pss_one (ps_ret (pe_op op_mulW (pv 4) (pe_call GO (hr.mono (by decide)) (by rfl) mO kO bO .nil pass0 (pa_cons (pv 1) (pa_cons (pv 3) pa_nil)))))))))), ?_⟩
    refine ⟨v, rfl, _, rfl, v, m, w, rfl, hD, hS, h4, hk, hm, fun H1 t p s1 np ht hR => ?_⟩
    refine ⟨t, _, rfl, .inl (.inl ht), rfl, _, _, rfl, _, _, rfl, rfl, ?_⟩
    obtain ⟨aw, ac, ae, cs, rfl, hW, hC, hCs, hEn⟩ := dp_web hD
    refine ⟨_, rfl, .ref aw, rfl, aw, _, 2, _, rfl, rfl, seqT_same s1 hW, atI_nat (j := 2) rfl, m, rg, by rw [hrg]; rfl, by omega, hm1, by omega, ?_⟩
    refine ⟨.ref p, rfl, p, _, rfl, hR, fun H2 ve s2 hB => ?_⟩
    refine ⟨fun n σ Ha => ∃ rows many found ve y6 y7 y8 y9, n = mu rows ∧ σ = [some (.ref aw), some (.int m), some (.ref p), some (.int (many : Nat)), some (.int found), some ve, y6, y7, y8, y9, none] ∧ (∀ c o, c ≠ p → H1 c = some o → Ha c = some o) ∧ RowsD Ha p rows ∧ Inv rows many found ∧ BestOn Ha ve rows rows.flatten,
      ⟨mu (rowsOf w m), rowsOf w m, _, _, ve, none, none, none, none, rfl, rfl, fun c o _ h => s2 _ _ h, hR.same s2, hI, hB⟩, ?_⟩
    rintro n σ Ha ⟨rows, many, found, ve, y6, y7, y8, y9, rfl, rfl, fa, hRa, hIa, hBa⟩
    obtain ⟨hSz, hlen⟩ := hE.sized _ _ _ hIa
    obtain ⟨hmany, hmul⟩ := hE.bnd _ _ _ hIa
    refine ⟨_, rfl, rfl, _, rfl, ?_⟩
    rcases hBa with ⟨rfl, hz⟩ | ⟨i, j, r, e, ⟨av, rfl, hav⟩, hri, hrj, he0, hle⟩
    · refine iteF ?_
      refine ⟨_, rfl, _, rfl, _, rfl, m, many, rfl, by omega, hm1, by omega, _, _, rfl, rfl, hmul, ?_⟩
      have eN := hE.fin _ _ _ hIa hz
      show Q (.int (found * m ^ many)) Ha
      rw [eN]
      refine q Ha fun c o h => ?_
      have hc : c ≠ p := fun z => by
        rw [z, np] at h
        cases h
      exact fa c o hc (s1 _ _ h)
    · refine iteT ?_
      refine ⟨fun σ' H' => ∃ rows' many found ve y6 y7 y8 y9, mu rows' < mu rows ∧ σ' = [some (.ref aw), some (.int m), some (.ref p), some (.int (many : Nat)), some (.int found), some ve, y6, y7, y8, y9, none] ∧ (∀ c o, c ≠ p → H1 c = some o → H' c = some o) ∧ RowsD H' p rows' ∧ Inv rows' many found ∧ BestOn H' ve rows' rows'.flatten,
        fun σ' H' ⟨rows', many, found, ve, y6, y7, y8, y9, e0, e1, e2, e3, e4, e5⟩ => ⟨mu rows', e0, rows', many, found, ve, y6, y7, y8, y9, rfl, e1, e2, e3, e4, e5⟩, ?_⟩
      have hL : IsLeast rows i j := ⟨r, e, hri, hrj, he0, hle⟩
      have hil : i < rows.length := (List.getElem?_eq_some_iff.mp hri).1
      have hjl : j < r.length := (List.getElem?_eq_some_iff.mp hrj).1
      have mr := List.mem_of_getElem? hri
      have lr := hSz.len r mr
      have gr : rows.getD i [] = r := by rw [List.getD_eq_getElem?_getD, hri]; rfl
      have ge : r.getD j 0 = e := by rw [List.getD_eq_getElem?_getD, hrj]; rfl
      have hee := hSz.lo r mr e (List.mem_of_getElem? hrj)
      have hpos : 0 < e := by omega
      have lcols : (colsOf w).length ≤ 1000 := by
        unfold colsOf
        rw [List.length_mergeSort]
        have h1 := dedup_len ((keys w).map (groupF w)) []
        rw [List.length_nil, List.length_map] at h1
        omega
      refine ⟨_, rfl, av, _, rfl, .inl (.inl hav), rfl, _, _, rfl, _, _, rfl, rfl, ?_⟩
      -- the turn, then the next entry
      refine ⟨fun σ' H' => ∃ rows' many found y5 y6 y7 y8 y9, mu rows' < mu rows ∧ σ' = [some (.ref aw), some (.int m), some (.ref p), some (.int (many : Nat)), some (.int found), y5, y6, y7, y8, y9, none] ∧ (∀ c o, c ≠ p → H1 c = some o → H' c = some o) ∧ RowsD H' p rows' ∧ Inv rows' many found, ?_, ?_⟩
      · refine ⟨.ref p, rfl, _, rfl, _, rfl, _, rfl, p, rows, i, j, (colsOf w).length, m, rfl, hRa, hlen, lcols, hSz, hil, by omega, by rw [gr, ge]; exact hpos, hm, hm1, fun H3 bb k3 f3 hR3 hbb => ?_⟩
        refine ⟨bb, rfl, ?_⟩
        have fa3 : ∀ c o, c ≠ p → H1 c = some o → H3 c = some o := fun c o hc h => f3 c o hc (fa c o hc h)
        cases bb with
        | false =>
          refine iteF ?_
          have hne : ¬ EmptyAt (clearN rows i j m rows.length) i j rows.length := fun z => by
            have := hbb.mpr z
            cases this
          obtain ⟨hI3, hmu⟩ := hE.far _ _ _ i j hIa hL hne
          exact ⟨_, many, found, _, _, _, _, _, hmu, rfl, fa3, hR3, hI3⟩
        | true =>
          refine iteT ?_
          have hem := hbb.mp rfl
          have hat := clearN_at rows i j m rows.length
          rw [hri] at hat
          have hcl := clearN_len rows i j m rows.length
          have hNul := hE.nul _ _ _ i j hIa hL hem
          have hRed := hE.red _ _ _ i j hIa hL hem
          generalize clearN rows i j m rows.length = rows3 at *
          obtain ⟨xs, hp3, hx3⟩ := hR3
          obtain ⟨x0, hx0, ah, rfl, hah⟩ := Paired.at2 hx3 hat
          have lx := Paired.length hx3
          have hej : (r.map V.int)[j]? = some (.int e) := by rw [List.getElem?_map, hrj]; rfl
          refine ⟨.ref p, rfl, _, rfl, p, xs, _, _, rfl, rfl, .inl (.inl hp3), atI_nat hx0, ?_⟩
          refine ⟨.ref ah, rfl, _, rfl, ah, _, _, _, rfl, rfl, .inl (.inl hah), atI_nat hej, ?_⟩
          refine ⟨.ref ah, rfl, ah, rfl, ⟨_, .inl (.inl hah)⟩, fun D nD => ?_⟩
          have erem : remOf rows i j = r.map fun n => n % e := by unfold remOf; rw [gr, ge]
          refine lc_list (K := K) (a := ah) (xs := r.map V.int) (fun l H4 => Same H3 H4 ∧ H4 D = some (.lst (((remOf rows i j).take l).map V.int))) ⟨same_upd nD, upd_same⟩ (fun l H4 _ ⟨s4, _⟩ => .inl (.inl (s4 _ _ hah))) ?_ ?_
          · rintro l x H4 hx ⟨s4, h4⟩
            obtain ⟨n, hn, rfl⟩ := ints_at hx
            refine ⟨rfl, _, rfl, _, rfl, _, e, rfl, rfl, hpos, _, h4, mill ?_, same_over s4 nD, ?_⟩
            · have := (List.getElem?_eq_some_iff.mp hn).1
              rw [List.length_map, List.length_take]
              omega
            · have h5 : (remOf rows i j)[l]? = some (n % e) := by rw [erem, List.getElem?_map, hn]; rfl
              rw [upd_same, List.take_add_one, h5, List.map_append]
              rfl
          · rintro H4 ⟨s4, h4⟩
            rw [List.length_map, show r.length = (remOf rows i j).length by rw [erem, List.length_map], List.take_length] at h4
            have hp4 := s4 _ _ hp3
            have epD : p ≠ D := ne_of_none hp3 nD
            refine ⟨.ref p, rfl, _, rfl, p, xs, _, i, rfl, rfl, hp4, ixN_nat (by omega), ?_⟩
            have hp5 : (upd H4 p (.lst (xs.set i (.ref D)))) p = some (.lst (xs.set i (.ref D))) := upd_same
            have hD5 : (upd H4 p (.lst (xs.set i (.ref D)))) D = some (.lst ((remOf rows i j).map V.int)) := by rw [upd_ne epD.symm]; exact h4
            have hx5 : Paired (fun x r => ∃ a, x = .ref a ∧ a ≠ p ∧ a ≠ D ∧ (upd H4 p (.lst (xs.set i (.ref D)))) a = some (.lst (r.map V.int))) xs rows3 := by
              refine Paired.mapP (Paired.mem hx3) fun x r2 ⟨⟨a, ex, ha⟩, hm2⟩ => ?_
              have nea : a ≠ p := rowNe hp3 hx3 (by rw [← ex]; exact hm2) ha
              exact ⟨a, ex, nea, ne_of_none ha nD, by rw [upd_ne nea]; exact s4 _ _ ha⟩
            have f5 : ∀ c o, c ≠ p → H1 c = some o → c ≠ D ∧ (upd H4 p (.lst (xs.set i (.ref D)))) c = some o := fun c o hc h => ⟨ne_of_none (fa3 c o hc h) nD, by rw [upd_ne hc]; exact s4 _ _ (fa3 c o hc h)⟩
            generalize upd H4 p (.lst (xs.set i (.ref D))) = H5 at hp5 hD5 hx5 f5
            have hset : (xs.set i (.ref D))[i]? = some (.ref D) := by rw [List.getElem?_set_self (by omega)]
            refine ⟨.ref p, rfl, _, rfl, p, _, _, _, rfl, rfl, .inl (.inl hp5), atI_nat hset, D, remOf rows i j, rfl, .inl (.inl hD5), rfl, _, rfl, ite2 (fun c => ?_) (fun c => ?_)⟩
            · have c : (remOf rows i j).sum = 0 := V.int.inj (of_decide_eq_true c)
              obtain ⟨h1, hI6, hmu⟩ := hNul c
              rw [gr, ge] at hI6
              have hg : (Nat.gcd m.toNat e.toNat : Nat) ≤ m.toNat := Nat.gcd_le_left _ (by omega)
              refine ⟨_, rfl, _, rfl, _, rfl, m.toNat, e.toNat, by rw [Int.toNat_of_nonneg (by omega), Int.toNat_of_nonneg (by omega)]; rfl, _, _, rfl, rfl, .inr ⟨by omega, by omega⟩, ?_⟩
              refine ⟨_, rfl, _, _, rfl, rfl, ?_⟩
              refine ⟨_, many - 1, _, some (.ref av), some (.int (i : Nat)), some (.int (j : Nat)), some (.ref ah), some (.int e), hmu, ?_, fun c o hc h => (f5 c o hc h).2, ⟨_, hp5, ?_⟩, hI6⟩
              · have hmi : ((many - 1 : Nat) : Int) = (many : Int) - 1 := by omega
                rw [hmi]
                rfl
              · exact Paired.set ⟨D, rfl, hD5⟩ i (Paired.mapP hx5 fun _ _ ⟨a, ex, _, _, h⟩ => ⟨a, ex, h⟩)
            · have c : (remOf rows i j).sum ≠ 0 := fun z => c (by rw [z]; exact decide_eq_true rfl)
              obtain ⟨hI6, hmu⟩ := hRed c
              rw [gr, ge] at hI6 hmu
              have ljr : j < (remOf rows i j).length := by rw [erem, List.length_map]; exact hjl
              refine ⟨_, rfl, .ref p, rfl, _, rfl, p, _, _, _, rfl, rfl, .inl (.inl hp5), atI_nat hset, _, rfl, D, _, _, j, rfl, rfl, hD5, ixN_nat (by rw [List.length_map]; exact ljr), ?_⟩
              refine ⟨_, many, found, _, _, _, _, _, hmu, rfl, fun c o hc h => by rw [upd_ne (f5 c o hc h).1]; exact (f5 c o hc h).2, ⟨_, by rw [upd_ne epD]; exact hp5, ?_⟩, hI6⟩
              refine Paired.set ⟨D, rfl, ?_⟩ i (Paired.mapP hx5 fun _ _ ⟨a, ex, _, h2, h⟩ => ⟨a, ex, by rw [upd_ne h2]; exact h⟩)
              rw [upd_same, List.map_set]
      · rintro σ' H' ⟨rows', many', found', y5, y6, y7, y8, y9, hmu, rfl, f', hR', hI'⟩
        refine ⟨.ref p, rfl, p, rows', rfl, hR', fun H5 ve5 s5 hB5 => ?_⟩
        exact ⟨rows', many', found', ve5, _, _, _, _, hmu, rfl, fun c o hc h => s5 _ _ (f' c o hc h), hR'.same s5, hI', hB5⟩
end
end TH
end

section
set_option Elab.async false
set_option linter.all false
set_option maxRecDepth 100000
namespace TH
open PySem PySem.Spec PyProof.Rows L2

/-! ### _law_cell_at -/
abbrev sCellAt : Stmt := topS 48
theorem scCa : FnScope ["_law_script", "_law_k"] ["_law_script", "_law_k"] (defScope sCellAt) := ⟨rfl, rfl, rfl, by decide +kernel, rfl, by decide +kernel, by decide +kernel⟩
def spCellAt (K : PySem.W.Frag) : Sp := fun vs H Q _ => ∃ (a : Addr) (ns : List Int) (k : Nat), vs = [.ref a, .int (k : Int)] ∧ SqL K H a (ns.map V.int) ∧ Q (.int (cellAt ns k)) H
abbrev sTwists : Stmt := topS 51
theorem scLts : FnScope ["_law_cells", "_law_most", "_law_twists_here", "_law_left", "_law_cell", "_law_many"] ["_law_cells", "_law_most"] (defScope sTwists) := ⟨rfl, rfl, rfl, by decide +kernel, rfl, by decide +kernel, by decide +kernel⟩
def spTwists (K : PySem.W.Frag) : Sp := fun vs H Q _ => ∃ (a : Addr) (ns : List Int) (most : Int), vs = [.ref a, .int most] ∧ SqL K H a (ns.map V.int) ∧ ns.length ≤ 1000 ∧ 0 ≤ most ∧ most ≤ 100 ∧
  ∀ H' p, Same H H' → H p = none → H' p = some (.lst ((twistsM most ns most).map V.int)) → Q (.ref p) H'
section
variable {P : Program} {W0 : World} {K : PySem.W.Frag} {mg : Str → Option Value} {base : Heap}
theorem ok_cellAt (F : Fn K mg "_law_cell_at" sCellAt ["_law_script", "_law_k"]) (g : Gb mg) : Ok P W0 K mg base 1 "_law_cell_at" ["_law_script", "_law_k"] (spCellAt K) := by
  obtain ⟨f, fd, FF, mm, b⟩ := F
  refine ⟨f, fd, ?_, mm, FF.kp, b⟩
  refine FF.ok scCa (fun vs H Q E h => ?_) (fun cdv A outer s H vs Q E hr h => ?_)
  · obtain ⟨a, ns, k, rfl, _⟩ := h
    rfl
  · obtain ⟨a, ns, k, rfl, hA, q⟩ := h
    refine ⟨_, (pss_cons (ps_if (pt_cmpR op_lt (pv 1) (pe_callB (r := rLenSeq K) call_lenK (by rfl) g.len PySem.boot_len (pa_cons (pv 0) pa_nil)) (nomark _)) (pss_one (ps_ret (pe_ix ix_list (pv 0) (pv 1) (fun _ _ => rfl)))) pss_nil)
 (pss_one (ps_ret pe_int))), ?_⟩
    refine ⟨_, rfl, .ref a, rfl, a, _, rfl, .inl hA, _, _, rfl, rfl, _, rfl, ite2 (fun c => ?_) (fun c => ?_)⟩
    · have c := of_decide_eq_true c
      rw [List.length_map] at c
      have hk : k < ns.length := by omega
      refine ⟨.ref a, rfl, _, rfl, a, _, _, .int (cellAt ns k), rfl, rfl, hA, atI_nat ?_, q⟩
      rw [List.getElem?_map, cellAt, List.getD_eq_getElem?_getD, List.getElem?_eq_getElem hk]
      rfl
    · have c : ¬ (k : Int) < (ns.map V.int).length := fun z => c (decide_eq_true z)
      rw [List.length_map] at c
      have e : cellAt ns k = 0 := by
        rw [cellAt, List.getD_eq_getElem?_getD, List.getElem?_eq_none (by omega)]
        rfl
      rw [e] at q
      exact q
theorem abs_eq (n : Int) : (if n < 0 then -n else n) = (n.natAbs : Int) := by
  split <;> omega
theorem at3 (x y z : Int) (c : Int) {most : Int} : atI [V.int (c % 7 - 3), V.int (c % 3 - 1), V.int (c / 21 % (2 * most + 1) - most)] (c / 7 % 3) = some (.int (twistOf c most)) := by
  unfold twistOf
  have h0 : 0 ≤ c / 7 % 3 := Int.emod_nonneg _ (by decide)
  have h1 : c / 7 % 3 < 3 := Int.emod_lt_of_pos _ (by decide)
  generalize c / 7 % 3 = r at h0 h1
  obtain h | h | h : r = 0 ∨ r = 1 ∨ r = 2 := by omega
  · rw [h]; rfl
  · rw [h]; rfl
  · rw [h]; rfl
theorem twistsM_len (most : Int) : ∀ (cs : List Int) (left : Int), (twistsM most cs left).length = cs.length
  | [], _ => rfl
  | c :: cs, left => by rw [twistsM, List.length_cons, twistsM_len most cs, List.length_cons]
/-- behind some turns -/
def leftM (most : Int) : List Int → Int → Int
  | [], left => left
  | c :: cs, left => leftM most cs (left - ((cutOf (twistOf c most) left).natAbs : Int))
theorem twistsM_snoc (most c : Int) : ∀ (cs : List Int) (left : Int), twistsM most (cs ++ [c]) left = twistsM most cs left ++ [cutOf (twistOf c most) (leftM most cs left)]
  | [], _ => rfl
  | b :: cs, left => by
    rw [List.cons_append, twistsM, twistsM_snoc most c cs, twistsM, List.cons_append, leftM]
theorem leftM_snoc (most c : Int) : ∀ (cs : List Int) (left : Int), leftM most (cs ++ [c]) left = leftM most cs left - ((cutOf (twistOf c most) (leftM most cs left)).natAbs : Int)
  | [], _ => rfl
  | b :: cs, left => by rw [List.cons_append, leftM, leftM_snoc most c cs, leftM]
theorem ok_twists (F : Fn K mg "_law_twists" sTwists ["_law_cells", "_law_most"]) (g : Gb mg) : Ok P W0 K mg base 1 "_law_twists" ["_law_cells", "_law_most"] (spTwists K) := by
  obtain ⟨f, fd, FF, mm, b⟩ := F
  refine ⟨f, fd, ?_, mm, FF.kp, b⟩
  refine FF.ok scLts (fun vs H Q E h => ?_) (fun cdv A outer s H vs Q E hr h => ?_)
  · obtain ⟨a, ns, k, rfl, _⟩ := h
    rfl
  · obtain ⟨a, ns, most, rfl, hA, hl, hm, hm2, q⟩ := h
    refine ⟨_, (pss_cons (ps_set (i := 2) scLts.nd rfl (.inl rfl) (pe_lst pa_nil))
 (pss_cons (ps_set (i := 3) scLts.nd rfl (.inl rfl) (pv 1))
 (pss_cons (ps_for PassesOwn.never rfl (pi_list (pv 0)) (pg_name (i := 4) scLts.nd rfl (.inl rfl))
 (pss_cons (ps_set (i := 5) scLts.nd rfl (.inl rfl) (pe_ix ix_list (pe_lst (pa_cons (pe_op op_sub (pe_op op_mod (pv 4) pe_int) pe_int) (pa_cons (pe_op op_sub (pe_op op_mod (pv 4) pe_int) pe_int) (pa_cons (pe_op op_sub (pe_op op_mod (pe_op op_fdiv (pv 4) pe_int) (pe_op op_add (pe_op op_mul pe_int (pv 1)) pe_int)) (pv 1)) pa_nil)))) (pe_op op_mod (pe_op op_fdiv (pv 4) pe_int) pe_int) (fun _ _ => rfl)))
 (C8.pss_cut (ps_if (pt_cmpR op_gt (pe_callB call_abs (by rfl) g.abs boot_absB (pa_cons (pv 5) pa_nil)) (pv 3) (nomark _)) (pss_one (ps_set (i := 5) scLts.nd rfl (.inl rfl) pe_int)) pss_nil)
 (pss_cons (ps_expr (pe_bm PySem.F.plainAttrs_list PySem.F.slot_list_append PySem.F.type_list_append mt_append (pv 2) (pa_cons (pv 5) pa_nil)))
 (pss_one (ps_set (i := 3) scLts.nd rfl (.inl rfl) (pe_op op_sub (pv 3) (pe_callB call_abs (by rfl) g.abs boot_absB (pa_cons (pv 5) pa_nil)))))))))
 (pss_one (ps_ret (pv 2)))))), ?_⟩
    refine ⟨(by show 0 ≤ sizeLine; decide), fun p np => ?_⟩
    have s1 := same_upd (o := .lst []) np
    have hp1 : (upd H p (.lst [])) p = some (.lst []) := upd_same
    generalize upd H p (.lst []) = H1 at s1 hp1
    have seqL_same : ∀ {Ha Hb : Hp} {a : Addr} {xs : List V}, Same Ha Hb → SqL K Ha a xs → SqL K Hb a xs := fun s h => s.seq h
    refine ⟨_, rfl, .ref a, rfl, a, rfl, ⟨_, seqL_same s1 hA⟩, ?_⟩
    refine for_list (xs := ns.map V.int) (fun i σ Ha => ∃ y4 y5, σ = [some (.ref a), some (.int most), some (.ref p), some (.int (leftM most (ns.take i) most)), y4, y5] ∧ Same H Ha ∧ Ha p = some (.lst ((twistsM most (ns.take i) most).map V.int)))
      ⟨none, none, rfl, s1, hp1⟩ (fun i σ Ha _ ⟨_, _, _, s, _⟩ => seqL_same s hA) ?_ ?_
    · rintro i x σ Ha hi ⟨y4, y5, rfl, sa, hpa⟩
      obtain ⟨c, hc, rfl⟩ := ints_at hi
      have hil := (List.getElem?_eq_some_iff.mp hc).1
      have etk : ns.take (i + 1) = ns.take i ++ [c] := by rw [List.take_add_one, hc]; rfl
      refine ⟨_, rfl, _, 7, rfl, rfl, (by show (0 : Int) < 7; decide), _, _, rfl, rfl, _, rfl, _, 3, rfl, rfl, (by show (0 : Int) < 3; decide), _, _, rfl, rfl, ?_⟩
      refine ⟨_, rfl, _, 21, rfl, rfl, ⟨by decide, by decide⟩, _, rfl, _, most, rfl, rfl, .inl ⟨by decide, by decide⟩, _, _, rfl, rfl, _, 2 * most + 1, rfl, rfl, (by show (0 : Int) < 2 * most + 1; omega), _, rfl, _, _, rfl, rfl, (by show 3 ≤ sizeLine; decide), fun t nt => ?_⟩
      have st := same_upd (o := .lst [.int (c % 7 - 3), .int (c % 3 - 1), .int (c / 21 % (2 * most + 1) - most)]) nt
      have htt : (upd Ha t (.lst [.int (c % 7 - 3), .int (c % 3 - 1), .int (c / 21 % (2 * most + 1) - most)])) t = some (.lst [.int (c % 7 - 3), .int (c % 3 - 1), .int (c / 21 % (2 * most + 1) - most)]) := upd_same
      generalize upd Ha t (.lst [.int (c % 7 - 3), .int (c % 3 - 1), .int (c / 21 % (2 * most + 1) - most)]) = Hb at st htt
      have hat : atI [V.int (c % 7 - 3), V.int (c % 3 - 1), V.int (c / 21 % (2 * most + 1) - most)] (c / 7 % 3) = some (.int (twistOf c most)) := at3 0 0 0 _
      refine ⟨_, rfl, _, 7, rfl, rfl, ⟨by decide, by decide⟩, _, 3, rfl, rfl, (by show (0 : Int) < 3; decide), t, _, _, _, rfl, rfl, .inl (.inl htt), hat, ?_⟩
      generalize hn : twistOf c most = n
      have hpb := st _ _ hpa
      generalize hleft : leftM most (ns.take i) most = left
      have hlen : (twistsM most (ns.take i) most).length ≤ 1000 := by
        rw [twistsM_len, List.length_take]
        omega
      refine ⟨fun σ' H' => σ' = [some (.ref a), some (.int most), some (.ref p), some (.int left), some (.int c), some (.int (cutOf n left))] ∧ H' = Hb, ?_, ?_⟩
      · refine ⟨_, rfl, n, rfl, _, rfl, _, _, rfl, rfl, _, rfl, ite2 (fun c => ?_) (fun c => ?_)⟩
        · have c := of_decide_eq_true c
          rw [abs_eq] at c
          refine ⟨?_, rfl⟩
          unfold cutOf
          rw [if_pos c]
          rfl
        · have c : ¬ left < (if n < 0 then -n else n) := fun z => c (decide_eq_true z)
          rw [abs_eq] at c
          refine ⟨?_, rfl⟩
          unfold cutOf
          rw [if_neg c]
          rfl
      · rintro σ' H' ⟨rfl, rfl⟩
        refine ⟨_, rfl, .inl ⟨rfl, _, .inl (.inl hpb)⟩, _, rfl, p, _, _, rfl, rfl, hpb, mill (by rw [List.length_map]; omega), ?_⟩
        refine ⟨_, rfl, _, rfl, _, rfl, _, _, rfl, rfl, ?_⟩
        rw [abs_eq]
        refine ⟨some (.int c), some (.int (cutOf n left)), ?_, same_over (sa.trans st) np, ?_⟩
        · rw [etk, leftM_snoc, hn, hleft]
          rfl
        · rw [upd_same, etk, twistsM_snoc, hn, hleft, List.map_append]
          rfl
    · rintro σ Ha ⟨y4, y5, rfl, sa, hpa⟩
      rw [List.length_map, List.take_length] at hpa
      exact ⟨_, rfl, q Ha p sa np hpa⟩
end
end TH
end

section
set_option Elab.async false
set_option linter.all false
set_option maxRecDepth 100000
namespace TH
open PySem PySem.Spec PyProof.Rows L2

/-! ### _law_changed -/
abbrev sChanged : Stmt := topS 52
theorem scCh : FnScope ["_law_twists_here", "_law_cell", "_law_at", "_law_part", "_law_by"] ["_law_twists_here", "_law_cell"] (defScope sChanged) := ⟨rfl, rfl, rfl, by decide +kernel, rfl, by decide +kernel, by decide +kernel⟩
def spChanged (K : PySem.W.Frag) : Sp := fun vs H Q _ => ∃ (a : Addr) (ts : List Int) (c : Int), vs = [.ref a, .int c] ∧ H a = some (.lst (ts.map V.int)) ∧ 0 < ts.length ∧ ts.length ≤ 1000 ∧
  ∀ H' p, Same H H' → H p = none → H' p = some (.lst ((changedM ts c).map V.int)) → Q (.ref p) H'
theorem at2 (c : Int) : atI [V.int 1, V.int (-1)] (c % 2) = some (.int (if c % 2 = 0 then 1 else -1)) := by
  have h0 : 0 ≤ c % 2 := Int.emod_nonneg _ (by decide)
  have h1 : c % 2 < 2 := Int.emod_lt_of_pos _ (by decide)
  generalize c % 2 = r at h0 h1
  obtain h | h : r = 0 ∨ r = 1 := by omega
  · rw [h]; rfl
  · rw [h]; rfl
section
variable {P : Program} {W0 : World} {K : PySem.W.Frag} {mg : Str → Option Value} {base : Heap}
theorem ok_changed (F : Fn K mg "_law_changed" sChanged ["_law_twists_here", "_law_cell"]) (g : Gb mg) : Ok P W0 K mg base 1 "_law_changed" ["_law_twists_here", "_law_cell"] (spChanged K) := by
  obtain ⟨f, fd, FF, mm, b⟩ := F
  refine ⟨f, fd, ?_, mm, FF.kp, b⟩
  refine FF.ok scCh (fun vs H Q E h => ?_) (fun cdv A outer s H vs Q E hr h => ?_)
  · obtain ⟨a, ts, c, rfl, _⟩ := h
    rfl
  · obtain ⟨a, ts, c, rfl, hA, h0, hl, q⟩ := h
    refine ⟨_, (pss_cons (ps_set (i := 2) scCh.nd rfl (.inl rfl) (pe_op op_mod (pe_op op_fdiv (pv 1) pe_int) (pe_callB (r := rLenSeq K) call_lenK (by rfl) g.len PySem.boot_len (pa_cons (pv 0) pa_nil))))
 (C8.pss_cut (ps_if (pt_cmpR op_eq (pe_op op_mod (pv 1) pe_int) pe_int (nomark _)) (pss_cons (ps_set (i := 3) scCh.nd rfl (.inl rfl) (pe_op op_sub (pe_op op_mod (pe_op op_fdiv (pv 1) pe_int) pe_int) pe_int))
 (pss_one (ps_ret (pe_op op_cat (pe_op op_cat (pe_slice sl_list (pv 0) po_none (po_some (pv 2))) (pe_lst (pa_cons (pv 3) (pa_cons pe_int (pa_cons (pe_op op_sub (pe_ix ix_list (pv 0) (pv 2) (fun _ _ => rfl)) (pv 3)) pa_nil))))) (pe_slice sl_list (pv 0) (po_some (pe_op op_add (pv 2) pe_int)) po_none))))) pss_nil)
 (C8.pss_cut (ps_if (pt_cmpR op_eq (pe_op op_mod (pv 1) pe_int) pe_int (nomark _)) (pss_one (ps_ret (pe_op op_cat (pe_lst (pa_cons pe_int (pa_cons pe_int pa_nil))) (pv 0)))) pss_nil)
 (pss_cons (ps_set (i := 4) scCh.nd rfl (.inl rfl) (pe_ix ix_list (pe_lst (pa_cons pe_int (pa_cons (pe_un un_neg pe_int) pa_nil))) (pe_op op_mod (pv 1) pe_int) (fun _ _ => rfl)))
 (C8.pss_cut (ps_if (pt_cmpR op_lt (pe_op op_add (pv 2) pe_int) (pe_callB (r := rLenSeq K) call_lenK (by rfl) g.len PySem.boot_len (pa_cons (pv 0) pa_nil)) (nomark _)) (pss_one (ps_ret (pe_op op_cat (pe_op op_cat (pe_slice sl_list (pv 0) po_none (po_some (pv 2))) (pe_lst (pa_cons (pe_op op_add (pe_ix ix_list (pv 0) (pv 2) (fun _ _ => rfl)) (pv 4)) (pa_cons (pv 4) (pa_cons (pe_op op_add (pe_ix ix_list (pv 0) (pe_op op_add (pv 2) pe_int) (fun _ _ => rfl)) (pv 4)) pa_nil))))) (pe_slice sl_list (pv 0) (po_some (pe_op op_add (pv 2) pe_int)) po_none)))) pss_nil)
 (pss_one (ps_ret (pe_callTy call_list_of (by rfl) g.list (by decide +kernel) (pa_cons (pv 0) pa_nil))))))))), ?_⟩
    have hj0 : 0 ≤ c / 4 % (ts.length : Int) := Int.emod_nonneg _ (by omega)
    have hj1 : c / 4 % (ts.length : Int) < ts.length := Int.emod_lt_of_pos _ (by omega)
    obtain ⟨j, hj⟩ : ∃ j : Nat, c / 4 % (ts.length : Int) = (j : Int) := ⟨(c / 4 % (ts.length : Int)).toNat, by omega⟩
    have hjl : j < ts.length := by omega
    have hjN : (c / 4 % (ts.length : Int)).toNat = j := by omega
    have hAl : SqL K H a (ts.map V.int) := .inl (.inl hA)
    have hatj : ∀ i, i < ts.length → (ts.map V.int)[i]? = some (.int (ts.getD i 0)) := fun i hi => by
      rw [List.getElem?_map, List.getD_eq_getElem?_getD, List.getElem?_eq_getElem hi]
      rfl
    refine ⟨_, rfl, _, 4, rfl, rfl, ⟨by decide, by decide⟩, .ref a, rfl, a, _, rfl, .inl hAl, _, (ts.length : Int), rfl, by rw [List.length_map], (by show (0 : Int) < ts.length; omega), ?_⟩
    dsimp only
    rw [hj]
    -- the two kinds of ends
    have fin : ∀ (H3 : Hp) (p1 p2 : Addr) (mid : List Int) (k : Nat), mid.length ≤ 3 → Same H H3 → H3 p1 = some (.lst ((ts.map V.int).take j)) → H3 p2 = some (.lst (mid.map V.int)) → ts.take j ++ mid ++ ts.drop k = changedM ts c →
        ∃ l b xs zs, V.ref p1 = .ref l ∧ V.ref p2 = .ref b ∧ H3 l = some (.lst xs) ∧ H3 b = some (.lst zs) ∧ xs.length + zs.length ≤ sizeLine ∧ ∀ p, H3 p = none → ∃ a2 xs2, V.ref a = .ref a2 ∧ SqL K (upd H3 p (.lst (xs ++ zs))) a2 xs2 ∧ ∀ p4, (upd H3 p (.lst (xs ++ zs))) p4 = none →
          ∃ l b xs3 zs3, V.ref p = .ref l ∧ V.ref p4 = .ref b ∧ (upd (upd H3 p (.lst (xs ++ zs))) p4 (.lst (cutV xs2 (some (k : Int)) none))) l = some (.lst xs3) ∧ (upd (upd H3 p (.lst (xs ++ zs))) p4 (.lst (cutV xs2 (some (k : Int)) none))) b = some (.lst zs3) ∧ xs3.length + zs3.length ≤ sizeLine ∧
            ∀ p5, (upd (upd H3 p (.lst (xs ++ zs))) p4 (.lst (cutV xs2 (some (k : Int)) none))) p5 = none → Q (.ref p5) (upd (upd (upd H3 p (.lst (xs ++ zs))) p4 (.lst (cutV xs2 (some (k : Int)) none))) p5 (.lst (xs3 ++ zs3))) := by
      intro H3 p1 p2 mid k hmid s3 h1 h2 e
      have l1 : ((ts.map V.int).take j).length ≤ 1000 := by rw [List.length_take, List.length_map]; omega
      refine ⟨p1, p2, _, _, rfl, rfl, h1, h2, Nat.le_of_lt (mill (by rw [List.length_map]; omega)), fun p3 n3 => ?_⟩
      have s4 := s3.trans (same_upd (o := .lst ((ts.map V.int).take j ++ mid.map V.int)) n3)
      refine ⟨a, _, rfl, .inl (.inl (s4 _ _ hA)), fun p4 n4 => ?_⟩
      have h3 := same_upd (o := .lst (cutV (ts.map V.int) (some (k : Int)) none)) n4 _ _ (upd_same (H := H3) (a := p3) (o := .lst ((ts.map V.int).take j ++ mid.map V.int)))
      refine ⟨p3, p4, _, _, rfl, rfl, h3, upd_same, Nat.le_of_lt (mill ?_), fun p5 n5 => ?_⟩
      · have := cutV_length (ts.map V.int) (some (k : Int)) none
        rw [List.length_map] at this
        rw [List.length_append, List.length_map]
        omega
      · have s5 := s4.trans (same_upd (o := .lst (cutV (ts.map V.int) (some (k : Int)) none)) n4)
        refine q _ p5 (s5.trans (same_upd n5)) (s5.free n5) ?_
        rw [upd_same, cutV_from, ← e]
        simp only [List.map_append, List.map_take, List.map_drop]
    refine ⟨fun σ' H' => σ' = [some (.ref a), some (.int c), some (.int (j : Int)), none, none] ∧ H' = H ∧ c % 4 ≠ 0, ?_, ?_⟩
    · refine ⟨_, rfl, _, 4, rfl, rfl, (by show (0 : Int) < 4; decide), rfl, _, rfl, ite2 (fun e => ?_) (fun e => ?_)⟩
      · have e : c % 4 = 0 := V.int.inj (of_decide_eq_true e)
        refine ⟨_, rfl, _, 32, rfl, rfl, ⟨by decide, by decide⟩, _, 5, rfl, rfl, (by show (0 : Int) < 5; decide), _, _, rfl, rfl, ?_⟩
        refine ⟨.ref a, rfl, _, rfl, (j : Int), rfl, a, _, rfl, hAl, fun p1 n1 => ?_⟩
        have s1 := same_upd (o := .lst (cutV (ts.map V.int) none (some (j : Int)))) n1
        have h1 : (upd H p1 (.lst (cutV (ts.map V.int) none (some (j : Int))))) p1 = some (.lst ((ts.map V.int).take j)) := by rw [upd_same, cutV_to]
        generalize upd H p1 (.lst (cutV (ts.map V.int) none (some (j : Int)))) = H1 at s1 h1
        refine ⟨_, rfl, .ref a, rfl, _, rfl, a, _, _, _, rfl, rfl, s1.seq hAl, atI_nat (hatj j hjl), _, rfl, _, _, rfl, rfl, (by show 3 ≤ sizeLine; decide), fun p2 n2 => ?_⟩
        have h := fin (upd H1 p2 (.lst [.int (c / 32 % 5 - 2), .int 0, .int (ts.getD j 0 - (c / 32 % 5 - 2))])) p1 p2 [c / 32 % 5 - 2, 0, ts.getD j 0 - (c / 32 % 5 - 2)] (j + 1) (Nat.le_refl 3) (same_new s1 n2) (same_upd n2 _ _ h1) upd_same (by
          unfold changedM
          rw [hjN, if_pos e])
        obtain ⟨l, b, xs, zs, e1, e2, e3, e4, e5, h⟩ := h
        refine ⟨l, b, xs, zs, e1, e2, e3, e4, e5, fun p3 n3 => ?_⟩
        obtain ⟨a2, xs2, e6, e7, h⟩ := h p3 n3
        exact ⟨.ref a, rfl, _, rfl, _, 1, rfl, rfl, _, rfl, a2, xs2, e6, e7, h⟩
      · have e : c % 4 ≠ 0 := fun z => e (decide_eq_true (congrArg V.int z))
        exact ⟨rfl, rfl, e⟩
    · rintro σ' H' ⟨rfl, rfl, e0⟩
      refine ⟨fun σ' H'' => σ' = [some (.ref a), some (.int c), some (.int (j : Int)), none, none] ∧ H'' = H' ∧ c % 4 ≠ 1, ?_, ?_⟩
      · refine ⟨_, rfl, _, 4, rfl, rfl, (by show (0 : Int) < 4; decide), rfl, _, rfl, ite2 (fun e => ?_) (fun e => ?_)⟩
        · have e : c % 4 = 1 := V.int.inj (of_decide_eq_true e)
          refine ⟨(by show 2 ≤ sizeLine; decide), fun p1 n1 => ⟨.ref a, rfl, p1, a, _, _, rfl, rfl, upd_same, same_upd n1 _ _ hA, ?_, fun p2 n2 => ?_⟩⟩
          · exact Nat.le_of_lt (mill (by rw [List.length_map]; show 2 + _ ≤ _; omega))
          · refine q _ p2 (same_new (same_upd n1) n2) ((same_upd n1).free n2) ?_
            rw [upd_same]
            unfold changedM
            rw [if_neg e0, if_pos e]
            rfl
        · have e : c % 4 ≠ 1 := fun z => e (decide_eq_true (congrArg V.int z))
          exact ⟨rfl, rfl, e⟩
      · rintro σ' H'' ⟨rfl, rfl, e1⟩
        refine ⟨_, rfl, (by show 2 ≤ sizeLine; decide), fun t nt => ?_⟩
        have st := same_upd (o := .lst [.int 1, .int (-1)]) nt
        have htt : (upd H'' t (.lst [.int 1, .int (-1)])) t = some (.lst [.int 1, .int (-1)]) := upd_same
        generalize upd H'' t (.lst [.int 1, .int (-1)]) = H0 at st htt
        refine ⟨_, rfl, _, 2, rfl, rfl, (by show (0 : Int) < 2; decide), t, _, _, _, rfl, rfl, .inl (.inl htt), at2 c, ?_⟩
        generalize hby : (if c % 2 = 0 then (1 : Int) else -1) = by_
        have hA0 := st _ _ hA
        have hAl0 := st.seq hAl
        refine ⟨fun σ' H' => σ' = [some (.ref a), some (.int c), some (.int (j : Int)), none, some (.int by_)] ∧ H' = H0 ∧ ¬ j + 1 < ts.length, ?_, ?_⟩
        · refine ⟨_, rfl, _, _, rfl, rfl, .ref a, rfl, a, _, rfl, .inl hAl0, _, _, rfl, rfl, _, rfl, ite2 (fun e => ?_) (fun e => ?_)⟩
          · have e := of_decide_eq_true e
            rw [List.length_map] at e
            have hj2 : j + 1 < ts.length := by omega
            refine ⟨.ref a, rfl, _, rfl, (j : Int), rfl, a, _, rfl, hAl0, fun p1 n1 => ?_⟩
            have s1 := st.trans (same_upd (o := .lst (cutV (ts.map V.int) none (some (j : Int)))) n1)
            have h1 : (upd H0 p1 (.lst (cutV (ts.map V.int) none (some (j : Int))))) p1 = some (.lst ((ts.map V.int).take j)) := by rw [upd_same, cutV_to]
            generalize upd H0 p1 (.lst (cutV (ts.map V.int) none (some (j : Int)))) = H1 at s1 h1
            refine ⟨.ref a, rfl, _, rfl, a, _, _, _, rfl, rfl, s1.seq hAl, atI_nat (hatj j hjl), _, rfl, _, _, rfl, rfl, _, rfl, .ref a, rfl, _, rfl, _, 1, rfl, rfl, a, _, _, _, rfl, rfl, s1.seq hAl, atI_nat (hatj (j + 1) hj2), _, rfl, _, _, rfl, rfl, (by show 3 ≤ sizeLine; decide), fun p2 n2 => ?_⟩
            have h := fin (upd H1 p2 (.lst [.int (ts.getD j 0 + by_), .int by_, .int (ts.getD (j + 1) 0 + by_)])) p1 p2 [ts.getD j 0 + by_, by_, ts.getD (j + 1) 0 + by_] (j + 2) (Nat.le_refl 3) (same_new s1 n2) (same_upd n2 _ _ h1) upd_same (by
              unfold changedM
              rw [hjN, if_neg e0, if_neg e1, hby]
              simp only [if_pos hj2])
            obtain ⟨l, b, xs, zs, e1, e2, e3, e4, e5, h⟩ := h
            refine ⟨l, b, xs, zs, e1, e2, e3, e4, e5, fun p3 n3 => ?_⟩
            obtain ⟨a2, xs2, e6, e7, h⟩ := h p3 n3
            exact ⟨.ref a, rfl, _, rfl, _, 2, rfl, rfl, _, rfl, a2, xs2, e6, e7, h⟩
          · have e : ¬ ((j : Int) + 1 < (ts.map V.int).length) := fun z => e (decide_eq_true z)
            rw [List.length_map] at e
            exact ⟨rfl, rfl, by omega⟩
        · rintro σ' H' ⟨rfl, rfl, e3⟩
          refine ⟨.ref a, rfl, a, _, rfl, .inl hAl0, fun p np => ?_⟩
          refine q _ p (st.trans (same_upd np)) (st.free np) ?_
          rw [upd_same]
          unfold changedM
          rw [hjN, if_neg e0, if_neg e1, hby]
          simp only [if_neg e3]
end
end TH
end

section
set_option Elab.async false
set_option linter.all false
set_option maxRecDepth 100000
namespace TH
open PySem PySem.Spec PyProof.Rows L2

/-! ### data that compare -/
theorem eqvAll_mapD {α : Type} [DecidableEq α] {f : α → PyData} (h : ∀ a b, PyData.eqv (f a) (f b) = decide (a = b)) : ∀ l m : List α, PyData.eqvAll (l.map f) (m.map f) = decide (l = m)
  | [], [] => by simp [PyData.eqvAll]
  | [], _ :: _ => by simp [PyData.eqvAll]
  | _ :: _, [] => by simp [PyData.eqvAll]
  | a :: l, b :: m => by
    rw [List.map_cons, List.map_cons, PyData.eqvAll, h, eqvAll_mapD h l m]
    by_cases e : a = b
    · simp [e]
    · simp [e]
theorem eqv_term (a b : Int × Int) : PyData.eqv (termD a) (termD b) = decide (a = b) := eqv_spot a b
theorem eqv_poly (a b : Poly) : PyData.eqv (polyD a) (polyD b) = decide (a = b) := by
  unfold polyD
  rw [PyData.eqv]
  exact eqvAll_mapD eqv_term a b
theorem depthAll_map {α : Type} {f : α → PyData} {n : Nat} (h : ∀ a, (f a).depth ≤ n) : ∀ l : List α, PyData.depthAll (l.map f) ≤ n
  | [] => by simp [PyData.depthAll]
  | a :: l => by
    have h1 := h a
    have h2 := depthAll_map h l
    rw [List.map_cons, PyData.depthAll]
    omega
theorem canLay_map {α : Type} {f : α → PyData} (h : ∀ a, (f a).canLay0 = true) : ∀ l : List α, PyData.canLayAll0 (l.map f) = true
  | [] => by simp [PyData.canLayAll0]
  | a :: l => by
    rw [List.map_cons, PyData.canLayAll0, h a, canLay_map h l]
    rfl
theorem shaped_mk {d : PyData} (h1 : d.canLay0 = true) (h2 : d.depth ≤ 64) : SeqAt.shaped d = true := by
  unfold SeqAt.shaped
  rw [h1, decide_eq_true h2]
  rfl
theorem poly_lay (a : Poly) : (polyD a).canLay0 = true ∧ (polyD a).depth ≤ 3 := by
  constructor
  · unfold polyD
    rw [PyData.canLay0]
    exact canLay_map (fun t => by rfl) a
  · unfold polyD
    rw [PyData.depth]
    have := depthAll_map (f := termD) (n := 2) (fun t => by simp [termD, PyData.depth, PyData.depthAll]) a
    omega

/-! ### _law_own -/
abbrev sOwn : Stmt := topS 53
theorem scOw : FnScope ["_law_twists_here", "_law_heft", "_law_found", "_law_one", "_law_power", "_law_number"] ["_law_twists_here"] (defScope sOwn) := ⟨rfl, rfl, rfl, by decide +kernel, rfl, by decide +kernel, by decide +kernel⟩
def ownD (l : List Poly) : PyData := .list (l.map polyD)
def spOwn (K : PySem.W.Frag) : Sp := fun vs H Q _ => ∃ v l R, vs = [v] ∧ Dp K H v (listD l) ∧ heft l ≤ 17 ∧ SgOk (twistedM l) R ∧ ∀ H' v', Same H H' → Dp K H' v' (ownD (ownL (0 - turnsOf (sgM (twistedM l) R)) (sumsM l))) → Q v' H'
section
variable {P : Program} {W0 : World} {K : PySem.W.Frag} {mg : Str → Option Value} {base : Heap}
theorem ok_own (F : Fn K mg "_law_own" sOwn ["_law_twists_here"]) (g : Gb mg) (O1 : Ok P W0 K mg base 5 "twisted" ["twists"] (spTwisted K)) (O2 : Ok P W0 K mg base 5 "turns" ["web"] (spTurns K)) (O3 : Ok P W0 K mg base 4 "twisted_sums" ["twists"] (spSums K)) :
    Ok P W0 K mg base 6 "_law_own" ["_law_twists_here"] (spOwn K) := by
  obtain ⟨f, fd, FF, mm, b⟩ := F
  obtain ⟨fT, dT, GT, mT, kT, bT⟩ := O1
  obtain ⟨fU, dU, GU, mU, kU, bU⟩ := O2
  obtain ⟨fS, dS, GS, mS, kkS, bS⟩ := O3
  refine ⟨f, fd, ?_, mm, FF.kp, b⟩
  refine FF.ok scOw (fun vs H Q E h => ?_) (fun cdv A outer s H vs Q E hr h => ?_)
  · obtain ⟨v, l, R, rfl, _⟩ := h
    rfl
  · obtain ⟨v, l, R, rfl, hD, hh, hS, q⟩ := h
    refine ⟨_, (pss_cons (ps_set (i := 1) scOw.nd rfl (.inr rfl) (pe_op op_sub pe_int (pe_call GU (hr.mono (by decide)) (by rfl) mU kU bU .nil pass0 (pa_cons (pe_call GT (hr.mono (by decide)) (by rfl) mT kT bT .nil pass0 (pa_cons (pv 0) pa_nil)) pa_nil))))
 (pss_cons (ps_set (i := 2) scOw.nd rfl (.inl rfl) (pe_lst pa_nil))
 (pss_cons (ps_for PassesOwn.never rfl (pi_tup (pe_call GS (hr.mono (by decide)) (by rfl) mS kkS bS .nil pass0 (pa_cons (pv 0) pa_nil))) (pg_name (i := 3) scOw.nd rfl (.inl rfl))
 (pss_one (ps_expr (pe_bm PySem.F.plainAttrs_list PySem.F.slot_list_append PySem.F.type_list_append mt_append (pv 2) (pa_cons (pe_callTy (r := rTupOf K) call_tupK (by rfl) g.tuple boot_tup (pa_cons (pe_lc (own := [("_law_power", 4), ("_law_number", 5)]) (g := (gTup K 2 (gCons (gName 4) (gCons (gName 5) gNil)))) (tt := tYes) (te := (tTup (tCons (tOp _ (tVar 4) (tOp _ (tC _) (tVar 1))) (tCons (tOp _ (tVar 5) (tOp _ (tC _) (tOp _ (tC _) (tOp _ (tVar 1) (tC _))))) tNil)))) rfl scOw.nd (pi_tup (pv 3)) (blkOk_by (by kernel_rfl)) (fun _ _ _ _ _ => (pg_tup rfl (pgs_cons (pg_name (i := 4) scOw.nd rfl (.inl rfl)) (pgs_cons (pg_name (i := 5) scOw.nd rfl (.inl rfl)) pgs_nil)))) (fun _ _ _ _ _ => pts_nil) (fun _ _ _ _ _ => (pe_tup (pa_cons (pe_op op_add (pv 4) (pe_op op_mul pe_int (pv 1))) (pa_cons (pe_op op_mul (pv 5) (pe_op op_sub pe_int (pe_op op_mul pe_int (pe_op op_mod (pv 1) pe_int)))) pa_nil))))) pa_nil)) pa_nil)))))
 (pss_one (ps_ret (pv 2)))))), ?_⟩
    refine ⟨v, rfl, v, l, rfl, hD, by omega, fun H1 vw s1 hw => ?_⟩
    refine ⟨vw, twistedM l, R, rfl, hw, hS, fun H2 s2 => ?_⟩
    refine ⟨_, _, rfl, rfl, ?_⟩
    dsimp only
    generalize hh2 : 0 - turnsOf (sgM (twistedM l) R) = h
    rw [hh2] at q
    refine ⟨(by show 0 ≤ sizeLine; decide), fun p np => ?_⟩
    have s12 := s1.trans s2
    have s3 := same_upd (o := .lst []) np
    have hp3 : (upd H2 p (.lst [])) p = some (.lst []) := upd_same
    have npH := s12.free np
    generalize upd H2 p (.lst []) = H3 at s3 hp3
    refine ⟨v, rfl, v, l, rfl, dp_same (s12.trans s3) _ _ hD, hh, fun H4 vs s4 hs => ?_⟩
    obtain ⟨a, xs, rfl, hA, hX⟩ := dp_tup hs
    have hX : DpAll K H4 xs ([(sumsM l).1, (sumsM l).2].map polyD) := hX
    have hbig := sums_len l
    have hpow : 2 ^ heft l ≤ 2 ^ 17 := Nat.pow_le_pow_right (by decide) hh
    have hpow2 : (2 : Nat) ^ 17 = 131072 := by decide
    refine ⟨a, rfl, ⟨_, hA⟩, ?_⟩
    have lx : xs.length = 2 := dpAll_len hX
    refine for_it walk_tup (fun i σ Ha => ∃ y3 y4 y5 ys, σ = [some v, some (.int h), some (.ref p), y3, y4, y5] ∧ Same H Ha ∧ KT H4 Ha ∧ Ha p = some (.lst ys) ∧ DpAll K Ha ys ((([(sumsM l).1, (sumsM l).2].take i).map (ownP h)).map polyD))
      ⟨none, none, none, [], rfl, s12.trans (s3.trans s4), .refl, s4 _ _ hp3, .nil⟩ (fun i σ Ha _ ⟨_, _, _, _, _, _, k, _⟩ => seqT_kt k hA) ?_ ?_
    · rintro i x σ Ha Hb hi ⟨y3, y4, y5, ys, rfl, sa, ka, pa, da⟩ ⟨rfl, hx⟩
      obtain ⟨dd, hd, hdx⟩ := dpAll_at hX hx
      rw [List.getElem?_map] at hd
      obtain ⟨po, hpo, rfl⟩ := Option.map_eq_some_iff.mp hd
      have hpl : po.length ≤ 131072 := by
        have hm := List.mem_of_getElem? hpo
        simp only [List.mem_cons, List.not_mem_nil, or_false] at hm
        rcases hm with rfl | rfl
        all_goals omega
      obtain ⟨b, zs, rfl, hB, hZ⟩ := dp_tup (dp_kt ka _ _ (noL_poly _) hdx)
      have lz : zs.length = po.length := by rw [dpAll_len hZ, List.length_map]
      refine ⟨.ref p, rfl, .inl ⟨rfl, _, .inl (.inl pa)⟩, ?_⟩
      refine ⟨.ref b, rfl, b, rfl, ⟨_, hB⟩, fun D nD => ?_⟩
      refine lc_tup (K := K) (a := b) (xs := zs) (fun j H5 => Same Hb H5 ∧ ∃ us, H5 D = some (.lst us) ∧ DpAll K H5 us ((ownP h (po.take j)).map termD)) ⟨same_upd nD, [], upd_same, .nil⟩ (fun j H5 _ ⟨s5, _⟩ => seqT_same s5 hB) ?_ ?_
      · rintro j x H5 hx5 ⟨s5, us, hus, dus⟩
        obtain ⟨t, ta, ht, rfl, hT⟩ := term_at hZ hx5
        have ej : po.take (j + 1) = po.take j ++ [t] := by rw [List.take_add_one, ht]; rfl
        have lus : us.length ≤ 131072 := by
          rw [dpAll_len dus, List.length_map, ownP, List.length_map, List.length_take]
          omega
        have m0 : 0 ≤ h % 2 := Int.emod_nonneg _ (by decide)
        have m1 : h % 2 < 2 := Int.emod_lt_of_pos _ (by decide)
        refine ⟨ta, _, rfl, seqT_same s5 hT, rfl, _, _, rfl, _, _, rfl, rfl, rfl, ?_⟩
        refine ⟨_, rfl, _, rfl, 3, h, rfl, rfl, .inl ⟨by decide, by decide⟩, _, _, rfl, rfl, _, rfl, _, rfl, _, 2, rfl, rfl, (by show (0 : Int) < 2; decide), 2, _, rfl, rfl, .inl ⟨by decide, by decide⟩, _, _, rfl, rfl, t.2, 1 - 2 * (h % 2), rfl, rfl, .inr ⟨by omega, by omega⟩, (by show 2 ≤ sizeLine; decide), fun T nT => ?_⟩
        have hus2 := same_upd (o := .tup [.int (t.1 + 3 * h), .int (t.2 * (1 - 2 * (h % 2)))]) nT _ _ hus
        have kt : KT H5 (upd (upd H5 T (.tup [.int (t.1 + 3 * h), .int (t.2 * (1 - 2 * (h % 2)))])) D (.lst (us ++ [.ref T]))) := (KT.new nT).trans (.lst hus2)
        refine ⟨us, hus2, mill (by omega), same_over (same_new s5 nT) nD, _, upd_same, ?_⟩
        rw [ej]
        unfold ownP
        rw [List.map_append, List.map_append]
        refine dpAll_app (dpAll_kt kt _ _ (noLs_map noL_term _) dus) (dpAll_one ?_)
        refine tupI_dp (ns := [t.1 + 3 * h, t.2 * (1 - 2 * (h % 2))]) (.inl (.inl ?_))
        rw [upd_ne (ne_of_none hus nT).symm, upd_same]
        rfl
      · rintro H5 ⟨s5, us, hus, dus⟩
        rw [lz, List.take_length] at dus
        refine ⟨D, us, rfl, .inl ⟨.inl (.inl hus), fun T nT => ?_⟩⟩
        have sT := s5.trans (same_upd (o := .tup us) nT)
        have hT : Dp K (upd H5 T (.tup us)) (.ref T) (polyD (ownP h po)) := .tup (.inl (.inl upd_same)) (dpAll_same (same_upd nT) _ _ dus)
        generalize upd H5 T (.tup us) = H6 at sT hT
        have hp6 := sT _ _ pa
        have k7 : KT H6 (upd H6 p (.lst (ys ++ [.ref T]))) := .lst hp6
        have ly : ys.length ≤ 2 := by
          rw [dpAll_len da, List.length_map, List.length_map, List.length_take]
          show min i 2 ≤ 2
          omega
        refine ⟨p, ys, _, rfl, rfl, hp6, mill (by omega), _, _, _, _, rfl, same_over (sa.trans sT) npH, ka.trans ((KT.of sT).trans k7), upd_same, ?_⟩
        rw [List.take_add_one, hpo, List.map_append, List.map_append]
        refine dpAll_app (dpAll_kt ((KT.of sT).trans k7) _ _ (noLs_map noL_poly _) da) (dpAll_one (dp_kt k7 _ _ (noL_poly _) hT))
    · rintro σ Ha ⟨y3, y4, y5, ys, rfl, sa, ka, pa, da⟩
      rw [lx] at da
      refine ⟨_, rfl, q Ha _ sa (.lst (.inl (.inl pa)) da)⟩
end
end TH
end

section
set_option Elab.async false
set_option linter.all false
set_option maxRecDepth 100000
namespace TH
open PySem PySem.Spec PyProof.Rows L2

/-! ### _law_alike -/
abbrev sAlike : Stmt := topS 54
theorem scAk : FnScope ["_law_one", "_law_other", "_law_m"] ["_law_one", "_law_other", "_law_m"] (defScope sAlike) := ⟨rfl, rfl, rfl, by decide +kernel, rfl, by decide +kernel, by decide +kernel⟩
structure StrOk (w : Web) (R : List (List Spot)) : Prop where
  sg : SgOk w R
  ends : ∀ r ∈ R, (r.headD (0, 0)).1 = -1 → ∃ t, (twinsM w).lookup (r.getLastD (0, 0)) = some t
  rise : (strungOf w.rg (twinsM w) R).2.Pairwise (fun a b => a.1 < b.1)
def ColOk (w : Web) (m N : Int) : Prop := ∃ Inv mu rg, Small w ∧ Fours w ∧ (keys w).length < 64 ∧ 0 < m ∧ m ≤ 1000 ∧ w.rg = (rg : Nat) ∧ rg ≤ 1000 ∧ ElimSys m (colsOf w).length Inv mu N ∧ Inv (rowsOf w m) (colsOf w).length (m ^ rg)
def Alike (w u : Web) (m : Int) : Prop := ∃ R S N N3, StrOk w R ∧ StrOk u S ∧ strungOf w.rg (twinsM w) R = strungOf u.rg (twinsM u) S ∧ (linksOf (sgM w R)).mergeSort (· ≤ ·) = (linksOf (sgM u S)).mergeSort (· ≤ ·) ∧
  ColOk w m N ∧ ColOk u m N ∧ ColOk w 3 N3 ∧ ColOk u 3 N3
def spAlike (K : PySem.W.Frag) : Sp := fun vs H Q _ => ∃ v u m w x, vs = [v, u, .int m] ∧ Dp K H v (webD w) ∧ Dp K H u (webD x) ∧ Alike w x m ∧ ∀ H', Same H H' → Q (.bl true) H'
theorem str_shaped (c : Int × List Spot) : SeqAt.shaped (strD c) = true := by
  refine shaped_mk ?_ ?_
  · unfold strD
    simp only [PyData.canLay0, PyData.canLayAll0, Bool.true_and, Bool.and_true]
    exact canLay_map (fun s => by rfl) c.2
  · unfold strD
    have := depthAll_map (f := fun s : Spot => tupI [s.1, s.2]) (n := 2) (fun t => by simp [tupI, PyData.depth, PyData.depthAll]) c.2
    simp only [PyData.depth, PyData.depthAll]
    omega
theorem list_shaped (l : List Int) : SeqAt.shaped (listD l) = true := by
  refine shaped_mk ?_ ?_
  · unfold listD
    rw [PyData.canLay0]
    exact canLay_map (fun s => by rfl) l
  · unfold listD
    have := depthAll_map (f := PyData.int) (n := 1) (fun t => by simp [PyData.depth]) l
    simp only [PyData.depth]
    omega
theorem eqv_self {d : PyData} (h : SeqAt.shaped d = true) : PyData.eqv d d = true := SeqAt.eqv_refl d (SeqAt.canLay_of_shaped h)
section
variable {P : Program} {W0 : World} {K : PySem.W.Frag} {mg : Str → Option Value} {base : Heap}
theorem ok_alike (F : Fn K mg "_law_alike" sAlike ["_law_one", "_law_other", "_law_m"]) (g : Gb mg) (O1 : Ok P W0 K mg base 4 "how_strung" ["web"] (spStrung K)) (O2 : Ok P W0 K mg base 5 "links" ["web"] (spLinks K)) (O3 : Ok P W0 K mg base 4 "colours" ["web", "m"] (spColours K)) :
    Ok P W0 K mg base 6 "_law_alike" ["_law_one", "_law_other", "_law_m"] (spAlike K) := by
  obtain ⟨f, fd, FF, mm, b⟩ := F
  obtain ⟨fH, dH, GH, mH, kH, bH⟩ := O1
  obtain ⟨fL, dL, GL, mL, kL, bL⟩ := O2
  obtain ⟨fC, dC, GC, mC, kC, bC⟩ := O3
  refine ⟨f, fd, ?_, mm, FF.kp, b⟩
  refine FF.ok scAk (fun vs H Q E h => ?_) (fun cdv A outer s H vs Q E hr h => ?_)
  · obtain ⟨v, u, m, w, x, rfl, _⟩ := h
    rfl
  · obtain ⟨v, u, m, w, x, rfl, hv, hu2, ⟨R, S, N, N3, hR, hS, hst, hlk, c1, c2, c3, c4⟩, q⟩ := h
    refine ⟨_, (C8.pss_cut (ps_if (PW.pt (pw_or (pt_cmpR (op_neD hr.units) (pe_call GH (hr.mono (by decide)) (by rfl) mH kH bH .nil pass0 (pa_cons (pv 0) pa_nil)) (pe_call GH (hr.mono (by decide)) (by rfl) mH kH bH .nil pass0 (pa_cons (pv 1) pa_nil)) (nomark _)) (pw_or1 (pt_cmpR (op_neD hr.units) (pe_call GL (hr.mono (by decide)) (by rfl) mL kL bL .nil pass0 (pa_cons (pv 0) pa_nil)) (pe_call GL (hr.mono (by decide)) (by rfl) mL kL bL .nil pass0 (pa_cons (pv 1) pa_nil)) (nomark _))))) (pss_one (ps_ret pe_bl)) pss_nil)
 (pss_one (ps_ret (pe_and (pe_cmpR op_eq (pe_call GC (hr.mono (by decide)) (by rfl) mC kC bC .nil pass0 (pa_cons (pv 0) (pa_cons (pv 2) pa_nil))) (pe_call GC (hr.mono (by decide)) (by rfl) mC kC bC .nil pass0 (pa_cons (pv 1) (pa_cons (pv 2) pa_nil))) (nomark _)) (pe_one (pe_cmpR op_eq (pe_call GC (hr.mono (by decide)) (by rfl) mC kC bC .nil pass0 (pa_cons (pv 0) (pa_cons pe_int pa_nil))) (pe_call GC (hr.mono (by decide)) (by rfl) mC kC bC .nil pass0 (pa_cons (pv 1) (pa_cons pe_int pa_nil))) (nomark _))))))), ?_⟩
    refine ⟨fun σ' H' => σ' = [some v, some u, some (.int m)] ∧ Same H H', ?_, ?_⟩
    · refine ⟨v, rfl, v, w, R, rfl, hv, hR.sg.rd, hR.ends, hR.rise, fun H1 v1 s1 d1 => ?_⟩
      refine ⟨u, rfl, u, x, S, rfl, dp_same s1 _ _ hu2, hS.sg.rd, hS.ends, hS.rise, fun H2 v2 s2 d2 => ?_⟩
      refine ⟨_, _, dp_same s2 _ _ d1, d2, str_shaped _, str_shaped _, ?_⟩
      rw [hst, eqv_self (str_shaped _)]
      refine ⟨_, rfl, iteF ?_⟩
      have s12 := s1.trans s2
      refine ⟨v, rfl, v, w, R, rfl, dp_same s12 _ _ hv, hR.sg, fun H3 p3 s3 _ h3 => ?_⟩
      refine ⟨u, rfl, u, x, S, rfl, dp_same (s12.trans s3) _ _ hu2, hS.sg, fun H4 p4 s4 _ h4 => ?_⟩
      have e3 : Dp K H4 (.ref p3) (listD ((linksOf (sgM w R)).mergeSort (· ≤ ·))) := .lst (.inl (.inl (s4 _ _ h3))) (dpAll_of_ints _)
      have e4 : Dp K H4 (.ref p4) (listD ((linksOf (sgM x S)).mergeSort (· ≤ ·))) := .lst (.inl (.inl h4)) (dpAll_of_ints _)
      refine ⟨_, _, e3, e4, list_shaped _, list_shaped _, ?_⟩
      rw [hlk, eqv_self (list_shaped _)]
      exact ⟨_, rfl, iteF ⟨rfl, s12.trans (s3.trans s4)⟩⟩
    · rintro σ' H' ⟨rfl, s5⟩
      obtain ⟨I1, m1, g1, a1, a2, a3, a4, a5, a6, a7, a8, a9⟩ := c1
      obtain ⟨I2, m2, g2, b1, b2, b3, b4, b5, b6, b7, b8, b9⟩ := c2
      obtain ⟨I3, m3, g3, d1, d2, d3, d4, d5, d6, d7, d8, d9⟩ := c3
      obtain ⟨I4, m4, g4, e1, e2, e3, e4, e5, e6, e7, e8, e9⟩ := c4
      refine ⟨v, rfl, _, rfl, v, m, w, I1, m1, N, g1, rfl, dp_same s5 _ _ hv, a1, a2, a3, a4, a5, a6, a7, a8, a9, fun H6 s6 => ?_⟩
      have s56 := s5.trans s6
      refine ⟨u, rfl, _, rfl, u, m, x, I2, m2, N, g2, rfl, dp_same s56 _ _ hu2, b1, b2, b3, b4, b5, b6, b7, b8, b9, fun H7 s7 => ?_⟩
      have s57 := s56.trans s7
      refine ⟨rfl, true, ?_, iteT ?_⟩
      · exact congrArg V.bl (decide_eq_true rfl)
      refine ⟨v, rfl, v, 3, w, I3, m3, N3, g3, rfl, dp_same s57 _ _ hv, d1, d2, d3, d4, d5, d6, d7, d8, d9, fun H8 s8 => ?_⟩
      have s58 := s57.trans s8
      refine ⟨u, rfl, u, 3, x, I4, m4, N3, g4, rfl, dp_same s58 _ _ hu2, e1, e2, e3, e4, e5, e6, e7, e8, e9, fun H9 s9 => ?_⟩
      have e : decide (V.int N3 = V.int N3) = true := decide_eq_true rfl
      refine ⟨rfl, ?_⟩
      rw [e]
      exact q H9 (s58.trans s9)
end
end TH
end

section
set_option Elab.async false
set_option linter.all false
set_option maxRecDepth 100000
namespace TH
open PySem PySem.Spec PyProof.Rows L2

/-! ### law -/
abbrev sLaw : Stmt := topS 55
theorem scLw : FnScope ["_law_script", "_law_one", "_law_other", "_law_cell", "_law_change", "_law_same", "_law_web", "_law_second", "_law_m", "_law_way", "_law_k", "_law_many"] ["_law_script"] (defScope sLaw) := ⟨rfl, rfl, rfl, by decide +kernel, rfl, by decide +kernel, by decide +kernel⟩
/-- what the plain law gives of two lists -/
structure LawFact (one other : List Int) (m : Int) : Prop where
  h1 : heft one ≤ 17
  h2 : heft other ≤ 17
  own : ∃ R S, SgOk (twistedM one) R ∧ SgOk (twistedM other) S ∧ (ownL (0 - turnsOf (sgM (twistedM one) R)) (sumsM one) = ownL (0 - turnsOf (sgM (twistedM other) S)) (sumsM other) ↔ valueM one = valueM other)
  alike : valueM one = valueM other → Alike (twistedM one) (twistedM other) m
  shut : valueM one = valueM other → ∀ way : Int, way = 0 ∨ way = 1 → Alike (closedM (twistedM one) way) (closedM (twistedM other) way) m
def spLaw (K : PySem.W.Frag) : Sp := fun vs H Q _ => ∃ (a : Addr) (ns : List Int), vs = [.ref a] ∧ SqL K H a (ns.map V.int) ∧ ns.length ≤ 63 ∧ LawFact (oneM ns) (otherM ns) (2 + cellAt ns 8 / 4 % 59) ∧ (∀ H', Same H H' → Q (.bl true) H')
theorem cutV_mid (ns : List Int) : cutV (ns.map V.int) (some 9) (some 12) = ((ns.take 12).drop 9).map V.int := by
  show cutV (ns.map V.int) (some ((9 : Nat) : Int)) (some ((12 : Nat) : Int)) = _
  unfold cutV
  rw [HT.sIx_nat, HT.sIx_nat, List.map_drop, List.map_take, List.drop_take]
  generalize ns.map V.int = xs
  rcases Nat.le_total xs.length 9 with h | h
  · rw [Nat.min_eq_right h, Nat.min_eq_right (by omega), List.drop_of_length_le (Nat.le_refl _), List.drop_of_length_le h]
    simp
  · rw [Nat.min_eq_left h]
    rcases Nat.le_total xs.length 12 with h2 | h2
    · rw [Nat.min_eq_right h2, List.take_of_length_le (by rw [List.length_drop]; omega), List.take_of_length_le (by rw [List.length_drop]; omega)]
    · rw [Nat.min_eq_left h2]
theorem changedM_len (ts : List Int) (c : Int) (h : 1 ≤ ts.length) : ts.length ≤ (changedM ts c).length ∧ (changedM ts c).length ≤ ts.length + 2 := by
  have h0 : 0 ≤ c / 4 % (ts.length : Int) := Int.emod_nonneg _ (by omega)
  have h1 : c / 4 % (ts.length : Int) < ts.length := Int.emod_lt_of_pos _ (by omega)
  unfold changedM
  generalize hj : (c / 4 % (ts.length : Int)).toNat = j
  have hjl : j < ts.length := by omega
  simp only
  split
  · simp only [List.length_append, List.length_take, List.length_drop, List.length_cons, List.length_nil]
    omega
  · split
    · simp only [List.length_append, List.length_cons, List.length_nil]
      omega
    · split
      · rename_i h2
        simp only [List.length_append, List.length_take, List.length_drop, List.length_cons, List.length_nil]
        omega
      · omega
theorem changesM_snoc (c : Int) : ∀ (cs ts : List Int), changesM (cs ++ [c]) ts = if sizeM (changesM cs ts) < 12 then changedM (changesM cs ts) c else changesM cs ts
  | [], _ => rfl
  | b :: cs, ts => by rw [List.cons_append, changesM, changesM_snoc c cs, changesM]
theorem changesM_len : ∀ (cs ts : List Int), 1 ≤ ts.length → 1 ≤ (changesM cs ts).length ∧ (changesM cs ts).length ≤ ts.length + 2 * cs.length
  | [], ts, h => ⟨h, Nat.le_refl _⟩
  | c :: cs, ts, h => by
    have h1 := changedM_len ts c h
    rw [changesM, List.length_cons]
    split
    · have h2 := changesM_len cs (changedM ts c) (by omega)
      omega
    · have h2 := changesM_len cs ts h
      omega
theorem heft_mem {l : List Int} {a : Int} (h : a ∈ l) : a.natAbs ≤ heft l := by
  obtain ⟨x, y, e⟩ := List.append_of_mem h
  rw [e]
  simp [heft]
  omega
theorem pair_shaped (p : Int × Int) : SeqAt.shaped (pairD p) = true := by
  refine shaped_mk (by rfl) ?_
  unfold pairD
  simp [PyData.depth, PyData.depthAll]
theorem eqv_pair (p q : Int × Int) : PyData.eqv (pairD p) (pairD q) = decide (p = q) := eqv_spot p q
theorem own_shaped (l : List Poly) : SeqAt.shaped (ownD l) = true := by
  refine shaped_mk ?_ ?_
  · unfold ownD
    rw [PyData.canLay0]
    exact canLay_map (fun p => (poly_lay p).1) l
  · unfold ownD
    have := depthAll_map (f := polyD) (n := 3) (fun t => (poly_lay t).2) l
    simp only [PyData.depth]
    omega
theorem eqv_own (l m : List Poly) : PyData.eqv (ownD l) (ownD m) = decide (l = m) := by
  unfold ownD
  rw [PyData.eqv]
  exact eqvAll_mapD eqv_poly l m
section
variable {P : Program} {W0 : World} {K : PySem.W.Frag} {mg : Str → Option Value} {base : Heap}
theorem ok_law {f : Addr} {fd : FuncData} (FF : Fun K "law" "law" sLaw f fd) (g : Gb mg) (O1 : Ok P W0 K mg base 1 "_law_twists" ["_law_cells", "_law_most"] (spTwists K)) (O2 : Ok P W0 K mg base 1 "_law_cell_at" ["_law_script", "_law_k"] (spCellAt K))
    (O3 : Ok P W0 K mg base 1 "_law_changed" ["_law_twists_here", "_law_cell"] (spChanged K)) (O4 : Ok P W0 K mg base 1 "value" ["twists"] (spValue K)) (O5 : Ok P W0 K mg base 6 "_law_own" ["_law_twists_here"] (spOwn K))
    (O6 : Ok P W0 K mg base 5 "twisted" ["twists"] (spTwisted K)) (O7 : Ok P W0 K mg base 6 "_law_alike" ["_law_one", "_law_other", "_law_m"] (spAlike K)) (O8 : Ok P W0 K mg base 4 "closed" ["one", "way"] (spClosed K)) :
    FnOk P W0 K mg base CX0 7 f fd ["_law_script"] (spLaw K) := by
  obtain ⟨fT, dT, GT, mT, kT, bT⟩ := O1
  obtain ⟨fA, dA, GA, mA, kA, bA⟩ := O2
  obtain ⟨fC, dC, GC, mC, kC, bC⟩ := O3
  obtain ⟨fV, dV, GV, mV, kV, bV⟩ := O4
  obtain ⟨fO, dO, GO, mO, kO, bO⟩ := O5
  obtain ⟨fW, dW, GW, mW, kW, bW⟩ := O6
  obtain ⟨fK, dK, GK, mK, kK, bK⟩ := O7
  obtain ⟨fS, dS, GS, mS, kS, bS⟩ := O8
  refine FF.ok scLw (fun vs H Q E h => ?_) (fun cdv A outer s H vs Q E hr h => ?_)
  · obtain ⟨a, ns, rfl, _⟩ := h
    rfl
  · obtain ⟨a, ns, rfl, hA, hl, hF, q⟩ := h
    refine ⟨_, (pss_cons (ps_set (i := 1) scLw.nd rfl (.inl rfl) (pe_call GT (hr.mono (by decide)) (by rfl) mT kT bT .nil pass0 (pa_cons (pe_slice sl_list (pe_op op_cat (pe_slice sl_list (pv 0) po_none (po_some pe_int)) (pe_lst (pa_cons pe_int pa_nil))) po_none (po_some (pe_callB (call_max2 rfl) (by rfl) g.max (by decide +kernel) (pa_cons pe_int (pa_cons (pe_callB (call_min2 rfl) (by rfl) g.min (by decide +kernel) (pa_cons pe_int (pa_cons (pe_callB (r := rLenSeq K) call_lenK (by rfl) g.len PySem.boot_len (pa_cons (pv 0) pa_nil)) pa_nil))) pa_nil))))) (pa_cons pe_int pa_nil))))
 (pss_cons (ps_set (i := 2) scLw.nd rfl (.inl rfl) (pe_call GT (hr.mono (by decide)) (by rfl) mT kT bT .nil pass0 (pa_cons (pe_lc (own := [("_law_k", 10)]) (g := (gName 10)) (tt := tYes) (te := (tCall _ [] _ (tCons (tVar 0) (tCons (tVar 10) tNil)))) rfl scLw.nd (pi_range2 (by rfl) g.range (pa_cons pe_int (pa_cons pe_int pa_nil))) (blkOk_by (by kernel_rfl)) (fun _ _ _ _ _ => (pg_name (i := 10) scLw.nd rfl (.inl rfl))) (fun _ _ _ _ _ => pts_nil) (fun _ _ _ _ _ => (pe_call GA (hr.mono (by decide)) (by rfl) mA kA bA .nil pass0 (pa_cons (pv 0) (pa_cons (pv 10) pa_nil))))) (pa_cons pe_int pa_nil))))
 (pss_cons (ps_set (i := 3) scLw.nd rfl (.inl rfl) (pe_call GA (hr.mono (by decide)) (by rfl) mA kA bA .nil pass0 (pa_cons (pv 0) (pa_cons pe_int pa_nil))))
 (C8.pss_cut (ps_if (pt_cmpR op_gt (pe_op op_mod (pv 3) pe_int) pe_int (nomark _)) (pss_cons (ps_set (i := 2) scLw.nd rfl (.inl rfl) (pe_callTy call_list_of (by rfl) g.list (by decide +kernel) (pa_cons (pv 1) pa_nil)))
 (pss_one (ps_for PassesOwn.never rfl (pi_list (pe_slice sl_list (pv 0) (po_some pe_int) (po_some pe_int))) (pg_name (i := 4) scLw.nd rfl (.inl rfl))
 (pss_one (ps_if (pt_cmpR op_lt (pe_callB (cr_sum rfl) (by rfl) g.sum (by decide +kernel) (pa_cons (pe_lc (own := [("_law_many", 11)]) (g := (gName 11)) (tt := tYes) (te := (tCB _ (tCons (tVar 11) tNil))) rfl scLw.nd (pi_list (pv 2)) (blkOk_by (by kernel_rfl)) (fun _ _ _ _ _ => (pg_name (i := 11) scLw.nd rfl (.inl rfl))) (fun _ _ _ _ _ => pts_nil) (fun _ _ _ _ _ => (pe_callB call_abs (by rfl) g.abs boot_absB (pa_cons (pv 11) pa_nil)))) pa_nil)) pe_int (nomark _)) (pss_one (ps_set (i := 2) scLw.nd rfl (.inl rfl) (pe_call GC (hr.mono (by decide)) (by rfl) mC kC bC .nil pass0 (pa_cons (pv 2) (pa_cons (pv 4) pa_nil))))) pss_nil))))) pss_nil)
 (pss_cons (ps_set (i := 5) scLw.nd rfl (.inl rfl) (pe_cmpR (op_eqD hr.units) (pe_call GV (hr.mono (by decide)) (by rfl) mV kV bV .nil pass0 (pa_cons (pv 1) pa_nil)) (pe_call GV (hr.mono (by decide)) (by rfl) mV kV bV .nil pass0 (pa_cons (pv 2) pa_nil)) (nomark _)))
 (C8.pss_cut (ps_if (pt_cmpR op_ne (pe_cmpR (op_eqD hr.units) (pe_call GO (hr.mono (by decide)) (by rfl) mO kO bO .nil pass0 (pa_cons (pv 1) pa_nil)) (pe_call GO (hr.mono (by decide)) (by rfl) mO kO bO .nil pass0 (pa_cons (pv 2) pa_nil)) (nomark _)) (pv 5) (nomark _)) (pss_one (ps_ret pe_bl)) pss_nil)
 (C8.pss_cut (ps_if (pt_not (pt_val (pv 5))) (pss_one (ps_ret pe_bl)) pss_nil)
 (pss_cons (ps_set (i := 6) scLw.nd rfl (.inl rfl) (pe_call GW (hr.mono (by decide)) (by rfl) mW kW bW .nil pass0 (pa_cons (pv 1) pa_nil)))
 (pss_cons (ps_set (i := 7) scLw.nd rfl (.inl rfl) (pe_call GW (hr.mono (by decide)) (by rfl) mW kW bW .nil pass0 (pa_cons (pv 2) pa_nil)))
 (pss_cons (ps_set (i := 8) scLw.nd rfl (.inl rfl) (pe_op op_add pe_int (pe_op op_mod (pe_op op_fdiv (pv 3) pe_int) pe_int)))
 (C8.pss_cut (ps_if (pt_not (pt_val (pe_call GK (hr.mono (by decide)) (by rfl) mK kK bK .nil pass0 (pa_cons (pv 6) (pa_cons (pv 7) (pa_cons (pv 8) pa_nil)))))) (pss_one (ps_ret pe_bl)) pss_nil)
 (pss_cons (ps_for PassesOwn.never rfl (pi_range1 (by rfl) g.range (pa_cons pe_int pa_nil)) (pg_name (i := 9) scLw.nd rfl (.inl rfl))
 (pss_one (ps_if (pt_not (pt_val (pe_call GK (hr.mono (by decide)) (by rfl) mK kK bK .nil pass0 (pa_cons (pe_call GS (hr.mono (by decide)) (by rfl) mS kS bS .nil pass0 (pa_cons (pv 6) (pa_cons (pv 9) pa_nil))) (pa_cons (pe_call GS (hr.mono (by decide)) (by rfl) mS kS bS .nil pass0 (pa_cons (pv 7) (pa_cons (pv 9) pa_nil))) (pa_cons (pv 8) pa_nil)))))) (pss_one (ps_ret pe_bl)) pss_nil)))
 (pss_one (ps_ret pe_bl)))))))))))))), ?_⟩
    have lc : (ns.map V.int).length = ns.length := List.length_map _
    -- one
    refine ⟨.ref a, rfl, (5 : Int), rfl, a, _, rfl, hA, fun p1 n1 => ?_⟩
    have s1 := same_upd (o := .lst (cutV (ns.map V.int) none (some 5))) n1
    have e1 : (upd H p1 (.lst (cutV (ns.map V.int) none (some 5)))) p1 = some (.lst ((ns.map V.int).take 5)) := by
      rw [upd_same]
      exact congrArg (fun l => some (HO.lst l)) (cutV_to (ns.map V.int) 5)
    generalize upd H p1 (.lst (cutV (ns.map V.int) none (some 5))) = H1 at s1 e1
    refine ⟨(by show 1 ≤ sizeLine; decide), fun p2 n2 => ?_⟩
    have s2 := same_upd (o := .lst [.int 0]) n2
    have e2 : (upd H1 p2 (.lst [.int 0])) p2 = some (.lst [.int 0]) := upd_same
    generalize upd H1 p2 (.lst [.int 0]) = H2 at s2 e2
    have l5 : ((ns.map V.int).take 5).length ≤ 5 := by rw [List.length_take]; omega
    refine ⟨p1, p2, _, _, rfl, rfl, s2 _ _ e1, e2, Nat.le_of_lt (mill (by show _ + 1 ≤ _; omega)), fun p3 n3 => ?_⟩
    have s3 := same_upd (o := .lst ((ns.map V.int).take 5 ++ [.int 0])) n3
    have e3 : (upd H2 p3 (.lst ((ns.map V.int).take 5 ++ [.int 0]))) p3 = some (.lst ((ns.map V.int).take 5 ++ [.int 0])) := upd_same
    generalize upd H2 p3 (.lst ((ns.map V.int).take 5 ++ [.int 0])) = H3 at s3 e3
    have s13 := s1.trans (s2.trans s3)
    have emin : (if ((ns.map V.int).length : Int) < 5 then ((ns.map V.int).length : Int) else 5) = ((min 5 ns.length : Nat) : Int) := by
      rw [lc]
      split <;> omega
    have emax : (if ((min 5 ns.length : Nat) : Int) > 1 then ((min 5 ns.length : Nat) : Int) else 1) = ((max 1 (min 5 ns.length) : Nat) : Int) := by
      split <;> omega
    refine ⟨.ref a, rfl, a, _, rfl, .inl (s13.seq hA), 5, _, rfl, ?_⟩
    rw [emin]
    refine ⟨1, _, rfl, ?_⟩
    rw [emax]
    refine ⟨_, rfl, p3, _, rfl, .inl (.inl e3), fun p4 n4 => ?_⟩
    have s4 := same_upd (o := .lst (cutV ((ns.map V.int).take 5 ++ [.int 0]) none (some ((max 1 (min 5 ns.length) : Nat) : Int)))) n4
    have e4 : (upd H3 p4 (.lst (cutV ((ns.map V.int).take 5 ++ [.int 0]) none (some ((max 1 (min 5 ns.length) : Nat) : Int))))) p4 = some (.lst (((ns.take 5 ++ [0]).take (max 1 (min 5 ns.length))).map V.int)) := by
      rw [upd_same, cutV_to]
      simp only [List.map_take, List.map_append]
      rfl
    generalize upd H3 p4 (.lst (cutV ((ns.map V.int).take 5 ++ [.int 0]) none (some ((max 1 (min 5 ns.length) : Nat) : Int)))) = H4 at s4 e4
    have s14 := s13.trans s4
    refine ⟨p4, _, 8, rfl, .inl (.inl e4), ?_, (by decide), (by decide), fun H5 po s5 npo hpo => ?_⟩
    · rw [List.length_take]
      omega
    have hpo : H5 po = some (.lst ((oneM ns).map V.int)) := hpo
    have s15 := s14.trans s5
    have lone : (oneM ns).length = max 1 (min 5 ns.length) := by
      unfold oneM
      rw [twistsM_len, List.length_take, List.length_append, List.length_take]
      show min _ (_ + 1) = _
      omega
    -- the other, first
    refine ⟨5, 8, rfl, ⟨by decide, by decide, by decide, by decide⟩, fun D nD => ?_⟩
    refine lc_range (fun i H6 => Same H5 H6 ∧ H6 D = some (.lst (((List.range i).map fun t => cellAt ns (5 + t)).map V.int))) ⟨same_upd nD, upd_same⟩ ?_ ?_
    · rintro i H6 hi ⟨s6, h6⟩
      have ek : (5 : Int) + (i : Int) = ((5 + i : Nat) : Int) := by omega
      rw [ek]
      refine ⟨rfl, .ref a, rfl, _, rfl, a, ns, 5 + i, rfl, (s15.trans s6).seq hA, _, h6, mill ?_, same_over s6 nD, ?_⟩
      · rw [List.length_map, List.length_map, List.length_range]
        have : i < 3 := hi
        omega
      · rw [upd_same, List.range_succ, List.map_append, List.map_append]
        rfl
    rintro H6 ⟨s6, h6⟩
    have h6 : H6 D = some (.lst ([cellAt ns 5, cellAt ns 6, cellAt ns 7].map V.int)) := h6
    have s16 := s15.trans s6
    refine ⟨D, _, 8, rfl, .inl (.inl h6), (by show 3 ≤ 1000; decide), (by decide), (by decide), fun H7 px s7 npx hpx => ?_⟩
    have s17 := s16.trans s7
    refine ⟨.ref a, rfl, a, ns, 8, rfl, s17.seq hA, ?_⟩
    have s57 := s6.trans s7
    have hpo7 := s57 _ _ hpo
    refine ⟨fun σ' H' => ∃ pc y4 y11, σ' = [some (.ref a), some (.ref po), some (.ref pc), some (.int (cellAt ns 8)), y4, none, none, none, none, none, none, y11] ∧ Same H7 H' ∧ H' pc = some (.lst ((otherM ns).map V.int)), ?_, ?_⟩
    · refine ⟨_, rfl, _, 4, rfl, rfl, (by show (0 : Int) < 4; decide), _, _, rfl, rfl, _, rfl, ite2 (fun e => ?_) (fun e => ?_)⟩
      · have e : cellAt ns 8 % 4 > 0 := of_decide_eq_true e
        have eo : otherM ns = changesM ((ns.take 12).drop 9) (oneM ns) := by unfold otherM; rw [if_pos e]
        refine ⟨.ref po, rfl, po, _, rfl, .inl (.inl (.inl hpo7)), fun p8 n8 => ?_⟩
        have s8 := same_upd (o := .lst ((oneM ns).map V.int)) n8
        have e8 : (upd H7 p8 (.lst ((oneM ns).map V.int))) p8 = some (.lst ((oneM ns).map V.int)) := upd_same
        generalize upd H7 p8 (.lst ((oneM ns).map V.int)) = H8 at s8 e8
        refine ⟨.ref a, rfl, 9, rfl, 12, rfl, a, _, rfl, (s17.trans s8).seq hA, fun p9 n9 => ?_⟩
        have s9 := same_upd (o := .lst (cutV (ns.map V.int) (some 9) (some 12))) n9
        have e9 : (upd H8 p9 (.lst (cutV (ns.map V.int) (some 9) (some 12)))) p9 = some (.lst (((ns.take 12).drop 9).map V.int)) := by
          rw [upd_same]
          exact congrArg (fun l => some (HO.lst l)) (cutV_mid ns)
        generalize upd H8 p9 (.lst (cutV (ns.map V.int) (some 9) (some 12))) = H9 at s9 e9
        refine ⟨p9, rfl, ⟨_, .inl (.inl e9)⟩, ?_⟩
        generalize hcs : (ns.take 12).drop 9 = cs at e9 eo
        have lcs : cs.length ≤ 12 := by
          rw [← hcs, List.length_drop, List.length_take]
          omega
        refine for_list (xs := cs.map V.int) (fun i σ Ha => ∃ pc y4 y11, σ = [some (.ref a), some (.ref po), some (.ref pc), some (.int (cellAt ns 8)), y4, none, none, none, none, none, none, y11] ∧ Same H9 Ha ∧ Ha pc = some (.lst ((changesM (cs.take i) (oneM ns)).map V.int)))
          ⟨p8, none, none, rfl, .refl _, s9 _ _ e8⟩ (fun i σ Ha _ ⟨_, _, _, _, s, _⟩ => .inl (.inl (s _ _ e9))) ?_ ?_
        · rintro i x σ Ha hi ⟨pc, y4, y11, rfl, sa, hpc⟩
          obtain ⟨c, hc, rfl⟩ := ints_at hi
          have hil := (List.getElem?_eq_some_iff.mp hc).1
          have etk : cs.take (i + 1) = cs.take i ++ [c] := by rw [List.take_add_one, hc]; rfl
          rw [etk, changesM_snoc]
          have lts := changesM_len (cs.take i) (oneM ns) (by rw [lone]; omega)
          rw [List.length_take] at lts
          generalize changesM (cs.take i) (oneM ns) = ts at hpc lts
          refine ⟨.ref pc, rfl, pc, rfl, ⟨_, .inl (.inl hpc)⟩, fun D nD => ?_⟩
          refine lc_list (K := K) (a := pc) (xs := ts.map V.int) (fun j H6 => Same Ha H6 ∧ H6 D = some (.lst (((ts.take j).map fun n => (n.natAbs : Int)).map V.int))) ⟨same_upd nD, upd_same⟩ (fun j H6 _ ⟨s6, _⟩ => .inl (.inl (s6 _ _ hpc))) ?_ ?_
          · rintro j x H6 hx ⟨s6, h6⟩
            obtain ⟨n, hn, rfl⟩ := ints_at hx
            refine ⟨rfl, _, rfl, n, rfl, ?_⟩
            rw [abs_eq]
            refine ⟨_, h6, mill (by rw [List.length_map, List.length_map, List.length_take]; omega), same_over s6 nD, ?_⟩
            rw [upd_same, List.take_add_one, hn, List.map_append, List.map_append]
            rfl
          · rintro H6 ⟨s6, h6⟩
            rw [List.length_map, List.take_length] at h6
            refine ⟨D, _, rfl, .inl (.inl h6), _, _, rfl, rfl, _, rfl, ite2 (fun e => ?_) (fun e => ?_)⟩
            · have e : sizeM ts < 12 := of_decide_eq_true e
              rw [if_pos e]
              refine ⟨.ref pc, rfl, _, rfl, pc, ts, c, rfl, s6 _ _ hpc, by omega, by omega, fun H' p' s' np' hp' => ?_⟩
              exact ⟨p', _, _, rfl, sa.trans (s6.trans s'), hp'⟩
            · have e : ¬ sizeM ts < 12 := fun z => e (decide_eq_true z)
              rw [if_neg e]
              exact ⟨pc, _, _, rfl, sa.trans s6, s6 _ _ hpc⟩
        · rintro σ Ha ⟨pc, y4, y11, rfl, sa, hpc⟩
          rw [List.length_map, List.take_length] at hpc
          exact ⟨pc, y4, y11, rfl, s8.trans (s9.trans sa), by rw [eo]; exact hpc⟩
      · have e : ¬ cellAt ns 8 % 4 > 0 := fun z => e (decide_eq_true z)
        have eo : otherM ns = twistsM 8 [cellAt ns 5, cellAt ns 6, cellAt ns 7] 8 := by unfold otherM; rw [if_neg e]
        exact ⟨px, none, none, rfl, .refl _, by rw [eo]; exact hpx⟩
    rintro σ' H8 ⟨pc, y4, y11, rfl, s78, hpc⟩
    have hpo8 := s78 _ _ hpo7
    have s18 := s17.trans s78
    have d1 : Dp K H8 (.ref po) (listD (oneM ns)) := .lst (.inl (.inl hpo8)) (dpAll_of_ints _)
    have d2 : Dp K H8 (.ref pc) (listD (otherM ns)) := .lst (.inl (.inl hpc)) (dpAll_of_ints _)
    generalize oneM ns = one at *
    generalize otherM ns = other at *
    have le1 := hF.h1
    have le2 := hF.h2
    -- the values
    refine ⟨_, rfl, .ref po, one, rfl, d1, fun x hx => Nat.le_trans (heft_mem hx) (by omega), fun H9 v1 s9 dv1 => ?_⟩
    refine ⟨_, rfl, .ref pc, other, rfl, dp_same s9 _ _ d2, fun x hx => Nat.le_trans (heft_mem hx) (by omega), fun Ha v2 sa dv2 => ?_⟩
    refine ⟨_, _, dp_same sa _ _ dv1, dv2, pair_shaped _, pair_shaped _, ?_⟩
    rw [eqv_pair]
    have s8a := s9.trans sa
    -- the owns
    obtain ⟨R, S, hR, hS, hown⟩ := hF.own
    refine ⟨fun σ' H' => σ' = [some (.ref a), some (.ref po), some (.ref pc), some (.int (cellAt ns 8)), y4, some (.bl (decide (valueM one = valueM other))), none, none, none, none, none, y11] ∧ Same H8 H', ?_, ?_⟩
    · refine ⟨_, rfl, .ref po, one, R, rfl, dp_same s8a _ _ d1, le1, hR, fun Hb v3 sb dv3 => ?_⟩
      refine ⟨_, rfl, .ref pc, other, S, rfl, dp_same (s8a.trans sb) _ _ d2, le2, hS, fun Hc v4 sc dv4 => ?_⟩
      refine ⟨_, _, dp_same sc _ _ dv3, dv4, own_shaped _, own_shaped _, _, rfl, rfl, ?_⟩
      rw [eqv_own]
      have e : decide (ownL (0 - turnsOf (sgM (twistedM one) R)) (sumsM one) = ownL (0 - turnsOf (sgM (twistedM other) S)) (sumsM other)) = decide (valueM one = valueM other) := by
        rw [decide_eq_decide]
        exact hown
      rw [e]
      refine ⟨false, by simp, iteF ⟨rfl, s8a.trans (sb.trans sc)⟩⟩
    rintro σ' H9 ⟨rfl, s89⟩
    have s19 := s18.trans s89
    by_cases hsame : valueM one = valueM other
    · rw [decide_eq_true hsame]
      refine ⟨fun σ' H' => σ' = [some (.ref a), some (.ref po), some (.ref pc), some (.int (cellAt ns 8)), y4, some (.bl true), none, none, none, none, none, y11] ∧ H' = H9, ⟨_, rfl, _, rfl, iteF ⟨rfl, rfl⟩⟩, ?_⟩
      rintro σ' H' ⟨rfl, rfl⟩
      refine ⟨.ref po, rfl, .ref po, one, rfl, dp_same s89 _ _ d1, by omega, fun Ha vw sa dw => ?_⟩
      have s8a := s89.trans sa
      refine ⟨.ref pc, rfl, .ref pc, other, rfl, dp_same s8a _ _ d2, by omega, fun Hb vu sb du => ?_⟩
      have s8b := s8a.trans sb
      have dw2 := dp_same sb _ _ dw
      refine ⟨_, rfl, _, 4, rfl, rfl, ⟨by decide, by decide⟩, _, 59, rfl, rfl, (by show (0 : Int) < 59; decide), _, _, rfl, rfl, ?_⟩
      dsimp only
      generalize hm : 2 + cellAt ns 8 / 4 % 59 = m at hF
      refine ⟨fun σ' H' => σ' = [some (.ref a), some (.ref po), some (.ref pc), some (.int (cellAt ns 8)), y4, some (.bl true), some vw, some vu, some (.int m), none, none, y11] ∧ Same Hb H', ?_, ?_⟩
      · refine ⟨vw, rfl, vu, rfl, _, rfl, vw, vu, m, twistedM one, twistedM other, rfl, dw2, du, hF.alike hsame, fun Hc sc => ?_⟩
        exact ⟨_, rfl, iteF ⟨rfl, sc⟩⟩
      rintro σ' Hc ⟨rfl, sc⟩
      have sh1 := (shape_twisted one)
      have sh2 := (shape_twisted other)
      refine ⟨2, rfl, by decide, by decide, ?_⟩
      refine for_range (fun i σ Hd => ∃ y9, σ = [some (.ref a), some (.ref po), some (.ref pc), some (.int (cellAt ns 8)), y4, some (.bl true), some vw, some vu, some (.int m), y9, none, y11] ∧ Same Hb Hd) ⟨none, rfl, sc⟩ ?_ ?_
      · rintro i σ Hd hi ⟨y9, rfl, sd⟩
        have hw : (0 : Int) + (i : Int) = 0 ∨ (0 : Int) + (i : Int) = 1 := by
          have : i < 2 := hi
          omega
        generalize (0 : Int) + (i : Int) = way at hw
        refine ⟨vw, rfl, _, rfl, vw, twistedM one, way, rfl, dp_same sd _ _ dw2, sh1.small (by omega), sh1.en, fun He v3 se d3 => ?_⟩
        refine ⟨vu, rfl, _, rfl, vu, twistedM other, way, rfl, dp_same (sd.trans se) _ _ du, sh2.small (by omega), sh2.en, fun Hf v4 sf d4 => ?_⟩
        refine ⟨_, rfl, v3, v4, m, _, _, rfl, dp_same sf _ _ d3, d4, hF.shut hsame way hw, fun Hg sg => ?_⟩
        exact ⟨_, rfl, iteF ⟨_, rfl, sd.trans (se.trans (sf.trans sg))⟩⟩
      · rintro σ Hd ⟨y9, rfl, sd⟩
        exact q Hd (s18.trans (s8b.trans sd))
    · rw [decide_eq_false hsame]
      refine ⟨fun _ _ => False, ⟨_, rfl, _, rfl, iteT (q H9 s19)⟩, fun _ _ z => z.elim⟩
end
end TH
end

section
set_option autoImplicit false
set_option linter.all false
/-! The strands of tangles, as the program finds them. -/
namespace TH
theorem roads_skip {m : List (Spot × Spot)} {arc : Spot → Int} : ∀ {bs : List Spot} {done : List Int}, (∀ s ∈ bs, arc s ∈ done) → Roads m arc bs done []
  | [], _, _ => .nil
  | b :: bs, _, h => .skip (h b List.mem_cons_self) (roads_skip fun s hs => h s (List.mem_cons_of_mem _ hs))
theorem prs_last : ∀ (a : Spot) (t : List Spot) (e : Spot) (x : Spot), ((a :: t).getLastD x, e) ∈ prs a t e
  | a, [], e, x => by simp [prs]
  | a, d :: t, e, x => by
    have := prs_last d t e x
    rw [show (a :: d :: t).getLastD x = (d :: t).getLastD x by simp [List.getLastD]]
    exact List.mem_cons_of_mem _ this
theorem begins_in {w : Web} (h4 : ∀ c ∈ w.cr, c.length = 4) {s : Spot} (h : s ∈ beginsM w) : SpotIn w s ∧ (s ∈ rimOf w.en.length ∨ InR w.cr.length s) := by
  unfold beginsM at h
  rcases List.mem_append.mp h with z | z
  · have z0 := z
    unfold rimOf at z
    obtain ⟨j, hj, rfl⟩ := List.mem_map.mp z
    have hj := List.mem_range.mp hj
    exact ⟨⟨by show (0 : Int) ≤ (j : Int); omega, .inl ⟨rfl, by show ((j : Int)).toNat < _; omega⟩⟩, .inl z0⟩
  · obtain ⟨k, hk, h2⟩ := List.mem_flatMap.mp z
    unfold fourOf at h2
    obtain ⟨j, hj, rfl⟩ := List.mem_map.mp h2
    have hj := List.mem_range.mp hj
    have hk := List.mem_range.mp hk
    have hr : InR w.cr.length ((k : Int), (j : Int)) := ⟨by show (0 : Int) ≤ (k : Int); omega, by show (k : Int) < _; omega, by show (0 : Int) ≤ (j : Int); omega, by show (j : Int) < 4; omega⟩
    exact ⟨inR_spot h4 hr, .inr hr⟩
theorem begins_all {w : Web} {s : Spot} (h : InR w.cr.length s) : s ∈ beginsM w := by
  unfold beginsM
  refine List.mem_append_right _ (List.mem_flatMap.mpr ⟨s.1.toNat, List.mem_range.mpr (by have := h.1; have := h.2.1; omega), ?_⟩)
  unfold fourOf
  refine List.mem_map.mpr ⟨s.2.toNat, List.mem_range.mpr (by have := h.2.2; omega), ?_⟩
  obtain ⟨a, b⟩ := s
  obtain ⟨h1, h2, h3, h4⟩ := h
  simp only at *
  simp only [Prod.mk.injEq]
  omega
theorem spot_cases {w : Web} (h4 : ∀ c ∈ w.cr, c.length = 4) {s : Spot} (h : SpotIn w s) : (s.1 = -1 ∧ 0 ≤ s.2 ∧ s.2.toNat < w.en.length) ∨ InR w.cr.length s := by
  obtain ⟨h0, h⟩ := h
  rcases h with ⟨h1, h2⟩ | ⟨h1, h2, h3⟩
  · exact .inl ⟨h1, h0, h2⟩
  · refine .inr ⟨h1, by omega, h0, ?_⟩
    have : (w.cr.getD s.1.toNat []).length = 4 := by
      rw [List.getD_eq_getElem?_getD, List.getElem?_eq_getElem h2]
      exact h4 _ (List.getElem_mem _)
    omega
section
variable {w : Web} {s1 e1 s2 e2 : Int} {tA tB : List Spot} {rc : List Rc}
theorem Two.full (h : Two w s1 tA e1 s2 tB e2 rc) {s : Spot} (hs : InR w.cr.length s) : ∃ u ∈ tA ++ tB, s = u ∨ s = opp u := by
  obtain ⟨h1, h2, h3, h4⟩ := hs
  have hk : s.1.toNat < rc.length := by rw [h.rl]; omega
  obtain ⟨p1, p2, g1, g2⟩ := h.rok s.1.toNat rc[s.1.toNat] (List.getElem?_eq_getElem hk)
  have ek : ((s.1.toNat : Nat) : Int) = s.1 := by omega
  rw [ek] at p1 p2
  generalize rc[s.1.toNat] = r at *
  have pickm : ∀ (b : Bool) (x : Spot), x ∈ pick b tA tB → x ∈ tA ++ tB := fun b x hx => by
    cases b
    · exact List.mem_append_left _ hx
    · exact List.mem_append_right _ hx
  by_cases hp : s.2 % 2 = 0
  · refine ⟨(s.1, r.u), pickm _ _ p1, key_eq ?_ h3 h4 ?_ ?_⟩
    · unfold key
      simp only [Prod.mk.injEq, true_and]
      omega
    · show 0 ≤ r.u
      omega
    · show r.u < 4
      omega
  · refine ⟨(s.1, r.o), pickm _ _ p2, key_eq ?_ h3 h4 ?_ ?_⟩
    · unfold key
      simp only [Prod.mk.injEq, true_and]
      omega
    · show 0 ≤ r.o
      omega
    · show r.o < 4
      omega
theorem nodup_sub_left {α : Type} {f : Spot → α} {A B : List Spot} (h : ((A ++ B).map f).Nodup) : (A.map f).Nodup ∧ (B.map f).Nodup := by
  rw [List.map_append, List.nodup_append] at h
  exact ⟨h.1, h.2.1⟩
theorem Two.pairs (h : Two w s1 tA e1 s2 tB e2 rc) : PairOk w (prs (-1, s1) tA (-1, e1) ++ prs (-1, s2) tB (-1, e2)) := by
  obtain ⟨r1, r2, r3, r4⟩ := h.rng
  have iA : ∀ d ∈ tA, InR w.cr.length d := fun d hd => h.inr d (List.mem_append_left _ hd)
  have iB : ∀ d ∈ tB, InR w.cr.length d := fun d hd => h.inr d (List.mem_append_right _ hd)
  obtain ⟨kA, kB⟩ := nodup_sub_left h.kd
  have hpn := h.pm.nodup_iff.mpr (by decide)
  simp only [List.nodup_cons, List.mem_cons, List.not_mem_nil, or_false, not_or] at hpn
  have gen : ∀ (a e : Int) (t : List Spot), 0 ≤ a ∧ a < 4 → 0 ≤ e ∧ e < 4 → a ≠ e → (∀ d ∈ t, InR w.cr.length d) → (t.map key).Nodup → Path (arcAt w) (-1, a) t (-1, e) → ∀ p ∈ prs (-1, a) t (-1, e), SpotIn w p.1 ∧ SpotIn w p.2 ∧ p.1 ≠ p.2 ∧ arcAt w p.1 = arcAt w p.2 := by
    intro a e t ha he hne hi hk P p hp
    refine ⟨?_, ?_, ?_, prs_arc P p hp⟩
    · rcases List.mem_cons.mp (fst_mem hp) with z | z
      · rw [z]; exact rim_spot h.en ha.1 ha.2
      · exact inR_spot h.four (hi _ z)
    · rcases snd_mem hp with z | ⟨d, hd, z⟩
      · rw [z]; exact rim_spot h.en he.1 he.2
      · rw [z]; exact inR_spot h.four (inr_opp (hi d hd))
    · refine prs_ne (fun d hd => (hi d hd).2.2) hk (fun d hd z => ?_) (fun d hd z => ?_) (fun z => ?_) p hp
      · have := (hi d hd).1
        have := congrArg Prod.fst z
        unfold opp at this
        simp only at this
        omega
      · have := (hi d hd).1
        rw [z] at this
        simp only at this
        omega
      · exact hne (congrArg Prod.snd z)
  refine ⟨fun p hp => ?_, ?_, fun s hs => ?_⟩
  · rcases List.mem_append.mp hp with z | z
    · exact gen s1 e1 tA r1 r2 hpn.1.1 iA kA h.pA p z
    · exact gen s2 e2 tB r3 r4 hpn.2.2.1 iB kB h.pB p z
  · have e : (prs (-1, s1) tA (-1, e1) ++ prs (-1, s2) tB (-1, e2)).map (fun p => arcAt w p.1) = ((-1, s1) :: tA ++ (-1, s2) :: tB).map (arcAt w) := by
      rw [← prs_fst (-1, s1) tA (-1, e1), ← prs_fst (-1, s2) tB (-1, e2), ← List.map_append, List.map_map]
      rfl
    rw [e]
    exact h.nd
  · rcases spot_cases h.four hs with ⟨z1, z2, z3⟩ | z
    · obtain ⟨x, y⟩ := s
      simp only at z1 z2 z3
      subst z1
      have hy : y ∈ [s1, e1, s2, e2] := h.pm.mem_iff.mpr (by
        rw [h.en] at z3
        simp only [List.mem_cons, List.not_mem_nil, or_false]
        omega)
      simp only [List.mem_cons, List.not_mem_nil, or_false] at hy
      rcases hy with rfl | rfl | rfl | rfl
      · obtain ⟨p, hp, e⟩ := mem_fst (a := (-1, y)) (e := (-1, e1)) (t := tA) (x := (-1, y)) List.mem_cons_self
        exact ⟨p, List.mem_append_left _ hp, .inl e.symm⟩
      · obtain ⟨p, hp, e⟩ := mem_snd (a := (-1, s1)) (e := (-1, y)) (t := tA) (x := (-1, y)) (.inl rfl)
        exact ⟨p, List.mem_append_left _ hp, .inr e.symm⟩
      · obtain ⟨p, hp, e⟩ := mem_fst (a := (-1, y)) (e := (-1, e2)) (t := tB) (x := (-1, y)) List.mem_cons_self
        exact ⟨p, List.mem_append_right _ hp, .inl e.symm⟩
      · obtain ⟨p, hp, e⟩ := mem_snd (a := (-1, s2)) (e := (-1, y)) (t := tB) (x := (-1, y)) (.inl rfl)
        exact ⟨p, List.mem_append_right _ hp, .inr e.symm⟩
    · obtain ⟨u, hu, hsu⟩ := h.full z
      rcases List.mem_append.mp hu with q | q
      · rcases hsu with rfl | rfl
        · obtain ⟨p, hp, e⟩ := mem_fst (a := (-1, s1)) (e := (-1, e1)) (t := tA) (List.mem_cons_of_mem _ q)
          exact ⟨p, List.mem_append_left _ hp, .inl e.symm⟩
        · obtain ⟨p, hp, e⟩ := mem_snd (a := (-1, s1)) (e := (-1, e1)) (t := tA) (.inr ⟨u, q, rfl⟩)
          exact ⟨p, List.mem_append_left _ hp, .inr e.symm⟩
      · rcases hsu with rfl | rfl
        · obtain ⟨p, hp, e⟩ := mem_fst (a := (-1, s2)) (e := (-1, e2)) (t := tB) (List.mem_cons_of_mem _ q)
          exact ⟨p, List.mem_append_right _ hp, .inl e.symm⟩
        · obtain ⟨p, hp, e⟩ := mem_snd (a := (-1, s2)) (e := (-1, e2)) (t := tB) (.inr ⟨u, q, rfl⟩)
          exact ⟨p, List.mem_append_right _ hp, .inr e.symm⟩
/-! ### signs along roads -/
/-- a crossing is passed but once each way -/
def KeyU (R : List (List Spot)) : Prop := ∀ (i j : Nat) (q q' : List Spot), R[i]? = some q → R[j]? = some q' → ∀ s ∈ q, ∀ u ∈ q', 0 ≤ s.1 → key u = key s → j = i ∧ u = s
def fpos (f : Bool) (p : Int) : Int := if f then (p + 2) % 4 else p
def sgOf (ix : Bool → Nat) (fl : Bool → Bool) (r : Rc) : Int × Int × Int := ((ix r.uS : Int), (ix r.oS : Int), if r.uS = r.oS then rsign r else if fl false = fl true then rsign r else - rsign r)
theorem sg_eq {R : List (List Spot)} (hK : KeyU R) (n : Nat) (ix : Bool → Nat) (fl : Bool → Bool) (hl : rc.length = n) (hr : ∀ (k : Nat) (r : Rc), rc[k]? = some r → RecOk tA tB (k : Int) r)
    (hp : ∀ b, ∀ s ∈ pick b tA tB, ∃ q, R[ix b]? = some q ∧ (s.1, fpos (fl b) s.2) ∈ q) : signedOf n (passedOf R [] 0) = rc.map (sgOf ix fl) ∧ ∀ k, k < n → (∃ s, (passedOf R [] 0).lookup ((k : Int), 0) = some s) ∧ ∃ s, (passedOf R [] 0).lookup ((k : Int), 1) = some s := by
  have look : ∀ (k : Nat) (r : Rc), rc[k]? = some r → (passedOf R [] 0).lookup ((k : Int), 0) = some ((ix r.uS : Int), fpos (fl r.uS) r.u) ∧ (passedOf R [] 0).lookup ((k : Int), 1) = some ((ix r.oS : Int), fpos (fl r.oS) r.o) := by
    intro k r h
    obtain ⟨h1, h2, g1, g2⟩ := hr k r h
    obtain ⟨q1, hq1, m1⟩ := hp _ _ h1
    obtain ⟨q2, hq2, m2⟩ := hp _ _ h2
    constructor
    · have := passed_at hq1 m1 fun j q hj u hu e => hK _ _ _ _ hq1 hj _ m1 u hu (by show (0 : Int) ≤ (k : Int); omega) e
      have e : key ((k : Int), fpos (fl r.uS) r.u) = ((k : Int), 0) := by
        unfold key fpos
        simp only [Prod.mk.injEq, true_and]
        split <;> omega
      rw [e] at this
      exact this
    · have := passed_at hq2 m2 fun j q hj u hu e => hK _ _ _ _ hq2 hj _ m2 u hu (by show (0 : Int) ≤ (k : Int); omega) e
      have e : key ((k : Int), fpos (fl r.oS) r.o) = ((k : Int), 1) := by
        unfold key fpos
        simp only [Prod.mk.injEq, true_and]
        split <;> omega
      rw [e] at this
      exact this
  constructor
  · refine List.ext_getElem? fun k => ?_
    unfold signedOf
    rw [List.getElem?_map, List.getElem?_map]
    by_cases hk : k < n
    · have hk2 : k < rc.length := by omega
      rw [List.getElem?_range hk, List.getElem?_eq_getElem hk2]
      obtain ⟨l0, l1⟩ := look k rc[k] (List.getElem?_eq_getElem hk2)
      have hg := (hr k rc[k] (List.getElem?_eq_getElem hk2)).2.2
      generalize rc[k] = r at *
      show some (signAt (passedOf R [] 0) (k : Int)) = some (sgOf ix fl r)
      unfold signAt sgOf
      rw [l0, l1]
      simp only [Option.getD_some, Option.some.injEq, Prod.mk.injEq, true_and]
      obtain ⟨uS, u, oS, o⟩ := r
      obtain ⟨g1, g2⟩ := hg
      simp only at g1 g2 ⊢
      unfold fpos rsign
      simp only
      cases uS <;> cases oS <;> (generalize fl false = x) <;> (generalize fl true = y) <;> cases x <;> cases y <;> simp <;> omega
    · rw [List.getElem?_eq_none (by rw [List.length_range]; omega), List.getElem?_eq_none (by omega)]
      rfl
  · intro k hk
    have hk2 : k < rc.length := by omega
    obtain ⟨l0, l1⟩ := look k rc[k] (List.getElem?_eq_getElem hk2)
    exact ⟨⟨_, l0⟩, _, l1⟩
theorem link_fold (κ : Spot) : ∀ (S : List (Int × Int × Int)), (∀ t ∈ S, t.1 = t.2.1 ∨ (min t.1 t.2.1, max t.1 t.2.1) = κ) → linkOf S = if ∃ t ∈ S, t.1 ≠ t.2.1 then [(κ, (S.map fun t => if t.1 = t.2.1 then 0 else t.2.2).sum)] else [] := by
  have snoc : ∀ n, ∀ S : List (Int × Int × Int), S.length = n → (∀ t ∈ S, t.1 = t.2.1 ∨ (min t.1 t.2.1, max t.1 t.2.1) = κ) → linkOf S = if ∃ t ∈ S, t.1 ≠ t.2.1 then [(κ, (S.map fun t => if t.1 = t.2.1 then 0 else t.2.2).sum)] else [] := by
    intro n
    induction n with
    | zero =>
      intro S h _
      rw [List.length_eq_zero_iff.mp h]
      simp [linkOf]
    | succ n ih =>
      intro S h hk
      have hne : S ≠ [] := fun z => by rw [z] at h; cases h
      rw [← List.dropLast_concat_getLast hne] at hk ⊢
      have ih := ih S.dropLast (by rw [List.length_dropLast]; omega) fun t ht => hk t (List.mem_append_left _ ht)
      have hl := hk (S.getLast hne) (by simp)
      generalize S.getLast hne = t at *
      generalize S.dropLast = L at *
      rw [linkOf_snoc, ih, List.map_append, List.sum_append]
      simp only [List.map_cons, List.map_nil, List.sum_cons, List.sum_nil]
      by_cases ht : t.1 = t.2.1
      · rw [if_pos ht, if_pos ht]
        by_cases hL : ∃ t ∈ L, t.1 ≠ t.2.1
        · obtain ⟨x, hx, e⟩ := hL
          rw [if_pos ⟨x, hx, e⟩, if_pos ⟨x, List.mem_append_left _ hx, e⟩]
          simp
        · rw [if_neg hL, if_neg]
          rintro ⟨x, hx, e⟩
          rcases List.mem_append.mp hx with z | z
          · exact hL ⟨x, z, e⟩
          · rw [List.mem_singleton.mp z] at e
            exact e ht
      · rw [if_neg ht, if_neg ht, if_pos (show ∃ x ∈ L ++ [t], x.1 ≠ x.2.1 from ⟨t, by simp, ht⟩)]
        have hl := hl.resolve_left ht
        rw [hl]
        by_cases hL : ∃ t ∈ L, t.1 ≠ t.2.1
        · rw [if_pos hL]
          simp [addS]
        · rw [if_neg hL]
          have z : (L.map fun t => if t.1 = t.2.1 then 0 else t.2.2).sum = 0 := by
            have e : ∀ x ∈ L, (if x.1 = x.2.1 then (0 : Int) else x.2.2) = 0 := fun x hx => by
              by_cases q : x.1 = x.2.1
              · rw [if_pos q]
              · exact absurd ⟨x, hx, q⟩ hL
            rw [List.map_congr_left e]
            clear e hL hk ih
            induction L with
            | nil => rfl
            | cons a L ih => rw [List.map_cons, List.sum_cons, ih]; rfl
          rw [z]
          simp [addS]
  exact fun S => snoc _ S rfl
def lkL (l : Int) : List Int := if l = 0 then [] else [(l.natAbs : Int)]
theorem sg_mixed (ix : Bool → Nat) (fl : Bool → Bool) (hne : ix false ≠ ix true) (r : Rc) : (sgOf ix fl r).1 = (sgOf ix fl r).2.1 ↔ r.uS = r.oS := by
  obtain ⟨uS, u, oS, o⟩ := r
  unfold sgOf
  cases uS <;> cases oS <;> simp <;> omega
theorem links_par (ix : Bool → Nat) (fl : Bool → Bool) (hne : ix false ≠ ix true) (rc : List Rc) : linksOf (rc.map (sgOf ix fl)) = lkL (lkOf rc) := by
  have hl := link_fold (min (ix false : Int) (ix true : Int), max (ix false : Int) (ix true : Int)) (rc.map (sgOf ix fl)) fun t ht => by
    obtain ⟨r, _, rfl⟩ := List.mem_map.mp ht
    unfold sgOf
    obtain ⟨uS, u, oS, o⟩ := r
    cases uS <;> cases oS <;> simp <;> omega
  have hs : ((rc.map (sgOf ix fl)).map fun t => if t.1 = t.2.1 then 0 else t.2.2).sum = if fl false = fl true then lkOf rc else - lkOf rc := by
    clear hl
    unfold lkOf
    induction rc with
    | nil => simp
    | cons r rc ih =>
      rw [List.map_cons, List.map_cons, List.sum_cons, ih, List.map_cons, List.sum_cons]
      by_cases h : r.uS = r.oS
      · rw [if_pos ((sg_mixed ix fl hne r).mpr h), if_pos h]
        split <;> omega
      · rw [if_neg (fun z => h ((sg_mixed ix fl hne r).mp z)), if_neg h]
        show (if r.uS = r.oS then rsign r else if fl false = fl true then rsign r else - rsign r) + _ = _
        rw [if_neg h]
        split <;> omega
  unfold linksOf
  rw [hl, hs]
  by_cases hm : ∃ t ∈ rc.map (sgOf ix fl), t.1 ≠ t.2.1
  · rw [if_pos hm]
    generalize lkOf rc = l
    unfold lkL
    by_cases h0 : l = 0
    · rw [if_pos h0, h0]
      split <;> rfl
    · rw [if_neg h0]
      by_cases hf : fl false = fl true
      · rw [if_pos hf]
        simp only [List.map_cons, List.map_nil]
        rw [List.filter_cons_of_pos (by simp [h0])]
        simp only [List.filter_nil, List.map_cons, List.map_nil]
        rw [abs_eq]
      · rw [if_neg hf]
        simp only [List.map_cons, List.map_nil]
        rw [List.filter_cons_of_pos (by simp [h0])]
        simp only [List.filter_nil, List.map_cons, List.map_nil]
        rw [abs_eq, Int.natAbs_neg]
  · rw [if_neg hm]
    have z : lkOf rc = 0 := by
      clear hl hs
      unfold lkOf
      induction rc with
      | nil => rfl
      | cons r rc ih =>
        have h1 : r.uS = r.oS := by
          by_cases q : r.uS = r.oS
          · exact q
          · exfalso
            refine hm ⟨sgOf ix fl r, by simp, ?_⟩
            obtain ⟨uS, u, oS, o⟩ := r
            unfold sgOf
            cases uS <;> cases oS <;> simp at q ⊢ <;> omega
        rw [List.map_cons, List.sum_cons, if_pos h1, ih fun ⟨t, ht, e⟩ => hm ⟨t, by rw [List.map_cons]; exact List.mem_cons_of_mem _ ht, e⟩]
        rfl
    unfold lkL
    rw [if_pos z]
    rfl
theorem links_ser (ix : Bool → Nat) (fl : Bool → Bool) (he : ix false = ix true) (rc : List Rc) : linksOf (rc.map (sgOf ix fl)) = [] := by
  have hi : ∀ b c, ix b = ix c := fun b c => by cases b <;> cases c <;> simp [he]
  have hl := link_fold (0, 0) (rc.map (sgOf ix fl)) fun t ht => by
    obtain ⟨r, _, rfl⟩ := List.mem_map.mp ht
    exact .inl (by unfold sgOf; simp only; rw [hi r.uS r.oS])
  rw [if_neg] at hl
  · unfold linksOf
    rw [hl]
    rfl
  · rintro ⟨t, ht, e⟩
    obtain ⟨r, _, rfl⟩ := List.mem_map.mp ht
    exact e (by unfold sgOf; simp only; rw [hi r.uS r.oS])
theorem turns_par (ix : Bool → Nat) (fl : Bool → Bool) (hne : ix false ≠ ix true) (rc : List Rc) : turnsOf (rc.map (sgOf ix fl)) = tuOf rc := by
  induction rc with
  | nil => rfl
  | cons r rc ih =>
    unfold turnsOf tuOf at ih ⊢
    rw [List.map_cons, List.map_cons, List.sum_cons]
    obtain ⟨uS, u, oS, o⟩ := r
    by_cases h : uS = oS
    · subst h
      rw [List.filter_cons_of_pos (by simp [sgOf]), List.map_cons, List.sum_cons, ih]
      simp [sgOf]
    · rw [List.filter_cons_of_neg (by
        unfold sgOf
        cases uS <;> cases oS <;> simp at h ⊢ <;> omega), ih]
      simp [h]
end
end TH
end

section
set_option autoImplicit false
set_option linter.all false
namespace TH
theorem keys_bound {n : Nat} {L : List Spot} (hk : (L.map key).Nodup) (hr : ∀ s ∈ L, InR n s) : L.length ≤ 2 * n := by
  have sub : L.map key ⊆ (List.range n).flatMap fun (k : Nat) => [((k : Int), (0 : Int)), ((k : Int), 1)] := by
    intro x hx
    obtain ⟨s, hs, rfl⟩ := List.mem_map.mp hx
    obtain ⟨h1, h2, h3, h4⟩ := hr s hs
    refine List.mem_flatMap.mpr ⟨s.1.toNat, List.mem_range.mpr (by omega), ?_⟩
    unfold key
    simp only [List.mem_cons, List.not_mem_nil, or_false, Prod.mk.injEq]
    omega
  have := List.Nodup.length_le_of_subset hk sub
  have e : ((List.range n).flatMap fun (k : Nat) => [((k : Int), (0 : Int)), ((k : Int), 1)]).length = 2 * n := by
    clear this sub hk hr
    induction n with
    | zero => rfl
    | succ n ih =>
      rw [List.range_succ, List.flatMap_append, List.length_append, ih]
      simp
      omega
  rw [List.length_map, e] at this
  exact this
theorem path_end {arc : Spot → Int} {a e : Spot} {t : List Spot} (h : Path arc a t e) : arc e ∈ (a :: t).map arc := by
  obtain ⟨p, hp, e1⟩ := mem_snd (a := a) (e := e) (t := t) (x := e) (.inl rfl)
  rw [← e1, ← prs_arc h p hp]
  exact List.mem_map.mpr ⟨p.1, fst_mem hp, rfl⟩
section
variable {w : Web} {s1 e1 s2 e2 : Int} {tA tB : List Spot} {rc : List Rc}
theorem Two.keyU (h : Two w s1 tA e1 s2 tB e2 rc) : KeyU [(-1, s1) :: tA, (-1, s2) :: tB] := by
  have hd := h.kd
  rw [List.map_append, List.nodup_append] at hd
  obtain ⟨kA, kB, kd⟩ := hd
  intro i j q q' hi hj s hs u hu h0 e
  have cases2 : ∀ (i : Nat) (q : List Spot), [(-1, s1) :: tA, (-1, s2) :: tB][i]? = some q → (i = 0 ∧ q = (-1, s1) :: tA) ∨ (i = 1 ∧ q = (-1, s2) :: tB) := fun i q hq => by
    match i with
    | 0 => exact .inl ⟨rfl, (Option.some.inj hq).symm⟩
    | 1 => exact .inr ⟨rfl, (Option.some.inj hq).symm⟩
    | n + 2 => simp at hq
  have eu : u.1 = s.1 := by
    have := congrArg Prod.fst e
    exact this
  have notrim : ∀ (x : Int) (t : List Spot) (v : Spot), v ∈ (-1, x) :: t → 0 ≤ v.1 → v ∈ t := fun x t v hv h0 => by
    rcases List.mem_cons.mp hv with z | z
    · rw [z] at h0
      simp only at h0
      omega
    · exact z
  rcases cases2 i q hi with ⟨rfl, rfl⟩ | ⟨rfl, rfl⟩ <;> rcases cases2 j q' hj with ⟨rfl, rfl⟩ | ⟨rfl, rfl⟩
  · exact ⟨rfl, nd_map kA (notrim _ _ _ hu (by omega)) (notrim _ _ _ hs h0) e⟩
  · exact absurd e.symm (kd _ (List.mem_map.mpr ⟨s, notrim _ _ _ hs h0, rfl⟩) _ (List.mem_map.mpr ⟨u, notrim _ _ _ hu (by omega), rfl⟩))
  · exact absurd e (kd _ (List.mem_map.mpr ⟨u, notrim _ _ _ hu (by omega), rfl⟩) _ (List.mem_map.mpr ⟨s, notrim _ _ _ hs h0, rfl⟩))
  · exact ⟨rfl, nd_map kB (notrim _ _ _ hu (by omega)) (notrim _ _ _ hs h0) e⟩
end
theorem arcs_in {w : Web} {PR : List (Spot × Spot)} (hP : PairOk w PR) {s : Spot} (hs : SpotIn w s) : arcAt w s ∈ PR.map fun p => arcAt w p.1 := by
  obtain ⟨p, hp, z⟩ := hP.all s hs
  have : arcAt w s = arcAt w p.1 := by
    rcases z with rfl | rfl
    · rfl
    · exact (hP.inn p hp).2.2.2.symm
  rw [this]
  exact List.mem_map.mpr ⟨p, hp, rfl⟩
theorem tang_str {w : Web} {d : Dt} (h : Tang w d) (hS : Small w) : ∃ R, StrOk w R ∧ strungOf w.rg (twinsM w) R = (0, [(0, eA d.ty), (sB d.ty, eB d.ty)]) ∧ linksOf (sgM w R) = lkL d.lk ∧ turnsOf (sgM w R) = d.tu := by
  obtain ⟨tA, tB, rc, h, hl, ht⟩ := h
  have hP := h.pairs
  obtain ⟨r1, r2, r3, r4⟩ := h.rng
  have iA : ∀ d ∈ tA, InR w.cr.length d := fun d hd => h.inr d (List.mem_append_left _ hd)
  have iB : ∀ d ∈ tB, InR w.cr.length d := fun d hd => h.inr d (List.mem_append_right _ hd)
  have lA : ∀ p ∈ prs (-1, 0) tA (-1, eA d.ty), (twinsM w).lookup p.1 = some p.2 := fun p hp => (pair_look hP (List.mem_append_left _ hp)).1
  have lB : ∀ p ∈ prs (-1, sB d.ty) tB (-1, eB d.ty), (twinsM w).lookup p.1 = some p.2 := fun p hp => (pair_look hP (List.mem_append_right _ hp)).1
  have roadA : Road (twinsM w) (-1, 0) ((-1, 0) :: tA) := path_road (.inl rfl) lA fun x hx => ⟨by have := (iA x hx).1; omega, (iA x hx).opp2, fun z => by have := (iA x hx).1; rw [z] at this; simp only at this; omega⟩
  have roadB : Road (twinsM w) (-1, sB d.ty) ((-1, sB d.ty) :: tB) := path_road (.inl rfl) lB fun x hx => ⟨by have := (iB x hx).1; omega, (iB x hx).opp2, fun z => by have := (iB x hx).1; rw [z] at this; simp only at this; omega⟩
  have hnd := h.nd
  rw [List.map_append, List.nodup_append] at hnd
  obtain ⟨_, _, dis⟩ := hnd
  have allIn : ∀ s, SpotIn w s → arcAt w s ∈ ((-1, 0) :: tA).map (arcAt w) ++ ((-1, sB d.ty) :: tB).map (arcAt w) := fun s hs => by
    have := arcs_in hP hs
    rw [List.map_append] at this
    have e : ∀ (a : Spot) (t : List Spot) (e : Spot), (prs a t e).map (fun p => arcAt w p.1) = (a :: t).map (arcAt w) := fun a t e => by
      rw [← prs_fst a t e, List.map_map]
      rfl
    rw [e, e] at this
    exact this
  have bin : ∀ s ∈ beginsM w, SpotIn w s := fun s hs => (begins_in h.four hs).1
  have hb : beginsM w = (-1, 0) :: (-1, 1) :: (-1, 2) :: (-1, 3) :: (List.range w.cr.length).flatMap fun (k : Nat) => fourOf (k : Int) := by
    unfold beginsM
    rw [h.en]
    rfl
  have restIn : ∀ s ∈ (List.range w.cr.length).flatMap (fun (k : Nat) => fourOf (k : Int)), SpotIn w s := fun s hs => bin s (by rw [hb]; simp only [List.mem_cons]; exact .inr (.inr (.inr (.inr hs))))
  have eEnd := path_end h.pA
  have eEndB := path_end h.pB
  have hB0 : arcAt w (-1, sB d.ty) ∉ ((-1, 0) :: tA).map (arcAt w) := fun z => dis _ z _ (by simp) rfl
  have roads : Roads (twinsM w) (arcAt w) (beginsM w) [] [(-1, 0) :: tA, (-1, sB d.ty) :: tB] := by
    rw [hb]
    refine .road (by simp) roadA ?_
    rw [List.nil_append]
    have fin : ∀ bs : List Spot, (∀ s ∈ bs, SpotIn w s) → Roads (twinsM w) (arcAt w) bs (((-1, 0) :: tA).map (arcAt w) ++ ((-1, sB d.ty) :: tB).map (arcAt w)) [] := fun bs hbs => roads_skip fun s hs => allIn s (hbs s hs)
    have rimIn : ∀ i : Int, 0 ≤ i → i < 4 → SpotIn w (-1, i) := fun i h0 h4 => rim_spot h.en h0 h4
    obtain ⟨ty, lk, tu⟩ := d
    cases ty
    · refine .road hB0 roadB (fin _ fun s hs => ?_)
      simp only [List.mem_cons] at hs
      rcases hs with rfl | rfl | hs
      · exact rimIn 2 (by decide) (by decide)
      · exact rimIn 3 (by decide) (by decide)
      · exact restIn s hs
    · refine .skip eEnd (.road hB0 roadB (fin _ fun s hs => ?_))
      simp only [List.mem_cons] at hs
      rcases hs with rfl | hs
      · exact rimIn 3 (by decide) (by decide)
      · exact restIn s hs
    · refine .road hB0 roadB (fin _ fun s hs => ?_)
      simp only [List.mem_cons] at hs
      rcases hs with rfl | rfl | hs
      · exact rimIn 2 (by decide) (by decide)
      · exact rimIn 3 (by decide) (by decide)
      · exact restIn s hs
  have kb := keys_bound h.kd h.inr
  rw [List.length_append] at kb
  have hcr := hS.cr
  have sg := sg_eq (n := w.cr.length) h.keyU (fun b => if b then 1 else 0) (fun _ => false) h.rl h.rok fun b s hs => by
    cases b
    · exact ⟨_, rfl, List.mem_cons_of_mem _ hs⟩
    · exact ⟨_, rfl, List.mem_cons_of_mem _ hs⟩
  have rd : RdOk w [(-1, 0) :: tA, (-1, sB d.ty) :: tB] := by
    refine ⟨hS, pair_twos hP, roads, bin, fun r hr s hs => ?_, ?_, (by show 2 ≤ 10000; decide), fun r hr => ?_⟩
    · refine h.spots s ?_
      simp only [List.mem_cons, List.not_mem_nil, or_false] at hr
      rcases hr with rfl | rfl
      · exact List.mem_append_left _ hs
      · exact List.mem_append_right _ hs
    · simp only [List.flatten_cons, List.flatten_nil, List.length_append, List.length_cons, List.length_nil]
      omega
    · simp only [List.mem_cons, List.not_mem_nil, or_false] at hr
      rcases hr with rfl | rfl
      · simp
      · simp
  have hst : strungOf w.rg (twinsM w) [(-1, 0) :: tA, (-1, sB d.ty) :: tB] = (0, [(0, eA d.ty), (sB d.ty, eB d.ty)]) := by
    unfold strungOf
    rw [h.rg]
    simp only [List.filter_cons, List.filter_nil, List.headD_cons, decide_true, if_true, List.map_cons, List.map_nil]
    rw [lA _ (prs_last (-1, 0) tA (-1, eA d.ty) (0, 0)), lB _ (prs_last (-1, sB d.ty) tB (-1, eB d.ty) (0, 0))]
    rfl
  refine ⟨_, ⟨⟨rd, sg.2⟩, fun r hr _ => ?_, ?_⟩, hst, ?_, ?_⟩
  · simp only [List.mem_cons, List.not_mem_nil, or_false] at hr
    rcases hr with rfl | rfl
    · exact ⟨_, lA _ (prs_last (-1, 0) tA (-1, eA d.ty) (0, 0))⟩
    · exact ⟨_, lB _ (prs_last (-1, sB d.ty) tB (-1, eB d.ty) (0, 0))⟩
  · rw [hst]
    simp only [List.pairwise_cons, List.mem_singleton, forall_eq, List.not_mem_nil, false_implies, implies_true, List.Pairwise.nil, and_true]
    cases d.ty <;> decide
  · unfold sgM
    rw [sg.1, links_par _ _ (by decide), hl]
  · unfold sgM
    rw [sg.1, turns_par _ _ (by decide), ht]
end TH
end

section
set_option autoImplicit false
set_option linter.all false
namespace TH
theorem flat_keyU : ∀ (R : List (List Spot)), (R.flatten.map key).Nodup → KeyU R
  | [], _ => fun i j q q' hi => by simp at hi
  | r :: R, h => by
    rw [List.flatten_cons, List.map_append, List.nodup_append] at h
    obtain ⟨h1, h2, h3⟩ := h
    have ih := flat_keyU R h2
    have inR : ∀ (j : Nat) (q : List Spot), R[j]? = some q → ∀ u ∈ q, key u ∈ R.flatten.map key := fun j q hq u hu => List.mem_map.mpr ⟨u, List.mem_flatten.mpr ⟨q, List.mem_of_getElem? hq, hu⟩, rfl⟩
    intro i j q q' hi hj s hs u hu h0 e
    match i, j with
    | 0, 0 =>
      have hi : r = q := Option.some.inj hi
      have hj : r = q' := Option.some.inj hj
      subst hi
      subst hj
      exact ⟨rfl, nd_map h1 hu hs e⟩
    | 0, j + 1 =>
      have hi : r = q := Option.some.inj hi
      subst hi
      exact absurd e.symm (h3 _ (List.mem_map.mpr ⟨s, hs, rfl⟩) _ (inR j q' (by simpa using hj) u hu))
    | i + 1, 0 =>
      have hj : r = q' := Option.some.inj hj
      subst hj
      exact absurd e (h3 _ (List.mem_map.mpr ⟨u, hu, rfl⟩) _ (inR i q (by simpa using hi) s hs))
    | i + 1, j + 1 =>
      obtain ⟨a, b⟩ := ih i j q q' (by simpa using hi) (by simpa using hj) s hs u hu h0 e
      exact ⟨by omega, b⟩
theorem turn_keys {arc : Spot → Int} {C r : List Spot} (T : TurnOf arc C r) : (r.map key).Perm (C.map key) := by
  rcases T.2.1 with pm | pm
  · exact pm.map _
  · refine (pm.map key).trans ?_
    rw [List.map_map]
    have e : C.map (key ∘ opp) = C.map key := List.map_congr_left fun s _ => key_opp s
    rw [e]
theorem pr2_flat {arc : Spot → Int} : ∀ {Cs R : List (List Spot)}, Pr2 (TurnOf arc) Cs R → (R.flatten.map key).Perm (Cs.flatten.map key) ∧ R.length = Cs.length ∧ (∀ C ∈ Cs, ∃ (i : Nat) (r : List Spot), R[i]? = some r ∧ TurnOf arc C r) ∧ ∀ r ∈ R, ∃ C ∈ Cs, TurnOf arc C r
  | _, _, .nil => ⟨List.Perm.refl _, rfl, (fun C h => by cases h), (fun C h => by cases h)⟩
  | _, _, @Pr2.cons _ _ _ C r Cs R T t => by
    obtain ⟨h1, h2, h3, h4⟩ := pr2_flat t
    refine ⟨?_, by rw [List.length_cons, List.length_cons, h2], fun D hD => ?_, fun q hq => ?_⟩
    · rw [List.flatten_cons, List.flatten_cons, List.map_append, List.map_append]
      exact (turn_keys T).append h1
    · rcases List.mem_cons.mp hD with rfl | z
      · exact ⟨0, r, rfl, T⟩
      · obtain ⟨i, q, h5, h6⟩ := h3 D z
        exact ⟨i + 1, q, by simpa using h5, h6⟩
    · rcases List.mem_cons.mp hq with rfl | z
      · exact ⟨C, List.mem_cons_self, T⟩
      · obtain ⟨D, hD, h5⟩ := h4 q z
        exact ⟨D, List.mem_cons_of_mem _ hD, h5⟩
theorem turn_pos {arc : Spot → Int} {C r : List Spot} (T : TurnOf arc C r) : ∃ f : Bool, ∀ s ∈ C, (s.1, fpos f s.2) ∈ r := by
  rcases T.2.1 with pm | pm
  · exact ⟨false, fun s hs => pm.mem_iff.mpr hs⟩
  · exact ⟨true, fun s hs => pm.mem_iff.mpr (List.mem_map.mpr ⟨s, hs, rfl⟩)⟩
structure DoneC (w : Web) (Cs R : List (List Spot)) : Prop where
  rd : RdOk w R
  key : KeyU R
  len : R.length = Cs.length
  at_ : ∀ C ∈ Cs, ∃ (i : Nat) (r : List Spot), R[i]? = some r ∧ TurnOf (arcAt w) C r
  st : strungOf w.rg (twinsM w) R = (w.rg + (Cs.length : Int), [])
  rim : ∀ r ∈ R, (r.headD (0, 0)).1 ≠ -1
theorem len_flat : ∀ (R : List (List Spot)), (∀ r ∈ R, r ≠ []) → R.length ≤ R.flatten.length
  | [], _ => Nat.le_refl _
  | r :: R, h => by
    have := len_flat R fun q hq => h q (List.mem_cons_of_mem _ hq)
    have h0 : 0 < r.length := List.length_pos_iff.mpr (h r List.mem_cons_self)
    rw [List.length_cons, List.flatten_cons, List.length_append]
    omega
theorem cyc_done {w : Web} {Cs : List (List Spot)} (h : Cyc w Cs) (hS : Small w) (hne : ∀ C ∈ Cs, C ≠ []) : ∃ R, DoneC w Cs R := by
  have bin : ∀ s ∈ beginsM w, SpotIn w s := fun s hs => (begins_in h.four hs).1
  obtain ⟨R, rem, h1, h2, h3⟩ := cyc_roads h (beginsM w) Cs [] bin (fun C hC => hC) (fun s hs => .inr (by
    have hP := h.pairs
    obtain ⟨p, hp, z⟩ := hP.all s hs
    obtain ⟨C, hC, hp⟩ := List.mem_flatMap.mp hp
    have i4 := (hP.inn p (List.mem_flatMap.mpr ⟨C, hC, hp⟩)).2.2.2
    refine ⟨C, hC, List.mem_map.mpr ⟨p.1, ?_, ?_⟩⟩
    · rw [← prC_fst C]
      exact List.mem_map.mpr ⟨p, hp, rfl⟩
    · rcases z with rfl | rfl
      · rfl
      · exact i4)) (fun C hC a ha z => by cases z) h.nd fun C hC => by
    obtain ⟨b, t, rfl, _⟩ := h.cy C hC
    exact ⟨b, begins_all ((h.part hC).2 b List.mem_cons_self), List.mem_map.mpr ⟨b, List.mem_cons_self, rfl⟩⟩
  obtain ⟨k1, k2, k3, k4⟩ := pr2_flat h3
  have kp : (R.flatten.map key).Perm (Cs.flatten.map key) := k1.trans ((h2.flatten).map key)
  have spots : ∀ r ∈ R, ∀ s ∈ r, InR w.cr.length s := fun r hr s hs => by
    obtain ⟨C, hC, T⟩ := k4 r hr
    have hi := (h.part (h2.mem_iff.mp hC)).2
    rcases T.2.1 with pm | pm
    · exact hi s (pm.mem_iff.mp hs)
    · obtain ⟨d, hd, rfl⟩ := List.mem_map.mp (pm.mem_iff.mp hs)
      exact inr_opp (hi d hd)
  have rne : ∀ r ∈ R, r ≠ [] := fun r hr => by
    obtain ⟨C, hC, ⟨b, t, e, _⟩, _⟩ := k4 r hr
    rw [e]
    simp
  have len : R.length = Cs.length := by rw [k2, h2.length_eq]
  have heads : ∀ r ∈ R, (r.headD (0, 0)).1 ≠ -1 := fun r hr => by
    match r, rne r hr, spots r hr with
    | b :: t, _, hs =>
      have := (hs b List.mem_cons_self).1
      show b.1 ≠ -1
      omega
  have fl : R.flatten.length ≤ 2 * w.cr.length := by
    have a := keys_bound h.kd h.inr
    have b := kp.length_eq
    rw [List.length_map, List.length_map] at b
    omega
  have rl := len_flat R rne
  have hcr := hS.cr
  refine ⟨R, ⟨hS, pair_twos h.pairs, h1, bin, fun r hr s hs => inR_spot h.four (spots r hr s hs), by omega, by omega, rne⟩, flat_keyU R (kp.nodup_iff.mpr h.kd), len, fun C hC => k3 C (h2.mem_iff.mpr hC), ?_, heads⟩
  unfold strungOf
  have f1 : (R.filter fun r => decide ((r.headD (0, 0)).1 ≠ -1)) = R := List.filter_eq_self.mpr fun r hr => by simpa using heads r hr
  have f2 : (R.filter fun r => decide ((r.headD (0, 0)).1 = -1)) = [] := List.filter_eq_nil_iff.mpr fun r hr => by simpa using heads r hr
  rw [f1, f2, len]
  rfl
theorem cyc_str {w : Web} {Cs R : List (List Spot)} {tA tB : List Spot} {rc : List Rc} (D : DoneC w Cs R) (ix : Bool → Nat) (fl : Bool → Bool) (hl : rc.length = w.cr.length) (hr : ∀ (k : Nat) (r : Rc), rc[k]? = some r → RecOk tA tB (k : Int) r)
    (hp : ∀ b, ∀ s ∈ pick b tA tB, ∃ q, R[ix b]? = some q ∧ (s.1, fpos (fl b) s.2) ∈ q) : StrOk w R ∧ sgM w R = rc.map (sgOf ix fl) := by
  have sg := sg_eq (n := w.cr.length) D.key ix fl hl hr hp
  refine ⟨⟨⟨D.rd, sg.2⟩, fun r hr z => absurd z (D.rim r hr), ?_⟩, sg.1⟩
  rw [D.st]
  exact List.Pairwise.nil
theorem Two.parS {w : Web} {s1 e1 s2 e2 : Int} {tA tB : List Spot} {rc : List Rc} (h : Two w s1 tA e1 s2 tB e2 rc) {x1 y1 x2 y2 : Int} (j1 : JP x1 y1 (arcAt w (-1, s1)) (arcAt w (-1, e1))) (j2 : JP x2 y2 (arcAt w (-1, s2)) (arcAt w (-1, e2))) (hS : Small (rawC w x1 y1 x2 y2)) :
    ∃ R, StrOk (rawC w x1 y1 x2 y2) R ∧ strungOf (rawC w x1 y1 x2 y2).rg (twinsM (rawC w x1 y1 x2 y2)) R = (2, []) ∧ linksOf (sgM (rawC w x1 y1 x2 y2) R) = lkL (lkOf rc) := by
  obtain ⟨hC, hcount⟩ := h.parC j1 j2
  generalize hW : rawC w x1 y1 x2 y2 = W at *
  have hWl : W.cr.length = w.cr.length := by rw [← hW]; exact List.length_map _
  have hWr : W.rg = rings x1 y1 x2 y2 := by rw [← hW]; rfl
  obtain ⟨R, D⟩ := cyc_done hC hS fun C hC => by simpa using (List.mem_filter.mp hC).2
  have memC : ∀ t, t ≠ [] → t = tA ∨ t = tB → t ∈ [tA, tB].filter fun t => decide (t ≠ []) := fun t ht ho => List.mem_filter.mpr ⟨by simpa using ho, by simpa using ht⟩
  have st : strungOf W.rg (twinsM W) R = (2, []) := by rw [D.st, hWr, hcount]
  -- where each lies
  have place : ∀ t, t ≠ [] → t = tA ∨ t = tB → ∃ (i : Nat) (f : Bool) (q : List Spot), R[i]? = some q ∧ (∀ s ∈ t, (s.1, fpos f s.2) ∈ q) ∧ TurnOf (arcAt W) t q := fun t ht ho => by
    obtain ⟨i, r, h1, T⟩ := D.at_ t (memC t ht ho)
    obtain ⟨f, hf⟩ := turn_pos T
    exact ⟨i, f, r, h1, hf, T⟩
  have hd := h.kd
  rw [List.map_append, List.nodup_append] at hd
  have fin : ∀ (ix : Bool → Nat) (fl : Bool → Bool), ix false ≠ ix true → (∀ b, ∀ s ∈ pick b tA tB, ∃ q, R[ix b]? = some q ∧ (s.1, fpos (fl b) s.2) ∈ q) → ∃ R, StrOk W R ∧ strungOf W.rg (twinsM W) R = (2, []) ∧ linksOf (sgM W R) = lkL (lkOf rc) := fun ix fl hne hp => by
    obtain ⟨a, b⟩ := cyc_str (rc := rc) D ix fl (by rw [hWl]; exact h.rl) h.rok hp
    exact ⟨R, a, st, by rw [b, links_par ix fl hne]⟩
  by_cases hA : tA = []
  · by_cases hB : tB = []
    · refine fin (fun b => if b then 1 else 0) (fun _ => false) (by decide) fun b s hs => ?_
      cases b
      · rw [show pick false tA tB = tA from rfl, hA] at hs; cases hs
      · rw [show pick true tA tB = tB from rfl, hB] at hs; cases hs
    · obtain ⟨i, f, q, h1, h2, T1⟩ := place tB hB (.inr rfl)
      refine fin (fun b => if b then i else i + 1) (fun _ => f) (by simp) fun b s hs => ?_
      cases b
      · rw [show pick false tA tB = tA from rfl, hA] at hs; cases hs
      · exact ⟨q, h1, h2 s hs⟩
  · obtain ⟨i, f, q, h1, h2, T1⟩ := place tA hA (.inl rfl)
    by_cases hB : tB = []
    · refine fin (fun b => if b then i + 1 else i) (fun _ => f) (by simp) fun b s hs => ?_
      cases b
      · exact ⟨q, h1, h2 s hs⟩
      · rw [show pick true tA tB = tB from rfl, hB] at hs; cases hs
    · obtain ⟨j, f', q', h3, h4, T2⟩ := place tB hB (.inr rfl)
      have hij : i ≠ j := by
        intro e
        subst e
        rw [h1] at h3
        cases h3
        have pk := (turn_keys T1).symm.trans (turn_keys T2)
        match tA, hA, hd, pk with
        | s :: t, _, hd, pk =>
          exact hd.2.2 (key s) (by simp) (key s) (pk.mem_iff.mp (by simp)) rfl
      refine fin (fun b => if b then j else i) (fun b => if b then f' else f) (by simpa using hij) fun b s hs => ?_
      cases b
      · exact ⟨q, h1, h2 s hs⟩
      · exact ⟨q', h3, h4 s hs⟩
theorem Two.serS {w : Web} {s1 e1 s2 e2 : Int} {tA tB : List Spot} {rc : List Rc} (h : Two w s1 tA e1 s2 tB e2 rc) {x1 y1 x2 y2 : Int} (j1 : JP x1 y1 (arcAt w (-1, s1)) (arcAt w (-1, e2))) (j2 : JP x2 y2 (arcAt w (-1, s2)) (arcAt w (-1, e1))) (hS : Small (rawC w x1 y1 x2 y2)) :
    ∃ R, StrOk (rawC w x1 y1 x2 y2) R ∧ strungOf (rawC w x1 y1 x2 y2).rg (twinsM (rawC w x1 y1 x2 y2)) R = (1, []) ∧ linksOf (sgM (rawC w x1 y1 x2 y2) R) = [] := by
  obtain ⟨hC, hcount⟩ := h.serC j1 j2
  generalize hW : rawC w x1 y1 x2 y2 = W at *
  have hWl : W.cr.length = w.cr.length := by rw [← hW]; exact List.length_map _
  have hWr : W.rg = rings x1 y1 x2 y2 := by rw [← hW]; rfl
  obtain ⟨R, D⟩ := cyc_done hC hS fun C hC => by simpa using (List.mem_filter.mp hC).2
  have st : strungOf W.rg (twinsM W) R = (1, []) := by rw [D.st, hWr, hcount]
  by_cases hA : tA ++ tB = []
  · obtain ⟨a, b⟩ := cyc_str (rc := rc) (tA := tA) (tB := tB) D (fun _ => 0) (fun _ => false) (by rw [hWl]; exact h.rl) h.rok fun b s hs => by
      rw [List.append_eq_nil_iff] at hA
      cases b
      · rw [show pick false tA tB = tA from rfl, hA.1] at hs; cases hs
      · rw [show pick true tA tB = tB from rfl, hA.2] at hs; cases hs
    exact ⟨R, a, st, by rw [b, links_ser _ _ rfl]⟩
  · obtain ⟨i, r, h1, T⟩ := D.at_ (tA ++ tB) (List.mem_filter.mpr ⟨by simp, decide_eq_true hA⟩)
    obtain ⟨f, hf⟩ := turn_pos T
    obtain ⟨a, b⟩ := cyc_str (rc := rc) (tA := tA) (tB := tB) D (fun _ => i) (fun _ => f) (by rw [hWl]; exact h.rl) h.rok fun b s hs => by
      cases b
      · exact ⟨r, h1, hf s (List.mem_append_left _ hs)⟩
      · exact ⟨r, h1, hf s (List.mem_append_right _ hs)⟩
    exact ⟨R, a, st, by rw [b, links_ser _ _ rfl]⟩
end TH
end

section
set_option autoImplicit false
set_option linter.all false
namespace TH
theorem str_ren {w : Web} {R : List (List Spot)} {f : Int → Int} (hf : InjOn f (arcs w)) (h : StrOk w R) : StrOk (ren f w) R ∧ strungOf (ren f w).rg (twinsM (ren f w)) R = strungOf w.rg (twinsM w) R ∧ sgM (ren f w) R = sgM w R := by
  have ht := twins_ren hf
  have hb := begins_ren f w
  have hsg : sgM (ren f w) R = sgM w R := by
    unfold sgM
    rw [show (ren f w).cr.length = w.cr.length from List.length_map _]
  obtain ⟨⟨rd, al⟩, he, hr⟩ := h
  have in1 : ∀ s, SpotIn w s → arcAt w s ∈ arcs w ∧ arcAt (ren f w) s = f (arcAt w s) := fun s hs => ⟨arcAt_mem hs, arcAt_ren f hs⟩
  refine ⟨⟨⟨⟨rd.small.ren f, ?_, ?_, ?_, ?_, rd.flat, rd.len, rd.ne⟩, ?_⟩, ?_, ?_⟩, by rw [ht]; rfl, hsg⟩
  · intro e he
    rw [places_ren hf] at he
    obtain ⟨g, hg, rfl⟩ := List.mem_map.mp he
    exact rd.twos g hg
  · rw [ht, hb]
    have := roads_ren (arc' := arcAt (ren f w)) hf rd.roads (fun s hs => in1 s (rd.begins s hs)) (fun r hr s hs => in1 s (rd.spots r hr s hs)) (fun a ha => by cases ha)
    exact this
  · intro s hs
    rw [hb] at hs
    exact (spotIn_ren f w s).mpr (rd.begins s hs)
  · intro r hr s hs
    exact (spotIn_ren f w s).mpr (rd.spots r hr s hs)
  · intro k hk
    rw [show (ren f w).cr.length = w.cr.length from List.length_map _] at hk
    exact al k hk
  · rw [ht]
    exact he
  · rw [ht]
    exact hr
theorem joined_eq (w : Web) (i j : Nat) : joinedM w i j = ⟨w.cr.map (·.map (jn (w.en.getD i 0) (w.en.getD j 0))), (keptM w.en i j).map (jn (w.en.getD i 0) (w.en.getD j 0)), w.rg + if w.en.getD i 0 = w.en.getD j 0 then 1 else 0⟩ := by
  unfold joinedM
  generalize w.en.getD i 0 = a
  generalize w.en.getD j 0 = b
  show (if a = b then _ else _) = _
  by_cases h : a = b
  · subst h
    rw [if_pos rfl, if_pos rfl]
    have hid : ∀ z, jn a a z = z := fun z => by
      unfold jn
      split
      · rename_i e
        exact e.symm
      · rfl
    rw [map_id_of fun z _ => hid z]
    congr 1
    rw [List.map_congr_left (g := id) fun z _ => hid z]
    simp
  · rw [if_neg h, if_neg h]
    unfold ren
    simp only [Int.add_zero]
    rfl
theorem raw_two {w : Web} {i j : Nat} {x1 y1 x2 y2 : Int} (hr : w.rg = 0) (h1 : w.en.getD i 0 = x1) (h2 : w.en.getD j 0 = y1) (h3 : keptM w.en i j = [x2, y2]) (hx : x1 ∈ w.en) (hx2 : x2 ∈ w.en) :
    ∃ n, InjOn n (arcs (rawC w x1 y1 x2 y2)) ∧ anew (joinedM (anew (joinedM w i j)) (0 : Nat) (1 : Nat)) = anew (ren n (rawC w x1 y1 x2 y2)) := by
  have e1 : joinedM w i j = ⟨w.cr.map (·.map (jn x1 y1)), [jn x1 y1 x2, jn x1 y1 y2], if x1 = y1 then 1 else 0⟩ := by
    rw [joined_eq, h1, h2, h3, hr, Int.zero_add]
    rfl
  have hin := InjOn.anew (joinedM w i j)
  refine ⟨idx (keys (joinedM w i j)), ?_, ?_⟩
  · intro a ha b hb e
    have sub : ∀ a ∈ arcs (rawC w x1 y1 x2 y2), a ∈ arcs (joinedM w i j) := fun a ha => by
      rw [e1]
      unfold arcs rawC at ha
      unfold arcs
      simp only [List.append_nil] at ha
      obtain ⟨c, hc, hac⟩ := List.mem_flatten.mp ha
      obtain ⟨d, hd, rfl⟩ := List.mem_map.mp hc
      obtain ⟨z, hz, rfl⟩ := List.mem_map.mp hac
      have hz2 : jn x1 y1 z ∈ (w.cr.map (·.map (jn x1 y1))).flatten := List.mem_flatten.mpr ⟨d.map (jn x1 y1), List.mem_map.mpr ⟨d, hd, rfl⟩, List.mem_map.mpr ⟨z, hz, rfl⟩⟩
      show jn (jn x1 y1 x2) (jn x1 y1 y2) (jn x1 y1 z) ∈ _
      have two : ∀ a b u : Int, jn a b u = a ∨ jn a b u = u := fun a b u => by
        unfold jn
        split
        · exact .inl rfl
        · exact .inr rfl
      rcases two (jn x1 y1 x2) (jn x1 y1 y2) (jn x1 y1 z) with q | q
      · rw [q]; exact List.mem_append_right _ List.mem_cons_self
      · rw [q]; exact List.mem_append_left _ hz2
    exact hin a (sub a ha) b (sub b hb) e
  · congr 1
    generalize hW : joinedM w i j = W at *
    generalize hn : idx (keys W) = n at *
    show joinedM (anew W) 0 1 = _
    unfold anew
    rw [hn, joined_eq]
    have en : W.en = [jn x1 y1 x2, jn x1 y1 y2] := by rw [e1]
    have g0 : (ren n W).en.getD 0 0 = n (jn x1 y1 x2) := by unfold ren; rw [en]; rfl
    have g1 : (ren n W).en.getD 1 0 = n (jn x1 y1 y2) := by unfold ren; rw [en]; rfl
    have gk : keptM (ren n W).en (0 : Nat) (1 : Nat) = [] := by unfold ren; rw [en]; rfl
    rw [g0, g1, gk]
    have mx : jn x1 y1 x2 ∈ arcs W := by unfold arcs; rw [en]; exact List.mem_append_right _ (by simp)
    have my : jn x1 y1 y2 ∈ arcs W := by unfold arcs; rw [en]; exact List.mem_append_right _ (by simp)
    have key : ∀ z ∈ arcs W, jn (n (jn x1 y1 x2)) (n (jn x1 y1 y2)) (n z) = n (jn (jn x1 y1 x2) (jn x1 y1 y2) z) := fun z hz => by
      generalize jn x1 y1 x2 = a at *
      generalize jn x1 y1 y2 = b at *
      unfold jn
      by_cases q : z = b
      · rw [if_pos q, if_pos (by rw [q])]
      · rw [if_neg q, if_neg (fun e => q (hin z hz b my e))]
    have ecr : (ren n W).cr.map (·.map (jn (n (jn x1 y1 x2)) (n (jn x1 y1 y2)))) = ((rawC w x1 y1 x2 y2).cr).map (·.map n) := by
      unfold ren rawC
      simp only
      rw [List.map_map]
      have : W.cr = w.cr.map (·.map (jn x1 y1)) := by rw [e1]
      have hsub : ∀ c ∈ W.cr, ∀ z ∈ c, z ∈ arcs W := fun c hc z hz => List.mem_append_left _ (List.mem_flatten.mpr ⟨c, hc, hz⟩)
      rw [this] at hsub ⊢
      rw [List.map_map, List.map_map]
      refine List.map_congr_left fun c hc => ?_
      show (((c.map (jn x1 y1)).map n).map _) = (c.map (jf x1 y1 x2 y2)).map n
      rw [List.map_map, List.map_map, List.map_map]
      refine List.map_congr_left fun z hz => ?_
      exact key _ (hsub _ (List.mem_map.mpr ⟨c, hc, rfl⟩) _ (List.mem_map.mpr ⟨z, hz, rfl⟩))
    have erg : (ren n W).rg + (if n (jn x1 y1 x2) = n (jn x1 y1 y2) then 1 else 0) = rings x1 y1 x2 y2 := by
      unfold rings ren
      simp only
      rw [show W.rg = if x1 = y1 then 1 else 0 by rw [e1]]
      congr 1
      by_cases q : jn x1 y1 x2 = jn x1 y1 y2
      · rw [if_pos q, if_pos (by rw [q])]
      · rw [if_neg q, if_neg (fun e => q (hin _ mx _ my e))]
    rw [ecr, erg]
    rfl
/-- the names of the ends, joined by each way -/
def cl4 (w : Web) (way : Int) : Web := if way = 0 then rawC w (arcAt w (-1, 3)) (arcAt w (-1, 0)) (arcAt w (-1, 1)) (arcAt w (-1, 2)) else rawC w (arcAt w (-1, 0)) (arcAt w (-1, 1)) (arcAt w (-1, 2)) (arcAt w (-1, 3))
theorem closed_raw {w : Web} (he : w.en.length = 4) (hr : w.rg = 0) (way : Int) : ∃ n, InjOn n (arcs (cl4 w way)) ∧ closedM w way = anew (ren n (cl4 w way)) := by
  obtain ⟨e0, e1, e2, e3, h4⟩ : ∃ e0 e1 e2 e3, w.en = [e0, e1, e2, e3] := by
    match h : w.en, he with
    | [a, b, c, d], _ => exact ⟨a, b, c, d, rfl⟩
  have a0 : arcAt w (-1, 0) = e0 := by unfold arcAt; rw [if_pos rfl, h4]; rfl
  have a1 : arcAt w (-1, 1) = e1 := by unfold arcAt; rw [if_pos rfl, h4]; rfl
  have a2 : arcAt w (-1, 2) = e2 := by unfold arcAt; rw [if_pos rfl, h4]; rfl
  have a3 : arcAt w (-1, 3) = e3 := by unfold arcAt; rw [if_pos rfl, h4]; rfl
  unfold cl4 closedM
  rw [a0, a1, a2, a3]
  by_cases hw : way = 0
  · rw [if_pos hw, if_pos hw]
    obtain ⟨n, h1, h2⟩ := raw_two (w := w) (i := 3) (j := 0) (x1 := e3) (y1 := e0) (x2 := e1) (y2 := e2) hr (by rw [h4]; rfl) (by rw [h4]; rfl) (by rw [h4]; rfl) (by rw [h4]; simp) (by rw [h4]; simp)
    refine ⟨n, h1, ?_⟩
    rw [← h2]
    unfold shutM
    have l1 : (3 + 1) % w.en.length = 0 := by rw [he]
    have l2 : (0 + 1) % (anew (joinedM w 3 0)).en.length = 1 := by
      have : (anew (joinedM w 3 0)).en.length = 2 := by
        unfold anew ren
        rw [joined_eq]
        simp only [List.length_map, h4]
        rfl
      rw [this]
    rw [l1, l2]
  · rw [if_neg hw, if_neg hw]
    obtain ⟨n, h1, h2⟩ := raw_two (w := w) (i := 0) (j := 1) (x1 := e0) (y1 := e1) (x2 := e2) (y2 := e3) hr (by rw [h4]; rfl) (by rw [h4]; rfl) (by rw [h4]; rfl) (by rw [h4]; simp) (by rw [h4]; simp)
    refine ⟨n, h1, ?_⟩
    rw [← h2]
    unfold shutM
    have l1 : (0 + 1) % w.en.length = 1 := by rw [he]
    have l2 : (0 + 1) % (anew (joinedM w 0 1)).en.length = 1 := by
      have : (anew (joinedM w 0 1)).en.length = 2 := by
        unfold anew ren
        rw [joined_eq]
        simp only [List.length_map, h4]
        rfl
      rw [this]
    rw [l1, l2]
def parW (t : Ty) (way : Int) : Bool := match t with
  | .lev => decide (way = 0)
  | .upr => decide (way ≠ 0)
  | .cro => false
theorem close_str {w : Web} {d : Dt} (h : Tang w d) (hS : Small w) (way : Int) : ∃ R, StrOk (closedM w way) R ∧ strungOf (closedM w way).rg (twinsM (closedM w way)) R = (if parW d.ty way then 2 else 1, []) ∧ linksOf (sgM (closedM w way) R) = if parW d.ty way then lkL d.lk else [] := by
  obtain ⟨he, hr⟩ := h.len
  obtain ⟨n, hn, e⟩ := closed_raw he hr way
  have hraw : ∀ x1 y1 x2 y2, Small (rawC w x1 y1 x2 y2) := fun x1 y1 x2 y2 => by
    refine ⟨by show (w.cr.map _).length ≤ 200; rw [List.length_map]; exact hS.cr, ?_⟩
    have := hS.sp
    rw [allSpots_len] at this ⊢
    have e2 : ((rawC w x1 y1 x2 y2).cr.map List.length) = w.cr.map List.length := by
      unfold rawC
      simp only
      rw [List.map_map]
      exact List.map_congr_left fun c _ => List.length_map _
    rw [e2]
    show _ + 0 ≤ _
    omega
  have core : ∃ R, StrOk (cl4 w way) R ∧ strungOf (cl4 w way).rg (twinsM (cl4 w way)) R = (if parW d.ty way then 2 else 1, []) ∧ linksOf (sgM (cl4 w way) R) = if parW d.ty way then lkL d.lk else [] := by
    obtain ⟨tA, tB, rc, T, hl, _⟩ := h
    obtain ⟨ty, lk, tu⟩ := d
    simp only at hl T ⊢
    unfold cl4
    by_cases hw : way = 0
    · rw [if_pos hw]
      cases ty
      · rw [show parW .lev way = true by simp [parW, hw]]
        obtain ⟨R, a, b, c⟩ := T.parS (.inr ⟨rfl, rfl⟩) (.inl ⟨rfl, rfl⟩) (hraw _ _ _ _)
        exact ⟨R, a, b, by rw [← hl]; exact c⟩
      · rw [show parW .upr way = false by simp [parW, hw]]
        exact T.serS (.inr ⟨rfl, rfl⟩) (.inr ⟨rfl, rfl⟩) (hraw _ _ _ _)
      · exact T.serS (.inr ⟨rfl, rfl⟩) (.inl ⟨rfl, rfl⟩) (hraw _ _ _ _)
    · rw [if_neg hw]
      cases ty
      · rw [show parW .lev way = false by simp [parW, hw]]
        exact T.revB.serS (.inl ⟨rfl, rfl⟩) (.inl ⟨rfl, rfl⟩) (hraw _ _ _ _)
      · rw [show parW .upr way = true by simp [parW, hw]]
        obtain ⟨R, a, b, c⟩ := T.parS (.inl ⟨rfl, rfl⟩) (.inl ⟨rfl, rfl⟩) (hraw _ _ _ _)
        exact ⟨R, a, b, by rw [← hl]; exact c⟩
      · exact T.revB.serS (.inl ⟨rfl, rfl⟩) (.inr ⟨rfl, rfl⟩) (hraw _ _ _ _)
  obtain ⟨R, S, b, c⟩ := core
  obtain ⟨S1, b1, c1⟩ := str_ren hn S
  obtain ⟨S2, b2, c2⟩ := str_ren (InjOn.anew (ren n (cl4 w way))) S1
  rw [e]
  exact ⟨R, S2, by rw [← b, ← b1, ← b2]; rfl, by rw [← c, ← c1, ← c2]; rfl⟩
end TH
end

section
set_option autoImplicit false
set_option linter.all false
/-! Clearing keeps count. -/
namespace TH
def isNz (r : List Int) : Bool := r.any fun n => decide (n ≠ 0)
def nzs (rows : List (List Int)) : Nat := (rows.filter isNz).length
def lst (rows : List (List Int)) : Nat := match rows.flatten.filter fun n => decide (n ≠ 0) with
  | [] => 0
  | a :: r => (r.foldl min a).toNat
def mu (m : Nat) (rows : List (List Int)) : Nat := nzs rows * (m + 1) + lst rows
theorem foldl_min_le : ∀ (r : List Int) (a : Int), r.foldl min a ≤ a ∧ (∀ b ∈ r, r.foldl min a ≤ b) ∧ r.foldl min a ∈ a :: r
  | [], a => ⟨Int.le_refl _, (fun b h => by cases h), by simp⟩
  | c :: r, a => by
    obtain ⟨h1, h2, h3⟩ := foldl_min_le r (min a c)
    rw [List.foldl_cons]
    refine ⟨by omega, fun b hb => ?_, ?_⟩
    · rcases List.mem_cons.mp hb with rfl | z
      · omega
      · exact h2 b z
    · rcases List.mem_cons.mp h3 with z | z
      · rw [z]
        rcases Int.le_total a c with q | q
        · rw [Int.min_eq_left q]; simp
        · rw [Int.min_eq_right q]; simp
      · exact List.mem_cons_of_mem _ (List.mem_cons_of_mem _ z)
theorem lst_le {rows : List (List Int)} {n : Int} (h : n ∈ rows.flatten) (h0 : 0 < n) : lst rows ≤ n.toNat := by
  have hm : n ∈ rows.flatten.filter fun n => decide (n ≠ 0) := List.mem_filter.mpr ⟨h, decide_eq_true (by omega)⟩
  unfold lst
  cases e : rows.flatten.filter fun n => decide (n ≠ 0) with
  | nil => rw [e] at hm; cases hm
  | cons a r =>
    rw [e] at hm
    obtain ⟨h1, h2, _⟩ := foldl_min_le r a
    show (r.foldl min a).toNat ≤ _
    rcases List.mem_cons.mp hm with rfl | z
    · omega
    · have := h2 n z
      omega
theorem lst_eq {rows : List (List Int)} {i j : Nat} {r : List Int} {e : Int} (hr : rows[i]? = some r) (he : r[j]? = some e) (h0 : e ≠ 0) (hl : ∀ n ∈ rows.flatten, n ≠ 0 → e ≤ n) : lst rows = e.toNat := by
  have hin : e ∈ rows.flatten := List.mem_flatten.mpr ⟨r, List.mem_of_getElem? hr, List.mem_of_getElem? he⟩
  have hm : e ∈ rows.flatten.filter fun n => decide (n ≠ 0) := List.mem_filter.mpr ⟨hin, decide_eq_true h0⟩
  unfold lst
  cases q : rows.flatten.filter fun n => decide (n ≠ 0) with
  | nil => rw [q] at hm; cases hm
  | cons a r =>
    rw [q] at hm
    obtain ⟨h1, h2, h3⟩ := foldl_min_le r a
    show (r.foldl min a).toNat = _
    have h4 : r.foldl min a ≤ e := by
      rcases List.mem_cons.mp hm with rfl | z
      · exact h1
      · exact h2 e z
    have h5 : r.foldl min a ∈ rows.flatten.filter fun n => decide (n ≠ 0) := by rw [q]; exact h3
    obtain ⟨h6, h7⟩ := List.mem_filter.mp h5
    have := hl _ h6 (of_decide_eq_true h7)
    omega
theorem lst_m {rows : List (List Int)} {k m : Nat} (h : Sized rows k (m : Int)) : lst rows ≤ m := by
  unfold lst
  cases q : rows.flatten.filter fun n => decide (n ≠ 0) with
  | nil => exact Nat.zero_le _
  | cons a r =>
    have h3 := (foldl_min_le r a).2.2
    have h5 : r.foldl min a ∈ rows.flatten.filter fun n => decide (n ≠ 0) := by rw [q]; exact h3
    obtain ⟨s, hs, hs2⟩ := List.mem_flatten.mp (List.mem_filter.mp h5).1
    have := h.lo s hs _ hs2
    show (r.foldl min a).toNat ≤ m
    omega
theorem nzs_le : ∀ {A B : List (List Int)}, A.length = B.length → (∀ (i : Nat) (a b : List Int), A[i]? = some a → B[i]? = some b → isNz a = true → isNz b = true) → nzs A ≤ nzs B
  | [], [], _, _ => Nat.le_refl _
  | a :: A, b :: B, h, hp => by
    have ih := nzs_le (A := A) (B := B) (by simpa using h) fun i x y hx hy => hp (i + 1) x y (by simpa using hx) (by simpa using hy)
    have h0 := hp 0 a b rfl rfl
    unfold nzs at ih ⊢
    rw [List.filter_cons, List.filter_cons]
    cases ha : isNz a
    · simp only [Bool.false_eq_true, if_false]
      split
      · rw [List.length_cons]; omega
      · exact ih
    · rw [h0 ha]
      simp only [if_true, List.length_cons]
      omega
theorem nzs_lt : ∀ {A B : List (List Int)} {i0 : Nat} {a0 b0 : List Int}, A.length = B.length → (∀ (i : Nat) (a b : List Int), A[i]? = some a → B[i]? = some b → isNz a = true → isNz b = true) → A[i0]? = some a0 → B[i0]? = some b0 → isNz a0 = false → isNz b0 = true → nzs A + 1 ≤ nzs B
  | [], [], i0, _, _, _, _, h, _, _, _ => by simp at h
  | a :: A, b :: B, 0, a0, b0, h, hp, h1, h2, h3, h4 => by
    have ih := nzs_le (A := A) (B := B) (by simpa using h) fun i x y hx hy => hp (i + 1) x y (by simpa using hx) (by simpa using hy)
    have e1 : a = a0 := Option.some.inj h1
    have e2 : b = b0 := Option.some.inj h2
    subst e1 e2
    unfold nzs at ih ⊢
    rw [List.filter_cons, List.filter_cons, h3, h4]
    simp only [Bool.false_eq_true, if_false, if_true, List.length_cons]
    omega
  | a :: A, b :: B, i0 + 1, a0, b0, h, hp, h1, h2, h3, h4 => by
    have ih := nzs_lt (A := A) (B := B) (i0 := i0) (by simpa using h) (fun i x y hx hy => hp (i + 1) x y (by simpa using hx) (by simpa using hy)) (by simpa using h1) (by simpa using h2) h3 h4
    have h0 := hp 0 a b rfl rfl
    unfold nzs at ih ⊢
    rw [List.filter_cons, List.filter_cons]
    cases ha : isNz a
    · simp only [Bool.false_eq_true, if_false]
      split
      · rw [List.length_cons]; omega
      · exact ih
    · rw [h0 ha]
      simp only [if_true, List.length_cons]
      omega
theorem isNz_iff {r : List Int} : isNz r = true ↔ ∃ n ∈ r, n ≠ 0 := by
  unfold isNz
  rw [List.any_eq_true]
  constructor
  · rintro ⟨n, h1, h2⟩; exact ⟨n, h1, of_decide_eq_true h2⟩
  · rintro ⟨n, h1, h2⟩; exact ⟨n, h1, decide_eq_true h2⟩
/-! ### the cleared rows -/
theorem clearN_get (rows : List (List Int)) (a col : Nat) (m : Int) : ∀ (n l : Nat), n ≤ rows.length → (clearN rows a col m n)[l]? = if l < n ∧ l ≠ a then rows[l]?.map fun r => subRow (oftenOf r (rows.getD a []) col) r (rows.getD a []) m else rows[l]?
  | 0, l, _ => by simp [clearN]
  | n + 1, l, hn => by
    have ih := fun l => clearN_get rows a col m n l (by omega)
    unfold clearN
    by_cases h : n = a
    · rw [if_pos h, ih]
      by_cases h2 : l < n ∧ l ≠ a
      · rw [if_pos h2, if_pos ⟨by omega, h2.2⟩]
      · rw [if_neg h2, if_neg (fun z => h2 ⟨by omega, z.2⟩)]
    · rw [if_neg h]
      by_cases hl : n = l
      · subst hl
        rw [List.getElem?_set_self (by rw [clearN_len]; omega), if_pos ⟨by omega, h⟩]
        have e := ih n
        rw [if_neg (by omega)] at e
        rw [List.getD_eq_getElem?_getD (l := clearN rows a col m n), e, List.getElem?_eq_getElem (by omega)]
        rfl
      · rw [List.getElem?_set_ne hl, ih]
        by_cases h2 : l < n ∧ l ≠ a
        · rw [if_pos h2, if_pos ⟨by omega, h2.2⟩]
        · rw [if_neg h2, if_neg (fun z => h2 ⟨by omega, z.2⟩)]
theorem sub_get {q m : Int} {r h : List Int} {j : Nat} (hl : r.length = h.length) (hj : j < r.length) : (subRow q r h m).getD j 0 = (r.getD j 0 - q * h.getD j 0) % m := by
  unfold subRow
  rw [List.getD_eq_getElem?_getD, List.getElem?_zipWith, List.getD_eq_getElem?_getD, List.getD_eq_getElem?_getD, List.getElem?_eq_getElem hj, List.getElem?_eq_getElem (by omega)]
  rfl
structure Step (rows : List (List Int)) (k m i j : Nat) (head : List Int) (e : Int) : Prop where
  sz : Sized rows k (m : Int)
  m0 : 0 < m
  hi : i < rows.length
  hd : rows[i]? = some head
  hg : rows.getD i [] = head
  lk : head.length = k
  hj : j < k
  he : head.getD j 0 = e
  e0 : 0 < e
  em : e < (m : Int)
  ls : ∀ n ∈ rows.flatten, n ≠ 0 → e ≤ n
theorem step_of {rows : List (List Int)} {k m i j : Nat} (hS : Sized rows k (m : Int)) (hm : 0 < m) (h : IsLeast rows i j) : ∃ head e, Step rows k m i j head e ∧ lst rows = e.toNat := by
  obtain ⟨r, e, h1, h2, h3, h4⟩ := h
  have mr := List.mem_of_getElem? h1
  have me := List.mem_of_getElem? h2
  have hb := hS.lo r mr e me
  have hi := (List.getElem?_eq_some_iff.mp h1).1
  have hj := (List.getElem?_eq_some_iff.mp h2).1
  have hl := hS.len r mr
  refine ⟨r, e, ⟨hS, hm, hi, h1, by rw [List.getD_eq_getElem?_getD, h1]; rfl, hl, by omega, by rw [List.getD_eq_getElem?_getD, h2]; rfl, by omega, hb.2, h4⟩, lst_eq h1 h2 h3 h4⟩
section
variable {rows : List (List Int)} {k m i j : Nat} {head : List Int} {e : Int}
theorem Step.get (s : Step rows k m i j head e) (l : Nat) : (clearN rows i j m rows.length)[l]? = if l < rows.length ∧ l ≠ i then rows[l]?.map fun r => subRow (oftenOf r head j) r head m else rows[l]? := by
  rw [clearN_get _ _ _ _ _ _ (Nat.le_refl _), s.hg]
theorem Step.mem (s : Step rows k m i j head e) {r : List Int} (h : r ∈ clearN rows i j m rows.length) : r = head ∨ ∃ r' ∈ rows, r = subRow (oftenOf r' head j) r' head m := by
  obtain ⟨l, hl⟩ := List.mem_iff_getElem?.mp h
  rw [s.get] at hl
  split at hl
  · obtain ⟨r', h1, rfl⟩ := Option.map_eq_some_iff.mp hl
    exact .inr ⟨r', List.mem_of_getElem? h1, rfl⟩
  · rename_i hc
    have hlt := (List.getElem?_eq_some_iff.mp hl).1
    have : l = i := by
      by_cases z : l = i
      · exact z
      · exact absurd ⟨hlt, z⟩ hc
    rw [this, s.hd] at hl
    exact .inl (Option.some.inj hl).symm
/-- cleared rows ask the same -/
theorem Step.sat (s : Step rows k m i j head e) (x : List Int) : (∀ r ∈ clearN rows i j m rows.length, (m : Int) ∣ dot r x) ↔ ∀ r ∈ rows, (m : Int) ∣ dot r x := by
  have hin : head ∈ clearN rows i j m rows.length := by
    refine List.mem_iff_getElem?.mpr ⟨i, ?_⟩
    rw [s.get, if_neg (fun z => z.2 rfl)]
    exact s.hd
  constructor
  · intro h r hr
    have hh := h head hin
    obtain ⟨l, hl⟩ := List.mem_iff_getElem?.mp hr
    have hlt := (List.getElem?_eq_some_iff.mp hl).1
    by_cases z : l = i
    · rw [z, s.hd] at hl
      rw [← Option.some.inj hl]
      exact hh
    · have h1 := h (subRow (oftenOf r head j) r head m) (List.mem_iff_getElem?.mpr ⟨l, by rw [s.get, if_pos ⟨hlt, z⟩, hl]; rfl⟩)
      have h2 := dot_sub (q := oftenOf r head j) (m := (m : Int)) (r := r) (h := head) (x := x) (by rw [s.sz.len r hr, s.lk])
      have h3 : (m : Int) ∣ dot r x - oftenOf r head j * dot head x := by
        have := Int.dvd_sub h1 h2
        rw [show dot (subRow (oftenOf r head j) r head m) x - (dot (subRow (oftenOf r head j) r head m) x - (dot r x - oftenOf r head j * dot head x)) = dot r x - oftenOf r head j * dot head x by omega] at this
        exact this
      have := Int.dvd_add h3 (Int.dvd_trans hh (Int.dvd_mul_left (oftenOf r head j) _))
      rw [show dot r x - oftenOf r head j * dot head x + oftenOf r head j * dot head x = dot r x by omega] at this
      exact this
  · intro h r hr
    have hh := h head (List.mem_of_getElem? s.hd)
    rcases s.mem hr with rfl | ⟨r', hr', rfl⟩
    · exact hh
    · have h2 := dot_sub (q := oftenOf r' head j) (m := (m : Int)) (r := r') (h := head) (x := x) (by rw [s.sz.len r' hr', s.lk])
      have h1 := Int.dvd_sub (h r' hr') (Int.dvd_trans hh (Int.dvd_mul_left (oftenOf r' head j) _))
      have := Int.dvd_add h2 h1
      rw [show dot (subRow (oftenOf r' head j) r' head m) x - (dot r' x - oftenOf r' head j * dot head x) + (dot r' x - oftenOf r' head j * dot head x) = dot (subRow (oftenOf r' head j) r' head m) x by omega] at this
      exact this
theorem Step.sols (s : Step rows k m i j head e) : (sols m k (clearN rows i j m rows.length)).length = (TH.sols m k rows).length := by
  unfold TH.sols
  congr 1
  refine List.filter_congr fun x _ => ?_
  have := s.sat x
  rw [Bool.eq_iff_iff, solves_iff, solves_iff]
  exact this
theorem sub_zero {q mm : Int} {r h : List Int} (hr : ∀ n ∈ r, n = 0) (hq : q = 0) : ∀ n ∈ subRow q r h mm, n = 0 := by
  subst hq
  induction r generalizing h with
  | nil => intro n hn; simp [subRow] at hn
  | cons a r ih =>
    cases h with
    | nil => intro n hn; simp [subRow] at hn
    | cons b h =>
      intro n hn
      rcases List.mem_cons.mp (show n ∈ (a - 0 * b) % mm :: subRow 0 r h mm from hn) with z | z
      · rw [z, hr a List.mem_cons_self]; simp
      · exact ih (fun x hx => hr x (List.mem_cons_of_mem _ hx)) n z
theorem Step.nz (s : Step rows k m i j head e) (l : Nat) (a b : List Int) (ha : (clearN rows i j m rows.length)[l]? = some a) (hb : rows[l]? = some b) (h : isNz a = true) : isNz b = true := by
  rw [s.get] at ha
  split at ha
  · rw [hb] at ha
    have ha := Option.some.inj ha
    by_cases hz : isNz b = true
    · exact hz
    · exfalso
      have hb0 : ∀ n ∈ b, n = 0 := fun n hn => by
        by_cases q : n = 0
        · exact q
        · exact absurd (isNz_iff.mpr ⟨n, hn, q⟩) hz
      have hq : oftenOf b head j = 0 := by
        unfold oftenOf
        have : b.getD j 0 = 0 := by
          rw [List.getD_eq_getElem?_getD]
          cases q : b[j]? with
          | none => rfl
          | some n => exact hb0 n (List.mem_of_getElem? q)
        rw [this]
        simp
      obtain ⟨n, hn, h0⟩ := isNz_iff.mp h
      rw [← ha] at hn
      exact h0 (sub_zero hb0 hq n hn)
  · rw [hb] at ha
    rw [Option.some.inj ha]
    exact h
theorem Step.sized (s : Step rows k m i j head e) : Sized (clearN rows i j m rows.length) k (m : Int) := clearN_sized s.sz s.hi (by have := s.m0; omega) _
/-- a column of noughts stays one -/
theorem Step.zero (s : Step rows k m i j head e) {z : Nat} (hz : z < k) (h : ∀ r ∈ rows, r.getD z 0 = 0) : ∀ r ∈ clearN rows i j m rows.length, r.getD z 0 = 0 := by
  intro r hr
  rcases s.mem hr with rfl | ⟨r', hr', rfl⟩
  · exact h _ (List.mem_of_getElem? s.hd)
  · rw [sub_get (by rw [s.sz.len r' hr', s.lk]) (by rw [s.sz.len r' hr']; exact hz), h r' hr', h head (List.mem_of_getElem? s.hd)]
    simp
/-- what is left over in the column is less -/
theorem Step.left (s : Step rows k m i j head e) {l : Nat} {r : List Int} (hr : rows[l]? = some r) (hl : l ≠ i) : ∃ r', (clearN rows i j m rows.length)[l]? = some r' ∧ r'.getD j 0 = r.getD j 0 % e := by
  have hlt := (List.getElem?_eq_some_iff.mp hr).1
  have mr := List.mem_of_getElem? hr
  refine ⟨_, by rw [s.get, if_pos ⟨hlt, hl⟩, hr]; rfl, ?_⟩
  rw [sub_get (by rw [s.sz.len r mr, s.lk]) (by rw [s.sz.len r mr]; exact s.hj)]
  unfold oftenOf
  rw [s.he]
  have h1 := Int.mul_ediv_add_emod (r.getD j 0) e
  have h2 : r.getD j 0 - r.getD j 0 / e * e = r.getD j 0 % e := by rw [Int.mul_comm]; omega
  rw [h2]
  have h3 := Int.emod_nonneg (r.getD j 0) (show e ≠ 0 by have := s.e0; omega)
  have h4 := Int.emod_lt_of_pos (r.getD j 0) s.e0
  have := s.em
  exact Int.emod_eq_of_lt h3 (by omega)
end
end TH
end

section
set_option autoImplicit false
set_option linter.all false
namespace TH
open L2
theorem forall_set {P : List Int → Prop} {L : List (List Int)} {i : Nat} {a : List Int} (hi : i < L.length) : (∀ r ∈ L.set i a, P r) ↔ P a ∧ ∀ l r, l ≠ i → L[l]? = some r → P r := by
  constructor
  · intro h
    refine ⟨h a (List.mem_iff_getElem?.mpr ⟨i, List.getElem?_set_self hi⟩), fun l r hl hr => h r (List.mem_iff_getElem?.mpr ⟨l, ?_⟩)⟩
    rw [List.getElem?_set_ne (fun z => hl z.symm)]
    exact hr
  · rintro ⟨h1, h2⟩ r hr
    obtain ⟨l, hl⟩ := List.mem_iff_getElem?.mp hr
    by_cases e : i = l
    · subst e
      rw [List.getElem?_set_self hi] at hl
      rw [← Option.some.inj hl]
      exact h1
    · rw [List.getElem?_set_ne e] at hl
      exact h2 l r (fun z => e z.symm) hl
theorem forall_at {P : List Int → Prop} {L : List (List Int)} {i : Nat} {a : List Int} (hi : L[i]? = some a) : (∀ r ∈ L, P r) ↔ P a ∧ ∀ l r, l ≠ i → L[l]? = some r → P r := by
  constructor
  · intro h
    exact ⟨h a (List.mem_of_getElem? hi), fun l r _ hr => h r (List.mem_of_getElem? hr)⟩
  · rintro ⟨h1, h2⟩ r hr
    obtain ⟨l, hl⟩ := List.mem_iff_getElem?.mp hr
    by_cases e : l = i
    · rw [e, hi] at hl
      rw [← Option.some.inj hl]
      exact h1
    · exact h2 l r e hl
theorem getD_map_mod {h : List Int} {j : Nat} (e : Int) (hj : j < h.length) : (h.map (· % e)).getD j 0 = h.getD j 0 % e := by
  rw [List.getD_eq_getElem?_getD, List.getD_eq_getElem?_getD, List.getElem?_map, List.getElem?_eq_getElem hj]
  rfl
theorem getD_map_div {h : List Int} {j : Nat} (e : Int) (hj : j < h.length) : (h.map (· / e)).getD j 0 = h.getD j 0 / e := by
  rw [List.getD_eq_getElem?_getD, List.getD_eq_getElem?_getD, List.getElem?_map, List.getElem?_eq_getElem hj]
  rfl
theorem sum_zero : ∀ {l : List Int}, (∀ n ∈ l, 0 ≤ n) → l.sum = 0 → ∀ n ∈ l, n = 0
  | [], _, _, n, h => by cases h
  | a :: l, h0, hs, n, h => by
    have nn : ∀ l : List Int, (∀ n ∈ l, 0 ≤ n) → 0 ≤ l.sum := by
      intro l
      induction l with
      | nil => exact fun _ => Int.le_refl _
      | cons b l ih =>
        intro h
        have := ih fun n hn => h n (List.mem_cons_of_mem _ hn)
        have := h b List.mem_cons_self
        rw [List.sum_cons]
        omega
    rw [List.sum_cons] at hs
    have h1 := h0 a List.mem_cons_self
    have h2 := nn l fun n hn => h0 n (List.mem_cons_of_mem _ hn)
    rcases List.mem_cons.mp h with rfl | z
    · omega
    · exact sum_zero (fun n hn => h0 n (List.mem_cons_of_mem _ hn)) (by omega) n z
section
variable {rows : List (List Int)} {k m i j : Nat} {head : List Int} {e : Int}
theorem Step.rem (s : Step rows k m i j head e) : remOf rows i j = head.map (· % e) := by
  unfold remOf
  rw [s.hg, s.he]
theorem Step.at1 (s : Step rows k m i j head e) : (clearN rows i j m rows.length)[i]? = some head := by
  rw [s.get, if_neg (fun z => z.2 rfl)]
  exact s.hd
theorem Step.len1 (s : Step rows k m i j head e) : (clearN rows i j m rows.length).length = rows.length := clearN_len _ _ _ _ _
theorem Step.col (s : Step rows k m i j head e) (hE : EmptyAt (clearN rows i j m rows.length) i j rows.length) {l : Nat} {r : List Int} (hl : l ≠ i) (hr : (clearN rows i j m rows.length)[l]? = some r) : r.getD j 0 = 0 := by
  have hlt := (List.getElem?_eq_some_iff.mp hr).1
  rw [s.len1] at hlt
  have := hE l hlt hl
  rw [List.getD_eq_getElem?_getD (l := clearN rows i j m rows.length), hr] at this
  exact this
/-- the head in another unknown -/
theorem Step.change (s : Step rows k m i j head e) (hE : EmptyAt (clearN rows i j m rows.length) i j rows.length) :
    (TH.sols m k (clearN rows i j m rows.length)).length = (TH.sols m k ((clearN rows i j m rows.length).set i ((head.map (· % e)).set j e))).length := by
  have lq : ((head.map (· / e)).set j 0).length = k := by rw [List.length_set, List.length_map, s.lk]
  have hjm : j < (head.map (· / e)).length := by rw [List.length_map, s.lk]; exact s.hj
  refine sols_shft s.m0 (q := (head.map (· / e)).set j 0) (c := j) lq s.hj (getD_set_self hjm 0) fun x hx => ?_
  rw [forall_at s.at1, forall_set (by rw [s.len1]; exact s.hi)]
  have hjx : j < x.length := by rw [hx]; exact s.hj
  refine and_congr ?_ ?_
  · have lr : (head.map (· % e)).length = x.length := by rw [List.length_map, s.lk, hx]
    have lh : (head.map (· / e)).length = x.length := by rw [List.length_map, s.lk, hx]
    have ly : (shft m ((head.map (· / e)).set j 0) j 1 x).length = x.length := by unfold shft; rw [List.length_set]
    have rj : (head.map (· % e)).getD j 0 = 0 := by
      rw [getD_map_mod e (by rw [s.lk]; exact s.hj), s.he]
      exact Int.emod_self
    have dj : (head.map (· / e)).getD j 0 = 1 := by
      rw [getD_map_div e (by rw [s.lk]; exact s.hj), s.he]
      exact Int.ediv_self (by have := s.e0; omega)
    have a1 : dot ((head.map (· % e)).set j e) (shft m ((head.map (· / e)).set j 0) j 1 x) = dot (head.map (· % e)) x + e * ((x.getD j 0 + dot ((head.map (· / e)).set j 0) x) % (m : Int)) := by
      rw [dot_set_l _ (by rw [ly]; exact lr) (by rw [ly]; exact hjx), rj]
      unfold shft
      rw [dot_set _ lr hjx, rj, getD_set_self hjx, Int.one_mul, Int.sub_zero]
      omega
    have a2 : dot ((head.map (· / e)).set j 0) x = dot (head.map (· / e)) x - x.getD j 0 := by
      rw [dot_set_l _ lh hjx, dj]
      omega
    have a3 := dot_split e head x
    rw [a1, a2, show x.getD j 0 + (dot (head.map (· / e)) x - x.getD j 0) = dot (head.map (· / e)) x by omega, a3]
    generalize dot (head.map (· % e)) x = A
    generalize dot (head.map (· / e)) x = B
    have hmod := Int.emod_add_mul_ediv B (m : Int)
    have e1 : A + e * (B % (m : Int)) = (e * B + A) - (m : Int) * (e * (B / (m : Int))) := by
      have : e * B = e * (B % (m : Int)) + (m : Int) * (e * (B / (m : Int))) := by
        rw [← Int.mul_assoc, Int.mul_comm (m : Int) e, Int.mul_assoc, ← Int.mul_add, hmod]
      omega
    rw [e1]
    constructor
    · intro h
      exact Int.dvd_sub h (Int.dvd_mul_right _ _)
    · intro h
      have := Int.dvd_add h (Int.dvd_mul_right (m : Int) (e * (B / (m : Int))))
      rw [show e * B + A - (m : Int) * (e * (B / (m : Int))) + (m : Int) * (e * (B / (m : Int))) = e * B + A by omega] at this
      exact this
  · refine forall_congr' fun l => forall_congr' fun r => forall_congr' fun hl => forall_congr' fun hr => ?_
    have hc := s.col hE hl hr
    have hrl := s.sized.len r (List.mem_of_getElem? hr)
    have := shft_dot (m := m) (q := (head.map (· / e)).set j 0) (x := x) (r := r) (c := j) (s := 1) (by rw [hrl, hx]) hjx
    rw [hc, Int.zero_mul, Int.add_zero] at this
    generalize dot r (shft m ((head.map (· / e)).set j 0) j 1 x) = A at *
    generalize dot r x = B at *
    constructor
    · intro h
      have := Int.dvd_add this h
      rw [show A - B + B = A by omega] at this
      exact this
    · intro h
      have := Int.dvd_sub h this
      rw [show A - (A - B) = B by omega] at this
      exact this
theorem Step.gcd (s : Step rows k m i j head e) (hE : EmptyAt (clearN rows i j m rows.length) i j rows.length) (h0 : ∀ n ∈ head.map (· % e), n = 0) :
    m * (TH.sols m k (clearN rows i j m rows.length)).length = Nat.gcd m e.toNat * (TH.sols m k ((clearN rows i j m rows.length).set i (head.map (· % e)))).length := by
  rw [s.change hE]
  have hil : i < (clearN rows i j m rows.length).length := by rw [s.len1]; exact s.hi
  let O : List Int → Bool := fun x => decide (∀ l, l < rows.length → l ≠ i → (m : Int) ∣ dot ((clearN rows i j m rows.length).getD l []) x)
  have hOi : ∀ x, O x = true ↔ ∀ l r, l ≠ i → (clearN rows i j m rows.length)[l]? = some r → (m : Int) ∣ dot r x := fun x => by
    rw [decide_eq_true_iff]
    constructor
    · intro h l r hl hr
      have hlt := (List.getElem?_eq_some_iff.mp hr).1
      rw [s.len1] at hlt
      have := h l hlt hl
      rw [List.getD_eq_getElem?_getD, hr] at this
      exact this
    · intro h l hlt hl
      refine h l _ hl ?_
      rw [List.getD_eq_getElem?_getD, List.getElem?_eq_getElem (by rw [s.len1]; exact hlt)]
      rfl
  have hO : ∀ x v, x.length = k → O (x.set j v) = O x := fun x v hx => by
    rw [Bool.eq_iff_iff, hOi, hOi]
    refine forall_congr' fun l => forall_congr' fun r => forall_congr' fun hl => forall_congr' fun hr => ?_
    rw [dot_set v (by rw [s.sized.len r (List.mem_of_getElem? hr), hx]) (by rw [hx]; exact s.hj), s.col hE hl hr, Int.zero_mul, Int.add_zero]
  have c1 := split_count (m := m) s.hj O hO ((List.range m).filter fun c => decide (m ∣ e.toNat * c)) (List.nodup_range.filter _) fun a ha => List.mem_range.mp (List.mem_filter.mp ha).1
  have c2 := split_count (m := m) s.hj O hO (List.range m) List.nodup_range fun a ha => List.mem_range.mp ha
  rw [gcd_count s.m0] at c1
  rw [List.length_range] at c2
  have hz : ∀ x : List Int, dot (head.map (· % e)) x = 0 := fun x => dot_zero _ _ h0
  have s1 : TH.sols m k ((clearN rows i j m rows.length).set i ((head.map (· % e)).set j e)) = (vecs m k).filter fun x => O x && decide ((x.getD j 0).toNat ∈ (List.range m).filter fun c => decide (m ∣ e.toNat * c)) := by
    unfold TH.sols
    refine List.filter_congr fun x hx => ?_
    obtain ⟨hl, hin⟩ := mem_vecs.mp hx
    have hj2 := getD_in (c := j) (by rw [hl]; exact s.hj) hin
    rw [Bool.eq_iff_iff, solves_iff, forall_set hil, Bool.and_eq_true, hOi, and_comm]
    refine and_congr Iff.rfl ?_
    rw [dot_set_l _ (by rw [List.length_map, s.lk, hl]) (by rw [hl]; exact s.hj), hz, Int.zero_add]
    have rj : (head.map (· % e)).getD j 0 = 0 := by
      rw [getD_map_mod e (by rw [s.lk]; exact s.hj), s.he]
      exact Int.emod_self
    rw [rj, Int.sub_zero, decide_eq_true_iff, List.mem_filter, List.mem_range, decide_eq_true_iff]
    have he0 := s.e0
    have e1 : e * x.getD j 0 = ((e.toNat * (x.getD j 0).toNat : Nat) : Int) := by
      rw [Int.natCast_mul, show ((e.toNat : Nat) : Int) = e by omega, show (((x.getD j 0).toNat : Nat) : Int) = x.getD j 0 by have := hj2.1; omega]
    rw [e1, Int.natCast_dvd_natCast]
    constructor
    · intro h
      have := hj2.2
      have := hj2.1
      exact ⟨by omega, h⟩
    · exact fun h => h.2
  have s2 : TH.sols m k ((clearN rows i j m rows.length).set i (head.map (· % e))) = (vecs m k).filter fun x => O x && decide ((x.getD j 0).toNat ∈ List.range m) := by
    unfold TH.sols
    refine List.filter_congr fun x hx => ?_
    obtain ⟨hl, hin⟩ := mem_vecs.mp hx
    have hj2 := getD_in (c := j) (by rw [hl]; exact s.hj) hin
    rw [Bool.eq_iff_iff, solves_iff, forall_set hil, Bool.and_eq_true, hOi, and_comm]
    refine and_congr Iff.rfl ?_
    rw [hz, decide_eq_true_iff, List.mem_range]
    constructor
    · intro _
      have := hj2.2
      have := hj2.1
      omega
    · exact fun _ => Int.dvd_zero _
  rw [s1, s2, c1, c2, ← Nat.mul_assoc, ← Nat.mul_assoc, Nat.mul_comm m]
end
/-! ### the whole -/
structure InvC (T m k rg : Nat) (rows : List (List Int)) (many : Nat) (found : Int) : Prop where
  sz : Sized rows k (m : Int)
  len : rows.length ≤ 200
  ex : ∃ Z : List Nat, Z.Nodup ∧ many + Z.length = k ∧ (∀ c ∈ Z, c < k ∧ ∀ r ∈ rows, r.getD c 0 = 0) ∧ 0 ≤ found ∧ found ≤ ((m ^ (rg + Z.length) : Nat) : Int) ∧ found * ((TH.sols m k rows).length : Int) = ((T * m ^ Z.length : Nat) : Int)
theorem nd_len {Z : List Nat} {k : Nat} (h : Z.Nodup) (hk : ∀ c ∈ Z, c < k) : Z.length ≤ k := by
  have := List.Nodup.length_le_of_subset h (l₂ := List.range k) fun c hc => List.mem_range.mpr (hk c hc)
  rw [List.length_range] at this
  exact this
theorem elim_sys {T m k rg : Nat} (hm : 0 < m) (hm1 : m ≤ 1000) (hk : k ≤ 1000) (hrg : rg ≤ 1000) : ElimSys (m : Int) k (InvC T m k rg) (mu m) (T : Int) where
  sized := fun rows many found h => ⟨h.sz, Nat.le_trans h.len (by decide)⟩
  bnd := fun rows many found h => by
    obtain ⟨Z, h1, h2, h3, h4, h5, h6⟩ := h.ex
    refine ⟨by omega, ?_⟩
    have hz : Z.length ≤ 1000 := by omega
    have p10 : ∀ n, m ^ n < 2 ^ (10 * n + 1) := fun n => by
      have : m ^ n ≤ (2 ^ 10) ^ n := Nat.pow_le_pow_left (by omega) n
      rw [← Nat.pow_mul] at this
      have h2 : 2 ^ (10 * n) < 2 ^ (10 * n + 1) := Nat.pow_lt_pow_right (by decide) (by omega)
      omega
    refine wide_mul (a := 10 * (rg + Z.length) + 1) (b := 10 * many + 1) ?_ ?_ (by omega) (by omega) (by omega)
    · have := p10 (rg + Z.length)
      omega
    · have := p10 many
      have e : ((m : Int) ^ many).natAbs = m ^ many := by
        rw [← Int.natCast_pow]
        rfl
      rw [e]
      exact this
  fin := fun rows many found h h0 => by
    obtain ⟨Z, h1, h2, h3, h4, h5, h6⟩ := h.ex
    rw [sols_all h0, ← h2, Nat.pow_add, Int.natCast_mul, Int.natCast_mul, ← Int.mul_assoc] at h6
    have hp : ((m ^ Z.length : Nat) : Int) ≠ 0 := by
      have := Nat.pow_pos (n := Z.length) hm
      omega
    have := Int.eq_of_mul_eq_mul_right hp h6
    rw [← Int.natCast_pow]
    exact this
  far := fun rows many found i j h hL hne => by
    obtain ⟨head, e, s, hl⟩ := step_of h.sz hm hL
    obtain ⟨Z, h1, h2, h3, h4, h5, h6⟩ := h.ex
    refine ⟨⟨s.sized, by rw [s.len1]; exact h.len, Z, h1, h2, fun c hc => ⟨(h3 c hc).1, s.zero (h3 c hc).1 (h3 c hc).2⟩, h4, h5, by rw [s.sols]; exact h6⟩, ?_⟩
    have n1 : nzs (clearN rows i j m rows.length) ≤ nzs rows := nzs_le s.len1 s.nz
    have ⟨l, hl1, hl2, hl3⟩ : ∃ l, l < rows.length ∧ l ≠ i ∧ ((clearN rows i j m rows.length).getD l []).getD j 0 ≠ 0 := by
      refine Classical.byContradiction fun z => hne fun l h1 h2 => ?_
      by_cases q : ((clearN rows i j m rows.length).getD l []).getD j 0 = 0
      · exact q
      · exact absurd ⟨l, h1, h2, q⟩ z
    obtain ⟨r', g1, g2⟩ := s.left (List.getElem?_eq_getElem hl1) hl2
    rw [List.getD_eq_getElem?_getD (l := clearN rows i j m rows.length), g1] at hl3
    have hl3 : r'.getD j 0 ≠ 0 := hl3
    have mr := List.mem_of_getElem? g1
    have hlt := Int.emod_lt_of_pos (rows[l].getD j 0) s.e0
    have hge := Int.emod_nonneg (rows[l].getD j 0) (show e ≠ 0 by have := s.e0; omega)
    rw [← g2] at hlt hge
    have hin : r'.getD j 0 ∈ (clearN rows i j m rows.length).flatten := by
      refine List.mem_flatten.mpr ⟨r', mr, ?_⟩
      rw [List.getD_eq_getElem?_getD, List.getElem?_eq_getElem (by rw [s.sized.len r' mr]; exact s.hj)]
      exact List.getElem_mem _
    have := lst_le hin (by omega)
    have hm2 := Nat.mul_le_mul_right (m + 1) n1
    unfold mu
    rw [hl]
    omega
  nul := fun rows many found i j h hL hE hs => by
    obtain ⟨head, e, s, hl⟩ := step_of h.sz hm hL
    obtain ⟨Z, h1, h2, h3, h4, h5, h6⟩ := h.ex
    have hrem := s.rem
    rw [hrem] at hs ⊢
    have hin : ∀ n ∈ head.map (· % e), 0 ≤ n := fun n hn => by
      obtain ⟨a, _, rfl⟩ := List.mem_map.mp hn
      exact Int.emod_nonneg _ (by have := s.e0; omega)
    have h0 := sum_zero hin hs
    have hg := s.gcd hE h0
    have hil : i < (clearN rows i j m rows.length).length := by rw [s.len1]; exact s.hi
    have zget : ∀ c, (head.map (· % e)).getD c 0 = 0 := fun c => by
      rw [List.getD_eq_getElem?_getD]
      cases q : (head.map (· % e))[c]? with
      | none => rfl
      | some n => exact h0 n (List.mem_of_getElem? q)
    have jZ : j ∉ Z := fun z => by
      have := (h3 j z).2 head (List.mem_of_getElem? s.hd)
      rw [s.he] at this
      have := s.e0
      omega
    have nZ : (j :: Z).Nodup := List.nodup_cons.mpr ⟨jZ, h1⟩
    have kZ : ∀ c ∈ j :: Z, c < k := fun c hc => by
      rcases List.mem_cons.mp hc with rfl | z
      · exact s.hj
      · exact (h3 c z).1
    have lZ := nd_len nZ kZ
    rw [List.length_cons] at lZ
    rw [s.hg, s.he]
    have mtn : ((m : Int)).toNat = m := by omega
    rw [mtn]
    have gle : Nat.gcd m e.toNat ≤ m := Nat.gcd_le_left _ hm
    refine ⟨by omega, ⟨?_, by rw [List.length_set, s.len1]; exact h.len, j :: Z, nZ, by rw [List.length_cons]; omega, fun c hc => ⟨kZ c hc, ?_⟩, ?_, ?_, ?_⟩, ?_⟩
    · refine ⟨fun r hr => ?_, fun r hr n hn => ?_⟩
      · rcases List.mem_or_eq_of_mem_set hr with z | z
        · exact s.sized.len r z
        · rw [z, List.length_map]; exact s.lk
      · rcases List.mem_or_eq_of_mem_set hr with z | z
        · exact s.sized.lo r z n hn
        · rw [z] at hn
          rw [h0 n hn]
          exact ⟨Int.le_refl 0, by omega⟩
    · rw [forall_set hil]
      refine ⟨zget c, fun l r hl2 hr => ?_⟩
      rcases List.mem_cons.mp hc with rfl | z
      · exact s.col hE hl2 hr
      · exact s.zero (h3 c z).1 (h3 c z).2 r (List.mem_of_getElem? hr)
    · exact Int.mul_nonneg h4 (by omega)
    · rw [List.length_cons, ← Nat.add_assoc, Nat.pow_succ, Int.natCast_mul]
      exact Int.mul_le_mul h5 (by omega) (by omega) (by omega)
    · rw [Int.mul_assoc, ← Int.natCast_mul, ← hg, s.sols, Int.natCast_mul, Int.mul_left_comm, h6, List.length_cons, Nat.pow_succ, ← Nat.mul_assoc, Int.natCast_mul (T * m ^ Z.length), Int.mul_comm]
    · have n1 : nzs ((clearN rows i j m rows.length).set i (head.map (· % e))) + 1 ≤ nzs rows := by
        refine nzs_lt (i0 := i) (a0 := head.map (· % e)) (b0 := head) (by rw [List.length_set]; exact s.len1) (fun l a b ha hb hz => ?_) (List.getElem?_set_self hil) s.hd ?_ ?_
        · by_cases q : i = l
          · subst q
            rw [List.getElem?_set_self hil] at ha
            rw [← Option.some.inj ha] at hz
            obtain ⟨n, hn, hn0⟩ := isNz_iff.mp hz
            exact absurd (h0 n hn) hn0
          · rw [List.getElem?_set_ne q] at ha
            exact s.nz l a b ha hb hz
        · cases q : isNz (head.map (· % e))
          · rfl
          · obtain ⟨n, hn, hn0⟩ := isNz_iff.mp q
            exact absurd (h0 n hn) hn0
        · refine isNz_iff.mpr ⟨e, ?_, by have := s.e0; omega⟩
          rw [← s.he, List.getD_eq_getElem?_getD, List.getElem?_eq_getElem (by rw [s.lk]; exact s.hj)]
          exact List.getElem_mem _
      have sz2 : Sized ((clearN rows i j m rows.length).set i (head.map (· % e))) k (m : Int) := by
        refine ⟨fun r hr => ?_, fun r hr n hn => ?_⟩
        · rcases List.mem_or_eq_of_mem_set hr with z | z
          · exact s.sized.len r z
          · rw [z, List.length_map]; exact s.lk
        · rcases List.mem_or_eq_of_mem_set hr with z | z
          · exact s.sized.lo r z n hn
          · rw [z] at hn
            rw [h0 n hn]
            exact ⟨Int.le_refl 0, by omega⟩
      have l1 := lst_m sz2
      have hm2 := Nat.mul_le_mul_right (m + 1) n1
      rw [Nat.add_mul, Nat.one_mul] at hm2
      unfold mu
      omega
  red := fun rows many found i j h hL hE hs => by
    obtain ⟨head, e, s, hl⟩ := step_of h.sz hm hL
    obtain ⟨Z, h1, h2, h3, h4, h5, h6⟩ := h.ex
    have hrem := s.rem
    rw [hrem] at hs ⊢
    rw [s.hg, s.he]
    have hil : i < (clearN rows i j m rows.length).length := by rw [s.len1]; exact s.hi
    have rin : ∀ n ∈ (head.map (· % e)).set j e, 0 ≤ n ∧ n < (m : Int) := fun n hn => by
      have he0 := s.e0
      have hem := s.em
      rcases List.mem_or_eq_of_mem_set hn with z | z
      · obtain ⟨a, _, rfl⟩ := List.mem_map.mp z
        have := Int.emod_nonneg a (show e ≠ 0 by omega)
        have := Int.emod_lt_of_pos a he0
        omega
      · omega
    refine ⟨⟨?_, by rw [List.length_set, s.len1]; exact h.len, Z, h1, h2, fun c hc => ⟨(h3 c hc).1, ?_⟩, h4, h5, by rw [← s.change hE, s.sols]; exact h6⟩, ?_⟩
    · refine ⟨fun r hr => ?_, fun r hr n hn => ?_⟩
      · rcases List.mem_or_eq_of_mem_set hr with z | z
        · exact s.sized.len r z
        · rw [z, List.length_set, List.length_map]; exact s.lk
      · rcases List.mem_or_eq_of_mem_set hr with z | z
        · exact s.sized.lo r z n hn
        · rw [z] at hn
          exact rin n hn
    · rw [forall_set hil]
      refine ⟨?_, fun l r hl2 hr => s.zero (h3 c hc).1 (h3 c hc).2 r (List.mem_of_getElem? hr)⟩
      have hz := (h3 c hc).2 head (List.mem_of_getElem? s.hd)
      have hcj : j ≠ c := fun q => by
        rw [← q, s.he] at hz
        have := s.e0
        omega
      rw [List.getD_eq_getElem?_getD, List.getElem?_set_ne hcj, ← List.getD_eq_getElem?_getD, getD_map_mod e (by rw [s.lk]; exact (h3 c hc).1), hz]
      exact Int.zero_emod e
    · have n1 : nzs ((clearN rows i j m rows.length).set i ((head.map (· % e)).set j e)) ≤ nzs rows := by
        refine nzs_le (by rw [List.length_set]; exact s.len1) fun l a b ha hb hz => ?_
        by_cases q : i = l
        · subst q
          rw [s.hd] at hb
          rw [← Option.some.inj hb]
          refine isNz_iff.mpr ⟨e, ?_, by have := s.e0; omega⟩
          rw [← s.he, List.getD_eq_getElem?_getD, List.getElem?_eq_getElem (by rw [s.lk]; exact s.hj)]
          exact List.getElem_mem _
        · rw [List.getElem?_set_ne q] at ha
          exact s.nz l a b ha hb hz
      have ⟨n, hn, hn0⟩ : ∃ n ∈ head.map (· % e), n ≠ 0 := by
        refine Classical.byContradiction fun z => hs ?_
        have : ∀ n ∈ head.map (· % e), n = 0 := fun n hn => by
          by_cases q : n = 0
          · exact q
          · exact absurd ⟨n, hn, q⟩ z
        have gen : ∀ l : List Int, (∀ n ∈ l, n = 0) → l.sum = 0 := by
          intro l
          induction l with
          | nil => exact fun _ => rfl
          | cons a l ih =>
            intro h
            rw [List.sum_cons, ih fun n hn => h n (List.mem_cons_of_mem _ hn), h a List.mem_cons_self]
            rfl
        exact gen _ this
      obtain ⟨c, hc⟩ := List.mem_iff_getElem?.mp hn
      have hcl := (List.getElem?_eq_some_iff.mp hc).1
      have hcj : j ≠ c := fun q => by
        subst q
        rw [List.getElem?_map] at hc
        obtain ⟨a, h7, rfl⟩ := Option.map_eq_some_iff.mp hc
        have : a = e := by
          have := s.he
          rw [List.getD_eq_getElem?_getD, h7] at this
          exact this
        rw [this] at hn0
        exact hn0 Int.emod_self
      have hin : n ∈ ((clearN rows i j m rows.length).set i ((head.map (· % e)).set j e)).flatten := by
        refine List.mem_flatten.mpr ⟨_, List.mem_iff_getElem?.mpr ⟨i, List.getElem?_set_self hil⟩, List.mem_iff_getElem?.mpr ⟨c, ?_⟩⟩
        rw [List.getElem?_set_ne hcj]
        exact hc
      have hb : 0 < n ∧ n < e := by
        obtain ⟨a, _, rfl⟩ := List.mem_map.mp hn
        have := Int.emod_nonneg a (show e ≠ 0 by have := s.e0; omega)
        have := Int.emod_lt_of_pos a s.e0
        omega
      have l1 := lst_le hin hb.1
      have hm2 := Nat.mul_le_mul_right (m + 1) n1
      unfold mu
      rw [hl]
      omega
end TH
end

section
set_option autoImplicit false
set_option linter.all false
/-! How many colours: by two numbers. -/
namespace TH
/-! ### groups -/
theorem groups_bd {w : Web} {c : List Int} (hc : c ∈ w.cr) : groupF w (c.getD 1 0) = groupF w (c.getD 3 0) := by
  unfold groupF
  obtain ⟨l1, l2, e⟩ := List.append_of_mem hc
  rw [e, List.foldl_append, List.foldl_cons]
  have keep : ∀ (l : List (List Int)) (F : Int → Int) (a b : Int), F a = F b → l.foldl mergeG F a = l.foldl mergeG F b := by
    intro l
    induction l with
    | nil => exact fun F a b h => h
    | cons d l ih =>
      intro F a b h
      rw [List.foldl_cons]
      refine ih _ a b ?_
      unfold mergeG
      rw [h]
  refine keep l2 _ _ _ ?_
  generalize l1.foldl mergeG (idx (keys w)) = F
  unfold mergeG
  by_cases h : F (c.getD 1 0) = F (c.getD 3 0)
  · rw [if_pos h, if_pos rfl]
  · rw [if_neg h, if_pos rfl]
theorem idx_inj {l : List Int} {a b : Int} (ha : a ∈ l) (hb : b ∈ l) (h : idx l a = idx l b) : a = b := by
  unfold idx at h
  have h : l.idxOf a = l.idxOf b := by omega
  have h1 := List.getElem_idxOf (List.idxOf_lt_length_iff.mpr ha)
  have h2 := List.getElem_idxOf (List.idxOf_lt_length_iff.mpr hb)
  rw [← h1, ← h2]
  congr 1
theorem groups_const {w : Web} {y : Int → Int} (h4 : ∀ c ∈ w.cr, c.length = 4) (hy : ∀ c ∈ w.cr, y (c.getD 1 0) = y (c.getD 3 0)) : ∀ a ∈ keys w, ∀ b ∈ keys w, groupF w a = groupF w b → y a = y b := by
  unfold groupF
  have gen : ∀ (l : List (List Int)) (F : Int → Int), (∀ c ∈ l, y (c.getD 1 0) = y (c.getD 3 0) ∧ c.getD 1 0 ∈ keys w ∧ c.getD 3 0 ∈ keys w) → (∀ a ∈ keys w, ∀ b ∈ keys w, F a = F b → y a = y b) → ∀ a ∈ keys w, ∀ b ∈ keys w, l.foldl mergeG F a = l.foldl mergeG F b → y a = y b := by
    intro l
    induction l with
    | nil => exact fun F _ h => h
    | cons c l ih =>
      intro F hc hF
      rw [List.foldl_cons]
      obtain ⟨e, m1, m3⟩ := hc c List.mem_cons_self
      refine ih _ (fun d hd => hc d (List.mem_cons_of_mem _ hd)) fun a ha b hb h => ?_
      unfold mergeG at h
      by_cases pa : F a = F (c.getD 3 0)
      · by_cases pb : F b = F (c.getD 3 0)
        · exact hF a ha b hb (by rw [pa, pb])
        · rw [if_pos pa, if_neg pb] at h
          rw [hF a ha _ m3 pa, ← e]
          exact hF _ m1 b hb h
      · by_cases pb : F b = F (c.getD 3 0)
        · rw [if_neg pa, if_pos pb] at h
          rw [hF b hb _ m3 pb, ← e]
          exact hF a ha _ m1 h
        · rw [if_neg pa, if_neg pb] at h
          exact hF a ha b hb h
  refine gen w.cr _ (fun c hc => ⟨hy c hc, ?_, ?_⟩) fun a ha b hb h => by rw [idx_inj ha hb h]
  · exact (mem_keys w _).mpr (cr_arcs hc (getD_mem4 (h4 c hc) 1 (by decide)))
  · exact (mem_keys w _).mpr (cr_arcs hc (getD_mem4 (h4 c hc) 3 (by decide)))
/-! ### a row of wants -/
theorem dot_addAt {r x : List Int} {j : Nat} {n : Int} {m : Nat} (hl : r.length = x.length) (hj : j < x.length) : (m : Int) ∣ dot (addAt r j n (m : Int)) x - (dot r x + n * x.getD j 0) := by
  unfold addAt
  rw [dot_set_l _ hl hj]
  have := Int.emod_add_mul_ediv (r.getD j 0 + n) (m : Int)
  refine ⟨-((r.getD j 0 + n) / (m : Int)) * x.getD j 0, ?_⟩
  generalize (r.getD j 0 + n) / (m : Int) = q at *
  have e : (r.getD j 0 + n) % (m : Int) = r.getD j 0 + n - (m : Int) * q := by omega
  rw [e]
  have e2 : r.getD j 0 + n - (m : Int) * q - r.getD j 0 = n - (m : Int) * q := by omega
  rw [e2, Int.sub_mul, Int.neg_mul, Int.mul_neg, Int.mul_assoc]
  omega
theorem dot_row {cols : List Int} {F : Int → Int} {m : Nat} {c x : List Int} (hx : x.length = cols.length) (hm : ∀ j, j < 4 → F (c.getD j 0) ∈ cols) :
    (m : Int) ∣ dot (rowOf cols F (m : Int) c) x - (x.getD (cols.idxOf (F (c.getD 0 0))) 0 + x.getD (cols.idxOf (F (c.getD 2 0))) 0 - 2 * x.getD (cols.idxOf (F (c.getD 1 0))) 0) := by
  have il : ∀ j, j < 4 → cols.idxOf (F (c.getD j 0)) < x.length := fun j hj => by
    rw [hx]
    exact List.idxOf_lt_length_iff.mpr (hm j hj)
  have l0 : (List.replicate cols.length (0 : Int)).length = x.length := by rw [List.length_replicate, hx]
  have z : dot (List.replicate cols.length (0 : Int)) x = 0 := dot_zero _ _ fun a ha => (List.mem_replicate.mp ha).2
  have alen : ∀ (r : List Int) (j : Nat) (n mm : Int), (addAt r j n mm).length = r.length := fun r j n mm => List.length_set
  unfold rowOf
  have h1 := dot_addAt (m := m) (n := 1) l0 (il 0 (by decide))
  have h2 := dot_addAt (m := m) (n := 1) (r := addAt (List.replicate cols.length 0) (cols.idxOf (F (c.getD 0 0))) 1 (m : Int)) (by rw [alen]; exact l0) (il 2 (by decide))
  have h3 := dot_addAt (m := m) (n := -2) (r := addAt (addAt (List.replicate cols.length 0) (cols.idxOf (F (c.getD 0 0))) 1 (m : Int)) (cols.idxOf (F (c.getD 2 0))) 1 (m : Int)) (by rw [alen, alen]; exact l0) (il 1 (by decide))
  rw [z] at h1
  have q := Int.dvd_add (Int.dvd_add h1 h2) h3
  rw [show ∀ A B C x y w : Int, A - (0 + 1 * x) + (B - (A + 1 * y)) + (C - (B + -2 * w)) = C - (x + y - 2 * w) from fun A B C x y w => by omega] at q
  exact q
/-! ### the count -/
structure Cover (w W : Web) (f : Int → Int) (ρ : List Int) : Prop where
  cr : W.cr = w.cr.map (·.map f)
  c1 : ∀ a ∈ arcs w, f a ∈ arcs W ∨ f a ∈ ρ
  c2 : ∀ x ∈ ρ, x ∉ arcs W ∧ ∃ a ∈ arcs w, f a = x
  c3 : ρ.Nodup
  c4 : ∀ x ∈ arcs W, ∃ a ∈ arcs w, f a = x
def pairs (m : Nat) (δ : Int) : List (Nat × Nat) := ((List.range m).flatMap fun u => (List.range m).map fun t => (u, t)).filter fun p => decide ((m : Int) ∣ δ * (p.2 : Int))
theorem mem_pairs {m : Nat} {δ : Int} {p : Nat × Nat} : p ∈ pairs m δ ↔ p.1 < m ∧ p.2 < m ∧ (m : Int) ∣ δ * (p.2 : Int) := by
  unfold pairs
  rw [List.mem_filter, List.mem_flatMap, decide_eq_true_iff]
  constructor
  · rintro ⟨⟨u, hu, h⟩, h2⟩
    obtain ⟨t, ht, rfl⟩ := List.mem_map.mp h
    exact ⟨List.mem_range.mp hu, List.mem_range.mp ht, h2⟩
  · rintro ⟨h1, h2, h3⟩
    exact ⟨⟨p.1, List.mem_range.mpr h1, List.mem_map.mpr ⟨p.2, List.mem_range.mpr h2, rfl⟩⟩, h3⟩
theorem prod_nodup {α β : Type} {B : List β} (hB : B.Nodup) : ∀ {A : List α}, A.Nodup → (A.flatMap fun a => B.map fun b => (a, b)).Nodup
  | [], _ => List.nodup_nil
  | a :: A, h => by
    rw [List.nodup_cons] at h
    rw [List.flatMap_cons, List.nodup_append]
    refine ⟨?_, prod_nodup hB h.2, fun x hx y hy e => ?_⟩
    · unfold List.Nodup
      rw [List.pairwise_map]
      exact hB.imp fun h e => h (congrArg Prod.snd e)
    · obtain ⟨b, _, rfl⟩ := List.mem_map.mp hx
      obtain ⟨a', ha', hy⟩ := List.mem_flatMap.mp hy
      obtain ⟨b', _, rfl⟩ := List.mem_map.mp hy
      have : a = a' := congrArg Prod.fst e
      exact h.1 (by rw [this]; exact ha')
theorem prod_len {α β : Type} (B : List β) : ∀ (A : List α), (A.flatMap fun a => B.map fun b => (a, b)).length = A.length * B.length
  | [] => by simp
  | a :: A => by rw [List.flatMap_cons, List.length_append, List.length_map, prod_len B A, List.length_cons, Nat.add_mul]; omega
theorem mem_prod {α β : Type} {A : List α} {B : List β} {p : α × β} : p ∈ (A.flatMap fun a => B.map fun b => (a, b)) ↔ p.1 ∈ A ∧ p.2 ∈ B := by
  rw [List.mem_flatMap]
  constructor
  · rintro ⟨a, ha, h⟩
    obtain ⟨b, hb, rfl⟩ := List.mem_map.mp h
    exact ⟨ha, hb⟩
  · rintro ⟨h1, h2⟩
    exact ⟨p.1, h1, List.mem_map.mpr ⟨p.2, h2, rfl⟩⟩
theorem pairs_nodup (m : Nat) (δ : Int) : (pairs m δ).Nodup := (prod_nodup List.nodup_range List.nodup_range).filter _
theorem emod_eq_of_dvd {m : Nat} {a b : Int} (ha : InM m a) (hb : InM m b) (h : (m : Int) ∣ a - b) : a = b := by
  obtain ⟨q, hq⟩ := h
  obtain ⟨a1, a2⟩ := ha
  obtain ⟨b1, b2⟩ := hb
  have h0 : a % (m : Int) = b % (m : Int) := by
    rw [show a = b + (m : Int) * q by omega, Int.add_mul_emod_self_left]
  rw [Int.emod_eq_of_lt a1 a2, Int.emod_eq_of_lt b1 b2] at h0
  exact h0
theorem dvd_mod (m : Nat) (a : Int) : (m : Int) ∣ a % (m : Int) - a := ⟨-(a / (m : Int)), by have := Int.emod_add_mul_ediv a (m : Int); rw [Int.mul_neg]; omega⟩
theorem count {w W : Web} {f : Int → Int} {ρ : List Int} {κ : Int → Int} {D E δ : Int} {m : Nat} (hm : 0 < m) (K : Kap w κ D E) (C : Cover w W f ρ)
    (hδ : ∀ t : Int, (m : Int) ∣ δ * t ↔ ∀ a ∈ arcs w, ∀ b ∈ arcs w, f a = f b → (m : Int) ∣ (κ a - κ b) * t) :
    (pairs m δ).length = m ^ ρ.length * (sols m (colsOf W).length (rowsOf W (m : Int))).length := by
  have h4W : ∀ c ∈ W.cr, c.length = 4 := fun c hc => by
    rw [C.cr] at hc
    obtain ⟨d, hd, rfl⟩ := List.mem_map.mp hc
    rw [List.length_map]
    exact K.four d hd
  obtain ⟨a0, a1, i0, i1, k0, k1, hb⟩ := K.ba
  -- the colour of an arc by two numbers
  let col : Nat × Nat → Int → Int := fun p x => ((p.1 : Int) + κ (pre f (arcs w) x) * (p.2 : Int)) % (m : Int)
  have colIn : ∀ p x, InM m (col p x) := fun p x => InM.emod hm _
  have colAt : ∀ p ∈ pairs m δ, ∀ a ∈ arcs w, col p (f a) = ((p.1 : Int) + κ a * (p.2 : Int)) % (m : Int) := fun p hp a ha => by
    obtain ⟨h1, h2⟩ := pre_spec (f := f) ha
    have := (hδ (p.2 : Int)).mp (mem_pairs.mp hp).2.2 _ h1 a ha h2
    refine emod_eq_of_dvd (InM.emod hm _) (InM.emod hm _) ?_
    have q := Int.dvd_add (Int.dvd_sub (dvd_mod m ((p.1 : Int) + κ (pre f (arcs w) (f a)) * (p.2 : Int))) (dvd_mod m ((p.1 : Int) + κ a * (p.2 : Int)))) this
    rw [Int.sub_mul] at q
    rw [show ∀ A B u x y : Int, A - (u + x) - (B - (u + y)) + (x - y) = A - B from fun A B u x y => by omega] at q
    exact q
  -- solutions as colours
  let rep : Int → Int := fun g => ((keys W).find? fun a => decide (groupF W a = g)).getD 0
  have repSpec : ∀ g ∈ colsOf W, rep g ∈ keys W ∧ groupF W (rep g) = g := fun g hg => by
    obtain ⟨a, ha, rfl⟩ := List.mem_map.mp ((cols_mem W g).mp hg)
    cases e : (keys W).find? fun b => decide (groupF W b = groupF W a) with
    | none =>
      have := List.find?_eq_none.mp e a ha
      simp at this
    | some b =>
      have er : rep (groupF W a) = b := by
        show ((keys W).find? fun b => decide (groupF W b = groupF W a)).getD 0 = b
        rw [e]
        rfl
      rw [er]
      have := List.find?_some e
      exact ⟨List.mem_of_find?_eq_some e, of_decide_eq_true this⟩
  have colsND : (colsOf W).Nodup := (cols_rising W).imp fun h => by omega
  have colMem : ∀ a ∈ keys W, groupF W a ∈ colsOf W := fun a ha => (cols_mem W _).mpr (List.mem_map.mpr ⟨a, ha, rfl⟩)
  let cl : List Int × List Int → Int → Int := fun rx a => if a ∈ keys W then rx.2.getD ((colsOf W).idxOf (groupF W a)) 0 else rx.1.getD (ρ.idxOf a) 0
  let φ : Nat × Nat → List Int × List Int := fun p => (ρ.map (col p), (colsOf W).map fun g => col p (rep g))
  let ψ : List Int × List Int → Nat × Nat := fun rx => ((cl rx (f a0)).toNat, ((cl rx (f a1) - cl rx (f a0)) % (m : Int)).toNat)
  have getMap : ∀ (l : List Int) (g : Int → Int) (j : Nat) (hj : j < l.length), (l.map g).getD j 0 = g l[j] := fun l g j hj => by
    rw [List.getD_eq_getElem?_getD, List.getElem?_map, List.getElem?_eq_getElem hj]
    rfl
  -- col is a colouring
  have colBD : ∀ p ∈ pairs m δ, ∀ c ∈ W.cr, col p (c.getD 1 0) = col p (c.getD 3 0) := fun p hp c hc => by
    rw [C.cr] at hc
    obtain ⟨d, hd, rfl⟩ := List.mem_map.mp hc
    have l4 := K.four d hd
    rw [getD_map4 f l4 1 (by decide), getD_map4 f l4 3 (by decide), colAt p hp _ (cr_arcs hd (getD_mem4 l4 1 (by decide))), colAt p hp _ (cr_arcs hd (getD_mem4 l4 3 (by decide))), (K.cr d hd).1]
  have colRep : ∀ p ∈ pairs m δ, ∀ a ∈ keys W, col p (rep (groupF W a)) = col p a := fun p hp a ha => by
    obtain ⟨r1, r2⟩ := repSpec _ (colMem a ha)
    exact groups_const (y := col p) h4W (colBD p hp) _ r1 a ha r2
  -- cl of φ
  have clφ : ∀ p ∈ pairs m δ, ∀ a ∈ arcs w, cl (φ p) (f a) = col p (f a) := fun p hp a ha => by
    show (if f a ∈ keys W then ((colsOf W).map fun g => col p (rep g)).getD ((colsOf W).idxOf (groupF W (f a))) 0 else (ρ.map (col p)).getD (ρ.idxOf (f a)) 0) = _
    by_cases h : f a ∈ keys W
    · have hl := List.idxOf_lt_length_iff.mpr (colMem _ h)
      rw [if_pos h, getMap _ _ _ hl, List.getElem_idxOf hl]
      exact colRep p hp _ h
    · have hρ : f a ∈ ρ := (C.c1 a ha).resolve_left fun z => h ((mem_keys W _).mpr z)
      have hl := List.idxOf_lt_length_iff.mpr hρ
      rw [if_neg h, getMap _ _ _ hl, List.getElem_idxOf hl]
  -- colours of a solution
  have clIn : ∀ rx : List Int × List Int, rx.1 ∈ vecs m ρ.length → rx.2 ∈ sols m (colsOf W).length (rowsOf W (m : Int)) → ∀ a ∈ arcs w, InM m (cl rx (f a)) := fun rx h1 h2 a ha => by
    obtain ⟨v1, v2⟩ := mem_vecs.mp h1
    obtain ⟨⟨s1, s2⟩, _⟩ := mem_sols.mp h2
    show InM m (if f a ∈ keys W then rx.2.getD ((colsOf W).idxOf (groupF W (f a))) 0 else rx.1.getD (ρ.idxOf (f a)) 0)
    by_cases h : f a ∈ keys W
    · rw [if_pos h]
      exact getD_in (by rw [s1]; exact List.idxOf_lt_length_iff.mpr (colMem _ h)) s2
    · rw [if_neg h]
      have hρ : f a ∈ ρ := (C.c1 a ha).resolve_left fun z => h ((mem_keys W _).mpr z)
      exact getD_in (by rw [v1]; exact List.idxOf_lt_length_iff.mpr hρ) v2
  have clCol : ∀ rx : List Int × List Int, rx.2 ∈ sols m (colsOf W).length (rowsOf W (m : Int)) → Colm (m : Int) w fun a => cl rx (f a) := fun rx h2 c hc => by
    obtain ⟨⟨s1, s2⟩, s3⟩ := mem_sols.mp h2
    have l4 := K.four c hc
    have hcW : c.map f ∈ W.cr := by rw [C.cr]; exact List.mem_map.mpr ⟨c, hc, rfl⟩
    have kin : ∀ j, j < 4 → f (c.getD j 0) ∈ keys W := fun j hj => (mem_keys W _).mpr (cr_arcs hcW (List.mem_map.mpr ⟨_, getD_mem4 l4 j hj, rfl⟩))
    have ev : ∀ j, j < 4 → cl rx (f (c.getD j 0)) = rx.2.getD ((colsOf W).idxOf (groupF W (f (c.getD j 0)))) 0 := fun j hj => if_pos (kin j hj)
    have gbd := groups_bd hcW
    rw [getD_map4 f l4 1 (by decide), getD_map4 f l4 3 (by decide)] at gbd
    simp only
    rw [ev 0 (by decide), ev 1 (by decide), ev 2 (by decide), ev 3 (by decide), gbd]
    refine ⟨by rw [Int.sub_self]; exact Int.dvd_zero _, ?_⟩
    have d1 := dot_row (m := m) (F := groupF W) (c := c.map f) s1 fun j hj => by rw [getD_map4 f l4 j hj]; exact colMem _ (kin j hj)
    have d2 := s3 (rowOf (colsOf W) (groupF W) (m : Int) (c.map f)) (List.mem_map.mpr ⟨c.map f, hcW, rfl⟩)
    rw [getD_map4 f l4 0 (by decide), getD_map4 f l4 1 (by decide), getD_map4 f l4 2 (by decide), gbd] at d1
    have q := Int.dvd_sub d2 d1
    rw [show ∀ A B : Int, A - (A - B) = B from fun A B => by omega] at q
    exact q
  have clVal : ∀ rx : List Int × List Int, rx.1 ∈ vecs m ρ.length → rx.2 ∈ sols m (colsOf W).length (rowsOf W (m : Int)) → ψ rx ∈ pairs m δ ∧ ∀ a ∈ arcs w, (m : Int) ∣ cl rx (f a) - (((ψ rx).1 : Int) + κ a * ((ψ rx).2 : Int)) := fun rx h1 h2 => by
    have i := clIn rx h1 h2
    have q := hb (m : Int) (fun a => cl rx (f a)) (clCol rx h2)
    have e1 : (((ψ rx).1 : Nat) : Int) = cl rx (f a0) := by
      show (((cl rx (f a0)).toNat : Nat) : Int) = _
      have := (i a0 i0).1
      omega
    have e2 : (((ψ rx).2 : Nat) : Int) = (cl rx (f a1) - cl rx (f a0)) % (m : Int) := by
      show ((((cl rx (f a1) - cl rx (f a0)) % (m : Int)).toNat : Nat) : Int) = _
      have := Int.emod_nonneg (cl rx (f a1) - cl rx (f a0)) (show (m : Int) ≠ 0 by omega)
      omega
    have val : ∀ a ∈ arcs w, (m : Int) ∣ cl rx (f a) - (((ψ rx).1 : Int) + κ a * ((ψ rx).2 : Int)) := fun a ha => by
      rw [e1, e2]
      have h3 := q a ha
      have h4 := Int.dvd_mul_of_dvd_right (dvd_mod m (cl rx (f a1) - cl rx (f a0))) (b := κ a)
      generalize cl rx (f a1) - cl rx (f a0) = s at h3 h4 ⊢
      have h5 := Int.dvd_sub h3 h4
      rw [Int.mul_sub] at h5
      rw [show ∀ A u x y : Int, A - (u + x) - (y - x) = A - (u + y) from fun A u x y => by omega] at h5
      exact h5
    refine ⟨mem_pairs.mpr ⟨?_, ?_, (hδ _).mpr fun a ha b hb e => ?_⟩, val⟩
    · have := (i a0 i0).2
      have := (i a0 i0).1
      omega
    · have := Int.emod_lt_of_pos (cl rx (f a1) - cl rx (f a0)) (show (0 : Int) < m by omega)
      omega
    · have h3 := val a ha
      have h4 := val b hb
      rw [e] at h3
      have h5 := Int.dvd_sub h4 h3
      rw [Int.sub_mul]
      rw [show ∀ A u x y : Int, A - (u + y) - (A - (u + x)) = x - y from fun A u x y => by omega] at h5
      exact h5
  have fin := len_eq_map (A := pairs m δ) (B := (vecs m ρ.length).flatMap fun a => (sols m (colsOf W).length (rowsOf W (m : Int))).map fun b => (a, b)) φ ψ (pairs_nodup m δ) (prod_nodup (sols_nodup _ _ _) (vecs_nodup _ _))
    (fun p hp => by
      refine mem_prod.mpr ⟨mem_vecs.mpr ⟨List.length_map _, fun a ha => ?_⟩, mem_sols.mpr ⟨⟨List.length_map _, fun a ha => ?_⟩, fun r hr => ?_⟩⟩
      · obtain ⟨x, _, rfl⟩ := List.mem_map.mp ha
        exact colIn p x
      · obtain ⟨x, _, rfl⟩ := List.mem_map.mp ha
        exact colIn p _
      · obtain ⟨c, hc, rfl⟩ := List.mem_map.mp hr
        have hc2 := hc
        rw [C.cr] at hc2
        obtain ⟨d, hd, rfl⟩ := List.mem_map.mp hc2
        have l4 := K.four d hd
        have kin : ∀ j, j < 4 → f (d.getD j 0) ∈ keys W := fun j hj => (mem_keys W _).mpr (cr_arcs hc (List.mem_map.mpr ⟨_, getD_mem4 l4 j hj, rfl⟩))
        have d1 := dot_row (m := m) (F := groupF W) (c := d.map f) (x := (φ p).2) (List.length_map _) fun j hj => by rw [getD_map4 f l4 j hj]; exact colMem _ (kin j hj)
        rw [getD_map4 f l4 0 (by decide), getD_map4 f l4 1 (by decide), getD_map4 f l4 2 (by decide)] at d1
        have ev : ∀ j, j < 4 → (φ p).2.getD ((colsOf W).idxOf (groupF W (f (d.getD j 0)))) 0 = ((p.1 : Int) + κ (d.getD j 0) * (p.2 : Int)) % (m : Int) := fun j hj => by
          have hl := List.idxOf_lt_length_iff.mpr (colMem _ (kin j hj))
          show ((colsOf W).map fun g => col p (rep g)).getD _ 0 = _
          rw [getMap _ _ _ hl, List.getElem_idxOf hl, colRep p hp _ (kin j hj), colAt p hp _ (cr_arcs hd (getD_mem4 l4 j hj))]
        rw [ev 0 (by decide), ev 1 (by decide), ev 2 (by decide)] at d1
        have hk := (K.cr d hd).2
        have m0 := dvd_mod m ((p.1 : Int) + κ (d.getD 0 0) * (p.2 : Int))
        have m1 := dvd_mod m ((p.1 : Int) + κ (d.getD 1 0) * (p.2 : Int))
        have m2 := dvd_mod m ((p.1 : Int) + κ (d.getD 2 0) * (p.2 : Int))
        have q := Int.dvd_add d1 (Int.dvd_sub (Int.dvd_add m0 m2) (Int.dvd_mul_of_dvd_right m1 (b := 2)))
        have hk2 : κ (d.getD 0 0) * (p.2 : Int) + κ (d.getD 2 0) * (p.2 : Int) = 2 * (κ (d.getD 1 0) * (p.2 : Int)) := by
          rw [← Int.add_mul, hk, Int.mul_assoc]
        rw [show ∀ R A B C u x y z : Int, x + z = 2 * y → R - (A + C - 2 * B) + (A - (u + x) + (C - (u + z)) - 2 * (B - (u + y))) = R from fun R A B C u x y z h => by omega] at q
        · exact q
        · exact hk2)
    (fun rx hrx => (clVal rx (mem_prod.mp hrx).1 (mem_prod.mp hrx).2).1)
    (fun p hp => by
      obtain ⟨p1, p2, _⟩ := mem_pairs.mp hp
      have v0 := clφ p hp a0 i0
      have v1 := clφ p hp a1 i1
      rw [colAt p hp a0 i0, k0, Int.zero_mul, Int.add_zero] at v0
      rw [colAt p hp a1 i1, k1, Int.one_mul] at v1
      have e0 : (p.1 : Int) % (m : Int) = (p.1 : Int) := Int.emod_eq_of_lt (by omega) (by omega)
      rw [e0] at v0
      show ((cl (φ p) (f a0)).toNat, ((cl (φ p) (f a1) - cl (φ p) (f a0)) % (m : Int)).toNat) = p
      rw [v0, v1]
      have e1 : (((p.1 : Int) + (p.2 : Int)) % (m : Int) - (p.1 : Int)) % (m : Int) = (p.2 : Int) := by
        rw [Int.sub_eq_add_neg, Int.emod_add_emod, show (p.1 : Int) + (p.2 : Int) + -(p.1 : Int) = (p.2 : Int) by omega]
        exact Int.emod_eq_of_lt (by omega) (by omega)
      rw [e1]
      obtain ⟨x, y⟩ := p
      simp)
    (fun rx hrx => by
      obtain ⟨h1, h2⟩ := mem_prod.mp hrx
      obtain ⟨v1, v2⟩ := mem_vecs.mp h1
      obtain ⟨⟨s1, s2⟩, _⟩ := mem_sols.mp h2
      obtain ⟨hp, val⟩ := clVal rx h1 h2
      have i := clIn rx h1 h2
      have eqv : ∀ a ∈ arcs w, col (ψ rx) (f a) = cl rx (f a) := fun a ha => by
        rw [colAt _ hp a ha]
        refine emod_eq_of_dvd (InM.emod hm _) (i a ha) ?_
        have q := Int.dvd_sub (dvd_mod m (((ψ rx).1 : Int) + κ a * ((ψ rx).2 : Int))) (val a ha)
        rw [show ∀ A B C : Int, A - C - (B - C) = A - B from fun A B C => by omega] at q
        exact q
      obtain ⟨r, x⟩ := rx
      show (ρ.map (col (ψ (r, x))), (colsOf W).map fun g => col (ψ (r, x)) (rep g)) = (r, x)
      have er : ρ.map (col (ψ (r, x))) = r := by
        refine List.ext_getElem? fun j => ?_
        rw [List.getElem?_map]
        by_cases hj : j < ρ.length
        · have hjr : j < r.length := by rw [v1]; exact hj
          rw [List.getElem?_eq_getElem hj, List.getElem?_eq_getElem hjr]
          obtain ⟨n1, a, ha, ea⟩ := C.c2 _ (List.getElem_mem hj)
          show some (col (ψ (r, x)) ρ[j]) = _
          rw [← ea, eqv a ha, ea]
          congr 1
          show (if ρ[j] ∈ keys W then _ else r.getD (ρ.idxOf ρ[j]) 0) = _
          rw [if_neg (fun z => n1 ((mem_keys W _).mp z)), C.c3.idxOf_getElem, List.getD_eq_getElem?_getD, List.getElem?_eq_getElem hjr]
          rfl
        · rw [List.getElem?_eq_none (by omega), List.getElem?_eq_none (by rw [v1]; omega)]
          rfl
      have ex : ((colsOf W).map fun g => col (ψ (r, x)) (rep g)) = x := by
        refine List.ext_getElem? fun j => ?_
        rw [List.getElem?_map]
        by_cases hj : j < (colsOf W).length
        · have hjx : j < x.length := by rw [s1]; exact hj
          rw [List.getElem?_eq_getElem hj, List.getElem?_eq_getElem hjx]
          obtain ⟨r1, r2⟩ := repSpec _ (List.getElem_mem hj)
          obtain ⟨a, ha, ea⟩ := C.c4 _ ((mem_keys W _).mp r1)
          show some (col (ψ (r, x)) (rep (colsOf W)[j])) = _
          rw [← ea, eqv a ha, ea]
          congr 1
          show (if rep (colsOf W)[j] ∈ keys W then x.getD ((colsOf W).idxOf (groupF W (rep (colsOf W)[j]))) 0 else _) = _
          rw [if_pos r1, r2, colsND.idxOf_getElem, List.getD_eq_getElem?_getD, List.getElem?_eq_getElem hjx]
          rfl
        · rw [List.getElem?_eq_none (by omega), List.getElem?_eq_none (by rw [s1]; omega)]
          rfl
      rw [er, ex])
  rw [fin, prod_len, vecs_len]
end TH
end

section
set_option autoImplicit false
set_option linter.all false
namespace TH
theorem addAt_in {m : Nat} (hm : 0 < m) {r : List Int} (j : Nat) (n : Int) (h : ∀ a ∈ r, 0 ≤ a ∧ a < (m : Int)) : ∀ a ∈ addAt r j n (m : Int), 0 ≤ a ∧ a < (m : Int) := fun a ha => by
  rcases List.mem_or_eq_of_mem_set ha with z | z
  · exact h a z
  · rw [z]; exact ⟨Int.emod_nonneg _ (by omega), Int.emod_lt_of_pos _ (by omega)⟩
theorem rows_sized {w : Web} {m : Nat} (hm : 0 < m) : Sized (rowsOf w (m : Int)) (colsOf w).length (m : Int) := by
  refine ⟨fun r hr => ?_, fun r hr => ?_⟩
  · obtain ⟨c, _, rfl⟩ := List.mem_map.mp hr
    unfold rowOf
    rw [addAt_len, addAt_len, addAt_len, List.length_replicate]
  · obtain ⟨c, _, rfl⟩ := List.mem_map.mp hr
    unfold rowOf
    refine addAt_in hm _ _ (addAt_in hm _ _ (addAt_in hm _ _ fun a ha => ?_))
    rw [(List.mem_replicate.mp ha).2]
    omega
theorem col_ok {w : Web} {m rg : Nat} (hS : Small w) (h4 : Fours w) (hk : (keys w).length < 64) (hm : 0 < m) (hm1 : m ≤ 1000) (hr : w.rg = (rg : Nat)) (hrg : rg ≤ 1000) : ColOk w (m : Int) ((m ^ rg * (sols m (colsOf w).length (rowsOf w (m : Int))).length : Nat) : Int) := by
  have lc : (colsOf w).length ≤ 1000 := by
    unfold colsOf
    rw [List.length_mergeSort]
    have h1 := dedup_len ((keys w).map (groupF w)) []
    rw [List.length_nil, List.length_map] at h1
    omega
  refine ⟨_, _, rg, hS, h4, hk, by omega, by omega, hr, hrg, elim_sys hm hm1 lc hrg, ⟨rows_sized hm, ?_, [], List.nodup_nil, rfl, (fun c hc => by cases hc), ?_, ?_, ?_⟩⟩
  · unfold rowsOf
    rw [List.length_map]
    exact hS.cr
  · rw [← Int.natCast_pow]; omega
  · rw [← Int.natCast_pow]
    exact Int.le_refl _
  · rw [← Int.natCast_pow, ← Int.natCast_mul, List.length_nil, Nat.pow_zero, Nat.mul_one]
theorem col_ren {w : Web} {f : Int → Int} {m N : Int} (hf : InjOn f (arcs w)) (h : ColOk w m N) : ColOk (ren f w) m N := by
  obtain ⟨I, mu, rg, a1, a2, a3, a4, a5, a6, a7, a8, a9⟩ := h
  have h4 : ∀ c ∈ w.cr, c.length = 4 := a2
  refine ⟨I, mu, rg, a1.ren f, ?_, ?_, a4, a5, a6, a7, ?_, ?_⟩
  · intro c hc
    obtain ⟨d, hd, rfl⟩ := List.mem_map.mp hc
    rw [List.length_map]
    exact a2 d hd
  · rw [keys_ren hf, List.length_map]
    exact a3
  · rw [cols_ren hf h4]
    exact a8
  · rw [cols_ren hf h4, rows_ren hf h4]
    exact a9
theorem keys_le {w : Web} {PR : List (Spot × Spot)} (h : PairOk w PR) : (keys w).length ≤ PR.length := by
  have := List.Nodup.length_le_of_subset (keys_nodup w) (l₂ := PR.map fun p => arcAt w p.1) fun a ha => by
    have := (mem_keys w a).mp ha
    rw [← allSpots_arcs] at this
    obtain ⟨⟨b, s⟩, hs, e⟩ := List.mem_map.mp this
    have e : b = a := e
    have h2 := mem_allSpots.mp hs
    rw [← e, ← h2.2]
    exact arcs_in h h2.1
  rw [List.length_map] at this
  exact this
theorem prs_len : ∀ (a : Spot) (t : List Spot) (e : Spot), (prs a t e).length = t.length + 1
  | _, [], _ => rfl
  | a, d :: t, e => by rw [prs, List.length_cons, prs_len d t e, List.length_cons]
theorem two_keys {w : Web} {s1 e1 s2 e2 : Int} {tA tB : List Spot} {rc : List Rc} (h : Two w s1 tA e1 s2 tB e2 rc) : (keys w).length ≤ 2 * w.cr.length + 2 := by
  have h1 := keys_le h.pairs
  have h2 := keys_bound h.kd h.inr
  rw [List.length_append, prs_len, prs_len] at h1
  rw [List.length_append] at h2
  omega
/-! ### the tangle -/
theorem tang_col {w : Web} {d : Dt} {v : Int × Int} (hT : Tang w d) (hK : KapV w v) (hS : Small w) (hn : w.cr.length ≤ 30) {m : Nat} (hm : 0 < m) (hm1 : m ≤ 1000) : ColOk w (m : Int) ((pairs m 0).length : Int) := by
  obtain ⟨tA, tB, rc, T, _, _⟩ := hT
  obtain ⟨κ, hk⟩ := hK
  obtain ⟨D, E, K⟩ : ∃ D E, Kap w κ D E := by
    rcases hk with k | k
    · exact ⟨_, _, k⟩
    · exact ⟨_, _, k⟩
  have C : Cover w w (fun x => x) [] := by
    refine ⟨?_, fun a ha => .inl ha, (fun x hx => by cases hx), List.nodup_nil, fun x hx => ⟨x, hx, rfl⟩⟩
    rw [map_id_of fun a _ => rfl]
  have c := count (δ := 0) hm K C fun t => by
    constructor
    · intro _ a _ b _ e
      rw [show a = b from e, Int.sub_self, Int.zero_mul]
      exact Int.dvd_zero _
    · intro _
      rw [Int.zero_mul]
      exact Int.dvd_zero _
  have q := col_ok (rg := 0) (m := m) hS T.four (by have := two_keys T; omega) hm hm1 T.rg (by decide)
  rw [c]
  exact q
/-! ### closings -/
section
variable {w : Web} {s1 e1 s2 e2 : Int} {tA tB : List Spot} {rc : List Rc} {κ : Int → Int} {D E : Int}
theorem raw_arcs {x1 y1 x2 y2 : Int} : ∀ x, x ∈ arcs (rawC w x1 y1 x2 y2) ↔ ∃ a ∈ w.cr.flatten, jf x1 y1 x2 y2 a = x := fun x => by
  unfold arcs rawC
  simp only [List.append_nil]
  rw [← List.map_flatten, List.mem_map]
theorem Two.rimArc (h : Two w s1 tA e1 s2 tB e2 rc) {a : Int} (ha : a ∈ w.en) : a = arcAt w (-1, s1) ∨ a = arcAt w (-1, e1) ∨ a = arcAt w (-1, s2) ∨ a = arcAt w (-1, e2) := by
  obtain ⟨i, hi⟩ := List.mem_iff_getElem?.mp ha
  have hl := (List.getElem?_eq_some_iff.mp hi).1
  have e : a = arcAt w (-1, (i : Int)) := by
    unfold arcAt
    rw [if_pos rfl, List.getD_eq_getElem?_getD, show ((-1 : Int), (i : Int)).2.toNat = i by simp, hi]
    rfl
  have hy : (i : Int) ∈ [s1, e1, s2, e2] := h.pm.mem_iff.mpr (by
    rw [h.en] at hl
    simp only [List.mem_cons, List.not_mem_nil, or_false]
    omega)
  simp only [List.mem_cons, List.not_mem_nil, or_false] at hy
  rcases hy with q | q | q | q
  · exact .inl (by rw [e, q])
  · exact .inr (.inl (by rw [e, q]))
  · exact .inr (.inr (.inl (by rw [e, q])))
  · exact .inr (.inr (.inr (by rw [e, q])))
/-- an arc of a crossing's place -/
theorem spot_cr (h4 : ∀ c ∈ w.cr, c.length = 4) {s : Spot} (h : InR w.cr.length s) : arcAt w s ∈ w.cr.flatten := by
  obtain ⟨h1, h2, h3, h5⟩ := h
  have hk : s.1.toNat < w.cr.length := by omega
  unfold arcAt
  rw [if_neg (by omega)]
  have hm : w.cr.getD s.1.toNat [] ∈ w.cr := by
    rw [List.getD_eq_getElem?_getD, List.getElem?_eq_getElem hk]
    exact List.getElem_mem _
  refine List.mem_flatten.mpr ⟨_, hm, ?_⟩
  have l4 := h4 _ hm
  generalize w.cr.getD s.1.toNat [] = c at *
  exact getD_mem4 l4 _ (by omega)
theorem cr_spot (h4 : ∀ c ∈ w.cr, c.length = 4) {a : Int} (h : a ∈ w.cr.flatten) : ∃ s, InR w.cr.length s ∧ arcAt w s = a := by
  have : a ∈ (crSpots w.cr 0).map (·.1) := by rw [crSpots_arcs]; exact h
  obtain ⟨⟨b, s⟩, hs, e⟩ := List.mem_map.mp this
  have e : b = a := e
  have hs2 : (b, s) ∈ allSpots w := List.mem_append_left _ hs
  have h2 := mem_allSpots.mp hs2
  refine ⟨s, ?_, by rw [h2.2, e]⟩
  have h3 := mem_crSpots.mp hs
  rcases spot_cases h4 h2.1 with z | z
  · omega
  · exact z
/-- an arc at a crossing: of one that leaves it, or the first of a strand with some -/
theorem Two.crArc (h : Two w s1 tA e1 s2 tB e2 rc) {a : Int} (ha : a ∈ w.cr.flatten) : a ∈ tA.map (arcAt w) ∨ a ∈ tB.map (arcAt w) ∨ (a = arcAt w (-1, s1) ∧ tA ≠ []) ∨ (a = arcAt w (-1, s2) ∧ tB ≠ []) := by
  obtain ⟨s, hs, rfl⟩ := cr_spot h.four ha
  have gen : ∀ (b e : Spot) (t : List Spot), Path (arcAt w) b t e → ∀ u ∈ t, s = u ∨ s = opp u → arcAt w s ∈ t.map (arcAt w) ∨ (arcAt w s = arcAt w b ∧ t ≠ []) := by
    intro b e t P u hu hsu
    rcases hsu with rfl | rfl
    · exact .inl (List.mem_map.mpr ⟨s, hu, rfl⟩)
    · obtain ⟨p, hp, e1⟩ := mem_snd (a := b) (e := e) (t := t) (x := opp u) (.inr ⟨u, hu, rfl⟩)
      have := prs_arc P p hp
      rw [e1] at this
      rcases List.mem_cons.mp (fst_mem hp) with z | z
      · rw [z] at this
        exact .inr ⟨this.symm, fun q => by rw [q] at hu; cases hu⟩
      · exact .inl (List.mem_map.mpr ⟨p.1, z, this⟩)
  obtain ⟨u, hu, hsu⟩ := h.full hs
  rcases List.mem_append.mp hu with z | z
  · rcases gen _ _ _ h.pA u z hsu with q | q
    · exact .inl q
    · exact .inr (.inr (.inl q))
  · rcases gen _ _ _ h.pB u z hsu with q | q
    · exact .inr (.inl q)
    · exact .inr (.inr (.inr q))
theorem Two.inCr (h : Two w s1 tA e1 s2 tB e2 rc) : (tA ≠ [] → arcAt w (-1, s1) ∈ w.cr.flatten ∧ arcAt w (-1, e1) ∈ w.cr.flatten) ∧ (tB ≠ [] → arcAt w (-1, s2) ∈ w.cr.flatten ∧ arcAt w (-1, e2) ∈ w.cr.flatten) := by
  have gen : ∀ (b e : Spot) (t : List Spot), Path (arcAt w) b t e → (∀ d ∈ t, InR w.cr.length d) → t ≠ [] → arcAt w b ∈ w.cr.flatten ∧ arcAt w e ∈ w.cr.flatten := by
    intro b e t P hi hne
    constructor
    · cases P with
      | one _ => exact absurd rfl hne
      | step hh _ =>
        rw [hh]
        exact spot_cr h.four (inr_opp (hi _ List.mem_cons_self))
    · obtain ⟨x, hx, e1⟩ := List.mem_map.mp ((path_end1 P).2 hne)
      rw [← e1]
      exact spot_cr h.four (hi x hx)
  exact ⟨gen _ _ _ h.pA fun d hd => h.inr d (List.mem_append_left _ hd), gen _ _ _ h.pB fun d hd => h.inr d (List.mem_append_right _ hd)⟩
theorem Two.coverP (h : Two w s1 tA e1 s2 tB e2 rc) {x1 y1 x2 y2 : Int} (j1 : JP x1 y1 (arcAt w (-1, s1)) (arcAt w (-1, e1))) (j2 : JP x2 y2 (arcAt w (-1, s2)) (arcAt w (-1, e2))) :
    ∃ ρ : List Int, Cover w (rawC w x1 y1 x2 y2) (jf x1 y1 x2 y2) ρ ∧ rings x1 y1 x2 y2 = (ρ.length : Int) := by
  have En := h.ends
  obtain ⟨f1, f2, _, fr⟩ := En.par j1 j2
  obtain ⟨cA, cB⟩ := h.inCr
  -- a retraction
  let r : Int → Int := fun z => if z = arcAt w (-1, s1) then arcAt w (-1, e1) else if z = arcAt w (-1, s2) then arcAt w (-1, e2) else z
  have rp1 : r (arcAt w (-1, s1)) = arcAt w (-1, e1) := if_pos rfl
  have rp2 : r (arcAt w (-1, s2)) = arcAt w (-1, e2) := by
    show (if _ = _ then _ else _) = _
    rw [if_neg (fun z => En.ne z.symm), if_pos rfl]
  have rq1 : r (arcAt w (-1, e1)) = arcAt w (-1, e1) := by
    show (if arcAt w (-1, e1) = arcAt w (-1, s1) then arcAt w (-1, e1) else if arcAt w (-1, e1) = arcAt w (-1, s2) then arcAt w (-1, e2) else arcAt w (-1, e1)) = _
    split
    · rfl
    · rw [if_neg En.q1B.2]
  have rq2 : r (arcAt w (-1, e2)) = arcAt w (-1, e2) := by
    show (if arcAt w (-1, e2) = arcAt w (-1, s1) then arcAt w (-1, e1) else if arcAt w (-1, e2) = arcAt w (-1, s2) then arcAt w (-1, e2) else arcAt w (-1, e2)) = _
    rw [if_neg En.q2A.2]
    split <;> rfl
  have rt : ∀ z, z ∈ tA.map (arcAt w) ∨ z ∈ tB.map (arcAt w) → r z = z := fun z hz => by
    show (if z = arcAt w (-1, s1) then arcAt w (-1, e1) else if z = arcAt w (-1, s2) then arcAt w (-1, e2) else z) = z
    rw [if_neg, if_neg]
    · rintro rfl
      rcases hz with z | z
      · exact En.b1 z
      · exact En.b2 z
    · rintro rfl
      rcases hz with z | z
      · exact En.a1 z
      · exact En.a2 z
  have hr := jf_rho (ρ := r) (j1.eq (by rw [rp1, rq1])) (j2.eq (by rw [rp2, rq2]))
  have m1 : arcAt w (-1, s1) ∈ arcs w := arcAt_mem (rim_spot h.en h.rng.1.1 h.rng.1.2)
  have m2 : arcAt w (-1, s2) ∈ arcs w := arcAt_mem (rim_spot h.en h.rng.2.2.1.1 h.rng.2.2.1.2)
  have noA : tA = [] → jf x1 y1 x2 y2 (arcAt w (-1, s1)) ∉ arcs (rawC w x1 y1 x2 y2) := fun hA z => by
    obtain ⟨a, ha, e⟩ := (raw_arcs _).mp z
    have e := congrArg r e
    rw [hr, hr, rp1, En.eA0 hA] at e
    rcases h.crArc ha with q | q | q | q
    · rw [hA] at q; cases q
    · rw [rt a (.inr q)] at e
      exact En.a2 (by rw [← e]; exact q)
    · exact q.2 hA
    · rw [q.1, rp2] at e
      exact En.q2A.2 e
  have noB : tB = [] → jf x1 y1 x2 y2 (arcAt w (-1, s2)) ∉ arcs (rawC w x1 y1 x2 y2) := fun hB z => by
    obtain ⟨a, ha, e⟩ := (raw_arcs _).mp z
    have e := congrArg r e
    rw [hr, hr, rp2, En.eB0 hB] at e
    rcases h.crArc ha with q | q | q | q
    · rw [rt a (.inl q)] at e
      exact En.b1 (by rw [← e]; exact q)
    · rw [hB] at q; cases q
    · rw [q.1, rp1] at e
      exact En.q1B.2 e
    · exact q.2 hB
  refine ⟨(if tA = [] then [jf x1 y1 x2 y2 (arcAt w (-1, s1))] else []) ++ (if tB = [] then [jf x1 y1 x2 y2 (arcAt w (-1, s2))] else []), ⟨rfl, fun a ha => ?_, fun x hx => ?_, ?_, fun x hx => ?_⟩, ?_⟩
  · rcases List.mem_append.mp ha with z | z
    · exact .inl ((raw_arcs _).mpr ⟨a, z, rfl⟩)
    · have sideA : ∀ b, (b = arcAt w (-1, s1) ∨ b = arcAt w (-1, e1)) → jf x1 y1 x2 y2 b ∈ arcs (rawC w x1 y1 x2 y2) ∨ jf x1 y1 x2 y2 b ∈ (if tA = [] then [jf x1 y1 x2 y2 (arcAt w (-1, s1))] else []) ++ (if tB = [] then [jf x1 y1 x2 y2 (arcAt w (-1, s2))] else []) := fun b hb => by
        by_cases hA : tA = []
        · right
          rw [if_pos hA]
          refine List.mem_append_left _ ?_
          rcases hb with rfl | rfl
          · simp
          · simp [f1]
        · left
          rcases hb with rfl | rfl
          · exact (raw_arcs _).mpr ⟨_, (cA hA).1, rfl⟩
          · exact (raw_arcs _).mpr ⟨_, (cA hA).2, rfl⟩
      have sideB : ∀ b, (b = arcAt w (-1, s2) ∨ b = arcAt w (-1, e2)) → jf x1 y1 x2 y2 b ∈ arcs (rawC w x1 y1 x2 y2) ∨ jf x1 y1 x2 y2 b ∈ (if tA = [] then [jf x1 y1 x2 y2 (arcAt w (-1, s1))] else []) ++ (if tB = [] then [jf x1 y1 x2 y2 (arcAt w (-1, s2))] else []) := fun b hb => by
        by_cases hB : tB = []
        · right
          rw [if_pos hB]
          refine List.mem_append_right _ ?_
          rcases hb with rfl | rfl
          · simp
          · simp [f2]
        · left
          rcases hb with rfl | rfl
          · exact (raw_arcs _).mpr ⟨_, (cB hB).1, rfl⟩
          · exact (raw_arcs _).mpr ⟨_, (cB hB).2, rfl⟩
      rcases h.rimArc z with q | q | q | q
      · exact sideA a (.inl q)
      · exact sideA a (.inr q)
      · exact sideB a (.inl q)
      · exact sideB a (.inr q)
  · rcases List.mem_append.mp hx with z | z
    · by_cases hA : tA = []
      · rw [if_pos hA, List.mem_singleton] at z
        rw [z]
        exact ⟨noA hA, _, m1, rfl⟩
      · rw [if_neg hA] at z; cases z
    · by_cases hB : tB = []
      · rw [if_pos hB, List.mem_singleton] at z
        rw [z]
        exact ⟨noB hB, _, m2, rfl⟩
      · rw [if_neg hB] at z; cases z
  · by_cases hA : tA = [] <;> by_cases hB : tB = []
    · rw [if_pos hA, if_pos hB]
      have : jf x1 y1 x2 y2 (arcAt w (-1, s1)) ≠ jf x1 y1 x2 y2 (arcAt w (-1, s2)) := fun e => by
        have e := congrArg r e
        rw [hr, hr, rp1, rp2, En.eA0 hA, En.eB0 hB] at e
        exact En.ne e
      simp [this]
    · rw [if_pos hA, if_neg hB]; simp
    · rw [if_neg hA, if_pos hB]; simp
    · rw [if_neg hA, if_neg hB]; simp
  · obtain ⟨a, ha, e⟩ := (raw_arcs x).mp hx
    exact ⟨a, List.mem_append_left _ ha, e⟩
  · rw [fr]
    by_cases hA : tA = [] <;> by_cases hB : tB = [] <;> simp [hA, hB]
theorem Two.coverS (h : Two w s1 tA e1 s2 tB e2 rc) {x1 y1 x2 y2 : Int} (j1 : JP x1 y1 (arcAt w (-1, s1)) (arcAt w (-1, e2))) (j2 : JP x2 y2 (arcAt w (-1, s2)) (arcAt w (-1, e1))) :
    ∃ ρ : List Int, Cover w (rawC w x1 y1 x2 y2) (jf x1 y1 x2 y2) ρ ∧ rings x1 y1 x2 y2 = (ρ.length : Int) := by
  have En := h.ends
  obtain ⟨f1, f2, _, fr⟩ := En.ser j1 j2
  obtain ⟨cA, cB⟩ := h.inCr
  have m1 : arcAt w (-1, s1) ∈ arcs w := arcAt_mem (rim_spot h.en h.rng.1.1 h.rng.1.2)
  have c4 : ∀ x ∈ arcs (rawC w x1 y1 x2 y2), ∃ a ∈ arcs w, jf x1 y1 x2 y2 a = x := fun x hx => by
    obtain ⟨a, ha, e⟩ := (raw_arcs x).mp hx
    exact ⟨a, List.mem_append_left _ ha, e⟩
  by_cases hE : tA ++ tB = []
  · rw [if_pos hE] at fr
    rw [List.append_eq_nil_iff] at hE
    have g1 := En.eA0 hE.1
    have g2 := En.eB0 hE.2
    have ncr : w.cr.flatten = [] := by
      cases q : w.cr.flatten with
      | nil => rfl
      | cons a l =>
        have ha : a ∈ w.cr.flatten := by rw [q]; exact List.mem_cons_self
        rcases h.crArc ha with z | z | z | z
        · rw [hE.1] at z; cases z
        · rw [hE.2] at z; cases z
        · exact absurd hE.1 z.2
        · exact absurd hE.2 z.2
    refine ⟨[jf x1 y1 x2 y2 (arcAt w (-1, s1))], ⟨rfl, fun a ha => .inr ?_, fun x hx => ?_, by simp, c4⟩, fr⟩
    · rw [List.mem_singleton]
      rcases List.mem_append.mp ha with z | z
      · rw [ncr] at z; cases z
      · rcases h.rimArc z with q | q | q | q
        · rw [q]
        · rw [q, g1]
        · rw [q, ← g2, ← f1]
        · rw [q, ← f1]
    · rw [List.mem_singleton] at hx
      rw [hx]
      refine ⟨fun z => ?_, _, m1, rfl⟩
      obtain ⟨a, ha, _⟩ := (raw_arcs _).mp z
      rw [ncr] at ha
      cases ha
  · rw [if_neg hE] at fr
    refine ⟨[], ⟨rfl, fun a ha => .inl ?_, (fun x hx => by cases hx), List.nodup_nil, c4⟩, fr⟩
    rcases List.mem_append.mp ha with z | z
    · exact (raw_arcs _).mpr ⟨a, z, rfl⟩
    · by_cases hA : tA = []
      · have hB : tB ≠ [] := fun q => hE (by rw [hA, q]; rfl)
        have k2 := (raw_arcs (x1 := x1) (y1 := y1) (x2 := x2) (y2 := y2) _).mpr ⟨_, (cB hB).1, rfl⟩
        have k3 := (raw_arcs (x1 := x1) (y1 := y1) (x2 := x2) (y2 := y2) _).mpr ⟨_, (cB hB).2, rfl⟩
        rcases h.rimArc z with q | q | q | q
        · rw [q, f1]; exact k3
        · rw [q, ← f2]; exact k2
        · rw [q]; exact k2
        · rw [q]; exact k3
      · have k0 := (raw_arcs (x1 := x1) (y1 := y1) (x2 := x2) (y2 := y2) _).mpr ⟨_, (cA hA).1, rfl⟩
        have k1 := (raw_arcs (x1 := x1) (y1 := y1) (x2 := x2) (y2 := y2) _).mpr ⟨_, (cA hA).2, rfl⟩
        rcases h.rimArc z with q | q | q | q
        · rw [q]; exact k0
        · rw [q]; exact k1
        · rw [q, f2]; exact k1
        · rw [q, ← f1]; exact k0
end
theorem close_delta {w : Web} {κ : Int → Int} {x1 y1 x2 y2 δ : Int} {m : Nat} (hm : 0 < m) (hx : x1 ∈ arcs w) (hy : y1 ∈ arcs w) (h1 : κ x1 - κ y1 = δ ∨ κ x1 - κ y1 = -δ) (h2 : κ x2 - κ y2 = δ ∨ κ x2 - κ y2 = -δ) (t : Int) :
    (m : Int) ∣ δ * t ↔ ∀ a ∈ arcs w, ∀ b ∈ arcs w, jf x1 y1 x2 y2 a = jf x1 y1 x2 y2 b → (m : Int) ∣ (κ a - κ b) * t := by
  constructor
  · intro h a ha b hb e
    have pm : ∀ x y : Int, κ x - κ y = δ ∨ κ x - κ y = -δ → (κ x * t) % (m : Int) = (κ y * t) % (m : Int) := fun x y hxy => by
      have d : (m : Int) ∣ κ x * t - κ y * t := by
        rw [← Int.sub_mul]
        rcases hxy with q | q
        · rw [q]; exact h
        · rw [q, Int.neg_mul]; exact Int.dvd_neg.mpr h
      obtain ⟨q, hq⟩ := d
      rw [show κ x * t = κ y * t + (m : Int) * q by omega, Int.add_mul_emod_self_left]
    have r := jf_rho (ρ := fun z => (κ z * t) % (m : Int)) (pm x1 y1 h1) (pm x2 y2 h2)
    have e : (κ (jf x1 y1 x2 y2 a) * t) % (m : Int) = (κ (jf x1 y1 x2 y2 b) * t) % (m : Int) := by rw [e]
    have ra := r a
    have rb := r b
    have e : (κ a * t) % (m : Int) = (κ b * t) % (m : Int) := by
      rw [← ra, ← rb]
      exact e
    rw [Int.sub_mul]
    have q := Int.dvd_sub (dvd_mod m (κ b * t)) (dvd_mod m (κ a * t))
    rw [e, show ∀ C A B : Int, C - B - (C - A) = A - B from fun C A B => by omega] at q
    exact q
  · intro h
    have := h x1 hx y1 hy (jf_1 x1 y1 x2 y2)
    rcases h1 with q | q
    · rw [q] at this; exact this
    · rw [q, Int.neg_mul] at this
      exact Int.dvd_neg.mp this
end TH
end

section
set_option autoImplicit false
set_option linter.all false
namespace TH
theorem pairs_neg (m : Nat) (δ : Int) : pairs m (-δ) = pairs m δ := by
  unfold pairs
  refine List.filter_congr fun p _ => ?_
  rw [decide_eq_decide, Int.neg_mul, Int.dvd_neg]
theorem raw_small {w : Web} (hS : Small w) (x1 y1 x2 y2 : Int) : Small (rawC w x1 y1 x2 y2) := by
  refine ⟨by show (w.cr.map _).length ≤ 200; rw [List.length_map]; exact hS.cr, ?_⟩
  have := hS.sp
  rw [allSpots_len] at this ⊢
  have e2 : ((rawC w x1 y1 x2 y2).cr.map List.length) = w.cr.map List.length := by
    unfold rawC
    simp only
    rw [List.map_map]
    exact List.map_congr_left fun c _ => List.length_map _
  rw [e2]
  show _ + 0 ≤ _
  omega
theorem close_col {w : Web} {d : Dt} {κ : Int → Int} {D E : Int} (hT : Tang w d) (K : Kap w κ D E) (hS : Small w) (hn : w.cr.length ≤ 30) {m : Nat} (hm : 0 < m) (hm1 : m ≤ 1000) (way : Int) : ColOk (closedM w way) (m : Int) ((pairs m (if way = 0 then D else E)).length : Int) := by
  obtain ⟨he, hr⟩ := hT.len
  obtain ⟨n, hin, e⟩ := closed_raw he hr way
  obtain ⟨e0, e1, e2, e3, h4⟩ : ∃ e0 e1 e2 e3, w.en = [e0, e1, e2, e3] := by
    match q : w.en, he with
    | [a, b, c, d], _ => exact ⟨a, b, c, d, rfl⟩
  have a0 : arcAt w (-1, 0) = e0 := by unfold arcAt; rw [if_pos rfl, h4]; rfl
  have a1 : arcAt w (-1, 1) = e1 := by unfold arcAt; rw [if_pos rfl, h4]; rfl
  have a2 : arcAt w (-1, 2) = e2 := by unfold arcAt; rw [if_pos rfl, h4]; rfl
  have a3 : arcAt w (-1, 3) = e3 := by unfold arcAt; rw [if_pos rfl, h4]; rfl
  have hd := K.dd
  have hee := K.ee
  have hsu := K.su
  rw [h4] at hd hee hsu
  simp only [List.getD_cons_zero, List.getD_cons_succ] at hd hee hsu
  obtain ⟨tA, tB, rc, T, _, _⟩ := hT
  have hk2 := two_keys T
  have mrim : ∀ i : Int, 0 ≤ i → i < 4 → arcAt w (-1, i) ∈ arcs w := fun i h0 h4 => arcAt_mem (rim_spot he h0 h4)
  have core : ∀ x1 y1 x2 y2 δ, x1 ∈ arcs w → y1 ∈ arcs w → (κ x1 - κ y1 = δ ∨ κ x1 - κ y1 = -δ) → (κ x2 - κ y2 = δ ∨ κ x2 - κ y2 = -δ) → (∃ ρ : List Int, Cover w (rawC w x1 y1 x2 y2) (jf x1 y1 x2 y2) ρ ∧ rings x1 y1 x2 y2 = (ρ.length : Int)) → ColOk (rawC w x1 y1 x2 y2) (m : Int) ((pairs m δ).length : Int) := by
    rintro x1 y1 x2 y2 δ hx hy q1 q2 ⟨ρ, C, hρ⟩
    have c := count (δ := δ) hm K C fun t => close_delta hm hx hy q1 q2 t
    have kl : (keys (rawC w x1 y1 x2 y2)).length ≤ (keys w).length := by
      have := List.Nodup.length_le_of_subset (keys_nodup (rawC w x1 y1 x2 y2)) (l₂ := (keys w).map (jf x1 y1 x2 y2)) fun a ha => by
        obtain ⟨b, hb, e⟩ := C.c4 a ((mem_keys _ a).mp ha)
        exact List.mem_map.mpr ⟨b, (mem_keys w b).mpr hb, e⟩
      rw [List.length_map] at this
      exact this
    have hrl : ρ.length ≤ 1000 := by
      have : rings x1 y1 x2 y2 ≤ 2 := by
        unfold rings
        split <;> split <;> omega
      omega
    have f4 : Fours (rawC w x1 y1 x2 y2) := fun c hc => by
      obtain ⟨d, hd, rfl⟩ := List.mem_map.mp hc
      rw [List.length_map]
      exact T.four d hd
    have q := col_ok (rg := ρ.length) (m := m) (raw_small hS x1 y1 x2 y2) f4 (by omega) hm hm1 hρ hrl
    rw [c]
    exact q
  have main : ColOk (cl4 w way) (m : Int) ((pairs m (if way = 0 then D else E)).length : Int) := by
    obtain ⟨ty, lk, tu⟩ := d
    simp only at T
    unfold cl4
    by_cases hw : way = 0
    · rw [if_pos hw, if_pos hw]
      refine core _ _ _ _ D (mrim 3 (by decide) (by decide)) (mrim 0 (by decide) (by decide)) (.inr ?_) (.inl ?_) ?_
      · rw [a3, a0]; omega
      · rw [a1, a2]; omega
      · cases ty
        · exact T.coverP (.inr ⟨rfl, rfl⟩) (.inl ⟨rfl, rfl⟩)
        · exact T.coverS (.inr ⟨rfl, rfl⟩) (.inr ⟨rfl, rfl⟩)
        · exact T.coverS (.inr ⟨rfl, rfl⟩) (.inl ⟨rfl, rfl⟩)
    · rw [if_neg hw, if_neg hw]
      refine core _ _ _ _ E (mrim 0 (by decide) (by decide)) (mrim 1 (by decide) (by decide)) (.inl ?_) (.inr ?_) ?_
      · rw [a0, a1]; omega
      · rw [a2, a3]; omega
      · cases ty
        · exact T.revB.coverS (.inl ⟨rfl, rfl⟩) (.inl ⟨rfl, rfl⟩)
        · exact T.coverP (.inl ⟨rfl, rfl⟩) (.inl ⟨rfl, rfl⟩)
        · exact T.revB.coverS (.inl ⟨rfl, rfl⟩) (.inr ⟨rfl, rfl⟩)
  rw [e]
  exact col_ren (InjOn.anew _) (col_ren hin main)
theorem close_colV {w : Web} {d : Dt} {v : Int × Int} (hT : Tang w d) (hK : KapV w v) (hS : Small w) (hn : w.cr.length ≤ 30) {m : Nat} (hm : 0 < m) (hm1 : m ≤ 1000) (way : Int) : ColOk (closedM w way) (m : Int) ((pairs m (if way = 0 then v.1 else v.2)).length : Int) := by
  obtain ⟨κ, K | K⟩ := hK
  · exact close_col hT K hS hn hm hm1 way
  · have := close_col hT K hS hn hm hm1 way
    by_cases hw : way = 0
    · rw [if_pos hw, pairs_neg] at this
      rw [if_pos hw]
      exact this
    · rw [if_neg hw, pairs_neg] at this
      rw [if_neg hw]
      exact this
/-! ### the numbers -/
theorem cut_le {n left : Int} (h : 0 ≤ left) : ((cutOf n left).natAbs : Int) ≤ left := by
  unfold cutOf
  split
  · show (0 : Int) ≤ left
    exact h
  · omega
theorem heft_cons (a : Int) (l : List Int) : heft (a :: l) = a.natAbs + heft l := by
  unfold heft
  rw [List.map_cons, List.sum_cons]
theorem heft_app (a b : List Int) : heft (a ++ b) = heft a + heft b := by
  unfold heft
  rw [List.map_append, List.sum_append]
theorem twists_heft (most : Int) : ∀ (cs : List Int) (left : Int), 0 ≤ left → (heft (twistsM most cs left) : Int) ≤ left
  | [], left, h => h
  | c :: cs, left, h => by
    have h1 := cut_le (n := twistOf c most) h
    have h2 := twists_heft most cs (left - ((cutOf (twistOf c most) left).natAbs : Int)) (by omega)
    rw [twistsM, heft_cons]
    omega
theorem sizeM_heft (ts : List Int) : sizeM ts = (heft ts : Int) := by
  unfold sizeM heft
  induction ts with
  | nil => rfl
  | cons a l ih =>
    rw [List.map_cons, List.map_cons, List.sum_cons, List.sum_cons, ih]
    omega
theorem heft_parts {ts : List Int} {j : Nat} (h : j < ts.length) : heft ts = heft (ts.take j) + (ts.getD j 0).natAbs + heft (ts.drop (j + 1)) := by
  have e : ts = ts.take j ++ (ts.getD j 0 :: ts.drop (j + 1)) := by
    rw [List.getD_eq_getElem?_getD, List.getElem?_eq_getElem h]
    show ts = ts.take j ++ (ts[j] :: ts.drop (j + 1))
    rw [← List.drop_eq_getElem_cons h, List.take_append_drop]
  have := congrArg heft e
  rw [heft_app, heft_cons] at this
  omega
theorem changed_heft (ts : List Int) (c : Int) (h : 1 ≤ ts.length) : heft (changedM ts c) ≤ heft ts + 4 := by
  have h0 : 0 ≤ c / 4 % (ts.length : Int) := Int.emod_nonneg _ (by omega)
  have h1 : c / 4 % (ts.length : Int) < ts.length := Int.emod_lt_of_pos _ (by omega)
  unfold changedM
  generalize hj : (c / 4 % (ts.length : Int)).toNat = j
  have hjl : j < ts.length := by omega
  have hp := heft_parts hjl
  have nil0 : heft [] = 0 := rfl
  simp only
  split
  · rw [heft_app, heft_app, heft_cons, heft_cons, heft_cons, nil0]
    have p0 := Int.emod_nonneg (c / 32) (show (5 : Int) ≠ 0 by decide)
    have p1 := Int.emod_lt_of_pos (c / 32) (show (0 : Int) < 5 by decide)
    omega
  · split
    · rw [heft_app, heft_cons, heft_cons, nil0]
      omega
    · split
      · rename_i h2
        have hp2 := heft_parts h2
        have hd : heft (ts.drop (j + 1)) = (ts.getD (j + 1) 0).natAbs + heft (ts.drop (j + 2)) := by
          rw [List.drop_eq_getElem_cons h2, heft_cons, List.getD_eq_getElem?_getD, List.getElem?_eq_getElem h2]
          rfl
        rw [heft_app, heft_app, heft_cons, heft_cons, heft_cons, nil0]
        split <;> omega
      · omega
theorem changes_heft : ∀ (cs ts : List Int), 1 ≤ ts.length → heft ts ≤ 15 → heft (changesM cs ts) ≤ 15
  | [], ts, _, h => h
  | c :: cs, ts, h1, h => by
    rw [changesM]
    by_cases hs : sizeM ts < 12
    · rw [if_pos hs]
      rw [sizeM_heft] at hs
      have h2 := changed_heft ts c h1
      have h3 := changedM_len ts c h1
      exact changes_heft cs _ (by omega) (by omega)
    · rw [if_neg hs]
      exact changes_heft cs ts h1 h
theorem one_facts (ns : List Int) : oneM ns ≠ [] ∧ heft (oneM ns) ≤ 8 ∧ 1 ≤ (oneM ns).length := by
  have hl : (oneM ns).length = max 1 (min 5 ns.length) := by
    unfold oneM
    rw [twistsM_len, List.length_take, List.length_append, List.length_take]
    show min _ (_ + 1) = _
    omega
  have hh := twists_heft 8 ((ns.take 5 ++ [0]).take (max 1 (min 5 ns.length))) 8 (by decide)
  refine ⟨fun z => ?_, by unfold oneM; omega, by omega⟩
  rw [z] at hl
  simp only [List.length_nil] at hl
  omega
theorem other_facts (ns : List Int) : otherM ns ≠ [] ∧ heft (otherM ns) ≤ 15 := by
  obtain ⟨h1, h2, h3⟩ := one_facts ns
  unfold otherM
  split
  · have hl := changesM_len ((ns.take 12).drop 9) (oneM ns) h3
    refine ⟨fun z => ?_, changes_heft _ _ h3 (by omega)⟩
    rw [z] at hl
    simp only [List.length_nil] at hl
    omega
  · have hh := twists_heft 8 [cellAt ns 5, cellAt ns 6, cellAt ns 7] 8 (by decide)
    refine ⟨fun z => ?_, by omega⟩
    have := congrArg List.length z
    rw [twistsM_len] at this
    simp at this
/-! ### the law -/
theorem law_of {one other : List Int} {m : Nat} (n1 : one ≠ []) (n2 : other ≠ []) (h1 : heft one ≤ 17) (h2 : heft other ≤ 17) (hm : 0 < m) (hm1 : m ≤ 1000) : LawFact one other (m : Int) := by
  have T1 := tang_of n1
  have T2 := tang_of n2
  have K1 := kap_of n1
  have K2 := kap_of n2
  have sh1 := shape_twisted one
  have sh2 := shape_twisted other
  have S1 : Small (twistedM one) := sh1.small (by omega)
  have S2 : Small (twistedM other) := sh2.small (by omega)
  have c1 : (twistedM one).cr.length ≤ 30 := by rw [sh1.cr]; omega
  have c2 : (twistedM other).cr.length ≤ 30 := by rw [sh2.cr]; omega
  obtain ⟨R, rs, rst, rl, rt⟩ := tang_str T1 S1
  obtain ⟨Q, qs, qst, ql, qt⟩ := tang_str T2 S2
  refine ⟨h1, h2, ⟨R, Q, rs.sg, qs.sg, ?_⟩, fun hv => ?_, fun hv way hway => ?_⟩
  · rw [rt, qt, sums_run n1, sums_run n2]
    exact ⟨value_of_own, fun hv => (same_of_value hv).2.2⟩
  · obtain ⟨s1, s2, _⟩ := same_of_value hv
    refine ⟨R, Q, _, _, rs, qs, by rw [rst, qst, s1], by rw [rl, ql, s2], tang_col T1 K1 S1 c1 hm hm1, tang_col T2 K2 S2 c2 hm hm1, tang_col (m := 3) T1 K1 S1 c1 (by decide) (by decide), tang_col (m := 3) T2 K2 S2 c2 (by decide) (by decide)⟩
  · obtain ⟨s1, s2, _⟩ := same_of_value hv
    obtain ⟨R', rs', rst', rl'⟩ := close_str T1 S1 way
    obtain ⟨Q', qs', qst', ql'⟩ := close_str T2 S2 way
    have pe : ∀ k : Nat, (pairs k (if way = 0 then (vecM one).1 else (vecM one).2)) = (pairs k (if way = 0 then (vecM other).1 else (vecM other).2)) := fun k => by
      rcases value_vec hv with e | e
      · rw [e]
      · rw [e]
        by_cases hw : way = 0
        · rw [if_pos hw, if_pos hw, pairs_neg]
        · rw [if_neg hw, if_neg hw, pairs_neg]
    have a1 := close_colV T1 K1 S1 c1 hm hm1 way
    have a2 := close_colV T2 K2 S2 c2 hm hm1 way
    have b1 := close_colV (m := 3) T1 K1 S1 c1 (by decide) (by decide) way
    have b2 := close_colV (m := 3) T2 K2 S2 c2 (by decide) (by decide) way
    rw [← pe] at a2 b2
    exact ⟨R', Q', _, _, rs', qs', by rw [rst', qst', s1], by rw [rl', ql', s1, s2], a1, a2, b1, b2⟩
theorem law_fact (ns : List Int) : LawFact (oneM ns) (otherM ns) (2 + cellAt ns 8 / 4 % 59) := by
  obtain ⟨h1, h2, _⟩ := one_facts ns
  obtain ⟨h3, h4⟩ := other_facts ns
  have p0 := Int.emod_nonneg (cellAt ns 8 / 4) (show (59 : Int) ≠ 0 by decide)
  have p1 := Int.emod_lt_of_pos (cellAt ns 8 / 4) (show (0 : Int) < 59 by decide)
  have e : 2 + cellAt ns 8 / 4 % 59 = (((2 + cellAt ns 8 / 4 % 59).toNat : Nat) : Int) := by omega
  rw [e]
  exact law_of h1 h3 (by omega) (by omega) (by omega) (by omega)
end TH
end

section
set_option Elab.async false
set_option linter.all false
set_option maxRecDepth 100000
namespace TH
open PySem PySem.Spec PyProof.Rows L2
theorem fn_mk {K : PySem.W.Frag} {h : Heap} {mg : Str → Option Value} {x : Str} {st : Stmt} {ps : List Str} {f : Addr} (X : K.In h) (G : h.Ns mainGlobals mg) {oc : Value} {od an : Option Addr} {osl : Array (Option Value)} {kV doc pm cdv ct : Value}
    (a : PySem.W.nsIn K mainGlobals x = some (some (.ref f))) (l : K.lookup f = some ⟨oc, od, .func (PySem.W.fnOf x x (defArgs st) (defBody st) (defScope st) .none kV doc pm an cdv ct), osl⟩) (c : PySem.W.codeIn K cdv x = true) (k : PySem.W.keepIn K (.ref f) = true)
    (b : Fun K x x st f (PySem.W.fnOf x x (defArgs st) (defBody st) (defScope st) .none kV doc pm an cdv ct) → Binds K (PySem.W.fnOf x x (defArgs st) (defBody st) (defScope st) .none kV doc pm an cdv ct) ps []) : Fn K mg x st ps :=
  ⟨f, _, fun_mk l c k, PySem.W.mg_of X G a, b (fun_mk l c k)⟩
set_option maxHeartbeats 0 in
theorem all_mk {P : Program} {w : World} {K : PySem.W.Frag} {h : Heap} {mg : Str → Option Value} {fa : Addr} (X : K.In h) (G : h.Ns mainGlobals mg) (hfa : mg "law" = some (.ref fa))
    {f_pl : Addr} {od_pl an_pl : Option Addr} {sl_pl : Array (Option Value)} {oc_pl kV_pl dc_pl pm_pl cd_pl ct_pl : Value}
    {f_nb : Addr} {od_nb an_nb : Option Addr} {sl_nb : Array (Option Value)} {oc_nb kV_nb dc_nb pm_nb cd_nb ct_nb : Value}
    {f_an : Addr} {od_an an_an : Option Addr} {sl_an : Array (Option Value)} {oc_an kV_an dc_an pm_an cd_an ct_an : Value}
    {f_mi : Addr} {od_mi an_mi : Option Addr} {sl_mi : Array (Option Value)} {oc_mi kV_mi dc_mi pm_mi cd_mi ct_mi : Value}
    {f_sf : Addr} {od_sf an_sf : Option Addr} {sl_sf : Array (Option Value)} {oc_sf kV_sf dc_sf pm_sf cd_sf ct_sf : Value}
    {f_jo : Addr} {od_jo an_jo : Option Addr} {sl_jo : Array (Option Value)} {oc_jo kV_jo dc_jo pm_jo cd_jo ct_jo : Value}
    {f_st : Addr} {od_st an_st : Option Addr} {sl_st : Array (Option Value)} {oc_st kV_st dc_st pm_st cd_st ct_st : Value}
    {f_si : Addr} {od_si an_si : Option Addr} {sl_si : Array (Option Value)} {oc_si kV_si dc_si pm_si cd_si ct_si : Value}
    {f_gl : Addr} {od_gl an_gl : Option Addr} {sl_gl : Array (Option Value)} {oc_gl kV_gl dc_gl pm_gl cd_gl ct_gl : Value}
    {f_be : Addr} {od_be an_be : Option Addr} {sl_be : Array (Option Value)} {oc_be kV_be dc_be pm_be cd_be ct_be : Value}
    {f_qu : Addr} {od_qu an_qu : Option Addr} {sl_qu : Array (Option Value)} {oc_qu kV_qu dc_qu pm_qu cd_qu ct_qu : Value}
    {f_cl : Addr} {od_cl an_cl : Option Addr} {sl_cl : Array (Option Value)} {oc_cl kV_cl dc_cl pm_cl cd_cl ct_cl : Value}
    {f_li : Addr} {od_li an_li : Option Addr} {sl_li : Array (Option Value)} {oc_li kV_li dc_li pm_li cd_li ct_li : Value}
    {f_ga : Addr} {od_ga an_ga : Option Addr} {sl_ga : Array (Option Value)} {oc_ga kV_ga dc_ga pm_ga cd_ga ct_ga : Value}
    {f_mn : Addr} {od_mn an_mn : Option Addr} {sl_mn : Array (Option Value)} {oc_mn kV_mn dc_mn pm_mn cd_mn ct_mn : Value}
    {f_va : Addr} {od_va an_va : Option Addr} {sl_va : Array (Option Value)} {oc_va kV_va dc_va pm_va cd_va ct_va : Value}
    {f_tw : Addr} {od_tw an_tw : Option Addr} {sl_tw : Array (Option Value)} {oc_tw kV_tw dc_tw pm_tw cd_tw ct_tw : Value}
    {f_ha : Addr} {od_ha an_ha : Option Addr} {sl_ha : Array (Option Value)} {oc_ha kV_ha dc_ha pm_ha cd_ha ct_ha : Value}
    {f_su : Addr} {od_su an_su : Option Addr} {sl_su : Array (Option Value)} {oc_su kV_su dc_su pm_su cd_su ct_su : Value}
    {f_gr : Addr} {od_gr an_gr : Option Addr} {sl_gr : Array (Option Value)} {oc_gr kV_gr dc_gr pm_gr cd_gr ct_gr : Value}
    {f_wa : Addr} {od_wa an_wa : Option Addr} {sl_wa : Array (Option Value)} {oc_wa kV_wa dc_wa pm_wa cd_wa ct_wa : Value}
    {f_le : Addr} {od_le an_le : Option Addr} {sl_le : Array (Option Value)} {oc_le kV_le dc_le pm_le cd_le ct_le : Value}
    {f_ce : Addr} {od_ce an_ce : Option Addr} {sl_ce : Array (Option Value)} {oc_ce kV_ce dc_ce pm_ce cd_ce ct_ce : Value}
    {f_dv : Addr} {od_dv an_dv : Option Addr} {sl_dv : Array (Option Value)} {oc_dv kV_dv dc_dv pm_dv cd_dv ct_dv : Value}
    {f_of : Addr} {od_of an_of : Option Addr} {sl_of : Array (Option Value)} {oc_of kV_of dc_of pm_of cd_of ct_of : Value}
    {f_co : Addr} {od_co an_co : Option Addr} {sl_co : Array (Option Value)} {oc_co kV_co dc_co pm_co cd_co ct_co : Value}
    {f_ti : Addr} {od_ti an_ti : Option Addr} {sl_ti : Array (Option Value)} {oc_ti kV_ti dc_ti pm_ti cd_ti ct_ti : Value}
    {f_aa : Addr} {od_aa an_aa : Option Addr} {sl_aa : Array (Option Value)} {oc_aa kV_aa dc_aa pm_aa cd_aa ct_aa : Value}
    {f_rf : Addr} {od_rf an_rf : Option Addr} {sl_rf : Array (Option Value)} {oc_rf kV_rf dc_rf pm_rf cd_rf ct_rf : Value}
    {f_rs : Addr} {od_rs an_rs : Option Addr} {sl_rs : Array (Option Value)} {oc_rs kV_rs dc_rs pm_rs cd_rs ct_rs : Value}
    {f_hs : Addr} {od_hs an_hs : Option Addr} {sl_hs : Array (Option Value)} {oc_hs kV_hs dc_hs pm_hs cd_hs ct_hs : Value}
    {f_sg : Addr} {od_sg an_sg : Option Addr} {sl_sg : Array (Option Value)} {oc_sg kV_sg dc_sg pm_sg cd_sg ct_sg : Value}
    {f_tu : Addr} {od_tu an_tu : Option Addr} {sl_tu : Array (Option Value)} {oc_tu kV_tu dc_tu pm_tu cd_tu ct_tu : Value}
    {f_lk : Addr} {od_lk an_lk : Option Addr} {sl_lk : Array (Option Value)} {oc_lk kV_lk dc_lk pm_lk cd_lk ct_lk : Value}
    {f_ca : Addr} {od_ca an_ca : Option Addr} {sl_ca : Array (Option Value)} {oc_ca kV_ca dc_ca pm_ca cd_ca ct_ca : Value}
    {f_ts : Addr} {od_ts an_ts : Option Addr} {sl_ts : Array (Option Value)} {oc_ts kV_ts dc_ts pm_ts cd_ts ct_ts : Value}
    {f_ch : Addr} {od_ch an_ch : Option Addr} {sl_ch : Array (Option Value)} {oc_ch kV_ch dc_ch pm_ch cd_ch ct_ch : Value}
    {f_ow : Addr} {od_ow an_ow : Option Addr} {sl_ow : Array (Option Value)} {oc_ow kV_ow dc_ow pm_ow cd_ow ct_ow : Value}
    {f_ak : Addr} {od_ak an_ak : Option Addr} {sl_ak : Array (Option Value)} {oc_ak kV_ak dc_ak pm_ak cd_ak ct_ak : Value}
    {f_lw : Addr} {od_lw an_lw : Option Addr} {sl_lw : Array (Option Value)} {oc_lw kV_lw dc_lw pm_lw cd_lw ct_lw : Value}
    {rimt : Tok}
    {CL CS fI fWL fWS T : Addr} {nT : Nat}
    {od_fI an_fI : Option Addr} {sl_fI : Array (Option Value)} {oc_fI kV_fI dc_fI pm_fI cd_fI ct_fI : Value}
    {od_fWL an_fWL : Option Addr} {sl_fWL : Array (Option Value)} {oc_fWL kV_fWL dc_fWL pm_fWL cd_fWL ct_fWL : Value}
    {od_fWS an_fWS : Option Addr} {sl_fWS : Array (Option Value)} {oc_fWS kV_fWS dc_fWS pm_fWS cd_fWS ct_fWS : Value}
    {oc_T : Value} {od_T : Option Addr} {sl_T : Array (Option Value)}
    (a_pl : PySem.W.nsIn K mainGlobals "places" = some (some (.ref f_pl))) (l_pl : K.lookup f_pl = some ⟨oc_pl, od_pl, .func (PySem.W.fnOf "places" "places" (defArgs sPlaces) (defBody sPlaces) (defScope sPlaces) .none kV_pl dc_pl pm_pl an_pl cd_pl ct_pl), sl_pl⟩) (c_pl : PySem.W.codeIn K cd_pl "places" = true) (k_pl : PySem.W.keepIn K (.ref f_pl) = true)
    (a_nb : PySem.W.nsIn K mainGlobals "named_by" = some (some (.ref f_nb))) (l_nb : K.lookup f_nb = some ⟨oc_nb, od_nb, .func (PySem.W.fnOf "named_by" "named_by" (defArgs sNamedBy) (defBody sNamedBy) (defScope sNamedBy) .none kV_nb dc_nb pm_nb an_nb cd_nb ct_nb), sl_nb⟩) (c_nb : PySem.W.codeIn K cd_nb "named_by" = true) (k_nb : PySem.W.keepIn K (.ref f_nb) = true)
    (a_an : PySem.W.nsIn K mainGlobals "named_anew" = some (some (.ref f_an))) (l_an : K.lookup f_an = some ⟨oc_an, od_an, .func (PySem.W.fnOf "named_anew" "named_anew" (defArgs sAnew) (defBody sAnew) (defScope sAnew) .none kV_an dc_an pm_an an_an cd_an ct_an), sl_an⟩) (c_an : PySem.W.codeIn K cd_an "named_anew" = true) (k_an : PySem.W.keepIn K (.ref f_an) = true)
    (a_mi : PySem.W.nsIn K mainGlobals "mirrored" = some (some (.ref f_mi))) (l_mi : K.lookup f_mi = some ⟨oc_mi, od_mi, .func (PySem.W.fnOf "mirrored" "mirrored" (defArgs sMirrored) (defBody sMirrored) (defScope sMirrored) .none kV_mi dc_mi pm_mi an_mi cd_mi ct_mi), sl_mi⟩) (c_mi : PySem.W.codeIn K cd_mi "mirrored" = true) (k_mi : PySem.W.keepIn K (.ref f_mi) = true)
    (a_sf : PySem.W.nsIn K mainGlobals "shifted" = some (some (.ref f_sf))) (l_sf : K.lookup f_sf = some ⟨oc_sf, od_sf, .func (PySem.W.fnOf "shifted" "shifted" (defArgs sShifted) (defBody sShifted) (defScope sShifted) .none kV_sf dc_sf pm_sf an_sf cd_sf ct_sf), sl_sf⟩) (c_sf : PySem.W.codeIn K cd_sf "shifted" = true) (k_sf : PySem.W.keepIn K (.ref f_sf) = true)
    (a_jo : PySem.W.nsIn K mainGlobals "joined" = some (some (.ref f_jo))) (l_jo : K.lookup f_jo = some ⟨oc_jo, od_jo, .func (PySem.W.fnOf "joined" "joined" (defArgs sJoined) (defBody sJoined) (defScope sJoined) .none kV_jo dc_jo pm_jo an_jo cd_jo ct_jo), sl_jo⟩) (c_jo : PySem.W.codeIn K cd_jo "joined" = true) (k_jo : PySem.W.keepIn K (.ref f_jo) = true)
    (a_st : PySem.W.nsIn K mainGlobals "shut" = some (some (.ref f_st))) (l_st : K.lookup f_st = some ⟨oc_st, od_st, .func (PySem.W.fnOf "shut" "shut" (defArgs sShut) (defBody sShut) (defScope sShut) .none kV_st dc_st pm_st an_st cd_st ct_st), sl_st⟩) (c_st : PySem.W.codeIn K cd_st "shut" = true) (k_st : PySem.W.keepIn K (.ref f_st) = true)
    (a_si : PySem.W.nsIn K mainGlobals "side_by_side" = some (some (.ref f_si))) (l_si : K.lookup f_si = some ⟨oc_si, od_si, .func (PySem.W.fnOf "side_by_side" "side_by_side" (defArgs sSide) (defBody sSide) (defScope sSide) .none kV_si dc_si pm_si an_si cd_si ct_si), sl_si⟩) (c_si : PySem.W.codeIn K cd_si "side_by_side" = true) (k_si : PySem.W.keepIn K (.ref f_si) = true)
    (a_gl : PySem.W.nsIn K mainGlobals "glued" = some (some (.ref f_gl))) (l_gl : K.lookup f_gl = some ⟨oc_gl, od_gl, .func (PySem.W.fnOf "glued" "glued" (defArgs sGlued) (defBody sGlued) (defScope sGlued) .none kV_gl dc_gl pm_gl an_gl cd_gl ct_gl), sl_gl⟩) (c_gl : PySem.W.codeIn K cd_gl "glued" = true) (k_gl : PySem.W.keepIn K (.ref f_gl) = true)
    (a_be : PySem.W.nsIn K mainGlobals "beside" = some (some (.ref f_be))) (l_be : K.lookup f_be = some ⟨oc_be, od_be, .func (PySem.W.fnOf "beside" "beside" (defArgs sBeside) (defBody sBeside) (defScope sBeside) .none kV_be dc_be pm_be an_be cd_be ct_be), sl_be⟩) (c_be : PySem.W.codeIn K cd_be "beside" = true) (k_be : PySem.W.keepIn K (.ref f_be) = true)
    (a_qu : PySem.W.nsIn K mainGlobals "quarter" = some (some (.ref f_qu))) (l_qu : K.lookup f_qu = some ⟨oc_qu, od_qu, .func (PySem.W.fnOf "quarter" "quarter" (defArgs sQuarter) (defBody sQuarter) (defScope sQuarter) .none kV_qu dc_qu pm_qu an_qu cd_qu ct_qu), sl_qu⟩) (c_qu : PySem.W.codeIn K cd_qu "quarter" = true) (k_qu : PySem.W.keepIn K (.ref f_qu) = true)
    (a_cl : PySem.W.nsIn K mainGlobals "closed" = some (some (.ref f_cl))) (l_cl : K.lookup f_cl = some ⟨oc_cl, od_cl, .func (PySem.W.fnOf "closed" "closed" (defArgs sClosed) (defBody sClosed) (defScope sClosed) .none kV_cl dc_cl pm_cl an_cl cd_cl ct_cl), sl_cl⟩) (c_cl : PySem.W.codeIn K cd_cl "closed" = true) (k_cl : PySem.W.keepIn K (.ref f_cl) = true)
    (a_li : PySem.W.nsIn K mainGlobals "lifted" = some (some (.ref f_li))) (l_li : K.lookup f_li = some ⟨oc_li, od_li, .func (PySem.W.fnOf "lifted" "lifted" (defArgs sLifted) (defBody sLifted) (defScope sLifted) .none kV_li dc_li pm_li an_li cd_li ct_li), sl_li⟩) (c_li : PySem.W.codeIn K cd_li "lifted" = true) (k_li : PySem.W.keepIn K (.ref f_li) = true)
    (a_ga : PySem.W.nsIn K mainGlobals "gathered" = some (some (.ref f_ga))) (l_ga : K.lookup f_ga = some ⟨oc_ga, od_ga, .func (PySem.W.fnOf "gathered" "gathered" (defArgs sGathered) (defBody sGathered) (defScope sGathered) .none kV_ga dc_ga pm_ga an_ga cd_ga ct_ga), sl_ga⟩) (c_ga : PySem.W.codeIn K cd_ga "gathered" = true) (k_ga : PySem.W.keepIn K (.ref f_ga) = true)
    (a_mn : PySem.W.nsIn K mainGlobals "minus" = some (some (.ref f_mn))) (l_mn : K.lookup f_mn = some ⟨oc_mn, od_mn, .func (PySem.W.fnOf "minus" "minus" (defArgs sMinus) (defBody sMinus) (defScope sMinus) .none kV_mn dc_mn pm_mn an_mn cd_mn ct_mn), sl_mn⟩) (c_mn : PySem.W.codeIn K cd_mn "minus" = true) (k_mn : PySem.W.keepIn K (.ref f_mn) = true)
    (a_va : PySem.W.nsIn K mainGlobals "value" = some (some (.ref f_va))) (l_va : K.lookup f_va = some ⟨oc_va, od_va, .func (PySem.W.fnOf "value" "value" (defArgs sValue) (defBody sValue) (defScope sValue) .none kV_va dc_va pm_va an_va cd_va ct_va), sl_va⟩) (c_va : PySem.W.codeIn K cd_va "value" = true) (k_va : PySem.W.keepIn K (.ref f_va) = true)
    (a_tw : PySem.W.nsIn K mainGlobals "twisted" = some (some (.ref f_tw))) (l_tw : K.lookup f_tw = some ⟨oc_tw, od_tw, .func (PySem.W.fnOf "twisted" "twisted" (defArgs sTwisted) (defBody sTwisted) (defScope sTwisted) .none kV_tw dc_tw pm_tw an_tw cd_tw ct_tw), sl_tw⟩) (c_tw : PySem.W.codeIn K cd_tw "twisted" = true) (k_tw : PySem.W.keepIn K (.ref f_tw) = true)
    (a_ha : PySem.W.nsIn K mainGlobals "half_twist" = some (some (.ref f_ha))) (l_ha : K.lookup f_ha = some ⟨oc_ha, od_ha, .func (PySem.W.fnOf "half_twist" "half_twist" (defArgs sHalf) (defBody sHalf) (defScope sHalf) .none kV_ha dc_ha pm_ha an_ha cd_ha ct_ha), sl_ha⟩) (c_ha : PySem.W.codeIn K cd_ha "half_twist" = true) (k_ha : PySem.W.keepIn K (.ref f_ha) = true)
    (a_su : PySem.W.nsIn K mainGlobals "twisted_sums" = some (some (.ref f_su))) (l_su : K.lookup f_su = some ⟨oc_su, od_su, .func (PySem.W.fnOf "twisted_sums" "twisted_sums" (defArgs sSums) (defBody sSums) (defScope sSums) .none kV_su dc_su pm_su an_su cd_su ct_su), sl_su⟩) (c_su : PySem.W.codeIn K cd_su "twisted_sums" = true) (k_su : PySem.W.keepIn K (.ref f_su) = true)
    (a_gr : PySem.W.nsIn K mainGlobals "groups" = some (some (.ref f_gr))) (l_gr : K.lookup f_gr = some ⟨oc_gr, od_gr, .func (PySem.W.fnOf "groups" "groups" (defArgs sGroups) (defBody sGroups) (defScope sGroups) .none kV_gr dc_gr pm_gr an_gr cd_gr ct_gr), sl_gr⟩) (c_gr : PySem.W.codeIn K cd_gr "groups" = true) (k_gr : PySem.W.keepIn K (.ref f_gr) = true)
    (a_wa : PySem.W.nsIn K mainGlobals "wants" = some (some (.ref f_wa))) (l_wa : K.lookup f_wa = some ⟨oc_wa, od_wa, .func (PySem.W.fnOf "wants" "wants" (defArgs sWants) (defBody sWants) (defScope sWants) .none kV_wa dc_wa pm_wa an_wa cd_wa ct_wa), sl_wa⟩) (c_wa : PySem.W.codeIn K cd_wa "wants" = true) (k_wa : PySem.W.keepIn K (.ref f_wa) = true)
    (a_le : PySem.W.nsIn K mainGlobals "least_entry" = some (some (.ref f_le))) (l_le : K.lookup f_le = some ⟨oc_le, od_le, .func (PySem.W.fnOf "least_entry" "least_entry" (defArgs sLeast) (defBody sLeast) (defScope sLeast) .none kV_le dc_le pm_le an_le cd_le ct_le), sl_le⟩) (c_le : PySem.W.codeIn K cd_le "least_entry" = true) (k_le : PySem.W.keepIn K (.ref f_le) = true)
    (a_ce : PySem.W.nsIn K mainGlobals "cleared" = some (some (.ref f_ce))) (l_ce : K.lookup f_ce = some ⟨oc_ce, od_ce, .func (PySem.W.fnOf "cleared" "cleared" (defArgs sCleared) (defBody sCleared) (defScope sCleared) .none kV_ce dc_ce pm_ce an_ce cd_ce ct_ce), sl_ce⟩) (c_ce : PySem.W.codeIn K cd_ce "cleared" = true) (k_ce : PySem.W.keepIn K (.ref f_ce) = true)
    (a_dv : PySem.W.nsIn K mainGlobals "divisor" = some (some (.ref f_dv))) (l_dv : K.lookup f_dv = some ⟨oc_dv, od_dv, .func (PySem.W.fnOf "divisor" "divisor" (defArgs sDivisor) (defBody sDivisor) (defScope sDivisor) .none kV_dv dc_dv pm_dv an_dv cd_dv ct_dv), sl_dv⟩) (c_dv : PySem.W.codeIn K cd_dv "divisor" = true) (k_dv : PySem.W.keepIn K (.ref f_dv) = true)
    (a_of : PySem.W.nsIn K mainGlobals "as_often" = some (some (.ref f_of))) (l_of : K.lookup f_of = some ⟨oc_of, od_of, .func (PySem.W.fnOf "as_often" "as_often" (defArgs sOften) (defBody sOften) (defScope sOften) .none kV_of dc_of pm_of an_of cd_of ct_of), sl_of⟩) (c_of : PySem.W.codeIn K cd_of "as_often" = true) (k_of : PySem.W.keepIn K (.ref f_of) = true)
    (a_co : PySem.W.nsIn K mainGlobals "colours" = some (some (.ref f_co))) (l_co : K.lookup f_co = some ⟨oc_co, od_co, .func (PySem.W.fnOf "colours" "colours" (defArgs sColours) (defBody sColours) (defScope sColours) .none kV_co dc_co pm_co an_co cd_co ct_co), sl_co⟩) (c_co : PySem.W.codeIn K cd_co "colours" = true) (k_co : PySem.W.keepIn K (.ref f_co) = true)
    (a_ti : PySem.W.nsIn K mainGlobals "twins" = some (some (.ref f_ti))) (l_ti : K.lookup f_ti = some ⟨oc_ti, od_ti, .func (PySem.W.fnOf "twins" "twins" (defArgs sTwins) (defBody sTwins) (defScope sTwins) .none kV_ti dc_ti pm_ti an_ti cd_ti ct_ti), sl_ti⟩) (c_ti : PySem.W.codeIn K cd_ti "twins" = true) (k_ti : PySem.W.keepIn K (.ref f_ti) = true)
    (a_aa : PySem.W.nsIn K mainGlobals "arc_at" = some (some (.ref f_aa))) (l_aa : K.lookup f_aa = some ⟨oc_aa, od_aa, .func (PySem.W.fnOf "arc_at" "arc_at" (defArgs sArc) (defBody sArc) (defScope sArc) .none kV_aa dc_aa pm_aa an_aa cd_aa ct_aa), sl_aa⟩) (c_aa : PySem.W.codeIn K cd_aa "arc_at" = true) (k_aa : PySem.W.keepIn K (.ref f_aa) = true)
    (a_rf : PySem.W.nsIn K mainGlobals "road_from" = some (some (.ref f_rf))) (l_rf : K.lookup f_rf = some ⟨oc_rf, od_rf, .func (PySem.W.fnOf "road_from" "road_from" (defArgs sRoadFrom) (defBody sRoadFrom) (defScope sRoadFrom) .none kV_rf dc_rf pm_rf an_rf cd_rf ct_rf), sl_rf⟩) (c_rf : PySem.W.codeIn K cd_rf "road_from" = true) (k_rf : PySem.W.keepIn K (.ref f_rf) = true)
    (a_rs : PySem.W.nsIn K mainGlobals "roads" = some (some (.ref f_rs))) (l_rs : K.lookup f_rs = some ⟨oc_rs, od_rs, .func (PySem.W.fnOf "roads" "roads" (defArgs sRoads) (defBody sRoads) (defScope sRoads) .none kV_rs dc_rs pm_rs an_rs cd_rs ct_rs), sl_rs⟩) (c_rs : PySem.W.codeIn K cd_rs "roads" = true) (k_rs : PySem.W.keepIn K (.ref f_rs) = true)
    (a_hs : PySem.W.nsIn K mainGlobals "how_strung" = some (some (.ref f_hs))) (l_hs : K.lookup f_hs = some ⟨oc_hs, od_hs, .func (PySem.W.fnOf "how_strung" "how_strung" (defArgs sStrung) (defBody sStrung) (defScope sStrung) .none kV_hs dc_hs pm_hs an_hs cd_hs ct_hs), sl_hs⟩) (c_hs : PySem.W.codeIn K cd_hs "how_strung" = true) (k_hs : PySem.W.keepIn K (.ref f_hs) = true)
    (a_sg : PySem.W.nsIn K mainGlobals "signed" = some (some (.ref f_sg))) (l_sg : K.lookup f_sg = some ⟨oc_sg, od_sg, .func (PySem.W.fnOf "signed" "signed" (defArgs sSigned) (defBody sSigned) (defScope sSigned) .none kV_sg dc_sg pm_sg an_sg cd_sg ct_sg), sl_sg⟩) (c_sg : PySem.W.codeIn K cd_sg "signed" = true) (k_sg : PySem.W.keepIn K (.ref f_sg) = true)
    (a_tu : PySem.W.nsIn K mainGlobals "turns" = some (some (.ref f_tu))) (l_tu : K.lookup f_tu = some ⟨oc_tu, od_tu, .func (PySem.W.fnOf "turns" "turns" (defArgs sTurns) (defBody sTurns) (defScope sTurns) .none kV_tu dc_tu pm_tu an_tu cd_tu ct_tu), sl_tu⟩) (c_tu : PySem.W.codeIn K cd_tu "turns" = true) (k_tu : PySem.W.keepIn K (.ref f_tu) = true)
    (a_lk : PySem.W.nsIn K mainGlobals "links" = some (some (.ref f_lk))) (l_lk : K.lookup f_lk = some ⟨oc_lk, od_lk, .func (PySem.W.fnOf "links" "links" (defArgs sLinks) (defBody sLinks) (defScope sLinks) .none kV_lk dc_lk pm_lk an_lk cd_lk ct_lk), sl_lk⟩) (c_lk : PySem.W.codeIn K cd_lk "links" = true) (k_lk : PySem.W.keepIn K (.ref f_lk) = true)
    (a_ca : PySem.W.nsIn K mainGlobals "_law_cell_at" = some (some (.ref f_ca))) (l_ca : K.lookup f_ca = some ⟨oc_ca, od_ca, .func (PySem.W.fnOf "_law_cell_at" "_law_cell_at" (defArgs sCellAt) (defBody sCellAt) (defScope sCellAt) .none kV_ca dc_ca pm_ca an_ca cd_ca ct_ca), sl_ca⟩) (c_ca : PySem.W.codeIn K cd_ca "_law_cell_at" = true) (k_ca : PySem.W.keepIn K (.ref f_ca) = true)
    (a_ts : PySem.W.nsIn K mainGlobals "_law_twists" = some (some (.ref f_ts))) (l_ts : K.lookup f_ts = some ⟨oc_ts, od_ts, .func (PySem.W.fnOf "_law_twists" "_law_twists" (defArgs sTwists) (defBody sTwists) (defScope sTwists) .none kV_ts dc_ts pm_ts an_ts cd_ts ct_ts), sl_ts⟩) (c_ts : PySem.W.codeIn K cd_ts "_law_twists" = true) (k_ts : PySem.W.keepIn K (.ref f_ts) = true)
    (a_ch : PySem.W.nsIn K mainGlobals "_law_changed" = some (some (.ref f_ch))) (l_ch : K.lookup f_ch = some ⟨oc_ch, od_ch, .func (PySem.W.fnOf "_law_changed" "_law_changed" (defArgs sChanged) (defBody sChanged) (defScope sChanged) .none kV_ch dc_ch pm_ch an_ch cd_ch ct_ch), sl_ch⟩) (c_ch : PySem.W.codeIn K cd_ch "_law_changed" = true) (k_ch : PySem.W.keepIn K (.ref f_ch) = true)
    (a_ow : PySem.W.nsIn K mainGlobals "_law_own" = some (some (.ref f_ow))) (l_ow : K.lookup f_ow = some ⟨oc_ow, od_ow, .func (PySem.W.fnOf "_law_own" "_law_own" (defArgs sOwn) (defBody sOwn) (defScope sOwn) .none kV_ow dc_ow pm_ow an_ow cd_ow ct_ow), sl_ow⟩) (c_ow : PySem.W.codeIn K cd_ow "_law_own" = true) (k_ow : PySem.W.keepIn K (.ref f_ow) = true)
    (a_ak : PySem.W.nsIn K mainGlobals "_law_alike" = some (some (.ref f_ak))) (l_ak : K.lookup f_ak = some ⟨oc_ak, od_ak, .func (PySem.W.fnOf "_law_alike" "_law_alike" (defArgs sAlike) (defBody sAlike) (defScope sAlike) .none kV_ak dc_ak pm_ak an_ak cd_ak ct_ak), sl_ak⟩) (c_ak : PySem.W.codeIn K cd_ak "_law_alike" = true) (k_ak : PySem.W.keepIn K (.ref f_ak) = true)
    (a_lw : PySem.W.nsIn K mainGlobals "law" = some (some (.ref f_lw))) (l_lw : K.lookup f_lw = some ⟨oc_lw, od_lw, .func (PySem.W.fnOf "law" "law" (defArgs sLaw) (defBody sLaw) (defScope sLaw) .none kV_lw dc_lw pm_lw an_lw cd_lw ct_lw), sl_lw⟩) (c_lw : PySem.W.codeIn K cd_lw "law" = true) (k_lw : PySem.W.keepIn K (.ref f_lw) = true)
    (z_enumerate : PySem.W.nsIn K mainGlobals "enumerate" = some none)
    (z_tuple : PySem.W.nsIn K mainGlobals "tuple" = some none)
    (z_list : PySem.W.nsIn K mainGlobals "list" = some none)
    (z_len : PySem.W.nsIn K mainGlobals "len" = some none)
    (z_max : PySem.W.nsIn K mainGlobals "max" = some none)
    (z_min : PySem.W.nsIn K mainGlobals "min" = some none)
    (z_sorted : PySem.W.nsIn K mainGlobals "sorted" = some none)
    (z_set : PySem.W.nsIn K mainGlobals "set" = some none)
    (z_sum : PySem.W.nsIn K mainGlobals "sum" = some none)
    (z_abs : PySem.W.nsIn K mainGlobals "abs" = some none)
    (z_range : PySem.W.nsIn K mainGlobals "range" = some none)
    (z_zip : PySem.W.nsIn K mainGlobals "zip" = some none)
    (z_RIM : PySem.W.nsIn K mainGlobals "RIM" = some (some (.int (-1) rimt)))
    (z_CL : PySem.W.nsIn K mainGlobals "Level" = some (some (.ref CL)))
    (pg_CL : PySem.W.plainGet K CL Str.empty = true) (hd_CL : PySem.W.hasDictIn K CL = true) (po_CL : PySem.W.plainOver K CL = true) (sa_CL : PySem.W.findIn K (.ref CL) "__setattr__" = some (some (.builtin "object.__setattr__"))) (n1_CL : PySem.W.findIn K (.ref CL) "one" = some none) (n2_CL : PySem.W.findIn K (.ref CL) "other" = some none) (mk_CL : PySem.W.makesIn K CL = true) (kc_CL : PySem.W.keepIn K (.ref CL) = true) (in_CL : PySem.W.findIn K (.ref CL) "__init__" = some (some (.ref fI)))
    (z_CS : PySem.W.nsIn K mainGlobals "Single" = some (some (.ref CS)))
    (pg_CS : PySem.W.plainGet K CS Str.empty = true) (hd_CS : PySem.W.hasDictIn K CS = true) (po_CS : PySem.W.plainOver K CS = true) (sa_CS : PySem.W.findIn K (.ref CS) "__setattr__" = some (some (.builtin "object.__setattr__"))) (n1_CS : PySem.W.findIn K (.ref CS) "one" = some none) (n2_CS : PySem.W.findIn K (.ref CS) "other" = some none) (mk_CS : PySem.W.makesIn K CS = true) (kc_CS : PySem.W.keepIn K (.ref CS) = true) (in_CS : PySem.W.findIn K (.ref CS) "__init__" = some (some (.ref fI)))
    (i_fI : PySem.W.isFn K (.ref fI) = true) (l_fI : K.lookup fI = some ⟨oc_fI, od_fI, .func (PySem.W.fnOf "__init__" "Part.__init__" (defArgs sInit) (defBody sInit) (defScope sInit) (.ref T) kV_fI dc_fI pm_fI an_fI cd_fI ct_fI), sl_fI⟩) (c_fI : PySem.W.codeIn K cd_fI "Part.__init__" = true) (k_fI : PySem.W.keepIn K (.ref fI) = true)
    (a_fWL : PySem.W.findIn K (.ref CL) "web" = some (some (.ref fWL)))
    (i_fWL : PySem.W.isFn K (.ref fWL) = true) (l_fWL : K.lookup fWL = some ⟨oc_fWL, od_fWL, .func (PySem.W.fnOf "web" "Part.web" (defArgs sWebP) (defBody sWebP) (defScope sWebP) .none kV_fWL dc_fWL pm_fWL an_fWL cd_fWL ct_fWL), sl_fWL⟩) (c_fWL : PySem.W.codeIn K cd_fWL "Part.web" = true) (k_fWL : PySem.W.keepIn K (.ref fWL) = true)
    (a_fWS : PySem.W.findIn K (.ref CS) "web" = some (some (.ref fWS)))
    (i_fWS : PySem.W.isFn K (.ref fWS) = true) (l_fWS : K.lookup fWS = some ⟨oc_fWS, od_fWS, .func (PySem.W.fnOf "web" "Single.web" (defArgs sWebS) (defBody sWebS) (defScope sWebS) .none kV_fWS dc_fWS pm_fWS an_fWS cd_fWS ct_fWS), sl_fWS⟩) (c_fWS : PySem.W.codeIn K cd_fWS "Single.web" = true) (k_fWS : PySem.W.keepIn K (.ref fWS) = true)
    (l_T : K.lookup T = some ⟨oc_T, od_T, .seq #[.none, .none] nT, sl_T⟩) :
    ∃ fd : FuncData, (∀ (s : Shared) (v : Value), BindsTo s fd ⟨[v], []⟩ [("_law_script", v)]) ∧ ∀ base : Heap, K.In base → base.Ns mainGlobals mg → FnOk P w K mg base CX0 7 fa fd ["_law_script"] (spLaw K) := by
  have e := hfa.symm.trans (PySem.W.mg_of X G a_lw)
  cases e
  have g : Gb mg := ⟨PySem.W.mg_none_of X G z_enumerate, PySem.W.mg_none_of X G z_tuple, PySem.W.mg_none_of X G z_list, PySem.W.mg_none_of X G z_len, PySem.W.mg_none_of X G z_max, PySem.W.mg_none_of X G z_min, PySem.W.mg_none_of X G z_sorted, PySem.W.mg_none_of X G z_set, PySem.W.mg_none_of X G z_sum, PySem.W.mg_none_of X G z_abs, PySem.W.mg_none_of X G z_range, PySem.W.mg_none_of X G z_zip, ⟨rimt, PySem.W.mg_of X G z_RIM⟩⟩
  have F_pl := fn_mk (ps := ["web"]) X G a_pl l_pl c_pl k_pl fun F => F.binds fun _ _ _ _ _ _ us hl => match us, hl with | [_], _ => rfl
  have F_nb := fn_mk (ps := ["web", "names"]) X G a_nb l_nb c_nb k_nb fun F => F.binds fun _ _ _ _ _ _ us hl => match us, hl with | [_, _], _ => rfl
  have F_an := fn_mk (ps := ["web"]) X G a_an l_an c_an k_an fun F => F.binds fun _ _ _ _ _ _ us hl => match us, hl with | [_], _ => rfl
  have F_mi := fn_mk (ps := ["web"]) X G a_mi l_mi c_mi k_mi fun F => F.binds fun _ _ _ _ _ _ us hl => match us, hl with | [_], _ => rfl
  have F_sf := fn_mk (ps := ["web", "many"]) X G a_sf l_sf c_sf k_sf fun F => F.binds fun _ _ _ _ _ _ us hl => match us, hl with | [_, _], _ => rfl
  have F_jo := fn_mk (ps := ["web", "first", "last"]) X G a_jo l_jo c_jo k_jo fun F => F.binds fun _ _ _ _ _ _ us hl => match us, hl with | [_, _, _], _ => rfl
  have F_st := fn_mk (ps := ["web", "place"]) X G a_st l_st c_st k_st fun F => F.binds fun _ _ _ _ _ _ us hl => match us, hl with | [_, _], _ => rfl
  have F_si := fn_mk (ps := ["one", "other"]) X G a_si l_si c_si k_si fun F => F.binds fun _ _ _ _ _ _ us hl => match us, hl with | [_, _], _ => rfl
  have F_gl := fn_mk (ps := ["one", "other", "many"]) X G a_gl l_gl c_gl k_gl fun F => F.binds fun _ _ _ _ _ _ us hl => match us, hl with | [_, _, _], _ => rfl
  have F_be := fn_mk (ps := ["one", "other"]) X G a_be l_be c_be k_be fun F => F.binds fun _ _ _ _ _ _ us hl => match us, hl with | [_, _], _ => rfl
  have F_qu := fn_mk (ps := ["one"]) X G a_qu l_qu c_qu k_qu fun F => F.binds fun _ _ _ _ _ _ us hl => match us, hl with | [_], _ => rfl
  have F_cl := fn_mk (ps := ["one", "way"]) X G a_cl l_cl c_cl k_cl fun F => F.binds fun _ _ _ _ _ _ us hl => match us, hl with | [_, _], _ => rfl
  have F_li := fn_mk (ps := ["one", "many"]) X G a_li l_li c_li k_li fun F => F.binds fun _ _ _ _ _ _ us hl => match us, hl with | [_, _], _ => rfl
  have F_ga := fn_mk (ps := ["terms"]) X G a_ga l_ga c_ga k_ga fun F => F.binds fun _ _ _ _ _ _ us hl => match us, hl with | [_], _ => rfl
  have F_mn := fn_mk (ps := ["one", "other"]) X G a_mn l_mn c_mn k_mn fun F => F.binds fun _ _ _ _ _ _ us hl => match us, hl with | [_, _], _ => rfl
  have F_va := fn_mk (ps := ["twists"]) X G a_va l_va c_va k_va fun F => F.binds fun _ _ _ _ _ _ us hl => match us, hl with | [_], _ => rfl
  have F_tw := fn_mk (ps := ["twists"]) X G a_tw l_tw c_tw k_tw fun F => F.binds fun _ _ _ _ _ _ us hl => match us, hl with | [_], _ => rfl
  have F_ha := fn_mk (ps := ["level", "upright", "way"]) X G a_ha l_ha c_ha k_ha fun F => F.binds fun _ _ _ _ _ _ us hl => match us, hl with | [_, _, _], _ => rfl
  have F_su := fn_mk (ps := ["twists"]) X G a_su l_su c_su k_su fun F => F.binds fun _ _ _ _ _ _ us hl => match us, hl with | [_], _ => rfl
  have F_gr := fn_mk (ps := ["web"]) X G a_gr l_gr c_gr k_gr fun F => F.binds fun _ _ _ _ _ _ us hl => match us, hl with | [_], _ => rfl
  have F_wa := fn_mk (ps := ["web", "m"]) X G a_wa l_wa c_wa k_wa fun F => F.binds fun _ _ _ _ _ _ us hl => match us, hl with | [_, _], _ => rfl
  have F_le := fn_mk (ps := ["rows"]) X G a_le l_le c_le k_le fun F => F.binds fun _ _ _ _ _ _ us hl => match us, hl with | [_], _ => rfl
  have F_ce := fn_mk (ps := ["rows", "at", "column", "m"]) X G a_ce l_ce c_ce k_ce fun F => F.binds fun _ _ _ _ _ _ us hl => match us, hl with | [_, _, _, _], _ => rfl
  have F_dv := fn_mk (ps := ["one", "other"]) X G a_dv l_dv c_dv k_dv fun F => F.binds fun _ _ _ _ _ _ us hl => match us, hl with | [_, _], _ => rfl
  have F_of := fn_mk (ps := ["m", "many"]) X G a_of l_of c_of k_of fun F => F.binds fun _ _ _ _ _ _ us hl => match us, hl with | [_, _], _ => rfl
  have F_co := fn_mk (ps := ["web", "m"]) X G a_co l_co c_co k_co fun F => F.binds fun _ _ _ _ _ _ us hl => match us, hl with | [_, _], _ => rfl
  have F_ti := fn_mk (ps := ["web"]) X G a_ti l_ti c_ti k_ti fun F => F.binds fun _ _ _ _ _ _ us hl => match us, hl with | [_], _ => rfl
  have F_aa := fn_mk (ps := ["web", "spot"]) X G a_aa l_aa c_aa k_aa fun F => F.binds fun _ _ _ _ _ _ us hl => match us, hl with | [_, _], _ => rfl
  have F_rf := fn_mk (ps := ["across", "begin"]) X G a_rf l_rf c_rf k_rf fun F => F.binds fun _ _ _ _ _ _ us hl => match us, hl with | [_, _], _ => rfl
  have F_rs := fn_mk (ps := ["web"]) X G a_rs l_rs c_rs k_rs fun F => F.binds fun _ _ _ _ _ _ us hl => match us, hl with | [_], _ => rfl
  have F_hs := fn_mk (ps := ["web"]) X G a_hs l_hs c_hs k_hs fun F => F.binds fun _ _ _ _ _ _ us hl => match us, hl with | [_], _ => rfl
  have F_sg := fn_mk (ps := ["web"]) X G a_sg l_sg c_sg k_sg fun F => F.binds fun _ _ _ _ _ _ us hl => match us, hl with | [_], _ => rfl
  have F_tu := fn_mk (ps := ["web"]) X G a_tu l_tu c_tu k_tu fun F => F.binds fun _ _ _ _ _ _ us hl => match us, hl with | [_], _ => rfl
  have F_lk := fn_mk (ps := ["web"]) X G a_lk l_lk c_lk k_lk fun F => F.binds fun _ _ _ _ _ _ us hl => match us, hl with | [_], _ => rfl
  have F_ca := fn_mk (ps := ["_law_script", "_law_k"]) X G a_ca l_ca c_ca k_ca fun F => F.binds fun _ _ _ _ _ _ us hl => match us, hl with | [_, _], _ => rfl
  have F_ts := fn_mk (ps := ["_law_cells", "_law_most"]) X G a_ts l_ts c_ts k_ts fun F => F.binds fun _ _ _ _ _ _ us hl => match us, hl with | [_, _], _ => rfl
  have F_ch := fn_mk (ps := ["_law_twists_here", "_law_cell"]) X G a_ch l_ch c_ch k_ch fun F => F.binds fun _ _ _ _ _ _ us hl => match us, hl with | [_, _], _ => rfl
  have F_ow := fn_mk (ps := ["_law_twists_here"]) X G a_ow l_ow c_ow k_ow fun F => F.binds fun _ _ _ _ _ _ us hl => match us, hl with | [_], _ => rfl
  have F_ak := fn_mk (ps := ["_law_one", "_law_other", "_law_m"]) X G a_ak l_ak c_ak k_ak fun F => F.binds fun _ _ _ _ _ _ us hl => match us, hl with | [_, _, _], _ => rfl
  have FI : FunD K "__init__" "Part.__init__" (defArgs sInit) (defBody sInit) (defScope sInit) [.non, .non] [] fI _ := ⟨⟨oc_fI, od_fI, .ref T, kV_fI, dc_fI, pm_fI, an_fI, cd_fI, ct_fI, sl_fI, rfl, l_fI, c_fI, .inr ⟨by simp, T, _, [.none, .none], nT, rfl, l_T, rfl, .cons rfl (.cons rfl .nil)⟩, .inl rfl⟩, k_fI⟩
  have FWL := fun_mk (st := sWebP) l_fWL c_fWL k_fWL
  have FWS := fun_mk (st := sWebS) l_fWS c_fWS k_fWS
  have bI := FunD.binds1 (ps := ["self", "one", "other"]) FI 1 0 (by simp) rfl fun _ _ _ _ _ _ _ us its hl hi => match us, hl, its, hi with | [_], _, [_, _], _ => ⟨_, rfl, rfl⟩
  have bL := FWL.binds (ps := ["self"]) fun _ _ _ _ _ _ us hl => match us, hl with | [_], _ => rfl
  have bS := FWS.binds (ps := ["self"]) fun _ _ _ _ _ _ us hl => match us, hl with | [_], _ => rfl
  have C : Cd K mg CL CS := ⟨PySem.W.mg_of X G z_CL, PySem.W.mg_of X G z_CS, ⟨pg_CL, hd_CL, po_CL, sa_CL⟩, ⟨pg_CS, hd_CS, po_CS, sa_CS⟩, n1_CL, n2_CL, n1_CS, n2_CS⟩
  have FL := fun_mk (st := sLaw) l_lw c_lw k_lw
  have bLw := FL.binds (ps := ["_law_script"]) fun _ _ _ _ _ _ us hl => match us, hl with | [_], _ => rfl
  refine ⟨PySem.W.fnOf "law" "law" (defArgs sLaw) (defBody sLaw) (defScope sLaw) .none kV_lw dc_lw pm_lw an_lw cd_lw ct_lw, fun s v => .of_eq rfl, fun base _ _ => ?_⟩
  have O_pl := ok_places (P := P) (w := w) (base := base) F_pl g 
  have O_nb := ok_named_by (P := P) (w := w) (base := base) F_nb g 
  have O_an := ok_anew (P := P) (w := w) (base := base) F_an g O_pl O_nb
  have O_mi := ok_mirrored (P := P) (w := w) (base := base) F_mi g 
  have O_sf := ok_shifted (P := P) (w := w) (base := base) F_sf g 
  have O_jo := ok_joined (P := P) (w := w) (base := base) F_jo g O_pl O_nb
  have O_st := ok_shut (P := P) (w := w) (base := base) F_st g O_jo O_an
  have O_si := ok_side (P := P) (w := w) (base := base) F_si g O_pl O_nb
  have O_gl := ok_glued (P := P) (w := w) (base := base) F_gl g O_si O_jo O_an
  have O_be := ok_beside (P := P) (w := w) (base := base) F_be g O_gl
  have O_qu := ok_quarter (P := P) (w := w) (base := base) F_qu g O_sf O_an
  have O_cl := ok_closed (P := P) (w := w) (base := base) F_cl g O_st
  have O_li := ok_lifted (P := P) (w := w) (base := base) F_li g 
  have O_ga := ok_gathered (P := P) (w := w) (base := base) F_ga g 
  have O_mn := ok_minus (P := P) (w := w) (base := base) F_mn g O_ga
  have O_va := ok_value (P := P) (w := w) (base := base) F_va g 
  have O_tw := ok_twisted (P := P) (w := w) (base := base) F_tw g C ⟨mk_CL, in_CL, i_fI, kc_CL⟩ ⟨mk_CS, in_CS, i_fI, kc_CS⟩ (ok_init FI) bI (ok_webP FWL) bL ⟨a_fWL, i_fWL, k_fWL⟩ (ok_webS FWS) bS ⟨a_fWS, i_fWS, k_fWS⟩ O_mi O_qu O_be
  have O_ha := ok_half (P := P) (w := w) (base := base) F_ha g O_li O_mn
  have O_su := ok_sums (P := P) (w := w) (base := base) F_su g O_ha
  have O_gr := ok_groups (P := P) (w := w) (base := base) F_gr g O_pl
  have O_wa := ok_wants (P := P) (W0 := w) (base := base) F_wa g O_gr
  have O_le := ok_least (P := P) (W0 := w) (base := base) F_le g 
  have O_ce := ok_cleared (P := P) (W0 := w) (base := base) F_ce g 
  have O_dv := ok_divisor (P := P) (W0 := w) (base := base) F_dv g 
  have O_of := ok_often (P := P) (W0 := w) (base := base) F_of g 
  have O_co := ok_colours (P := P) (W0 := w) (base := base) F_co g O_wa O_of O_le O_ce O_dv
  have O_ti := ok_twins (P := P) (w := w) (base := base) F_ti g O_pl
  have O_aa := ok_arc (P := P) (w := w) (base := base) F_aa g 
  have O_rf := ok_road (P := P) (w := w) (base := base) F_rf g 
  have O_rs := ok_roads (P := P) (w := w) (base := base) F_rs g O_ti O_aa O_rf
  have O_hs := ok_strung (P := P) (w := w) (base := base) F_hs g O_ti O_rs
  have O_sg := ok_signed (P := P) (w := w) (base := base) F_sg g O_rs
  have O_tu := ok_turns (P := P) (w := w) (base := base) F_tu g O_sg
  have O_lk := ok_links (P := P) (w := w) (base := base) F_lk g O_sg
  have O_ca := ok_cellAt (P := P) (W0 := w) (base := base) F_ca g 
  have O_ts := ok_twists (P := P) (W0 := w) (base := base) F_ts g 
  have O_ch := ok_changed (P := P) (W0 := w) (base := base) F_ch g 
  have O_ow := ok_own (P := P) (W0 := w) (base := base) F_ow g O_tw O_tu O_su
  have O_ak := ok_alike (P := P) (W0 := w) (base := base) F_ak g O_hs O_lk O_co
  exact ok_law (P := P) (W0 := w) (base := base) FL g O_ts O_ca O_ch O_va O_ow O_tw O_ak O_cl
end TH
end

section
set_option Elab.async false
set_option linter.all false
set_option maxRecDepth 100000
namespace TH
open PySem PySem.Spec PyProof.Rows L2
theorem walk {l : PySem.W.OpenLaw} {q : Program} {loose : List Str} {XP : (Str → Option Value) → Heap → Prop} {YP : World → Heap → Prop} {d : DefRec} {K : Params → PySem.W.Frag} (hn : l.most = some 63) (hdf : d.params.defaults = [])
    (hY : ∀ (w : World) (h : Heap), YP w h → (K w.params).In h)
    (F : ∀ (w : World) (mg : Str → Option Value) (fa : Addr) (h : Heap), (K w.params).In h → h.Ns mainGlobals mg → mg d.name = some (.ref fa) →
      ∃ fd : FuncData, (∀ (s : Shared) (u : Value), BindsTo s fd ⟨[u], []⟩ [("_law_script", u)]) ∧ ∀ base : Heap, (K w.params).In base → base.Ns mainGlobals mg → FnOk l.prog w (K w.params) mg base CX0 7 fa fd ["_law_script"] (spLaw (K w.params))) :
    PySem.W.WalkO q loose XP YP l.row.toRowW d [] (fun f vs => PySem.call f vs) :=
  L2.walk_of (n := 63) (k := 7) (x := "_law_script") (CX := fun _ => CX0) (sp := fun w => spLaw (K w.params)) hn (by decide) hdf ⟨rfl, by decide, by decide⟩ hY F (fun _ _ a ns hl _ hS => ⟨a, ns, rfl, hS, hl, law_fact ns, fun _ _ => rfl⟩) fun _ _ _ _ _ z => z
end TH
end

section
set_option Elab.async false
set_option maxRecDepth 100000
open PySem PySem.W PyProof.Rows
set_option maxRecDepth 100000 in
set_option maxHeartbeats 0 in
theorem PySem.Challenge.cw_tanglehouse_k97_whole_one_value_one_tang_holds : PySem.Challenge.rw_tanglehouse_k97_whole_one_value_one_tang.Holds := by
  w_on; o_law; k_head; (case hw => w_witness2)
  k_fill
  refine TH.walk (l := PySem.Challenge.rw_tanglehouse_k97_whole_one_value_one_tang) rfl rfl (fun w h Y => PySem.W.kIn_of Y) ?F
  case F =>
    intro w mg fa h KX G hmg
    refine' TH.all_mk KX G hmg ?a_pl ?l_pl ?c_pl ?k_pl ?a_nb ?l_nb ?c_nb ?k_nb ?a_an ?l_an ?c_an ?k_an ?a_mi ?l_mi ?c_mi ?k_mi ?a_sf ?l_sf ?c_sf ?k_sf ?a_jo ?l_jo ?c_jo ?k_jo ?a_st ?l_st ?c_st ?k_st ?a_si ?l_si ?c_si ?k_si ?a_gl ?l_gl ?c_gl ?k_gl ?a_be ?l_be ?c_be ?k_be ?a_qu ?l_qu ?c_qu ?k_qu ?a_cl ?l_cl ?c_cl ?k_cl ?a_li ?l_li ?c_li ?k_li ?a_ga ?l_ga ?c_ga ?k_ga ?a_mn ?l_mn ?c_mn ?k_mn ?a_va ?l_va ?c_va ?k_va ?a_tw ?l_tw ?c_tw ?k_tw ?a_ha ?l_ha ?c_ha ?k_ha ?a_su ?l_su ?c_su ?k_su ?a_gr ?l_gr ?c_gr ?k_gr ?a_wa ?l_wa ?c_wa ?k_wa ?a_le ?l_le ?c_le ?k_le ?a_ce ?l_ce ?c_ce ?k_ce ?a_dv ?l_dv ?c_dv ?k_dv ?a_of ?l_of ?c_of ?k_of ?a_co ?l_co ?c_co ?k_co ?a_ti ?l_ti ?c_ti ?k_ti ?a_aa ?l_aa ?c_aa ?k_aa ?a_rf ?l_rf ?c_rf ?k_rf ?a_rs ?l_rs ?c_rs ?k_rs ?a_hs ?l_hs ?c_hs ?k_hs ?a_sg ?l_sg ?c_sg ?k_sg ?a_tu ?l_tu ?c_tu ?k_tu ?a_lk ?l_lk ?c_lk ?k_lk ?a_ca ?l_ca ?c_ca ?k_ca ?a_ts ?l_ts ?c_ts ?k_ts ?a_ch ?l_ch ?c_ch ?k_ch ?a_ow ?l_ow ?c_ow ?k_ow ?a_ak ?l_ak ?c_ak ?k_ak ?a_lw ?l_lw ?c_lw ?k_lw ?z_enumerate ?z_tuple ?z_list ?z_len ?z_max ?z_min ?z_sorted ?z_set ?z_sum ?z_abs ?z_range ?z_zip ?z_RIM ?z_CL ?pg_CL ?hd_CL ?po_CL ?sa_CL ?n1_CL ?n2_CL ?mk_CL ?kc_CL ?in_CL ?z_CS ?pg_CS ?hd_CS ?po_CS ?sa_CS ?n1_CS ?n2_CS ?mk_CS ?kc_CS ?in_CS ?i_fI ?l_fI ?c_fI ?k_fI ?a_fWL ?i_fWL ?l_fWL ?c_fWL ?k_fWL ?a_fWS ?i_fWS ?l_fWS ?c_fWS ?k_fWS ?l_T
    (case a_pl => k_is); (case l_pl => k_is); (case c_pl => k_is); (case k_pl => k_is); (case a_nb => k_is); (case l_nb => k_is); (case c_nb => k_is); (case k_nb => k_is)
    (case a_an => k_is); (case l_an => k_is); (case c_an => k_is); (case k_an => k_is); (case a_mi => k_is); (case l_mi => k_is); (case c_mi => k_is); (case k_mi => k_is)
    (case a_sf => k_is); (case l_sf => k_is); (case c_sf => k_is); (case k_sf => k_is); (case a_jo => k_is); (case l_jo => k_is); (case c_jo => k_is); (case k_jo => k_is)
    (case a_st => k_is); (case l_st => k_is); (case c_st => k_is); (case k_st => k_is); (case a_si => k_is); (case l_si => k_is); (case c_si => k_is); (case k_si => k_is)
    (case a_gl => k_is); (case l_gl => k_is); (case c_gl => k_is); (case k_gl => k_is); (case a_be => k_is); (case l_be => k_is); (case c_be => k_is); (case k_be => k_is)
    (case a_qu => k_is); (case l_qu => k_is); (case c_qu => k_is); (case k_qu => k_is); (case a_cl => k_is); (case l_cl => k_is); (case c_cl => k_is); (case k_cl => k_is)
    (case a_li => k_is); (case l_li => k_is); (case c_li => k_is); (case k_li => k_is); (case a_ga => k_is); (case l_ga => k_is); (case c_ga => k_is); (case k_ga => k_is)
    (case a_mn => k_is); (case l_mn => k_is); (case c_mn => k_is); (case k_mn => k_is); (case a_va => k_is); (case l_va => k_is); (case c_va => k_is); (case k_va => k_is)
    (case a_tw => k_is); (case l_tw => k_is); (case c_tw => k_is); (case k_tw => k_is); (case a_ha => k_is); (case l_ha => k_is); (case c_ha => k_is); (case k_ha => k_is)
    (case a_su => k_is); (case l_su => k_is); (case c_su => k_is); (case k_su => k_is); (case a_gr => k_is); (case l_gr => k_is); (case c_gr => k_is); (case k_gr => k_is)
    (case a_wa => k_is); (case l_wa => k_is); (case c_wa => k_is); (case k_wa => k_is); (case a_le => k_is); (case l_le => k_is); (case c_le => k_is); (case k_le => k_is)
    (case a_ce => k_is); (case l_ce => k_is); (case c_ce => k_is); (case k_ce => k_is); (case a_dv => k_is); (case l_dv => k_is); (case c_dv => k_is); (case k_dv => k_is)
    (case a_of => k_is); (case l_of => k_is); (case c_of => k_is); (case k_of => k_is); (case a_co => k_is); (case l_co => k_is); (case c_co => k_is); (case k_co => k_is)
    (case a_ti => k_is); (case l_ti => k_is); (case c_ti => k_is); (case k_ti => k_is); (case a_aa => k_is); (case l_aa => k_is); (case c_aa => k_is); (case k_aa => k_is)
    (case a_rf => k_is); (case l_rf => k_is); (case c_rf => k_is); (case k_rf => k_is); (case a_rs => k_is); (case l_rs => k_is); (case c_rs => k_is); (case k_rs => k_is)
    (case a_hs => k_is); (case l_hs => k_is); (case c_hs => k_is); (case k_hs => k_is); (case a_sg => k_is); (case l_sg => k_is); (case c_sg => k_is); (case k_sg => k_is)
    (case a_tu => k_is); (case l_tu => k_is); (case c_tu => k_is); (case k_tu => k_is); (case a_lk => k_is); (case l_lk => k_is); (case c_lk => k_is); (case k_lk => k_is)
    (case a_ca => k_is); (case l_ca => k_is); (case c_ca => k_is); (case k_ca => k_is); (case a_ts => k_is); (case l_ts => k_is); (case c_ts => k_is); (case k_ts => k_is)
    (case a_ch => k_is); (case l_ch => k_is); (case c_ch => k_is); (case k_ch => k_is); (case a_ow => k_is); (case l_ow => k_is); (case c_ow => k_is); (case k_ow => k_is)
    (case a_ak => k_is); (case l_ak => k_is); (case c_ak => k_is); (case k_ak => k_is); (case a_lw => k_is); (case l_lw => k_is); (case c_lw => k_is); (case k_lw => k_is)
    (case z_enumerate => k_is); (case z_tuple => k_is); (case z_list => k_is); (case z_len => k_is); (case z_max => k_is); (case z_min => k_is); (case z_sorted => k_is); (case z_set => k_is)
    (case z_sum => k_is); (case z_abs => k_is); (case z_range => k_is); (case z_zip => k_is); (case z_RIM => k_is); (case z_CL => k_is); (case pg_CL => k_is); (case hd_CL => k_is)
    (case po_CL => k_is); (case sa_CL => k_is); (case n1_CL => k_is); (case n2_CL => k_is); (case mk_CL => k_is); (case kc_CL => k_is); (case in_CL => k_is); (case z_CS => k_is)
    (case pg_CS => k_is); (case hd_CS => k_is); (case po_CS => k_is); (case sa_CS => k_is); (case n1_CS => k_is); (case n2_CS => k_is); (case mk_CS => k_is); (case kc_CS => k_is)
    (case in_CS => k_is); (case i_fI => k_is); (case l_fI => k_is); (case c_fI => k_is); (case k_fI => k_is); (case a_fWL => k_is); (case i_fWL => k_is); (case l_fWL => k_is)
    (case c_fWL => k_is); (case k_fWL => k_is); (case a_fWS => k_is); (case i_fWS => k_is); (case l_fWS => k_is); (case c_fWS => k_is); (case k_fWS => k_is); (case l_T => k_is)
end
