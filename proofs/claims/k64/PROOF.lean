import PyProof.Rows.All
import Wide.All
import OpenK.AllK
import Wide.FinOn
import HandS.Walk
import HandS.Iter
import KE.GoesEnum
import KE.KDictWalk
import HandS.GenOver
import PyProof.GenQ
import HandS.GenCall
import HandS.GenList
import HandS.Exc
import HandS.Defaults
import HandS.ForMost
import HandS.Evl
import HandS.Deep
import HandS.WordsExc
import PySem.Challenge.RW_copytoll_k64_faults_in_order
import HandS.TupLe
import HandS.Strs
import HandS.Zip
import HandS.Star
import HandS.MethStar
import HandS.TryOnly
import HandS.More
import KE.GoesZip
import OpenK.KMeth
import KE.KUnpackStar
import HandS.ExcInit
import HandS.DictComp
import KE.KDictList
import OpenK.KOps
import HandS.Wide
import KE.KExcIs
import KE.KTryMore
import HandS.TryMany
import HandS.ExcField
import HandS.HotCalls
import HandS.Lambda
import HandS.Style
import HandS.EndTab
import HandS.HeadHook4
import HandS.Head0
import HandS.Head1
import HandS.Head2
import KE.KStateDown
import HandS.HeadEnd
import HandS.HeadWalk
import HandS.HeadHook1
import HandS.HeadHook2
import HandS.HeadHook3
set_option Elab.async false
set_option linter.all false
set_option maxRecDepth 100000
set_option maxHeartbeats 0
/-! enumerate over a tuple, over the keys of a dict. -/
namespace GN
open PySem PySem.Spec PyProof.Rows L2
open Sem (wp)
section
variable {prog : Program} {w : World} {A : Around} {E : Value → Shared → Prop} {s : Shared}
theorem nx_key {it d : Addr} {i ep : Nat} {es : Array DictEntry} {Q : Value → Shared → Prop} (hit : s.heap.IsKeyIter it d i es.size ep) (hm : s.heap.DictRaw d es ep) (hi : i < es.size)
    (hQ : ∀ h', h'.IsKeyIter it d (i + 1) es.size ep → Heap.SameBut it s.heap h' → Q es[i].key { s with heap := h' }) : wpAny (model prog w) A (Builtin.SmallTypes.nextOf (.ref it)) Q E s := by
  obtain ⟨o, ho, hc, hd⟩ := id hit
  obtain ⟨od, hod, hcd, hdd⟩ := id hm
  unfold Builtin.SmallTypes.nextOf
  refine wpAny_bind (wpAny_callSpecial?_slot (name := Str.ofString "__next__") hit.typeIs F.slot_dict_keyiterator_next (wpAny_call_entry F.slot_dict_keyiterator_next hit.typeIs F.entry_dict_keyiterator_next ?_ (F.args_dict_keyiterator_next_1 _)))
  refine wpAny_bind (wpAny_pure (wpAny_bind (wpAny_bind ?_)))
  first | refine wpAny_bind (wpAny_typeNameOfWhole_keyiter hit.typeIs (wpAny_pure (wpAny_bind (wpAny_fieldsOf ho hd ?_)))) | refine wpAny_bind (wpAny_typeNameOf_keyiter hit.typeIs (wpAny_pure (wpAny_bind (wpAny_fieldsOf ho hd ?_))))
  have own0 : Builtin.Dict_items.ownsTuple "dict_keyiterator" = false := by decide
  simp only [own0, Bool.false_eq_true, if_false]
  show wpAny _ _ (if (Value.ref d == Value.none) = true then _ else _) _ E s
  rw [if_neg (show ¬ (Value.ref d == Value.none) = true from Bool.false_ne_true)]
  refine wpAny_bind (wpAny_pure (wpAny_bind (wpAny_dictEntries hod hdd ?_)))
  rw [if_neg (by simp)]
  refine wpAny_bind (wpAny_pure (wpAny_bind (wpAny_dictEpoch hod hdd ?_)))
  rw [if_neg (by simp)]
  refine wpAny_pure ?_
  simp only [show ¬ ((i : Int) < 0) by omega, if_false, Int.toNat_natCast, Array.getElem?_eq_getElem hi]
  refine wpAny_bind ?_
  first | refine wpAny_bind (wpAny_typeNameOfWhole_keyiter hit.typeIs (wpAny_pure (wpAny_bind (wpAny_isOneOf_keyiter hit.typeIs ?_)))) | refine wpAny_bind (wpAny_typeNameOf_keyiter hit.typeIs (wpAny_pure (wpAny_bind (wpAny_isOneOf_keyiter hit.typeIs ?_))))
  show wpAny _ _ (setField (.ref it) 1 (rawInt ((i : Int) + 1)) >>= _) _ E s
  refine wpAny_bind (wpAny_setField ho hd (by simp) ?_)
  have h2 : (s.heap.update it (Obj.mapFields (·.setIfInBounds 1 (rawInt ((i : Int) + 1))))).IsKeyIter it d (i + 1) es.size ep :=
    ⟨_, Heap.get?_update_self _ ho (Obj.isFreed_of_fields (Obj.data_mapFields hd _)), by rw [Obj.cls_mapFields]; exact hc, by rw [Obj.data_mapFields hd]; simp [rawInt]⟩
  refine wpAny_bind (wpAny_holding (wpAny_bind (wpAny_isOneOf_keyiter (s := { s with heap := s.heap.update it (Obj.mapFields (·.setIfInBounds 1 (rawInt ((i : Int) + 1)))) }) h2.typeIs ?_)))
  exact wpAny_pure (wpAny_pure ⟨_, rfl, wpAny_pure (hQ _ h2 (Heap.SameBut.update ..))⟩)
theorem nx_keyEnd {it d : Addr} {i ep : Nat} {es : Array DictEntry} {Q : Value → Shared → Prop} (hh : A.handled = none) (hit : s.heap.IsKeyIter it d i es.size ep) (hm : s.heap.DictRaw d es ep) (hi : es.size ≤ i)
    (hE : ∀ h' e, Heap.ExtBut it s.heap h' → (∃ o, h'.get? e = some o ∧ o.cls = .type "StopIteration") → E (.ref e) { s with heap := h' }) : wpAny (model prog w) A (Builtin.SmallTypes.nextOf (.ref it)) Q E s := by
  obtain ⟨o, ho, hc, hd⟩ := id hit
  obtain ⟨od, hod, hcd, hdd⟩ := id hm
  unfold Builtin.SmallTypes.nextOf
  refine wpAny_bind (wpAny_callSpecial?_slot (name := Str.ofString "__next__") hit.typeIs F.slot_dict_keyiterator_next (wpAny_call_entry F.slot_dict_keyiterator_next hit.typeIs F.entry_dict_keyiterator_next ?_ (F.args_dict_keyiterator_next_1 _)))
  refine wpAny_bind (wpAny_pure (wpAny_bind (wpAny_bind ?_)))
  first | refine wpAny_bind (wpAny_typeNameOfWhole_keyiter hit.typeIs (wpAny_pure (wpAny_bind (wpAny_fieldsOf ho hd ?_)))) | refine wpAny_bind (wpAny_typeNameOf_keyiter hit.typeIs (wpAny_pure (wpAny_bind (wpAny_fieldsOf ho hd ?_))))
  have own0 : Builtin.Dict_items.ownsTuple "dict_keyiterator" = false := by decide
  simp only [own0, Bool.false_eq_true, if_false]
  show wpAny _ _ (if (Value.ref d == Value.none) = true then _ else _) _ E s
  rw [if_neg (show ¬ (Value.ref d == Value.none) = true from Bool.false_ne_true)]
  refine wpAny_bind (wpAny_pure (wpAny_bind (wpAny_dictEntries hod hdd ?_)))
  rw [if_neg (by simp)]
  refine wpAny_bind (wpAny_pure (wpAny_bind (wpAny_dictEpoch hod hdd ?_)))
  rw [if_neg (by simp)]
  refine wpAny_pure ?_
  simp only [show ¬ ((i : Int) < 0) by omega, if_false, Int.toNat_natCast, Array.getElem?_eq_none hi]
  refine wpAny_bind ?_
  first | refine wpAny_bind (wpAny_typeNameOfWhole_keyiter hit.typeIs (wpAny_pure ?_)) | refine wpAny_bind (wpAny_typeNameOf_keyiter hit.typeIs (wpAny_pure ?_))
  show wpAny _ _ (setField (.ref it) 0 .none >>= _) _ E s
  refine wpAny_bind (wpAny_setField ho hd (by simp) ?_)
  show wpAny _ _ (newExc (.type "StopIteration") [] >>= _) _ E _
  refine wpAny_bind ?_
  simp only [newExc, newTuple]
  refine wpAny_bind (wpAny_newObj_type (wpAny_bind (m := firstArgMember _ _) (wpAny_of_eq (a := Value.none) (by first | rfl | (simp only [firstArgMember]; rfl)) ?_)) (by size_fits))
  refine wpAny_newObj_type (wpAny_bind ?_) (by size_fits)
  simp only [raiseNew]
  refine wpAny_bind (wpAny_handled ?_)
  first | rw [show A.in1.handled = none from hh] | rw [hh]
  refine wpAny_pure (wpAny_throw ?_)
  refine hE _ _ (((Heap.SameBut.update ..).extBut.push _).push _) ?_
  exact ⟨_, Heap.get?_push_size _ rfl, rfl⟩
end
theorem drawsKeys {prog : Program} {w : World} {A : Around} (hh : A.handled = none) (it d : Addr) (hne : d ≠ it) (es : Array DictEntry) (ep : Nat) :
    Draws prog w A it [it, d] es.size (fun i v => ∃ e, es[i]? = some e ∧ v = e.key) (fun i h => h.IsKeyIter it d i es.size ep ∧ h.DictRaw d es ep) where
  live := fun _ _ st => let ⟨o, ho, _⟩ := st.1; ⟨o, ho⟩
  frame := fun _ _ _ st hk => ⟨st.1.at fun o e => hk it (by simp) o e, let ⟨o, a, b⟩ := st.2; ⟨o, hk d (by simp) o a, b⟩⟩
  item := fun i s Q E hi st hQ => nx_key st.1 st.2 hi fun h' hit' hs' => hQ _ h' s.toks ⟨es[i], by simp [hi], rfl⟩ ⟨hit', let ⟨o, a, b⟩ := st.2; ⟨o, (hs'.2 d hne).trans a, b⟩⟩ hs'
  done := fun s Q E st hE => nx_keyEnd hh st.1 st.2 (Nat.le_refl _) hE
theorem begins_keys (d : Addr) (es : Array DictEntry) (ep : Nat) (hd : (d == sysModules) = false) : Begins (.ref d) { cls := .type "dict_keyiterator", data := .fields #[.ref d, .int 0 0, .int es.size 0, .int ep 0] } fun h => h.DictRaw d es ep where
  iter := fun prog w A E s Q hl h => let ⟨o, ho, hc, hdt⟩ := hl; iter_keys hd ho hc hdt h
  keeps := fun h h' x hk => let ⟨o, a, b⟩ := x; ⟨o, hk d o a, b⟩
  free := rfl
set_option maxHeartbeats 1000000 in
theorem meets_enum1 {v : Value} {o : Obj} {G : Heap → Prop} (B : Begins v o G) :
    Meets (Builtin.«enumerate.__new__» ⟨[.type "enumerate", v], []⟩) (fun _ R s => G s.heap ∧ R (.ok (.ret (.ref (s.heap.push o).objs.size))) { s with heap := (s.heap.push o).push { cls := .type "enumerate", data := .fields #[.none, .bool false, .ref s.heap.objs.size, rawInt 0, .none, .none] } }) :=
  .of_wp fun prog w A R s h => by
    obtain ⟨hp, g, d, tk, os⟩ := s
    obtain ⟨h1, h⟩ := h
    have hsub := sub_enumerate
    have q1 : ∀ {B' : Around} {E' : Value → Shared → Prop} {Q : Value → Shared → Prop}, Q (.ref hp.objs.size) ⟨hp.push o, g, d, tk, os⟩ → wpAny (model prog w) B' (pyIter v) Q E' ⟨hp, g, d, tk, os⟩ := fun q => B.iter prog w _ _ ⟨hp, g, d, tk, os⟩ _ h1 q
    wp_walk using q1
    refine wpAny_stack_any fun st => wpAny_pure ?_
    split
    · rename_i c _ _ _ _ _
      cases (c == Value.type "enumerate") <;> (wp_walk using q1; exact ⟨_, rfl, h⟩)
    · wp_walk using q1
      exact ⟨_, rfl, h⟩
section
variable {prog : Program} {w : World} {A : Around} {E : Value → Shared → Prop} {s : Shared}
theorem enum_new {v : Value} {o : Obj} {G : Heap → Prop} {Q : Value → Shared → Prop} (B : Begins v o G) (h1 : G s.heap)
    (h : ∀ h', IsEnum h' (s.heap.objs.size + 1) s.heap.objs.size 0 .none → h'.get? s.heap.objs.size = some o → (∀ b o, s.heap.get? b = some o → h'.get? b = some o) → Q (.ref (s.heap.objs.size + 1)) { s with heap := h' }) :
    wpAny (model prog w) A (call (.type "enumerate") [v]) Q E s := by
  refine callType_new F.called_enumerate (by decide) (F.typeCall_enumerate_1 _) (F.newCall_enumerate_1 _) (fun obj => F.args_object_init_2 obj _) F.entry_enumerate_new (meets_enum1 B) ⟨h1, ?_⟩
  have hz : (s.heap.push o).objs.size = s.heap.objs.size + 1 := Heap.size_push ..
  show _ ∧ _
  rw [hz]
  have he : IsEnum ((s.heap.push o).push { cls := .type "enumerate", data := .fields #[.none, .bool false, .ref s.heap.objs.size, rawInt 0, .none, .none] }) (s.heap.objs.size + 1) s.heap.objs.size 0 .none := by
    have z := Heap.get?_push_size (s.heap.push o) (o := { cls := .type "enumerate", data := .fields #[.none, .bool false, .ref s.heap.objs.size, rawInt 0, .none, .none] }) rfl
    rw [hz] at z
    exact z
  exact ⟨⟨_, he, rfl⟩, h _ he (Heap.get?_push_of_some _ (Heap.get?_push_size _ B.free)) fun b o x => Heap.get?_push_of_some _ (Heap.get?_push_of_some _ x)⟩
end
/-- the state of an enumerate over what D draws -/
def EnSt (St : Nat → Heap → Prop) (e it : Addr) (i : Nat) (h : Heap) : Prop := (∃ old, IsEnum h e it ((i : Nat) : Int) old) ∧ St i h ∧ e ≠ it
section
variable {X : Cx} {pins : List (Addr × Obj)} {σ : L2.St} {H : Hp} {s : Shared} {E : Value → Shared → Prop} {e it : Addr} {fp : List Addr} {n i : Nat} {Pd : Nat → Value → Prop} {Sd : Nat → Heap → Prop} {J : It}
/-- one turn -/
theorem en_item {elts : List Expr} {kk : Nat} {tpos : Pos} (I : Inv X pins σ H s) (hf : ∀ b ∈ [e, it], FpOk X pins H b) (D : Draws X.prog X.w X.A.in1 it fp n Pd Sd) (hef : e ∉ fp) (he : IsEnum s.heap e it ((i : Nat) : Int) (old : Value)) (hst : Sd i s.heap) (hne : e ≠ it) (hi : i < n)
    (hx : ∀ u, Pd i u → ∃ x, RelV x u ∧ ∀ T, H T = none → J.yld i H (.ref T) (upd H T (.tup [.int (i : Nat), x]))) :
    wpAny (model X.prog X.w) X.A (pyNext (.ref e)) (fun r s1 => ∃ u, r = some u ∧ wpAny (model X.prog X.w) X.A (letOwnedTupleGo (.Tuple elts kk tpos) (.ref e) u) (fun _ s2 => ∃ x H', Inv X pins σ H' s2 ∧ RelV x u ∧ J.yld i H x H' ∧ EnSt Sd e it (i + 1) s2.heap ∧ ∀ b ∈ [e, it], H' b = none) E s1) E s := by
  have hel : e < s.heap.objs.size := Heap.lt_size he
  have hil : it < s.heap.objs.size := by
    obtain ⟨_, q⟩ := D.live _ _ hst
    exact Heap.lt_size q
  refine wpAny_pyNext_enum_itemD D he hst hi hne hef fun u h' tk hp ho hst' hT hsz hk => ?_
  obtain ⟨x, ru, hy⟩ := hx u hp
  refine ⟨_, rfl, wpAny_letOwnedTupleGo_enum (s := { s with heap := h', toks := tk + 1 }) ho fun h'' he' sb => ?_⟩
  have hT2 : h''.get? s.heap.objs.size = some { cls := .type "tuple", data := .seq #[.int i tk, u] } := (sb.2 _ (Nat.ne_of_gt hel)).trans hT
  have new : ObjOk X.prog X.w (upd H s.heap.objs.size (.tup [.int (i : Nat), x])) h'' s.heap.objs.size (.tup [.int (i : Nat), x]) :=
    ⟨by show 2 ≤ sizeLine; decide, [.int i tk, u], .cons ⟨_, rfl⟩ (.cons ru .nil), ⟨_, hT2, rfl, _, rfl⟩⟩
  have I1 : Inv X pins σ (upd H s.heap.objs.size (.tup [.int (i : Nat), x])) { s with heap := h'', toks := tk + 1 } :=
    I.turnedNew (ch := [e, it]) (fun b ob hb q => (sb.2 b (fun z => hb (by simp [z]))).trans (hk b ob (fun z => hb (by simp [z])) (fun z => hb (by simp [z])) q)) hf (Nat.le_refl _) new
  refine ⟨.ref s.heap.objs.size, _, I1, rfl, hy _ (I.hok.fresh (Nat.le_refl _)), ⟨⟨u, ?_⟩, D.frame _ _ _ hst' fun b hb ob q => (sb.2 b fun z => hef (z ▸ hb)).trans q, hne⟩, fun b hb => ?_⟩
  · have e1 : ((i + 1 : Nat) : Int) = (i : Int) + 1 := by omega
    rw [e1]
    exact he'
  · have hb' : b < s.heap.objs.size := by
      rcases (by simpa using hb : b = e ∨ b = it) with z | z <;> (rw [z]; assumption)
    rw [upd_ne (Nat.ne_of_lt hb')]
    exact (hf b hb).1
theorem en_done (I : Inv X pins σ H s) (hf : ∀ b ∈ [e, it], FpOk X pins H b) (D : Draws X.prog X.w X.A.in1 it fp n Pd Sd) (he : IsEnum s.heap e it ((i : Nat) : Int) (old : Value)) (hst : Sd n s.heap) :
    wpAny (model X.prog X.w) X.A (pyNext (.ref e)) (fun r s1 => r = none ∧ Inv X pins σ H s1) E s := by
  obtain ⟨f0, f1, f2, f3, f4, f5⟩ := hf it (by simp)
  exact wpAny_pyNext_enum_endD D he hst fun h' eb => ⟨rfl, I.turned (t' := s.toks) (fun b o hb q => eb b o hb q) f0 f1 f3 f4 f5⟩
end
/-- the tuple at a, each item in a new pair; the keys of the locked dict at d, each in a new pair -/
def Itet (K : PySem.W.Frag) (a : Addr) : It :=
  ⟨fun i H => ∃ xs x, SqT K H a xs ∧ xs[i]? = some x, fun i H v H' => ∃ T x, v = .ref T ∧ H T = none ∧ H' = upd H T (.tup [.int (i : Nat), x]) ∧ ∀ xs, SqT K H a xs → xs[i]? = some x, fun i H => ∃ xs, SqT K H a xs ∧ xs.length = i⟩
def Itek (d : Addr) (o : Obj) (kvs : List (L2.Key × V)) : It :=
  ⟨fun i H => H d = some (.frz o (.dK kvs)) ∧ i < kvs.length, fun i H v H' => ∃ T k y, v = .ref T ∧ H T = none ∧ H' = upd H T (.tup [.int (i : Nat), kV k]) ∧ kvs[i]? = some (k, y), fun i H => H d = some (.frz o (.dK kvs)) ∧ kvs.length = i⟩
section
variable {P : Program} {w : World} {K : PySem.W.Frag} {elts : List Expr} {kk : Nat} {tpos : Pos}
theorem en_obj {Sd : Nat → Heap → Prop} {e it : Addr} {i : Nat} {h : Heap} (st : EnSt Sd e it i h) (hs : ∃ o, h.get? it = some o ∧ ∀ v, o.data ≠ .cell v) : ∀ b ∈ [e, it], ∃ o, h.get? b = some o ∧ ∀ v, o.data ≠ .cell v := fun b hb => by
  obtain ⟨⟨old, he⟩, _, _⟩ := st
  rcases (by simpa using hb : b = e ∨ b = it) with z | z
  · rw [z]
    exact ⟨_, he, fun v q => by cases q⟩
  · rw [z]
    exact hs
theorem tup_apart {h : Heap} {a e it : Addr} {i : Nat} {items : Array Value} {c : Int} {old : Value} (p : h.IsTuple a items) (hit : h.IsTupleIter it a i) (he : IsEnum h e it c old) : a ≠ it ∧ a ≠ e := by
  obtain ⟨ot, et, ct, _⟩ := p
  refine ⟨fun z => ?_, fun z => ?_⟩
  · obtain ⟨oi, ei, ci, di⟩ := hit
    rw [z, ei] at et
    cases et
    rw [ci] at ct
    exact absurd (Value.type.inj ct) (by decide)
  · rw [z, show h.get? e = _ from he] at et
    cases et
    exact absurd (Value.type.inj ct) (by decide)
theorem dct_apart {h : Heap} {d e it : Addr} {i n ep : Nat} {o : Obj} {c : Int} {old : Value} (ho : h.get? d = some o) (hx : o.ExactDict) (hit : h.IsKeyIter it d i n ep) (he : IsEnum h e it c old) : d ≠ it ∧ d ≠ e := by
  have ct : o.cls = .type "dict" := hx.1
  refine ⟨fun z => ?_, fun z => ?_⟩
  · obtain ⟨oi, ei, ci, di⟩ := hit
    rw [z, ei] at ho
    cases ho
    rw [ci] at ct
    exact absurd (Value.type.inj ct) (by decide)
  · rw [z, show h.get? e = _ from he] at ho
    cases ho
    exact absurd (Value.type.inj ct) (by decide)
theorem turn_enumT (a e it : Addr) : Turn P w K (.Tuple elts kk tpos) (Itet K a) [e, it] e (EnSt (fun i h => h.IsTupleIter it a i) e it) where
  mem := by simp
  obj := fun i h st => en_obj st (let ⟨o, ho, hc, hd⟩ := st.2.1; ⟨o, ho, fun v q => by rw [hd] at q; cases q⟩)
  keep := fun i h h' st k => let ⟨⟨old, he⟩, hi, hne⟩ := st; ⟨⟨old, k e (by simp) _ he⟩, hi.at fun o q => k it (by simp) o q, hne⟩
  item := by
    intro X hP hw hK hc i pins s σ H E I hf st hg
    subst hP hw hK
    obtain ⟨⟨old, he⟩, hit, hne⟩ := st
    obtain ⟨xs, x, hq, hx⟩ := hg
    obtain ⟨its, rv, p, hz⟩ := I.tuple hq
    obtain ⟨u, hu, ru⟩ := rv.get hx
    obtain ⟨hai, hae⟩ := tup_apart p hit he
    refine thn (en_item (J := Itet X.K a) I hf (Draws.tuple (A := X.A.in1) (I.ok.hd hc) it a hai its.toArray) (fun z => (List.mem_cons.mp z).elim hne fun z => (Ne.symm hae) (List.mem_singleton.mp z)) he ⟨hit, p⟩ hne (i := i) (by have := (List.getElem?_eq_some_iff.mp hu).1; simpa using this) fun v hv => ?_) fun r s1 ⟨u1, hr, q⟩ => ⟨u1, hr, thn q fun _ s2 ⟨x1, H', I', r', y', st', f'⟩ => ⟨x1, H', I', r', y', (let ⟨z1, z2, z3⟩ := st'; ⟨z1, z2.1, z3⟩), f'⟩⟩
    have e1 : v = u := by
      have z : its.toArray[i]? = some v := hv
      rw [List.getElem?_toArray, hu] at z
      exact (Option.some.inj z).symm
    rw [e1]
    exact ⟨x, ru, fun T hT => ⟨T, x, rfl, hT, rfl, fun ys hy => by rw [I.tuple_inj hy hq]; exact hx⟩⟩
  done := by
    intro X hP hw hK hc i pins s σ H E I hf st hg
    subst hP hw hK
    obtain ⟨⟨old, he⟩, hit, hne⟩ := st
    obtain ⟨xs, hq, hx⟩ := hg
    obtain ⟨its, rv, p, hz⟩ := I.tuple hq
    obtain ⟨hai, hae⟩ := tup_apart p hit he
    have hl := rv.length
    have e1 : i = its.toArray.size := by simp; omega
    rw [e1] at he hit
    exact en_done I hf (Draws.tuple (A := X.A.in1) (I.ok.hd hc) it a hai its.toArray) he ⟨hit, p⟩
  self := fun A i s Q E st h => let ⟨⟨_, he⟩, _⟩ := st; wpAny_pyIter_enum he h
theorem turn_enumK {d : Addr} {o : Obj} {kvs : List (L2.Key × V)} {es : Array DictEntry} {ep : Nat} (hod : o.data = .dict es ep) (e it : Addr) : Turn P w K (.Tuple elts kk tpos) (Itek d o kvs) [e, it] e (EnSt (fun i h => h.IsKeyIter it d i es.size ep) e it) where
  mem := by simp
  obj := fun i h st => en_obj st (let ⟨o, ho, hc, hd⟩ := st.2.1; ⟨o, ho, fun v q => by rw [hd] at q; cases q⟩)
  keep := fun i h h' st k => let ⟨⟨old, he⟩, hi, hne⟩ := st; ⟨⟨old, k e (by simp) _ he⟩, hi.at fun o q => k it (by simp) o q, hne⟩
  item := by
    intro X hP hw hK hc i pins s σ H E I hf st hg
    subst hP hw hK
    obtain ⟨⟨old, he⟩, hit, hne⟩ := st
    obtain ⟨hq, hi⟩ := hg
    obtain ⟨hs, hgd, hx, es', ep', vs, hdt, hsz, kv, hm⟩ := I.frzK hq
    obtain ⟨rfl, rfl⟩ := dict_ep hod hdt
    obtain ⟨hdi, hde⟩ := dct_apart hgd hx hit he
    have hl : kvs.length = vs.length := Paired.length kv
    refine thn (en_item (J := Itek d o kvs) I hf (drawsKeys (A := X.A.in1) (I.ok.hd hc) it d hdi es' ep') (fun z => (List.mem_cons.mp z).elim hne fun z => (Ne.symm hde) (List.mem_singleton.mp z)) he ⟨hit, ⟨o, hgd, hx, hdt⟩⟩ hne (i := i) (by omega) fun v hv => ?_) fun r s1 ⟨u1, hr, q⟩ => ⟨u1, hr, thn q fun _ s2 ⟨x1, H', I', r', y', st', f'⟩ => ⟨x1, H', I', r', y', (let ⟨z1, z2, z3⟩ := st'; ⟨z1, z2.1, z3⟩), f'⟩⟩
    obtain ⟨en, hen, rfl⟩ := hv
    obtain ⟨⟨k, y⟩, hkv⟩ : ∃ p, kvs[i]? = some p := ⟨kvs[i], List.getElem?_eq_getElem hi⟩
    obtain ⟨u, hu, ru⟩ := kv_get kv hkv
    obtain ⟨o2, es2, ho2, _, hd2, _, hp2, _⟩ := hm
    rw [hgd] at ho2
    cases ho2
    obtain ⟨rfl, _⟩ := dict_ep hdt hd2
    have z := (hp2.get? (e := en) (by rw [Array.getElem?_toList]; exact hen) hu).1
    exact ⟨kV k, relV_key z, fun T hT => ⟨T, k, y, rfl, hT, rfl, hkv⟩⟩
  done := by
    intro X hP hw hK hc i pins s σ H E I hf st hg
    subst hP hw hK
    obtain ⟨⟨old, he⟩, hit, hne⟩ := st
    obtain ⟨hq, hi⟩ := hg
    obtain ⟨hs, hgd, hx, es', ep', vs, hdt, hsz, kv, hm⟩ := I.frzK hq
    obtain ⟨rfl, rfl⟩ := dict_ep hod hdt
    obtain ⟨hdi, hde⟩ := dct_apart hgd hx hit he
    have e1 : i = es'.size := by omega
    rw [e1] at he hit
    exact en_done I hf (drawsKeys (A := X.A.in1) (I.ok.hd hc) it d hdi es' ep') he ⟨hit, ⟨o, hgd, hx, hdt⟩⟩
  self := fun A i s Q E st h => let ⟨⟨_, he⟩, _⟩ := st; wpAny_pyIter_enum he h
theorem walk_enumT {a : Addr} {xs : List V} : Walk (Itet K a) xs.length (fun H => SqT K H a xs) (YPair (fun i => some (.int (i : Nat))) fun i => xs[i]?) :=
  ⟨fun i _ hi q => ⟨xs, xs[i], q, by simp [hi]⟩, fun _ q => ⟨xs, q, rfl⟩, fun i H v H' hi q ⟨T, x, a1, a2, a3, a4⟩ => ⟨T, _, x, a1, a2, a3, rfl, a4 xs q⟩⟩
theorem walk_enumK {d : Addr} {o : Obj} {kvs : List (L2.Key × V)} : Walk (Itek d o kvs) kvs.length (fun H => H d = some (.frz o (.dK kvs))) (YPair (fun i => some (.int (i : Nat))) fun i => (kvs[i]?).map fun p => kV p.1) :=
  ⟨fun i _ hi q => ⟨q, hi⟩, fun _ q => ⟨q, rfl⟩, fun i H v H' hi q ⟨T, k, y, a1, a2, a3, a4⟩ => ⟨T, _, kV k, a1, a2, a3, rfl, by simp only [a4, Option.map_some]⟩⟩
end
/-- enumerate(a tuple | a list), enumerate(a locked dict) -/
def iEnumS (K : PySem.W.Frag) (ta : TA) : TI := fun σ H R => ta σ H fun vs H1 => ∃ a, vs = [.ref a] ∧ (((∃ xs, SqL K H1 a xs) ∧ R (Ite K a) H1) ∨ ((∃ xs, SqT K H1 a xs) ∧ R (Itet K a) H1) ∨ (∃ o kvs, H1 a = some (.frz o (.dK kvs)) ∧ R (Itek a o kvs) H1))
section
variable {X : Cx}
theorem en_fp {pins : List (Addr × Obj)} {σ : L2.St} {H : Hp} {s : Shared} (I : Inv X pins σ H s) : ∀ b ∈ [s.heap.objs.size + 1, s.heap.objs.size], FpOk X pins H b := fun b hb => by
  have hle : s.heap.objs.size ≤ b := by
    rcases (by simpa using hb : b = s.heap.objs.size + 1 ∨ b = s.heap.objs.size) with z | z <;> omega
  exact I.fpOk hle (I.hok.fresh hle)
theorem pi_enumS {e : Expr} {ta : TA} {p pos tpos : Pos} {elts : List Expr} {kk : Nat} (hg : Gl X "enumerate") (hm : X.mg "enumerate" = none) (ha : PA X [e] ta) (hs : starEach [e] X.env = [(false, eval e X.env)] := by rfl) :
    PI X (.Tuple elts kk tpos) (.Call (.Name "enumerate" p) [e] [] pos) (iEnumS X.K ta) := by
  refine ⟨fun pins s σ H R I h => Call_ (ld_blt I hg hm boot_enumerate (PyProof.Rows.callWith_type1 (thn (ha.run pos pins s σ H _ I h) fun us s1 ⟨vs, H1, I1, r1, a, ex, q1⟩ => ?_) hs rfl))⟩
  subst ex
  cases r1 with
  | cons r rr =>
    cases rr
    cases r
    have Ik : ∀ h', (∀ b o, s1.heap.get? b = some o → h'.get? b = some o) → Inv X pins σ H1 { s1 with heap := h' } := fun h' hk => I1.kept (t' := s1.toks) hk
    rcases q1 with ⟨⟨xs, hq⟩, q⟩ | ⟨⟨xs, hq⟩, q⟩ | ⟨o, kvs, hq, q⟩
    · obtain ⟨its, rv, p', hz⟩ := I1.list hq
      refine call_enumerate_list p'.isList fun h' he hit _ hk => wpAny_pyIter_enum he ?_
      exact ⟨_, [s1.heap.objs.size + 1, s1.heap.objs.size], _, _, H1, rfl, Ik h' hk, turn_enum a (s1.heap.objs.size + 1) s1.heap.objs.size, ⟨⟨.none, he⟩, hit, Nat.succ_ne_self _⟩, en_fp I1, q⟩
    · obtain ⟨its, rv, p', hz⟩ := I1.tuple hq
      refine enum_new (begins_tuple a its.toArray) p' fun h' he ho hk => wpAny_pyIter_enum he ?_
      exact ⟨_, [s1.heap.objs.size + 1, s1.heap.objs.size], _, _, H1, rfl, Ik h' hk, turn_enumT a (s1.heap.objs.size + 1) s1.heap.objs.size, ⟨⟨.none, he⟩, ⟨_, ho, rfl, rfl⟩, Nat.succ_ne_self _⟩, en_fp I1, q⟩
    · obtain ⟨hs', hgd, hx, es, ep, vs, hdt, hsz, kv, hm'⟩ := I1.frzK hq
      refine enum_new (begins_keys a es ep hs') ⟨o, hgd, hx, hdt⟩ fun h' he ho hk => wpAny_pyIter_enum he ?_
      exact ⟨_, [s1.heap.objs.size + 1, s1.heap.objs.size], _, _, H1, rfl, Ik h' hk, turn_enumK hdt (s1.heap.objs.size + 1) s1.heap.objs.size, ⟨⟨.none, he⟩, ⟨_, ho, rfl, rfl⟩, Nat.succ_ne_self _⟩, en_fp I1, q⟩
end
end GN

/-! Sleeping generators: what runs beside them leaves them as they are. -/
namespace GF
open PySem PyProof.Rows
open Sem (wp)

/-- a frame that is no generator's, at the same place -/
def dull : Frame → Frame
  | .ret k h g l c p kp => .ret k h g l c p kp
  | .gen _ _ l c p => .ret (fun _ => .unsupported "") none false l c p []
theorem dull_where : ∀ f : Frame, (dull f).where_ = f.where_
  | .ret .. => rfl
  | .gen .. => rfl
theorem split_dull : ∀ fs : List Frame, splitAtGen (fs.map dull) = none
  | [] => rfl
  | .ret k h g l c p kp :: fs => by
    rw [List.map_cons]
    show splitAtGen (.ret k h g l c p kp :: fs.map dull) = none
    rw [splitAtGen_ret, split_dull fs]; rfl
  | .gen g k l c p :: fs => by
    rw [List.map_cons]
    show splitAtGen (.ret (fun _ => .unsupported "") none false l c p [] :: fs.map dull) = none
    rw [splitAtGen_ret, split_dull fs]; rfl
/-- no generator's frame among those that it keeps -/
def Clear (st : GenState) : Prop := match st with
  | .suspended _ _ _ _ fs _ => splitAtGen fs = none
  | _ => True
def ClearE (e : End) : Prop := match e with
  | .susp _ _ _ _ _ _ fs => splitAtGen fs = none
  | .ret _ => True
theorem ClearE.state {e : End} (h : ClearE e) : Clear e.genState := by
  cases e with
  | ret r => exact True.intro
  | susp v g l k c p fs => exact h
def asleep : GenState → Bool
  | .suspended .. => true
  | _ => false
/-- the same to look at, but not to be woken -/
def poison : GenState → GenState
  | .suspended _ l c p fs cl => .suspended (fun _ => .unsupported "") l c p (fs.map dull) cl
  | st => st
theorem poison_seen : ∀ st : GenState, (poison st).seen = st.seen
  | .suspended k l c p fs cl => by
    show (GenStatus.suspended, some ((c, p) :: (fs.map dull).map Frame.where_)) = (GenStatus.suspended, some ((c, p) :: fs.map Frame.where_))
    rw [List.map_map]
    have e : (Frame.where_ ∘ dull) = Frame.where_ := funext dull_where
    rw [e]
  | .fresh _ => rfl
  | .running => rfl
  | .finished => rfl
theorem poison_clear : ∀ st : GenState, Clear (poison st)
  | .suspended k l c p fs cl => split_dull fs
  | .fresh _ => True.intro
  | .running => True.intro
  | .finished => True.intro
theorem poison_awake {st : GenState} (h : asleep st = false) : poison st = st := by
  cases st <;> first | rfl | cases h
theorem poison_bare (st : GenState) : (poison st).bare = st.bare := by cases st <;> rfl

/-- a: the generators of a run in which those that slept at first (g0) can't be woken; b: of the run as it is -/
structure Sim (g0 a b : Array GenState) : Prop where
  size : a.size = b.size
  le : g0.size ≤ a.size
  slept : ∀ (i : Nat) (st : GenState), g0[i]? = some st → asleep st = true → a[i]? = some (poison st) ∧ b[i]? = some st
  other : ∀ (i : Nat), (∀ st, g0[i]? = some st → asleep st = false) → a[i]? = b[i]?
  clear : ∀ (i : Nat) (st : GenState), a[i]? = some st → Clear st

section
variable {g0 a b : Array GenState}
theorem Sim.start : Sim g0 (g0.map poison) g0 where
  size := by simp
  le := by simp
  slept := fun i st h _ => ⟨by rw [Array.getElem?_map, h]; rfl, h⟩
  other := fun i h => by
    rw [Array.getElem?_map]
    cases e : g0[i]? with
    | none => rfl
    | some st => rw [Option.map_some, poison_awake (h st e)]
  clear := fun i st h => by
    rw [Array.getElem?_map] at h
    cases e : g0[i]? with
    | none => rw [e] at h; cases h
    | some x =>
      rw [e, Option.map_some] at h
      cases h
      exact poison_clear x
theorem Sim.push (h : Sim g0 a b) {x : GenState} (hx : Clear x) : Sim g0 (a.push x) (b.push x) where
  size := by simp [h.size]
  le := by have := h.le; simp; omega
  slept := fun i st e hs => by
    have hi : i < g0.size := (Array.getElem?_eq_some_iff.mp e).1
    have h1 := h.le
    have h2 := h.size
    obtain ⟨p, q⟩ := h.slept i st e hs
    rw [Array.getElem?_push, Array.getElem?_push, if_neg (by omega), if_neg (by omega)]
    exact ⟨p, q⟩
  other := fun i e => by
    rw [Array.getElem?_push, Array.getElem?_push, h.size, h.other i e]
  clear := fun i st e => by
    rw [Array.getElem?_push] at e
    split at e
    · cases e; exact hx
    · exact h.clear i st e
/-- who is woken, or ends, did not sleep at first -/
theorem Sim.awake (h : Sim g0 a b) {i : Nat} {st : GenState} (e : a[i]? = some st) (n : ∀ x, asleep x = true → st ≠ poison x) : ∀ x, g0[i]? = some x → asleep x = false := fun x ex => by
  cases q : asleep x with
  | false => rfl
  | true =>
    obtain ⟨p, _⟩ := h.slept i x ex q
    rw [e] at p
    exact absurd (Option.some.inj p) (n x q)
theorem Sim.set (h : Sim g0 a b) {i : Nat} {x : GenState} (n : ∀ st, g0[i]? = some st → asleep st = false) (hx : Clear x) : Sim g0 (a.setIfInBounds i x) (b.setIfInBounds i x) where
  size := by simp [h.size]
  le := by simpa using h.le
  slept := fun j st e hs => by
    have hj : i ≠ j := fun z => by
      subst z
      rw [n st e] at hs
      cases hs
    rw [Array.getElem?_setIfInBounds_ne hj, Array.getElem?_setIfInBounds_ne hj]
    exact h.slept j st e hs
  other := fun j e => by
    by_cases hj : i = j
    · subst hj
      rw [Array.getElem?_setIfInBounds_self, Array.getElem?_setIfInBounds_self, h.size]
    · rw [Array.getElem?_setIfInBounds_ne hj, Array.getElem?_setIfInBounds_ne hj]
      exact h.other j e
  clear := fun j st e => by
    by_cases hj : i = j
    · subst hj
      rw [Array.getElem?_setIfInBounds_self] at e
      split at e
      · cases e; exact hx
      · cases e
    · rw [Array.getElem?_setIfInBounds_ne hj] at e
      exact h.clear j st e
end

theorem no_unsupported {M : Model} {Γ : Ctx} {p : Pos} {t : Sem PySem.Fin} {fs : List Frame} {s s' : Shared} {e : End} (h : Runs M Γ p t fs s e s') : ∀ w, t ≠ .unsupported w := by
  induction h with
  | segRet _ _ ih _ => exact ih
  | segGen _ _ ih _ => exact ih
  | segSuspOut _ _ ih => exact ih
  | segSuspGen _ _ _ _ ih _ => exact ih
  | _ => intro w z; cases z

theorem split_tail {k h g l c p kp} {fs : List Frame} (e : splitAtGen (.ret k h g l c p kp :: fs) = none) : splitAtGen fs = none := by
  rw [splitAtGen_ret] at e
  cases q : splitAtGen fs with
  | none => rfl
  | some x => rw [q] at e; cases e
theorem split_two {a b : List Frame} (h1 : splitAtGen a = none) (h2 : splitAtGen b = none) : splitAtGen (a ++ b) = none := by
  rw [splitAtGen_append_none _ h1, h2]; rfl

/-- the state with other generators -/
abbrev wg (s : Shared) (b : Array GenState) : Shared := { s with gens := b }

theorem runs_sim {M : Model} {g0 : Array GenState} {Γ : Ctx} {p : Pos} {t : Sem PySem.Fin} {fs : List Frame} {s s' : Shared} {e : End} (h : Runs M Γ p t fs s e s') :
    splitAtGen fs = none → ∀ b, Sim g0 s.gens b → ClearE e ∧ ∃ b', Sim g0 s'.gens b' ∧ Runs M Γ p t fs (wg s b) e (wg s' b') := by
  induction h with
  | done => exact fun _ b S => ⟨True.intro, b, S, .done⟩
  | raise => exact fun _ b S => ⟨True.intro, b, S, .raise⟩
  | again hq _ ih => exact fun h b S => let ⟨c, b', S', r⟩ := ih h b S; ⟨c, b', S', .again hq r⟩
  | rule _ ih => exact fun h b S => let ⟨c, b', S', r⟩ := ih h b S; ⟨c, b', S', .rule r⟩
  | «at» _ ih => exact fun h b S => let ⟨c, b', S', r⟩ := ih h b S; ⟨c, b', S', .at r⟩
  | load ho _ ih => exact fun h b S => let ⟨c, b', S', r⟩ := ih h b S; ⟨c, b', S', .load ho r⟩
  | update ho _ ih => exact fun h b S => let ⟨c, b', S', r⟩ := ih h b S; ⟨c, b', S', .update ho r⟩
  | loadIfAlive _ ih => exact fun h b S => let ⟨c, b', S', r⟩ := ih h b S; ⟨c, b', S', .loadIfAlive r⟩
  | point _ ih => exact fun h b S => let ⟨c, b', S', r⟩ := ih h b S; ⟨c, b', S', .point r⟩
  | alloc _ ih => exact fun h b S => let ⟨c, b', S', r⟩ := ih h b S; ⟨c, b', S', .alloc r⟩
  | fresh _ ih => exact fun h b S => let ⟨c, b', S', r⟩ := ih h b S; ⟨c, b', S', .fresh r⟩
  | ask _ ih => exact fun h b S => let ⟨c, b', S', r⟩ := ih h b S; ⟨c, b', S', .ask r⟩
  | choose hn _ ih => exact fun h b S => let ⟨c, b', S', r⟩ := ih h b S; ⟨c, b', S', .choose hn r⟩
  | os _ ih => exact fun h b S => let ⟨c, b', S', r⟩ := ih h b S; ⟨c, b', S', .os r⟩
  | handled _ ih => exact fun h b S => let ⟨c, b', S', r⟩ := ih h b S; ⟨c, b', S', .handled r⟩
  | stack _ ih => exact fun h b S => let ⟨c, b', S', r⟩ := ih h b S; ⟨c, b', S', .stack r⟩
  | thread _ ih => exact fun h b S => let ⟨c, b', S', r⟩ := ih h b S; ⟨c, b', S', .thread r⟩
  | @genState g st Γ p k s e s' hg _ ih =>
    intro h b S
    obtain ⟨c, b', S', r⟩ := ih h b S
    refine ⟨c, b', S', ?_⟩
    cases q : g0[g]? with
    | none => exact .genState (st := st) ((S.other g fun x ex => by rw [q] at ex; cases ex).symm.trans hg) r
    | some x =>
      cases z : asleep x with
      | false => exact .genState (st := st) ((S.other g fun y ey => by rw [q] at ey; cases ey; exact z).symm.trans hg) r
      | true =>
        obtain ⟨h1, h2⟩ := S.slept g x q z
        rw [hg] at h1
        have e1 : st = poison x := Option.some.inj h1
        refine .genState (st := x) h2 ?_
        rw [← poison_seen x, ← e1]
        exact r
  | @newGen Γ p k s e s' c _ ih =>
    intro h b S
    obtain ⟨c1, b', S', r⟩ := ih h (b.push (.fresh c)) (S.push True.intro)
    refine ⟨c1, b', S', .newGen ?_⟩
    show Runs M _ _ (k b.size) [] _ _ _
    rw [← S.size]
    exact r
  | call _ _ ih1 ih2 =>
    intro h b S
    obtain ⟨c1, b1, S1, r1⟩ := ih1 rfl b S
    obtain ⟨c2, b2, S2, r2⟩ := ih2 rfl b1 S1
    exact ⟨c2, b2, S2, .call r1 r2⟩
  | callSusp _ ih =>
    intro h b S
    obtain ⟨c1, b1, S1, r1⟩ := ih rfl b S
    exact ⟨split_two c1 rfl, b1, S1, .callSusp r1⟩
  | yield => exact fun _ b S => ⟨rfl, b, S, .yield⟩
  | @resumeFresh Γ p g l k s c e₁ s₁ e s' hg _ hq _ ih1 ih2 =>
    intro h b S
    have n := S.awake hg fun x hx z => by cases x <;> first | (cases hx; done) | (cases z; done)
    obtain ⟨c1, b1, S1, r1⟩ := ih1 rfl (b.setIfInBounds g .running) (S.set n True.intro)
    obtain ⟨c2, b2, S2, r2⟩ := ih2 rfl (b1.setIfInBounds g e₁.genState) (S1.set n c1.state)
    exact ⟨c2, b2, S2, .resumeFresh ((S.other g n).symm.trans hg) r1 hq r2⟩
  | @resumeSuspended Γ p g r l k s k₀ l₀ c₀ p₀ fs cl e₁ s₁ e s' hg hr hq _ ih1 ih2 =>
    intro h b S
    cases q : g0[g]? with
    | none =>
      have n : ∀ x, g0[g]? = some x → asleep x = false := fun x ex => by rw [q] at ex; cases ex
      obtain ⟨c1, b1, S1, r1⟩ := ih1 (S.clear g _ hg) (b.setIfInBounds g .running) (S.set n True.intro)
      obtain ⟨c2, b2, S2, r2⟩ := ih2 rfl (b1.setIfInBounds g e₁.genState) (S1.set n c1.state)
      exact ⟨c2, b2, S2, .resumeSuspended ((S.other g n).symm.trans hg) r1 hq r2⟩
    | some x =>
      cases z : asleep x with
      | false =>
        have n : ∀ y, g0[g]? = some y → asleep y = false := fun y ey => by rw [q] at ey; cases ey; exact z
        obtain ⟨c1, b1, S1, r1⟩ := ih1 (S.clear g _ hg) (b.setIfInBounds g .running) (S.set n True.intro)
        obtain ⟨c2, b2, S2, r2⟩ := ih2 rfl (b1.setIfInBounds g e₁.genState) (S1.set n c1.state)
        exact ⟨c2, b2, S2, .resumeSuspended ((S.other g n).symm.trans hg) r1 hq r2⟩
      | true =>
        obtain ⟨h1, _⟩ := S.slept g x q z
        rw [hg] at h1
        have e1 := Option.some.inj h1
        cases x with
        | suspended k l c p fs cl =>
          injection e1 with e2
          subst e2
          exact absurd rfl (no_unsupported hr "")
        | _ => cases z
  | @resumeJustStarted g v Γ p k s e s' l c hg hv _ ih =>
    intro h b S
    have n := S.awake hg fun x hx z => by cases x <;> first | (cases hx; done) | (cases z; done)
    obtain ⟨c1, b1, S1, r1⟩ := ih rfl b S
    exact ⟨c1, b1, S1, .resumeJustStarted ((S.other g n).symm.trans hg) hv r1⟩
  | @resumeThrowFresh g Γ p k e s' x l s c hg _ ih =>
    intro h b S
    have n := S.awake hg fun x hx z => by cases x <;> first | (cases hx; done) | (cases z; done)
    obtain ⟨c1, b1, S1, r1⟩ := ih rfl (b.setIfInBounds g .finished) (S.set n True.intro)
    exact ⟨c1, b1, S1, .resumeThrowFresh ((S.other g n).symm.trans hg) r1⟩
  | @resumeRunning g Γ p k s e s' r l hg _ ih =>
    intro h b S
    have n := S.awake hg fun x hx z => by cases x <;> first | (cases hx; done) | (cases z; done)
    obtain ⟨c1, b1, S1, r1⟩ := ih rfl b S
    exact ⟨c1, b1, S1, .resumeRunning ((S.other g n).symm.trans hg) r1⟩
  | @resumeFinished g Γ p k s e s' r l hg _ ih =>
    intro h b S
    have n := S.awake hg fun x hx z => by cases x <;> first | (cases hx; done) | (cases z; done)
    obtain ⟨c1, b1, S1, r1⟩ := ih rfl b S
    exact ⟨c1, b1, S1, .resumeFinished ((S.other g n).symm.trans hg) r1⟩
  | segRet _ _ ih1 ih2 =>
    intro h b S
    obtain ⟨c1, b1, S1, r1⟩ := ih1 rfl b S
    obtain ⟨c2, b2, S2, r2⟩ := ih2 (split_tail h) b1 S1
    exact ⟨c2, b2, S2, .segRet r1 r2⟩
  | segGen _ _ _ _ => intro h; cases h
  | segSuspOut hs _ ih =>
    intro h b S
    obtain ⟨c1, b1, S1, r1⟩ := ih rfl b S
    exact ⟨split_two c1 h, b1, S1, .segSuspOut hs r1⟩
  | segSuspGen hs _ _ _ _ _ =>
    intro h
    rw [h] at hs
    cases hs

theorem wakes_sim {M : Model} {g0 : Array GenState} {Γ : Ctx} {p : Pos} {g : Nat} {r : Resume} {s s' : Shared} {res : GenResult} (h : Wakes M Γ p g r s res s') (b : Array GenState) (S : Sim g0 s.gens b) :
    ∃ b', Sim g0 s'.gens b' ∧ Wakes M Γ p g r (wg s b) res (wg s' b') := by
  have key : ∀ {k : GenResult → Sem PySem.Fin}, True := fun {_} => True.intro
  unfold Wakes at h
  cases e : s.gens[g]? with
  | none => rw [e] at h; exact h.elim
  | some st =>
    rw [e] at h
    cases st with
    | fresh c =>
      have n := S.awake e fun x hx z => by cases x <;> first | (cases hx; done) | (cases z; done)
      have eb : (wg s b).gens[g]? = some (.fresh c) := (S.other g n).symm.trans e
      cases r with
      | send v =>
        cases v with
        | none =>
          obtain ⟨e₁, s₁, hr, hq, h1, h2⟩ := h
          obtain ⟨c1, b1, S1, r1⟩ := runs_sim hr rfl (b.setIfInBounds g .running) (S.set n True.intro)
          subst h2
          refine ⟨b1.setIfInBounds g e₁.genState, S1.set n c1.state, ?_⟩
          unfold Wakes
          rw [eb]
          exact ⟨e₁, wg s₁ b1, r1, hq, h1, rfl⟩
        | _ =>
          obtain ⟨h1, h2⟩ := h
          subst h2
          refine ⟨b, S, ?_⟩
          unfold Wakes
          rw [eb]
          exact ⟨h1, rfl⟩
      | throw x =>
        obtain ⟨h1, h2⟩ := h
        subst h2
        refine ⟨b.setIfInBounds g .finished, S.set n True.intro, ?_⟩
        unfold Wakes
        rw [eb]
        exact ⟨h1, rfl⟩
    | suspended k₀ l₀ c₀ p₀ fs cl =>
      obtain ⟨e₁, s₁, hr, hq, h1, h2⟩ := h
      have n : ∀ x, g0[g]? = some x → asleep x = false := fun x ex => by
        cases z : asleep x with
        | false => rfl
        | true =>
          obtain ⟨q1, _⟩ := S.slept g x ex z
          rw [e] at q1
          have e1 := Option.some.inj q1
          cases x with
          | suspended k l c p fs cl =>
            injection e1 with e2
            subst e2
            exact absurd rfl (no_unsupported hr "")
          | _ => cases z
      have eb : (wg s b).gens[g]? = some (.suspended k₀ l₀ c₀ p₀ fs cl) := (S.other g n).symm.trans e
      obtain ⟨c1, b1, S1, r1⟩ := runs_sim hr (S.clear g _ e) (b.setIfInBounds g .running) (S.set n True.intro)
      subst h2
      refine ⟨b1.setIfInBounds g e₁.genState, S1.set n c1.state, ?_⟩
      unfold Wakes
      rw [eb]
      exact ⟨e₁, wg s₁ b1, r1, hq, h1, rfl⟩
    | running =>
      have n := S.awake e fun x hx z => by cases x <;> first | (cases hx; done) | (cases z; done)
      have eb : (wg s b).gens[g]? = some .running := (S.other g n).symm.trans e
      obtain ⟨h1, h2⟩ := h
      refine ⟨b, by rw [h2]; exact S, ?_⟩
      unfold Wakes
      rw [eb]
      exact ⟨h1, by rw [h2]⟩
    | finished =>
      have n := S.awake e fun x hx z => by cases x <;> first | (cases hx; done) | (cases z; done)
      have eb : (wg s b).gens[g]? = some .finished := (S.other g n).symm.trans e
      obtain ⟨h1, h2⟩ := h
      refine ⟨b, by rw [h2]; exact S, ?_⟩
      unfold Wakes
      rw [eb]
      exact ⟨h1, by rw [h2]⟩

theorem wp_sim {α : Type} (M : Model) (Γ : Ctx) (g0 : Array GenState) (t : Sem α) : ∀ (Q : α → Pos → Shared → Prop) (E : Value → Pos → Shared → Prop) (p : Pos) (s : Shared) (b : Array GenState), Sim g0 s.gens b → wp M Γ t Q E p s →
    wp M Γ t (fun a p' s' => ∃ g', Sim g0 g' s'.gens ∧ Q a p' (wg s' g')) (fun e p' s' => ∃ g', Sim g0 g' s'.gens ∧ E e p' (wg s' g')) p (wg s b) := by
  induction t with
  | pure a => intro Q E p s b S h; exact ⟨s.gens, S, h⟩
  | raise e => intro Q E p s b S h; exact ⟨s.gens, S, h⟩
  | unsupported _ => intro Q E p s b S h; exact h
  | finish _ => intro Q E p s b S h; exact h
  | rule _ k ih => intro Q E p s b S h; exact ih () Q E p s b S h
  | «at» p' k ih => intro Q E p s b S h; exact ih () Q E p' s b S h
  | load a _ k ih => intro Q E p s b S h; obtain ⟨o, ho, h⟩ := h; exact ⟨o, ho, ih o Q E p s b S h⟩
  | update a _ f k ih => intro Q E p s b S h; exact ⟨h.1, ih () Q E p { s with heap := s.heap.update a f } b S h.2⟩
  | loadIfAlive a k ih => intro Q E p s b S h; exact ih _ Q E p s b S h
  | point _ k ih => intro Q E p s b S h; exact ih () Q E p s b S h
  | register _ _ => intro Q E p s b S h; exact h
  | alloc o k ih => intro Q E p s b S h; exact ih _ Q E p { s with heap := s.heap.push o } b S h
  | fresh k ih => intro Q E p s b S h; exact ih _ Q E p { s with toks := s.toks + 1 } b S h
  | ask k ih => intro Q E p s b S h; exact ih _ Q E p s b S h
  | choose src m k ih => intro Q E p s b S h; exact ⟨h.1, ih _ Q E p { s with drawn := s.drawn.bump src } b S h.2⟩
  | os q _ k ih => intro Q E p s b S h; exact ih _ Q E p { s with os := (Os.step s.os q).1 } b S h
  | call c hd _ _ k ih =>
    intro Q E p s b S h
    obtain ⟨r, s', hr, h⟩ := h
    obtain ⟨_, b', S', r'⟩ := runs_sim hr rfl b S
    exact ⟨r, wg s' b', r', ih r Q E p s' b' S' h⟩
  | handled own k ih => intro Q E p s b S h; exact ih _ Q E p s b S h
  | genState g k ih =>
    intro Q E p s b S h
    obtain ⟨st, hs, h⟩ := h
    have r := ih _ Q E p s b S h
    cases q : g0[g]? with
    | none => exact ⟨st, (S.other g fun x ex => by rw [q] at ex; cases ex).symm.trans hs, r⟩
    | some x =>
      cases z : asleep x with
      | false => exact ⟨st, (S.other g fun y ey => by rw [q] at ey; cases ey; exact z).symm.trans hs, r⟩
      | true =>
        obtain ⟨h1, h2⟩ := S.slept g x q z
        rw [hs] at h1
        have e1 : st = poison x := Option.some.inj h1
        refine ⟨x, h2, ?_⟩
        rw [← poison_seen x, ← e1]
        exact r
  | newGen c k ih =>
    intro Q E p s b S h
    have h' : wp M Γ (k s.gens.size) Q E p { s with gens := s.gens.push (.fresh c) } := h
    have r := ih s.gens.size Q E p { s with gens := s.gens.push (.fresh c) } (b.push (.fresh c)) (S.push True.intro) h'
    show wp M Γ (k b.size) _ _ p _
    rw [← S.size]
    exact r
  | resume g r _ k ih =>
    intro Q E p s b S h
    obtain ⟨res, s', hw, h⟩ := h
    obtain ⟨b', S', w'⟩ := wakes_sim hw b S
    exact ⟨res, wg s' b', w', ih res Q E p s' b' S' h⟩
  | yield _ _ _ _ => intro Q E p s b S h; exact h
  | stack k ih => intro Q E p s b S h; exact ih _ Q E p s b S h
  | fork _ _ => intro Q E p s b S h; exact h
  | thread k ih => intro Q E p s b S h; exact ih _ Q E p s b S h
  | await _ _ _ _ _ => intro Q E p s b S h; exact h

/-- beside sleepers: run with the sleepers unwakeable; as they are they sleep on -/
theorem wpAny_beside {α : Type} {M : Model} {A : Around} {t : Sem α} {Q : α → Shared → Prop} {E : Value → Shared → Prop} {s : Shared} (h : wpAny M A t Q E (wg s (s.gens.map poison))) :
    wpAny M A t (fun a s' => ∃ g', Sim s.gens g' s'.gens ∧ Q a (wg s' g')) (fun e s' => ∃ g', Sim s.gens g' s'.gens ∧ E e (wg s' g')) s := fun Γ p hΓ =>
  wp_sim M Γ s.gens t _ _ p (wg s (s.gens.map poison)) s.gens Sim.start (h Γ p hΓ)

theorem bare_poisoned {g : Array GenState} (h : AllBare g) : AllBare (g.map poison) := fun y hy => by
  obtain ⟨x, hx, e⟩ := Array.mem_map.mp hy
  rw [← e, poison_bare]
  exact h x hx
theorem Sim.bare {g0 a b : Array GenState} (S : Sim g0 a b) (h0 : AllBare g0) (ha : AllBare a) : AllBare b := fun y hy => by
  obtain ⟨i, hi, e⟩ := Array.mem_iff_getElem.mp hy
  have eb : b[i]? = some y := by rw [Array.getElem?_eq_getElem hi, e]
  cases q : g0[i]? with
  | none =>
    have ea := (S.other i fun x ex => by rw [q] at ex; cases ex).trans eb
    exact ha y (Array.mem_of_getElem? ea)
  | some x =>
    cases z : asleep x with
    | false =>
      have ea := (S.other i fun x' ex => by rw [q] at ex; cases ex; exact z).trans eb
      exact ha y (Array.mem_of_getElem? ea)
    | true =>
      obtain ⟨_, h2⟩ := S.slept i x q z
      rw [eb] at h2
      rw [Option.some.inj h2]
      exact h0 x (Array.mem_of_getElem? q)
end GF

/-! One stretch of a generator's code: to its next yield, or to its end. -/
namespace GF
open PySem PyProof.Rows
open Sem (wp)

def Seg1 (M : Model) (A : Around) (Φ : End → Shared → Prop) (c : Code) (t : Sem PySem.Fin) (fs : List Frame) (s : Shared) : Prop :=
  ∀ Γ p, Γ.code = c → Γ.Woken A → ∃ e s', Runs M Γ p t fs s e s' ∧ Φ e s'

section
variable {M : Model} {A : Around} {Φ : End → Shared → Prop} {c : Code} {fs : List Frame} {s : Shared}
theorem s1_wrap {α : Type} {m : Sem α} {K : α → Sem PySem.Fin} {H : Value → Sem PySem.Fin} {gd : Bool → Bool} {lv : List Value → List Value}
    (h : wpAny M (A.over c fs) m (fun a s' => Seg1 M A Φ c (K a) fs s') (fun x s' => Seg1 M A Φ c (H x) fs s') s) : Seg1 M A Φ c (m.wrap K H gd lv) fs s := by
  intro Γ p hc hΓ
  subst hc
  exact runs_wrap_of_wp K H gd lv m (h (Γ.over fs) p (hΓ.over fs)) (fun a q u z => z Γ q rfl hΓ) (fun x q u z => z Γ q rfl hΓ)
theorem s1_bind {α : Type} {m : Sem α} {K : α → Sem PySem.Fin}
    (h : wpAny M (A.over c fs) m (fun a s' => Seg1 M A Φ c (K a) fs s') (fun _ _ => False) s) : Seg1 M A Φ c (m >>= K) fs s := by
  rw [Sem.bind_eq_wrap']
  exact s1_wrap (wpAny_mono h (fun _ _ z => z) fun _ _ z => z.elim)
theorem s1_bindw {α β : Type} {m : Sem α} {f : α → Sem β} {K : β → Sem PySem.Fin} {H : Value → Sem PySem.Fin} {gd : Bool → Bool} {lv : List Value → List Value}
    (h : wpAny M (A.over c fs) m (fun a s' => Seg1 M A Φ c ((f a).wrap K H gd lv) fs s') (fun _ _ => False) s) : Seg1 M A Φ c ((m >>= f).wrap K H gd lv) fs s := by
  rw [Sem.bind_eq_wrap', Sem.wrap_wrap]
  exact s1_wrap (wpAny_mono h (fun _ _ z => z) fun _ _ z => z.elim)
theorem s1_at {q : Pos} {k : Unit → Sem PySem.Fin} (h : Seg1 M A Φ c (k ()) fs s) : Seg1 M A Φ c (.at q k) fs s :=
  s1_wrap (m := standAt q) (K := k) (H := .raise) (gd := id) (lv := id) (wpAny_standAt h)
theorem s1_point {l : List Value} {k : Unit → Sem PySem.Fin} (h : Seg1 M A Φ c (k ()) fs s) : Seg1 M A Φ c (.point l k) fs s :=
  s1_wrap (m := point) (K := k) (H := .raise) (gd := id) (lv := fun _ => l) (wpAny_point h)
theorem s1_call {d : Code} {h g l} {k : Result → Sem PySem.Fin} (hc : ∀ p, Seg1 M A Φ d (M.den d) (.ret k h g l c p [] :: fs) s) : Seg1 M A Φ c (.call d h g l k) fs s := by
  intro Γ p e hΓ
  subst e
  obtain ⟨e, s', r, q⟩ := hc p (Γ.goto d) p rfl (hΓ.goto d)
  exact ⟨e, s', runs_call_seg r, q⟩
theorem s1_leaf {k h g l c₁ p₁ kp} (r : Result) (hk : Seg1 M A Φ c₁ (k r) fs s) : Seg1 M A Φ c (leafOf r) (.ret k h g l c₁ p₁ kp :: fs) s := by
  intro Γ p e hΓ
  subst e
  obtain ⟨e, s', r', q⟩ := hk (Γ.goto c₁) p₁ rfl (hΓ.goto c₁)
  exact ⟨e, s', Runs.pop r r', q⟩
theorem s1_again {d : Code} (hq : d.quiet = true) (hc : Seg1 M A Φ d (M.den d) fs s) : Seg1 M A Φ c (.pure (.again d)) fs s := by
  intro Γ p e hΓ
  subst e
  obtain ⟨e, s', r, q⟩ := hc (Γ.goto d) p rfl (hΓ.goto d)
  exact ⟨e, s', Runs.head (c₁ := d) (fun _ _ x => .again hq x) r, q⟩
theorem s1_end (r : Result) (h : Φ (.ret r) s) : Seg1 M A Φ c (leafOf r) [] s := fun Γ p e _ => ⟨.ret r, s, Runs.leaf r, h⟩
theorem s1_susp {v g l} {k : Resume → Sem PySem.Fin} (hf : splitAtGen fs = none) (h : ∀ p, Φ (.susp v g l k c p fs) s) : Seg1 M A Φ c (.yield v g l k) fs s := by
  intro Γ p e _
  subst e
  exact ⟨_, s, Runs.yield' fs hf, h p⟩

variable {env : Env} {K : Flow → Sem PySem.Fin} {H : Value → Sem PySem.Fin} {gd : Bool → Bool} {lv : List Value → List Value}
theorem s1_nil (h : Seg1 M A Φ c (K .next) fs s) : Seg1 M A Φ c ((execs [] env).wrap K H gd lv) fs s := h
theorem s1_cons {st : Stmt} {rest : List Stmt} (h : Seg1 M A Φ c ((exec st env).wrap (fun f => match f with | .next => (execs rest env).wrap K H gd lv | f => K f) H gd lv) fs s) :
    Seg1 M A Φ c ((execs (st :: rest) env).wrap K H gd lv) fs s := by
  rw [execs_cons_wrap]
  exact h
/-- yield e -/
theorem s1_yield {e : Expr} {yp pos : Pos} (hf : splitAtGen fs = none) (hgd : gd false = false)
    (h : wpAny M (A.over c fs) (eval e env) (fun v s' => ∀ (l : List Value) (k : Resume → Sem PySem.Fin) (p : Pos), k (.send .none) = K .next → Φ (.susp v false l k c p fs) s') (fun _ _ => False) s)
    (hco : env.scope.isCoroutine = false := by rfl) (hi : interactive env = false := by rfl) : Seg1 M A Φ c ((exec (.Expr (.Yield (some e) yp) pos) env).wrap K H gd lv) fs s := by
  rw [exec_Expr env _ pos hi rfl]
  have ho : ∀ v, yieldOut env v = yieldValue v := fun v => by
    unfold yieldOut
    rw [hco]
    rfl
  show Seg1 M A Φ c (.at pos fun _ => (((eval e env >>= fun v => (standAt yp >>= fun _ => yieldOut env v)) >>= fun x => dropValue (.Yield (some e) yp) pos x).wrap K H gd lv)) fs s
  refine s1_at ?_
  rw [bind_assoc]
  refine s1_bindw (wpAny_mono h (fun v s' z => ?_) fun _ _ z => z)
  rw [ho v]
  refine s1_at ?_
  show Seg1 M A Φ c (.yield v (gd false) _ _) fs s'
  rw [hgd]
  exact s1_susp hf fun p => z _ _ p rfl
/-- what a call of a loop's code does with an exception that comes back -/
def cb (env : Env) (x : Value) : Sem Unit := do
  if (← field x 1) == Value.none then unsupported "frame.own-activation:exception-without-traceback"
  setFlight x env.frame
/-- what follows a loop's code -/
def kf (env : Env) (K : Flow → Sem PySem.Fin) (H : Value → Sem PySem.Fin) (gd : Bool → Bool) (lv : List Value → List Value) (r : Result) : Sem PySem.Fin :=
  ((match r with | .ok f => (.pure f : Sem Flow) | .error e => .raise e).onRaise (cb env)).wrap K H gd lv
theorem s1_For {tg iter : Expr} {body orelse : List Stmt} {pos : Pos}
    (h : wpAny M (A.over c fs) (eval iter env) (fun v s1 => wpAny M (A.over c fs) (pyIter v) (fun it s2 => ∀ p,
      Seg1 M A Φ (.forLoop tg it body orelse env) (M.den (.forLoop tg it body orelse env)) (.ret (kf env K H gd lv) none (gd false) (lv []) c p [] :: fs) s2) (fun _ _ => False) s1) (fun _ _ => False) s)
    (hs : ∀ x, foldedSetIterable iter env x = pure x := by intro _; rfl) : Seg1 M A Φ c ((exec (.For tg iter body orelse pos) env).wrap K H gd lv) fs s := by
  rw [exec_For]
  refine s1_bindw (wpAny_standAt ?_)
  refine s1_bindw (wpAny_mono h (fun v s1 h1 => ?_) fun _ _ z => z)
  rw [hs v]
  refine s1_bindw (wpAny_pure ?_)
  refine s1_bindw (wpAny_standAt ?_)
  refine s1_bindw (wpAny_holding (wpAny_mono h1 (fun it s2 h2 => ?_) fun _ _ z => z))
  exact s1_call h2
end

section
variable {prog : Program} {w : World} {A : Around} {Φ : End → Shared → Prop} {fs : List Frame} {s : Shared} {env : Env}
def kl (cf : Code) : Flow → Sem PySem.Fin
  | .next => .pure (.again cf)
  | .cont => .pure (.again cf)
  | .brk => .pure (.done .next)
  | .ret v => .pure (.done (.ret v))
theorem s1_forLoop {tg : Expr} {it : Value} {body orelse : List Stmt}
    (h : wpAny (model prog w) (A.over (.forLoop tg it body orelse env) fs) (pyNext it) (fun r s1 => match r with
      | none => Seg1 (model prog w) A Φ (.forLoop tg it body orelse env) (.pure (.again (.block orelse env))) fs s1
      | some v => wpAny (model prog w) (A.over (.forLoop tg it body orelse env) fs) (letOwnedTupleGo tg it v) (fun _ s2 => wpAny (model prog w) (A.over (.forLoop tg it body orelse env) fs) (assign tg env v) (fun _ s3 =>
          ∀ J, Seg1 (model prog w) A Φ (.forLoop tg it body orelse env) ((execs body env).wrap (kl (.forLoop tg it body orelse env)) J id id) fs s3) (fun _ _ => False) s2) (fun _ _ => False) s1) (fun _ _ => False) s) :
    Seg1 (model prog w) A Φ (.forLoop tg it body orelse env) ((model prog w).den (.forLoop tg it body orelse env)) fs s := by
  show Seg1 _ A Φ _ ((forTurn tg it body orelse env).onRaise fun x => do noteFrame x env; theTreesLotGoes x) fs s
  unfold forTurn
  rw [Sem.onRaise_eq_wrap]
  refine s1_bindw (wpAny_standAt ?_)
  refine s1_bindw (wpAny_onRaise (wpAny_mono h (fun r s1 h1 => ?_) fun _ _ z => z.elim))
  cases r with
  | none => exact h1
  | some v =>
    refine s1_bindw (wpAny_mono h1 (fun _ s2 h2 => ?_) fun _ _ z => z)
    refine s1_bindw (wpAny_mono h2 (fun _ s3 h3 => ?_) fun _ _ z => z)
    rw [Sem.bind_eq_wrap', Sem.wrap_wrap]
    refine Eq.mp (congrArg (fun t => Seg1 (model prog w) A Φ (.forLoop tg it body orelse env) t fs s3) ?_) (h3 fun e => (do noteFrame e env; theTreesLotGoes e : Sem Unit).bind fun _ => .raise e)
    exact Sem.wrap_congr _ _ _ (fun f => by cases f <;> rfl) fun _ => rfl
theorem s1_func {body : List Stmt} (h : ∀ J, Seg1 (model prog w) A Φ (.func body env) ((execs body env).wrap (fun f => .pure (.done (.ret (match f with | .ret v => v | _ => .none)))) J id id) fs s) :
    Seg1 (model prog w) A Φ (.func body env) ((model prog w).den (.func body env)) fs s := by
  show Seg1 _ A Φ _ (.point [] fun _ => ((execs body env).onRaise (leaving env)) >>= _) fs s
  refine s1_point ?_
  rw [Sem.onRaise_eq_wrap, Sem.bind_eq_wrap', Sem.wrap_wrap]
  refine Eq.mp (congrArg (fun t => Seg1 (model prog w) A Φ (.func body env) t fs s) ?_) (h fun e => Sem.wrap (fun d => match d with | Flow.ret v => ret v | _ => ret .none) .raise id id ((leaving env e).bind fun _ => (.raise e : Sem Flow)))
  exact Sem.wrap_congr _ _ _ (fun f => by cases f <;> rfl) fun _ => rfl
end
end GF

/-! A generator's code in contexts that are laid anew at each waking. -/
namespace GF
open PySem PySem.Spec PyProof.Rows L2 GenW

/-- the objects below n -/
def trunc (h : Heap) (n : Nat) : Heap := ⟨h.objs.extract 0 n, h.life⟩
theorem trunc_lt {h : Heap} {n b : Nat} (hb : b < n) : (trunc h n).get? b = h.get? b := by
  have e : (h.objs.extract 0 n)[b]? = h.objs[b]? := by
    rw [Array.getElem?_extract]
    by_cases hz : b < h.objs.size
    · rw [if_pos (by omega)]; simp
    · rw [if_neg (by omega)]
      exact (Array.getElem?_eq_none (by omega)).symm
  unfold trunc Heap.get?
  dsimp only
  rw [e]
theorem trunc_of {h : Heap} {n b : Nat} {o : Obj} (e : (trunc h n).get? b = some o) : b < n ∧ h.get? b = some o := by
  have hb : b < n := by
    have q := Heap.lt_size e
    have z : (trunc h n).objs.size ≤ n := by
      show (h.objs.extract 0 n).size ≤ n
      simp; omega
    exact Nat.lt_of_lt_of_le q z
  exact ⟨hb, by rw [← trunc_lt hb]; exact e⟩
theorem trunc_size {h : Heap} {n : Nat} (hn : n ≤ h.objs.size) : (trunc h n).objs.size = n := by
  show (h.objs.extract 0 n).size = n
  simp; omega
/-- where a generator's code runs: its frame, the around in which it is woken, the frames around it -/
structure GE where
  P : Program
  w : World
  K : PySem.W.Frag
  mg : Str → Option Value
  base : Heap
  N : List Str
  env : Env
  Aw : Around
  outer : List Env
  own : List (Addr × Obj)
abbrev GE.gl (G : GE) : Addr := G.env.locals
structure GSt (G : GE) : Prop where
  mod : Mod G.K G.mg G.base
  kind : G.env.scope.kind = .function
  glob : G.env.globals = mainGlobals
  blt : G.env.builtins = builtinsNs
  cells : G.env.cells = []
  nocell : ∀ x, G.env.kindOf x ≠ some .cell ∧ G.env.kindOf x ≠ some .free
  frame : G.env.frame = some G.env.locals
  bsz : G.base.objs.size ≤ G.env.locals
  out : ∀ b ∈ frs G.outer, b < G.env.locals
  hd : G.Aw.handled = none
  frames : G.Aw.frames = some G.outer
  own : ∀ p ∈ G.own, p.1 ≠ G.gl ∧ p.1 ∉ frs G.outer ∧ ∀ v, p.2.data ≠ .cell v
/-- the context of a stretch: woken at sr, the abstract heap Hr -/
def gx (G : GE) (sr : Shared) (Hr : Hp) : Cx where
  prog := G.P
  w := G.w
  K := G.K
  mg := G.mg
  base := G.base
  A := G.Aw.deeper G.env
  N := G.N
  s_0 := { sr with heap := trunc sr.heap G.env.locals }
  H_0 := Hr
  env := G.env
  outer := G.outer
  stack := G.env :: G.outer
  ex := []
  calm := true
  fn := fun _ => true
  pn := G.own
  xe := fun _ _ => False
theorem funs_trunc {h base : Heap} {n : Nat} : ∀ {l : List Env}, (∀ b ∈ frs l, b < n) → h.FunFrames base l → (trunc h n).FunFrames base l
  | [], _, _ => trivial
  | env :: r, hb, ⟨hk, ⟨L, o, hf, hn, ho, hd⟩, hr⟩ => by
    have e : frs (env :: r) = L :: frs r := by
      unfold frs
      rw [List.filterMap_cons, hf]
    rw [e] at hb
    exact ⟨hk, ⟨L, o, hf, hn, by rw [trunc_lt (hb L List.mem_cons_self)]; exact ho, hd⟩, funs_trunc (fun b z => hb b (List.mem_cons_of_mem _ z)) hr⟩
section
variable {G : GE} {sr : Shared} {Hr : Hp}
theorem gx_ok (S : GSt G) (e0 : Env0 G.P G.w G.K G.mg G.base G.Aw G.outer sr Hr) (hg : G.gl < sr.heap.objs.size) : (gx G sr Hr).Ok where
  mod := S.mod
  kind := S.kind
  glob := S.glob
  blt := S.blt
  above := Nat.le_of_eq (trunc_size (Nat.le_of_lt hg))
  inj := fun x y c h _ => by
    have h1 : G.env.cells.lookup x = some c := h
    rw [S.cells] at h1
    cases h1
  has := fun x h => h.elim (fun z => absurd z (S.nocell x).1) fun z => absurd z (S.nocell x).2
  cab := fun x c _ h => by
    have h1 : G.env.cells.lookup x = some c := h
    rw [S.cells] at h1
    cases h1
  hd := fun _ => S.hd
  frames := Around.frames_deeper S.frames
  stk := .inr ⟨rfl, S.frame⟩
  exf := fun b z => nomatch z
  bs := fun b o e => by
    obtain ⟨h1, h2⟩ := e0.bs b o e
    refine ⟨?_, h2⟩
    show (trunc sr.heap G.gl).get? b = some o
    rw [trunc_lt (Nat.lt_of_lt_of_le (Heap.lt_size e) S.bsz)]
    exact h1
  bsz := by
    show _ ≤ (trunc sr.heap G.gl).objs.size
    rw [trunc_size (Nat.le_of_lt hg)]
    exact S.bsz
  noex := fun _ _ _ z => nomatch z
  exfs := fun _ z => nomatch z
  funs := funs_trunc S.out e0.funs
  frf := e0.frf
/-- what the frame's object tells of the slots -/
def LocO (G : GE) (σ : L2.St) (og : Obj) : Prop := ∀ h : Heap, h.get? G.gl = some og → ∃ m, h.Ns G.gl m ∧
  ∀ (i : Nat) (x : Str) (v : V), G.N[i]? = some x → σ[i]? = some (some v) → Vis G.env.scope x → ∃ u, RelV v u ∧ G.env.kindOf x = some .local ∧ m x = some u
/-- a generator that sleeps: its slots, its frame's object, its own records -/
structure Slp (G : GE) (ip : List (Addr × Obj)) (σ : L2.St) (og : Obj) : Prop where
  loc : LocO G σ og
  len : σ.length = G.N.length
  pins : ∀ p ∈ ip, p.1 ≠ G.gl ∧ p.1 ∉ frs G.outer ∧ ∀ v, p.2.data ≠ .cell v
/-- .. and nobody has touched it: it may be woken -/
structure Wake (G : GE) (ip : List (Addr × Obj)) (og : Obj) (s : Shared) (H : Hp) : Prop where
  e0 : Env0 G.P G.w G.K G.mg G.base G.Aw G.outer s H
  fr : s.heap.get? G.gl = some og ∧ H G.gl = none
  pins : ∀ p ∈ ip, s.heap.get? p.1 = some p.2 ∧ H p.1 = none
  own : ∀ p ∈ G.own, s.heap.get? p.1 = some p.2 ∧ H p.1 = none
theorem gx_inv {ip : List (Addr × Obj)} {σ : L2.St} {og : Obj} (S : GSt G) (z : Slp G ip σ og) (k : Wake G ip og sr Hr) : Inv (gx G sr Hr) ip σ Hr sr where
  ok := gx_ok S k.e0 (Heap.lt_size k.fr.1)
  os := rfl
  bare := k.e0.bare
  base := Un.kept fun b o e => (trunc_of e).2
  loc := by
    obtain ⟨m, hn, h⟩ := z.loc sr.heap k.fr.1
    refine ⟨m, hn, fun i x v h1 h2 h3 => ?_⟩
    obtain ⟨u, r, q1, q2⟩ := h i x v h1 h2 h3
    exact ⟨u, r, .inl ⟨q1, q2⟩⟩
  cell := fun x c h => by
    have h1 : G.env.cells.lookup x = some c := h
    rw [S.cells] at h1
    cases h1
  free := k.fr.2
  freeC := fun x c h => by
    have h1 : G.env.cells.lookup x = some c := h
    rw [S.cells] at h1
    cases h1
  pin := fun p hp => by
    rcases List.mem_append.mp hp with hp | hp
    · exact ⟨(k.own p hp).1, (k.own p hp).2, S.own p hp⟩
    · exact ⟨(k.pins p hp).1, (k.pins p hp).2, z.pins p hp⟩
  hok := k.e0.hok
  len := z.len
/-- what a stretch leaves to who woke it -/
structure Out (G : GE) (sr : Shared) (Hr : Hp) (s : Shared) (H : Hp) : Prop where
  os : s.os = sr.os
  bare : AllBare s.gens
  un : Un (frs G.outer) [] Hr H (trunc sr.heap G.gl) s.heap
  hok : HOk G.P G.w H s.heap
theorem gx_out {ip : List (Addr × Obj)} {σ : L2.St} {s : Shared} {H : Hp} (S : GSt G) (I : Inv (gx G sr Hr) ip σ H s) :
    Out G sr Hr s H ∧ ∃ og, Slp G ip σ og ∧ s.heap.get? G.gl = some og ∧ H G.gl = none ∧ (∀ p ∈ ip, s.heap.get? p.1 = some p.2 ∧ H p.1 = none) ∧ ∀ p ∈ G.own, s.heap.get? p.1 = some p.2 ∧ H p.1 = none := by
  refine ⟨⟨I.os, I.bare, I.base, I.hok⟩, ?_⟩
  obtain ⟨m, hn, hl⟩ := id I.loc
  obtain ⟨o, es, ep, ho, r1, r2, r3⟩ := id hn
  have hp : ∀ p ∈ ip, p ∈ (gx G sr Hr).pn ++ ip := fun p z => List.mem_append_right _ z
  refine ⟨o, ⟨fun h e => ⟨m, ⟨o, es, ep, e, r1, r2, r3⟩, fun i x v h1 h2 h3 => ?_⟩, I.len, fun p z => ⟨(I.pin p (hp p z)).2.2.1, (I.pin p (hp p z)).2.2.2.1, (I.pin p (hp p z)).2.2.2.2⟩⟩,
    ho, I.free, fun p z => ⟨(I.pin p (hp p z)).1, (I.pin p (hp p z)).2.1⟩, fun p z => ⟨(I.pin p (List.mem_append_left _ z)).1, (I.pin p (List.mem_append_left _ z)).2.1⟩⟩
  obtain ⟨u, r, l⟩ := hl i x v h1 h2 h3
  rcases l with l | ⟨z, _⟩
  · exact ⟨u, r, l.1, l.2⟩
  · exact z.elim (fun z => absurd z (S.nocell x).1) fun z => absurd z (S.nocell x).2
end

/-! ### what is wanted -/
/-- Hr: the abstract heap at the last waking; the list: what is out so far -/
structure GD where
  nx : Hp → List V → L2.St → Hp → Prop
  bk : Hp → List V → L2.St → Hp → Prop := fun _ _ _ _ => False
  ct : Hp → List V → L2.St → Hp → Prop := fun _ _ _ _ => False
/-- a stretch's end: at most n items more; Gd: what who wakes it keeps true of the heap; yl: what is told of an item; fin: of the end -/
def Ph (G : GE) (Gd : Hp → Prop) (yl : Hp → List V → V → Hp → Prop) (fin : Hp → List V → Hp → Prop) : Nat → Shared → Hp → List V → End → Shared → Prop
  | n, sr, Hr, ys, .ret r, s => r = .ok (.ret .none) ∧ ∃ H, Out G sr Hr s H ∧ fin Hr ys H
  | 0, sr, Hr, ys, .susp _ _ _ _ _ _ _, s => False
  | n + 1, sr, Hr, ys, .susp v g l k c p fs, s => (End.susp v g l k c p fs).quiet = true ∧ ∃ x H ip σ og, RelV x v ∧ Out G sr Hr s H ∧ yl Hr ys x H ∧ Slp G ip σ og ∧ s.heap.get? G.gl = some og ∧ H G.gl = none ∧
      (∀ q ∈ ip, s.heap.get? q.1 = some q.2 ∧ H q.1 = none) ∧ (∀ q ∈ G.own, s.heap.get? q.1 = some q.2 ∧ H q.1 = none) ∧ (∀ q ∈ ip, G.gl ≤ q.1) ∧ ∀ s2 H2, Wake G ip og s2 H2 → Gd H2 → Seg1 (model G.P G.w) G.Aw (Ph G Gd yl fin n s2 H2 (ys ++ [x])) c (k (.send .none)) fs s2
/-- where the code stands -/
structure At (G : GE) (c : Code) (fs : List Frame) (gd : Bool → Bool) : Prop where
  over : G.Aw.over c fs = G.Aw.deeper G.env
  split : splitAtGen fs = none
  guard : fs.any Frame.guarded = false
  gd : gd false = false
def GP (G : GE) (ip : List (Addr × Obj)) (D : GD) (sr : Shared) (Hr : Hp) (ys : List V) (f : Flow) (s : Shared) : Prop :=
  match f with
  | .next => ∃ σ H, Inv (gx G sr Hr) ip σ H s ∧ D.nx Hr ys σ H
  | .brk => ∃ σ H, Inv (gx G sr Hr) ip σ H s ∧ D.bk Hr ys σ H
  | .cont => ∃ σ H, Inv (gx G sr Hr) ip σ H s ∧ D.ct Hr ys σ H
  | .ret _ => False
/-- a reading: what is told of items and of what the waker keeps stands in yl, Gd -/
abbrev TY := GD → Hp → List V → Nat → L2.St → Hp → Prop
/-- the whole wish of a generator -/
structure GW where
  Gd : Hp → Prop
  yl : Hp → List V → V → Hp → Prop
  fin : Hp → List V → Hp → Prop
abbrev GW.ph (U : GW) (G : GE) : Nat → Shared → Hp → List V → End → Shared → Prop := Ph G U.Gd U.yl U.fin
def Go (G : GE) (U : GW) (b : Nat) (c : Code) (fs : List Frame) (ip : List (Addr × Obj)) (D : GD) (Kf : Flow → Sem PySem.Fin) : Prop :=
  ∀ (n : Nat) (ys : List V) (sr : Shared) (Hr : Hp) (s : Shared) (f : Flow), n + ys.length = b → G.gl < sr.heap.objs.size → GP G ip D sr Hr ys f s → Seg1 (model G.P G.w) G.Aw (U.ph G n sr Hr ys) c (Kf f) fs s
structure GS1 (G : GE) (st : Stmt) (t : GW → TY) : Prop where
  run : ∀ (U : GW) (b n : Nat) (ys : List V) (sr : Shared) (Hr : Hp) (c : Code) (fs : List Frame) (Kf : Flow → Sem PySem.Fin) (J : Value → Sem PySem.Fin) (gd : Bool → Bool) (lv : List Value → List Value) (ip : List (Addr × Obj)) (s : Shared) (σ : L2.St) (H : Hp) (D : GD),
    At G c fs gd → n + ys.length = b → G.gl < sr.heap.objs.size → (∀ q ∈ ip, G.gl ≤ q.1) → Go G U b c fs ip D Kf → Inv (gx G sr Hr) ip σ H s → t U D Hr ys b σ H → Seg1 (model G.P G.w) G.Aw (U.ph G n sr Hr ys) c ((exec st G.env).wrap Kf J gd lv) fs s
structure GSs1 (G : GE) (st : List Stmt) (t : GW → TY) : Prop where
  run : ∀ (U : GW) (b n : Nat) (ys : List V) (sr : Shared) (Hr : Hp) (c : Code) (fs : List Frame) (Kf : Flow → Sem PySem.Fin) (J : Value → Sem PySem.Fin) (gd : Bool → Bool) (lv : List Value → List Value) (ip : List (Addr × Obj)) (s : Shared) (σ : L2.St) (H : Hp) (D : GD),
    At G c fs gd → n + ys.length = b → G.gl < sr.heap.objs.size → (∀ q ∈ ip, G.gl ≤ q.1) → Go G U b c fs ip D Kf → Inv (gx G sr Hr) ip σ H s → t U D Hr ys b σ H → Seg1 (model G.P G.w) G.Aw (U.ph G n sr Hr ys) c ((execs st G.env).wrap Kf J gd lv) fs s

section
variable {G : GE} {st : Stmt} {rest : List Stmt}
def GD.at (D : GD) (Hr : Hp) (ys : List V) : Ends := { nx := D.nx Hr ys, rt := fun _ _ => False, bk := D.bk Hr ys, ct := D.ct Hr ys }
/-- a statement that hands out nothing -/
def tPl (t : TS) : GW → TY := fun _ D Hr ys _ σ H => t (D.at Hr ys) σ H
theorem g1_plain {t : TS} (h : ∀ sr Hr, PS (gx G sr Hr) st t) : GS1 G st (tPl t) := by
  refine ⟨fun U b n ys sr Hr c fs Kf J gd lv ip s σ H D a hn hz hge k I ht => ?_⟩
  refine s1_wrap ?_
  rw [a.over]
  refine wpAny_mono ((h sr Hr).run _ s σ H (D.at Hr ys) I ht) (fun f s' z => k n ys sr Hr s' f hn hz ?_) fun _ _ z => z.elim
  cases f with
  | next => exact z
  | brk => exact z
  | cont => exact z
  | ret u =>
    obtain ⟨_, _, _, _, _, q⟩ := z
    exact q
def tN1 : GW → TY := fun _ D Hr ys _ σ H => D.nx Hr ys σ H
theorem g1_nil : GSs1 G [] tN1 := ⟨fun U b n ys sr Hr c fs Kf J gd lv ip s σ H D a hn hz hge k I ht => s1_nil (k n ys sr Hr s .next hn hz ⟨σ, H, I, ht⟩)⟩
def tSq (t u : GW → TY) : GW → TY := fun U D Hr ys b σ H => t U { D with nx := fun Hr' ys' σ' H' => u U D Hr' ys' b σ' H' } Hr ys b σ H
theorem g1_cons {t u : GW → TY} (x : GS1 G st t) (y : GSs1 G rest u) : GSs1 G (st :: rest) (tSq t u) := by
  refine ⟨fun U b n ys sr Hr c fs Kf J gd lv ip s σ H D a hn hz hge k I ht => s1_cons ?_⟩
  refine x.run U b n ys sr Hr c fs _ J gd lv ip s σ H _ a hn hz hge (fun n' ys' sr' Hr' s' f hn' hz' z => ?_) I ht
  cases f with
  | next =>
    obtain ⟨σ', H', I', q⟩ := z
    exact y.run U b n' ys' sr' Hr' c fs Kf J gd lv ip s' σ' H' D a hn' hz' hge k I' q
  | brk => exact k n' ys' sr' Hr' s' .brk hn' hz' z
  | cont => exact k n' ys' sr' Hr' s' .cont hn' hz' z
  | ret u => exact z.elim
/-- yield e -/
def tYd (te : TE) : GW → TY := fun U D Hr ys b σ H => ys.length < b ∧ te σ H fun x H1 => U.yl Hr ys x H1 ∧ ∀ H2, U.Gd H2 → D.nx H2 (ys ++ [x]) σ H2
theorem g1_yield {e : Expr} {yp pos : Pos} {te : TE} (S : GSt G) (he : ∀ sr Hr, PE (gx G sr Hr) e te) (hco : G.env.scope.isCoroutine = false := by rfl) (hi : interactive G.env = false := by rfl) : GS1 G (.Expr (.Yield (some e) yp) pos) (tYd te) := by
  refine ⟨fun U b n ys sr Hr c fs Kf J gd lv ip s σ H D a hn hz hge k I ht => ?_⟩
  obtain ⟨hlt, ht⟩ := ht
  obtain ⟨n, rfl⟩ : ∃ m, n = m + 1 := ⟨n - 1, by omega⟩
  refine s1_yield a.split a.gd ?_ hco hi
  rw [a.over]
  refine wpAny_mono ((he sr Hr).run _ s σ H _ I ht) (fun v s' z l kk p hk => ?_) fun _ _ z => z
  obtain ⟨x, H1, I1, rv, hy, q⟩ := z
  obtain ⟨ho, og, hs, hog, hgn, hpi, how⟩ := gx_out S I1
  refine ⟨?_, x, H1, ip, σ, og, rv, ho, hy, hs, hog, hgn, hpi, how, hge, fun s2 H2 wk hg => ?_⟩
  · show (!(false || fs.any Frame.guarded)) = true
    rw [a.guard]
    rfl
  · rw [hk]
    refine k n (ys ++ [x]) s2 H2 s2 .next ?_ (Heap.lt_size wk.fr.1) ⟨σ, H2, gx_inv S hs wk, q H2 hg⟩
    rw [List.length_append, List.length_singleton]
    omega
/-- for target in iter: body -/
def tFr (wi : TI) (g : L2.TG) (tb : GW → TY) : GW → TY := fun U D Hr ys b σ H => wi σ H fun I H1 => ∃ W : Nat → Nat → Hp → List V → L2.St → Hp → Prop, (∃ m, W 0 m Hr ys σ H1) ∧ ∀ i m Hr ys σ H, W i m Hr ys σ H →
  (I.stop i H ∧ D.nx Hr ys σ H) ∨ (I.go i H ∧ ∃ N : Hp → List V → L2.St → Hp → Prop, (∀ Hr' ys' σ' H', N Hr' ys' σ' H' → ∃ m', m' < m ∧ W (i + 1) m' Hr' ys' σ' H') ∧
    ∀ x H', I.yld i H x H' → g x σ H' fun σ2 H2 => tb U { nx := N, ct := N, bk := D.nx } Hr ys b σ2 H2)
theorem at_loop {c d : Code} {fs : List Frame} {gd : Bool → Bool} {k : Result → Sem PySem.Fin} {l kp : List Value} {p : Pos} (a : At G c fs gd) (hw : d.weight = 0) (hu : d.cUnits = 0) : At G d (.ret k none (gd false) l c p kp :: fs) id where
  over := (over_loop hw hu).trans a.over
  split := by rw [splitAtGen_ret, a.split]; rfl
  guard := by
    show (gd false || fs.any Frame.guarded) = false
    rw [a.gd, a.guard]; rfl
  gd := rfl
/-- the iterator's records stand well in every stretch's context -/
theorem fpOk_move {sr sr' : Shared} {Hr Hr' H H' : Hp} {ip : List (Addr × Obj)} {b : Addr} (h1 : G.gl < sr.heap.objs.size) (h2 : G.gl < sr'.heap.objs.size) (x : FpOk (gx G sr Hr) ip H b) (hn : H' b = none) : FpOk (gx G sr' Hr') ip H' b := by
  obtain ⟨_, x1, x2, x3, x4, x5⟩ := x
  refine ⟨hn, x1, x2, .inr ?_, x4, x5⟩
  rcases x3 with z | z
  · exact nomatch z
  · have z1 : (trunc sr.heap G.gl).objs.size ≤ b := z
    show (trunc sr'.heap G.gl).objs.size ≤ b
    rw [trunc_size (Nat.le_of_lt h1)] at z1
    rw [trunc_size (Nat.le_of_lt h2)]
    exact z1
theorem g1_for {tg iter : Expr} {body : List Stmt} {pos : Pos} {wi : TI} {g : L2.TG} {tb : GW → TY} (S : GSt G) (hi : ∀ sr Hr, PI (gx G sr Hr) tg iter wi) (hg : ∀ sr Hr, PG (gx G sr Hr) tg g) (hb : GSs1 G body tb)
    (hs : ∀ x, foldedSetIterable iter G.env x = pure x := by intro _; rfl) : GS1 G (.For tg iter body [] pos) (tFr wi g tb) := by
  refine ⟨fun U b n ys sr Hr c fs Kf J gd lv ip s σ H D a hn hz hge k I ht => ?_⟩
  refine s1_For ?_ hs
  rw [a.over]
  refine wpAny_mono ((hi sr Hr).run _ s σ H _ I ht) (fun v s1 h1 => wpAny_mono h1 (fun itv s2 h2 p => ?_) fun _ _ z => z) fun _ _ z => z
  obtain ⟨it, fp, tn, T0, H2, e, I2, T, st2, f2, W, ⟨m0, w0⟩, turn⟩ := h2
  subst e
  have al := fun (kk : Result → Sem PySem.Fin) => at_loop (k := kk) (d := .forLoop tg (.ref it) body [] G.env) (l := lv []) (kp := []) (p := p) a rfl rfl
  have loop : ∀ (m i n : Nat) (ys : List V) (sr' : Shared) (Hr' : Hp) (s : Shared) (σ : L2.St) (H : Hp), n + ys.length = b → G.gl < sr'.heap.objs.size → W i m Hr' ys σ H → Inv (gx G sr' Hr') ip σ H s → tn i s.heap → (∀ q ∈ fp, FpOk (gx G sr' Hr') ip H q) →
      Seg1 (model G.P G.w) G.Aw (U.ph G n sr' Hr' ys) (.forLoop tg (.ref it) body [] G.env) ((model G.P G.w).den (.forLoop tg (.ref it) body [] G.env)) (.ret (kf G.env Kf J gd lv) none (gd false) (lv []) c p [] :: fs) s := by
    intro m
    induction m using Nat.strongRecOn with
    | ind m ih =>
      intro i n ys sr' Hr' s σ H hn hz' w0 I st fo
      refine s1_forLoop ?_
      rw [(al _).over]
      rcases turn i m Hr' ys σ H w0 with ⟨stop, qn⟩ | ⟨go, N, hN, step⟩
      · refine wpAny_mono (T.done (gx G sr' Hr') rfl rfl rfl rfl i ip s σ H _ I fo st stop) (fun r s4 z => ?_) fun _ _ z => z
        obtain ⟨hr, I4⟩ := z
        subst hr
        refine s1_again rfl ?_
        show Seg1 _ _ _ _ (leafOf (.ok .next)) _ _
        refine s1_leaf _ ?_
        exact k n ys sr' Hr' s4 .next hn hz' ⟨σ, H, I4, qn⟩
      · refine wpAny_mono (T.item (gx G sr' Hr') rfl rfl rfl rfl i ip s σ H _ I fo st go) (fun r s4 z => ?_) fun _ _ z => z
        obtain ⟨u, hr, h4⟩ := z
        subst hr
        refine wpAny_mono h4 (fun _ s5 z => ?_) fun _ _ z => z
        obtain ⟨x, H5, I5, r5, y5, st5, fr5⟩ := z
        have fo5 : ∀ q ∈ fp, FpOk (gx G sr' Hr') ip H5 q := fun q hq => fpOk_move hz' hz' (fo q hq) (fr5 q hq)
        have J5 := I5.pinned fo5 (T.obj _ _ st5)
        refine wpAny_mono ((hg sr' Hr').run _ s5 σ H5 x u _ J5 r5 (step x H5 y5)) (fun _ s6 z JJ => ?_) fun _ _ z => z
        obtain ⟨σ6, H6, I6, q6⟩ := z
        have again : ∀ (n' : Nat) (ys' : List V) (sr2 : Shared) (Hr2 : Hp) (s7 : Shared) (σ7 : L2.St) (H7 : Hp), n' + ys'.length = b → G.gl < sr2.heap.objs.size → Inv (gx G sr2 Hr2) (ip ++ pinsAt fp s5.heap) σ7 H7 s7 → N Hr2 ys' σ7 H7 →
            Seg1 (model G.P G.w) G.Aw (U.ph G n' sr2 Hr2 ys') (.forLoop tg (.ref it) body [] G.env) (.pure (.again (.forLoop tg (.ref it) body [] G.env))) (.ret (kf G.env Kf J gd lv) none (gd false) (lv []) c p [] :: fs) s7 := by
          intro n' ys' sr2 Hr2 s7 σ7 H7 hn' hz2 I7 n7
          obtain ⟨m', hm, w7⟩ := hN Hr2 ys' σ7 H7 n7
          have pin7 : ∀ q ∈ fp, ∀ o, s5.heap.get? q = some o → s7.heap.get? q = some o ∧ H7 q = none := fun q hq o e => by
            have z := I7.pin (q, o) (List.mem_append_right _ (List.mem_append_right _ (mem_pinsAt hq e)))
            exact ⟨z.1, z.2.1⟩
          refine s1_again rfl (ih m' hm (i + 1) n' ys' sr2 Hr2 s7 σ7 H7 hn' hz2 w7 I7.unpinned (T.keep _ _ _ st5 fun q hq o e => (pin7 q hq o e).1) fun q hq => ?_)
          obtain ⟨o, e, _⟩ := T.obj _ _ st5 q hq
          exact fpOk_move hz' hz2 (fo5 q hq) (pin7 q hq o e).2
        have hge2 : ∀ q ∈ ip ++ pinsAt fp s5.heap, G.gl ≤ q.1 := fun q hq => by
          rcases List.mem_append.mp hq with hq | hq
          · exact hge q hq
          · obtain ⟨q1, _⟩ := of_pinsAt hq
            rcases (fo q.1 q1).2.2.2.1 with z | z
            · exact nomatch z
            · have z1 : (trunc sr'.heap G.gl).objs.size ≤ q.1 := z
              rw [trunc_size (Nat.le_of_lt hz')] at z1
              exact z1
        refine hb.run U b n ys sr' Hr' _ _ _ _ id id _ s6 σ6 H6 { nx := N, ct := N, bk := D.nx } (al _) hn hz' hge2 (fun n' ys' sr2 Hr2 s7 f hn' hz2 z => ?_) I6 q6
        cases f with
        | next =>
          obtain ⟨σ7, H7, I7, n7⟩ := z
          exact again n' ys' sr2 Hr2 s7 σ7 H7 hn' hz2 I7 n7
        | cont =>
          obtain ⟨σ7, H7, I7, n7⟩ := z
          exact again n' ys' sr2 Hr2 s7 σ7 H7 hn' hz2 I7 n7
        | brk =>
          obtain ⟨σ7, H7, I7, n7⟩ := z
          refine s1_leaf (.ok .next) ?_
          exact k n' ys' sr2 Hr2 s7 .next hn' hz2 ⟨σ7, H7, I7.unpinned, n7⟩
        | ret v => exact z.elim
  exact loop m0 0 n ys sr Hr s2 σ H2 hn hz w0 I2 st2 f2
end
end GF

/-! A for over a generator def's call. -/
namespace GF
open PySem PySem.Spec PyProof.Rows L2 GenW

/-! ### a generator is woken -/
def wakes (M : Model) (A : Around) (Φ : End → Shared → Prop) (gs : GenState) (s : Shared) : Prop := match gs with
  | .fresh c => Seg1 M A Φ c (M.den c) [] s
  | .suspended k _ c _ fs _ => Seg1 M A Φ c (k (.send .none)) fs s
  | _ => False
theorem s1_resume {M : Model} {A : Around} {Φ : End → Shared → Prop} {E : Value → Shared → Prop} {s : Shared} {g : Nat} {gs : GenState} {l : List Value} {α : Type} {k : GenResult → Sem α} {Q : α → Shared → Prop} (hg : s.gens[g]? = some gs)
    (hgo : wakes M A Φ gs (s.setGen g .running)) (hq : ∀ e s1, Φ e s1 → e.quiet = true) (hQ : ∀ e s1, Φ e s1 → wpAny M A (k e.result) Q E (s1.setGen g e.genState)) : wpAny M A (.resume g (.send .none) l k) Q E s := by
  intro Γ p hΓ
  rw [Sem.wp_resume]
  cases gs with
  | fresh c =>
    obtain ⟨e, s1, hr, hf⟩ := hgo (Γ.wake c p) p rfl (hΓ.wake c p)
    refine ⟨e.result, s1.setGen g e.genState, ?_, hQ e s1 hf Γ p hΓ⟩
    unfold Wakes; rw [hg]
    exact ⟨e, s1, hr, hq e s1 hf, rfl, rfl⟩
  | suspended k0 l0 c0 p0 fs0 cl =>
    obtain ⟨e, s1, hr, hf⟩ := hgo (Γ.wake c0 p) p0 rfl (hΓ.wake c0 p)
    refine ⟨e.result, s1.setGen g e.genState, ?_, hQ e s1 hf Γ p hΓ⟩
    unfold Wakes; rw [hg]
    exact ⟨e, s1, hr, hq e s1 hf, rfl, rfl⟩
  | running => exact hgo.elim
  | finished => exact hgo.elim
theorem next_gen {P : Program} {w : World} {A : Around} {E : Value → Shared → Prop} {s : Shared} {a : Addr} {g : Nat} {gs : GenState} {Φ : End → Shared → Prop} {Q : Option Value → Shared → Prop} (hh : A.handled = none) (hl : s.heap.NoLimit)
    (hroom : A.depth < recursionLimit) (hg : s.heap.IsGen a g) (hgs : s.gens[g]? = some gs) (hgo : wakes (model P w) A.in1 Φ gs (s.setGen g .running)) (hq : ∀ e s1, Φ e s1 → e.quiet = true) (hret : ∀ r s1, Φ (.ret r) s1 → r = .ok (.ret .none))
    (hY : ∀ v g0 l k c p fs s1, Φ (.susp v g0 l k c p fs) s1 → Q (some v) (s1.setGen g (End.susp v g0 l k c p fs).genState))
    (hP : ∀ s1, Φ (.ret (.ok (.ret .none))) s1 → ∀ h', (∀ b o, s1.heap.get? b = some o → h'.get? b = some o) → Q none { s1.setGen g .finished with heap := h' }) : wpAny (model P w) A (pyNext (.ref a)) Q E s := by
  unfold pyNext
  refine wpAny_bind (wpAny_attempt ?_)
  refine wpAny_callSpecial?_slot (name := Str.ofString "__next__") hg.typeIs slot_gen_next ?_
  refine wpAny_call_entry slot_gen_next hg.typeIs entry_gen_next ?_ (args_gen_next _)
  show wpAny _ A.in1 (Builtin.Generator.genWake (.ref a) (.send .none)) _ _ s
  unfold Builtin.Generator.genWake
  refine wpAny_bind (wpAny_holding (wpAny_genNumber hg ?_))
  refine wpAny_bind (wpAny_genState hgs ?_)
  cases gs with
  | running => exact hgo.elim
  | finished => exact hgo.elim
  | _ =>
    refine wpAny_bind (wpAny_roomToWake hl hroom ?_)
    show wpAny _ A.in1 (.resume g (.send .none) [] _) _ _ s
    refine s1_resume hgs hgo hq fun e s1 hf => ?_
    cases e with
    | ret r =>
      have er := hret r s1 hf
      subst er
      show wpAny _ A.in1 (newExc (.type "StopIteration") [] >>= _) _ _ _
      refine wpAny_bind ?_
      simp only [newExc, newTuple]
      refine wpAny_bind (wpAny_newObj_type ?_ (by size_fits))
      refine wpAny_bind (m := firstArgMember _ _) ?_
      refine wpAny_of_eq (a := Value.none) (by first | rfl | (simp only [firstArgMember]; rfl)) ?_
      refine wpAny_newObj_type ?_ (by size_fits)
      simp only [raiseNew]
      refine wpAny_bind (wpAny_bind (wpAny_handled ?_))
      rw [show A.in1.handled = none from hh]
      refine wpAny_throw ?_
      refine wpAny_bind ?_
      refine wpAny_isInstance (T := "StopIteration") (b := true) ⟨_, Heap.get?_push_size _ rfl, rfl⟩ isSubtype_stop ?_
      exact wpAny_pure (hP s1 hf _ fun b o hb => Heap.get?_push_of_some _ (Heap.get?_push_of_some _ hb))
    | susp v g0 l k c p fs =>
      exact wpAny_pure ⟨v, rfl, wpAny_pure (hY v g0 l k c p fs s1 hf)⟩

/-! ### who walks it -/
section
variable {X : Cx} {pins : List (Addr × Obj)} {σ : L2.St} {H H' : Hp} {s s1 : Shared}
theorem inv_wg (I : Inv X pins σ H s) {g : Array GenState} (h : AllBare g) : Inv X pins σ H (wg s g) :=
  ⟨I.ok, I.os, h, I.base, I.loc, I.cell, I.free, I.freeC, I.pin, I.hok, I.len⟩
theorem inv_back {n : Nat} (I : Inv X pins σ H s) (hL : X.env.locals < n) (hc : ∀ x c, X.env.cells.lookup x = some c → c < n) (hp : ∀ p ∈ X.pn ++ pins, p.1 < n) (u : Un (frs X.stack) [] H H' (trunc s.heap n) s1.heap) (hok : HOk X.prog X.w H' s1.heap)
    (hb : AllBare s1.gens) (ho : s1.os = s.os) : Inv X pins σ H' s1 := by
  obtain ⟨h', g', d', t', os'⟩ := s1
  have ho' : os' = s.os := ho
  subst ho'
  have cut : ∀ b o, b ∉ (List.range s.heap.objs.size).filter (fun b => decide (n ≤ b)) → s.heap.get? b = some o → (trunc s.heap n).get? b = some o := fun b o hb e => by
    by_cases hz : b < n
    · rw [trunc_lt hz]; exact e
    · exact absurd (List.mem_filter.mpr ⟨List.mem_range.mpr (Heap.lt_size e), decide_eq_true (Nat.le_of_not_lt hz)⟩) hb
  obtain ⟨m, ⟨o, es, ep, hob, r⟩, _⟩ := id I.loc
  have hob' : (trunc s.heap n).get? X.env.locals = some o := by rw [trunc_lt hL]; exact hob
  obtain ⟨sl, hsl⟩ := u.any hob' I.free (by simp)
  refine I.step (ch := (List.range s.heap.objs.size).filter fun b => decide (n ≤ b)) (fun b hb => ?_) (fun b ob h1 h2 h3 e nn => ?_) (fun b ob h1 h2 h3 e nn => ?_) (fun b ob h3 e nn => u.free b ob (cut b ob h3 e) nn (by simp)) (fun b ob h3 e => u.there b ob (cut b ob h3 e) (by simp))
    u.tups u.frzs u.tbls (fun m' hm => ?_) hok hb
  · have hn : n ≤ b := of_decide_eq_true (List.mem_filter.mp hb).2
    refine ⟨.inr ?_, fun z => ?_, fun x c e z => ?_, fun p hp' z => ?_⟩
    · exact Nat.le_of_lt (Nat.lt_of_le_of_lt I.ok.above (Nat.lt_of_lt_of_le hL hn))
    · rw [z] at hn; exact absurd (Nat.lt_of_lt_of_le hL hn) (Nat.lt_irrefl _)
    · have := hc x c e
      rw [z] at this; exact absurd (Nat.lt_of_lt_of_le this hn) (Nat.lt_irrefl _)
    · have := hp p hp'
      rw [z] at this; exact absurd (Nat.lt_of_lt_of_le this hn) (Nat.lt_irrefl _)
  · refine u.keep b ob (cut b ob h3 e) nn (fun z => ?_) (by simp)
    exact (List.mem_cons.mp (I.stkSub b z)).elim h1 h2
  · exact u.any (cut b ob h3 e) nn (by simp)
  · obtain ⟨o', es', ep', ho', r'⟩ := hm
    rw [hob] at ho'; cases ho'
    exact ⟨_, es', ep', hsl, r'⟩
/-- an exception's wish asks no more of the generators than that they are bare -/
theorem xe_wg {W : WX} {E : Value → Shared → Prop} {u : Value} {g : Array GenState} (h : XE (X.wish E) W u s) (hg : AllBare g) : XE X W u (wg s g) := by
  obtain ⟨a, B, sI, pn, σ, H, cls, d, e, I, nb, up, sky, na, os, ag, hw⟩ := h
  exact ⟨a, B, sI, pn, σ, H, cls, d, e, I.unwish, nb, up, sky, na, os, hg, hw⟩
end
end GF

/-! The rule: for target in f(e, ..): body, f a generator def without cells of its own. -/
namespace GF
open PySem PySem.Spec PyProof.Rows L2 GenW

/-- the generator's surroundings, called from X -/
abbrev ge (X : Cx) (N : List Str) (qual : Str) (gscope : Scope) (f : Addr) (cdv : Value) (gl : Addr) (own : List (Addr × Obj)) : GE :=
  ⟨X.prog, X.w, X.K, X.mg, X.base, N, envOfC qual gscope gl f cdv, X.A.in1, X.stack, own⟩
/-- the end of a generator's code -/
abbrev gEnd (U : GW) : GD := { nx := fun Hr ys _ H => U.fin Hr ys H }
def tForG (ta : TA) (N : List Str) (tg : GW → TY) (g : L2.TG) (tb : TS) : TS := fun D σ H => ta σ H fun vs H1 => ∃ (U : GW) (b : Nat), (∀ H2, U.Gd H2 → tg U (gEnd U) H2 [] b (start N vs) H2) ∧
  ∃ W : Nat → List V → L2.St → Hp → Prop, (∃ m, W m [] σ H1) ∧ ∀ m ys σ H, W m ys σ H → U.Gd H ∧
    (∀ x H', U.yl H ys x H' → g x σ H' fun σ2 H2 => tb { D with nx := fun σ' H' => ∃ m', m' < m ∧ W m' (ys ++ [x]) σ' H', ct := fun σ' H' => ∃ m', m' < m ∧ W m' (ys ++ [x]) σ' H', bk := D.nx } σ2 H2) ∧ ∀ H', U.fin H ys H' → D.nx σ H'
theorem cells_acc : ∀ {l : List (Str × NameKind)} {n : Nat} {acc : List (Str × Addr)}, (∀ y ∈ l, y.2 ≠ .cell) → cellsFrom n l acc = acc
  | [], _, _, _ => rfl
  | (x, k) :: r, n, acc, h => by
    have hk : (k == NameKind.cell) = false := by
      have := h (x, k) List.mem_cons_self
      cases k <;> first | rfl | exact absurd rfl this
    unfold cellsFrom
    rw [hk]
    exact cells_acc fun y hy => h y (List.mem_cons_of_mem _ hy)
theorem ph_quiet {G : GE} {U : GW} {n : Nat} {sr : Shared} {Hr : Hp} {ys : List V} : ∀ e s1, U.ph G n sr Hr ys e s1 → e.quiet = true := fun e s1 h => by
  cases e with
  | ret r => rfl
  | susp v g l k c p fs =>
    cases n with
    | zero => exact h.elim
    | succ n => exact h.1
theorem ph_ret {G : GE} {U : GW} {n : Nat} {sr : Shared} {Hr : Hp} {ys : List V} {r : Result} {s1 : Shared} (h : U.ph G n sr Hr ys (.ret r) s1) : r = .ok (.ret .none) ∧ ∃ H, Out G sr Hr s1 H ∧ U.fin Hr ys H := by
  cases n with
  | zero => exact h
  | succ n => exact h
/-- the generator at a, by number g, as it sleeps: n items at most are to come, ys are out -/
structure Lies (G : GE) (U : GW) (a : Addr) (g : Nat) (n : Nat) (ys : List V) (s : Shared) (H : Hp) (ip : List (Addr × Obj)) (og : Obj) (gs : GenState) : Prop where
  at_ : s.gens[g]? = some gs
  slp : (∃ c, gs = .fresh c) ∨ asleep gs = true
  fr : s.heap.get? G.gl = some og ∧ H G.gl = none
  fro : G.gl ∉ frs G.outer ∧ ∀ v, og.data ≠ .cell v
  pins : ∀ p ∈ ip, s.heap.get? p.1 = some p.2 ∧ H p.1 = none
  own : ∀ p ∈ G.own, s.heap.get? p.1 = some p.2 ∧ H p.1 = none
  ok : ∀ p ∈ ip, p.1 ∉ frs G.outer ∧ G.gl ≤ p.1 ∧ ∀ v, p.2.data ≠ .cell v
  next : ∀ s2 H2, Wake G ip og s2 H2 → U.Gd H2 → wakes (model G.P G.w) G.Aw (U.ph G n s2 H2 ys) gs s2
theorem at_func {G : GE} {body : List Stmt} : At G (.func body G.env) [] id := ⟨over_func, rfl, rfl, rfl⟩
section
variable {X : Cx} {k : Nat} {x qual : Str} {f : Addr} {fd : FuncData} {params : Arguments} {gbody : List Stmt} {gscope : Scope} {N ps : List Str} {e : Expr} {es : List Expr} {tgt : Expr} {body : List Stmt} {p pc pos : Pos} {ta : TA} {tg : GW → TY} {g : L2.TG} {tb : TS} {Wx : WX}
theorem fs_stack (ok : X.Ok) : ∀ b ∈ X.fs, b ∈ frs X.stack := fun b hb => by
  rcases ok.stk with e | ⟨e, hf⟩
  · rw [e]; exact hb
  · rw [e]
    unfold frs
    rw [List.filterMap_cons, hf]
    exact List.mem_cons_of_mem _ hb
/-- the walk, from where the generator lies -/
theorem walk_gen {G : GE} {U : GW} {b : Nat} {pins : List (Addr × Obj)} {D : Ends} {W : Nat → List V → L2.St → Hp → Prop} {a : Addr} {go : Obj} {gn : Nat} (hp : PassesOwn (model X.prog X.w) X.A X.env X.xe) (ok : X.Ok) (hcalm : X.calm = true)
    (eP : G.P = X.prog) (ew : G.w = X.w) (eA : G.Aw = X.A.in1) (eO : G.outer = X.stack) (eE : ∀ s H, Env0 X.prog X.w X.K X.mg X.base X.A.in1 X.stack s H → Env0 G.P G.w G.K G.mg G.base G.Aw G.outer s H) (eown : G.own = [(a, go)])
    (hL : X.env.locals < G.gl) (hc : ∀ x c, X.env.cells.lookup x = some c → c < G.gl) (hfs : ∀ b ∈ X.fs, b < G.gl) (hpn : ∀ p ∈ X.pn ++ pins, p.1 < G.gl) (hga : G.gl ≤ a) (hgo : ∀ h : Heap, h.get? a = some go → h.IsGen a gn) (hgt : go.cls = .type "generator" ∧ ∃ vs, go.data = .fields vs)
    (hroom : X.A.depth < recursionLimit) (hg : PG X.nox tgt g) (tk : Takes X Wx) (hbody : ∀ xe, Takes (X.wish xe) Wx → PSs (X.wish xe) body tb)
    (turn : ∀ m ys σ H, W m ys σ H → U.Gd H ∧ (∀ x H', U.yl H ys x H' → g x σ H' fun σ2 H2 => tb { D with nx := fun σ' H' => ∃ m', m' < m ∧ W m' (ys ++ [x]) σ' H', ct := fun σ' H' => ∃ m', m' < m ∧ W m' (ys ++ [x]) σ' H', bk := D.nx } σ2 H2) ∧ ∀ H', U.fin H ys H' → D.nx σ H')
    (m0 : Nat) (s0 : Shared) (h0 : ∃ ys σ H n ip og gs, Inv X pins σ H s0 ∧ W m0 ys σ H ∧ Lies G U a gn n ys s0 H ip og gs) :
    codeAny (model X.prog X.w) X.A (.forLoop tgt (.ref a) body [] X.env) (fun r s' => match r with | .ok f => SP X pins D f s' | .error e => cameBackBy (model X.prog X.w) X.A X.env X.xe e s') s0 := by
  refine codeAny_forLoop_any (fun m s' => ∃ ys σ H n ip og gs, Inv X pins σ H s' ∧ W m ys σ H ∧ Lies G U a gn n ys s' H ip og gs) (fun m s hI => ?_) m0 h0
  obtain ⟨ys, σ, H, n, ip, og, gs, I, w0, L⟩ := hI
  obtain ⟨hGd, hitem, hend⟩ := turn m ys σ H w0
  have hown : s.heap.get? a = some go ∧ H a = none := L.own (a, go) (by rw [eown]; exact List.mem_cons_self)
  have hbr : AllBare (s.setGen gn .running).gens := allBare_setGen I.bare rfl
  have Iw : Inv X pins σ H (s.setGen gn .running) := inv_wg I hbr
  have wk : Wake G ip og (s.setGen gn .running) H := ⟨eE _ _ Iw.env0.in1, L.fr, L.pins, L.own⟩
  have hgo1 := L.next _ _ wk hGd
  rw [eP, ew, eA] at hgo1
  have hsz : gn + 1 ≤ s.gens.size := (Array.getElem?_eq_some_iff.mp L.at_).1
  refine wpAny_gsz hsz ?_
  refine next_gen (ok.hd hcalm) I.nolimit hroom (hgo _ hown.1) L.at_ hgo1 ph_quiet (fun r s1 z => (ph_ret z).1) (fun v g0 l k c p fs s1 hs hsz5 => ?_) fun s1 hs h' hk _ => ?_
  · -- an item
    cases n with
    | zero => exact hs.elim
    | succ n =>
      obtain ⟨hq, x, H5, ip5, σg, og5, rv, ho, hy, hslp, hog, hgn, hpi, how, hge, hnext⟩ := hs
      have hun : Un (frs X.stack) [] H H5 (trunc (s.setGen gn .running).heap G.gl) s1.heap := by rw [← eO]; exact ho.un
      have hok5 : HOk X.prog X.w H5 s1.heap := by rw [← eP, ← ew]; exact ho.hok
      have I1 : Inv X pins σ H5 s1 := inv_back Iw hL hc hpn hun hok5 ho.bare ho.os
      generalize hgs5 : (End.susp v g0 l k c p fs).genState = gs5 at *
      have as5 : asleep gs5 = true := by rw [← hgs5]; rfl
      have nx5 : ∀ s2 H2, Wake G ip5 og5 s2 H2 → U.Gd H2 → wakes (model G.P G.w) G.Aw (U.ph G n s2 H2 (ys ++ [x])) gs5 s2 := by rw [← hgs5]; exact hnext
      have hb5 : AllBare (s1.setGen gn gs5).gens := allBare_setGen ho.bare (by rw [← hgs5]; exact End.bare_of_quiet hq)
      have at5 : (s1.setGen gn gs5).gens[gn]? = some gs5 := setGen_at (by rw [setGen_size] at hsz5; exact hsz5)
      have I5 : Inv X pins σ H5 (s1.setGen gn gs5) := inv_wg I1 hb5
      have ow5 : s1.heap.get? a = some go ∧ H5 a = none := how (a, go) (by rw [eown]; exact List.mem_cons_self)
      have nd5 : ∀ v, og5.data ≠ .cell v := fun v z => by
        obtain ⟨mm, ⟨o, es, ep, e1, e2, _⟩, _⟩ := hslp.loc s1.heap hog
        rw [hog] at e1
        cases e1
        rw [e2] at z
        cases z
      have far : ∀ q : Addr, G.gl ≤ q → q ≠ X.env.locals ∧ q ∉ X.fs := fun q hq => ⟨fun z => by rw [z] at hq; exact absurd (Nat.lt_of_lt_of_le hL hq) (Nat.lt_irrefl _), fun z => absurd (Nat.lt_of_lt_of_le (hfs q z) hq) (Nat.lt_irrefl _)⟩
      have I5p : Inv X (pins ++ (G.gl, og5) :: (a, go) :: ip5) σ H5 (s1.setGen gn gs5) := I5.pins_of fun q hq => by
        rcases List.mem_append.mp hq with hq | hq
        · exact I5.pin q (List.mem_append_right _ hq)
        rcases List.mem_cons.mp hq with hq | hq
        · rw [hq]
          exact ⟨hog, hgn, (far _ (Nat.le_refl _)).1, (far _ (Nat.le_refl _)).2, nd5⟩
        rcases List.mem_cons.mp hq with hq | hq
        · rw [hq]
          obtain ⟨z1, vs, z2⟩ := hgt
          exact ⟨ow5.1, ow5.2, (far _ hga).1, (far _ hga).2, fun v z => by rw [z2] at z; cases z⟩
        · exact ⟨(hpi q hq).1, (hpi q hq).2, (far _ (hge q hq)).1, (far _ (hge q hq)).2, (hslp.pins q hq).2.2⟩
      obtain ⟨gc, gvs, gd⟩ := hgt
      refine go_of (s := s1.setGen gn gs5) ow5.1 gc gd (by decide) ?_
      refine wpAny_mono (wpAny_beside (hg.run (pins ++ (G.gl, og5) :: (a, go) :: ip5) (wg (s1.setGen gn gs5) ((s1.setGen gn gs5).gens.map poison)) σ H5 x v _ (inv_wg (I5p.wish _) (bare_poisoned hb5)) rv (hitem x H5 hy))) (fun _ s6 z => ?_) fun _ _ z => by
        obtain ⟨_, _, z⟩ := z
        exact z.elim
      obtain ⟨g6, S6, σ6, H6, I6', q6⟩ := z
      have hb6 : AllBare s6.gens := S6.bare hb5 I6'.bare
      have I6 : Inv X (pins ++ (G.gl, og5) :: (a, go) :: ip5) σ6 H6 s6 := inv_wg I6'.unwish hb6
      have at6 : s6.gens[gn]? = some gs5 := (S6.slept gn gs5 at5 as5).2
      have tk' : Takes (X.wish fun e s' => AllBare s'.gens ∧ ∀ g', AllBare g' → X.xe e (wg s' g')) Wx := fun u s' hx => by
        refine ⟨?_, fun g' hg' => tk u (wg s' g') (xe_wg hx hg')⟩
        obtain ⟨_, _, _, _, _, _, _, _, _, _, _, _, _, _, _, ag, _⟩ := hx
        exact ag
      refine wpAny_passesOwn hp (wpAny_mono (wpAny_beside ((hbody _ tk').run (pins ++ (G.gl, og5) :: (a, go) :: ip5) (wg s6 (s6.gens.map poison)) σ6 H6 _ (inv_wg (I6.wish _) (bare_poisoned hb6)) q6)) (fun f s7 z => ?_) fun e s7 z => ?_)
      · obtain ⟨g7, S7, z⟩ := z
        have fin : ∀ σ7 H7, Inv (X.wish fun e s' => AllBare s'.gens ∧ ∀ g', AllBare g' → X.xe e (wg s' g')) (pins ++ (G.gl, og5) :: (a, go) :: ip5) σ7 H7 (wg s7 g7) → Inv X (pins ++ (G.gl, og5) :: (a, go) :: ip5) σ7 H7 s7 := fun σ7 H7 I7' => inv_wg I7'.unwish (S7.bare hb6 I7'.bare)
        have small : ∀ {σ7 H7}, Inv X (pins ++ (G.gl, og5) :: (a, go) :: ip5) σ7 H7 s7 → Inv X pins σ7 H7 s7 := fun {σ7 H7} I7 => I7.pins_of fun q hq => I7.pin q (List.mem_append_right _ (List.mem_append_left _ hq))
        have again : ∀ σ7 H7, Inv X (pins ++ (G.gl, og5) :: (a, go) :: ip5) σ7 H7 s7 → (∃ m', m' < m ∧ W m' (ys ++ [x]) σ7 H7) → ∃ m', m' < m ∧ ∃ ys σ H n ip og gs, Inv X pins σ H s7 ∧ W m' ys σ H ∧ Lies G U a gn n ys s7 H ip og gs := fun σ7 H7 I7 ⟨m', hm, w7⟩ => by
          have pn7 : ∀ q, q ∈ (G.gl, og5) :: (a, go) :: ip5 → s7.heap.get? q.1 = some q.2 ∧ H7 q.1 = none := fun q hq => by
            have z := I7.pin q (List.mem_append_right _ (List.mem_append_right _ hq))
            exact ⟨z.1, z.2.1⟩
          refine ⟨m', hm, ys ++ [x], σ7, H7, n, ip5, og5, gs5, small I7, w7, ⟨(S7.slept gn gs5 at6 as5).2, .inr as5, pn7 _ List.mem_cons_self, ⟨L.fro.1, nd5⟩, fun q hq => pn7 q (List.mem_cons_of_mem _ (List.mem_cons_of_mem _ hq)), fun q hq => ?_, fun q hq => ⟨(hslp.pins q hq).2.1, hge q hq, (hslp.pins q hq).2.2⟩, nx5⟩⟩
          rw [eown] at hq
          rw [List.mem_singleton.mp hq]
          exact pn7 _ (List.mem_cons_of_mem _ List.mem_cons_self)
        cases f with
        | next =>
          obtain ⟨σ7, H7, I7', q7⟩ := z
          exact again σ7 H7 (fin _ _ I7') q7
        | cont =>
          obtain ⟨σ7, H7, I7', q7⟩ := z
          exact again σ7 H7 (fin _ _ I7') q7
        | brk =>
          obtain ⟨σ7, H7, I7', q7⟩ := z
          exact ⟨σ7, H7, small (fin _ _ I7'), q7⟩
        | ret u =>
          obtain ⟨v7, σ7, H7, I7', r7, q7⟩ := z
          exact ⟨v7, σ7, H7, small (fin _ _ I7'), r7, q7⟩
      · obtain ⟨g7, S7, z1, z2⟩ := z
        exact z2 s7.gens (S7.bare hb6 z1)
  · -- the end
    obtain ⟨_, H5, ho, hf⟩ := ph_ret hs
    have hun : Un (frs X.stack) [] H H5 (trunc (s.setGen gn .running).heap G.gl) s1.heap := by rw [← eO]; exact ho.un
    have hok5 : HOk X.prog X.w H5 s1.heap := by rw [← eP, ← ew]; exact ho.hok
    have I1 : Inv X pins σ H5 s1 := inv_back Iw hL hc hpn hun hok5 ho.bare ho.os
    refine wpAny_execs_nil ⟨σ, H5, ?_, hend H5 hf⟩
    exact I1.call' (ch := []) rfl (Un.kept hk) (I1.hok.kept hk) (allBare_setGen ho.bare rfl) fun b z => by simp at z
theorem ps_forG (hp : PassesOwn (model X.prog X.w) X.A X.env X.xe) (hcalm : X.calm = true) (F : FunD X.K x qual params gbody gscope [] [] f fd) (S : GScope N ps gscope) (nc : ∀ y ∈ gscope.names, y.2 ≠ .cell) (hgl : Gl X x) (hm : X.mg x = some (.ref f))
    (hb : L2.Binds X.K fd ps []) (hr : Room (k + 2) X.A) (ha : PA X (e :: es) ta) (hlen : ∀ σ H Q, ta σ H Q → ta σ H fun vs H1 => vs.length = ps.length ∧ Q vs H1)
    (hgb : ∀ cdv gl own, GSt (ge X N qual gscope f cdv gl own) → Room k ((ge X N qual gscope f cdv gl own).Aw.deeper (ge X N qual gscope f cdv gl own).env) → GSs1 (ge X N qual gscope f cdv gl own) gbody tg)
    (hg : PG X.nox tgt g) (tk : Takes X Wx) (hbody : ∀ xe, Takes (X.wish xe) Wx → PSs (X.wish xe) body tb)
    (hdb : (x == ("__debug__" : Str)) = false := by decide) (he : starEach (e :: es) X.env = (false, eval e X.env) :: starEach es X.env := by rfl) (hpl : (backTo pc (starEach es X.env)).any (·.1) = false := by rfl) :
    PS X (.For tgt (.Call (.Name x p) (e :: es) [] pc) body [] pos) (tForG ta N tg g tb) := by
  refine ⟨fun pins s σ H D I h => ?_⟩
  obtain ⟨oc, od, dV, kV, doc, pm, an, cdv, ct, osl, efd, lk, hcd, _, _⟩ := F.ex
  refine wpAny_For ?_
  refine wpAny_Call_Name_kw (ld_glob I hgl hm ?_ hdb)
  refine PySem.W.callWith_K (h₀ := X.base) I.ok.mod.kin F.kp (thn (ha.run pc pins s σ H _ I (hlen σ H _ h)) fun us s1 hh => ?_) he hpl
  obtain ⟨vs, H1, I1, r, hvl, U, b, hstart, W, ⟨m0, w0⟩, turn⟩ := hh
  refine ⟨I1.kIn, ?_⟩
  have hul : (us ++ []).length = ps.length := by rw [List.append_nil, ← r.length]; exact hvl
  have hbd := hb s1 us I1.kIn hul
  rw [List.append_nil] at hbd
  subst efd
  show wpAny _ _ (call (.ref f) us) _ _ _
  refine wpAny_call (codeAny_call_generator (by have := hr.dp; omega) (I1.kIn _ _ lk) rfl S.co S.gen rfl (PySem.W.codeRec_of I1.kIn hcd) (hbd _ _ _ _ ?_))
  have hkind : ∀ y ∈ ps.zip us, gscope.names.lookup y.1 = some .local ∨ (gscope.names.lookup y.1 = some .cell ∧ ((cellsFrom (s1.heap.objs.size + 1) gscope.names []).lookup y.1).isSome = true) := fun ⟨n, v⟩ hy => by
    rcases S.par n (List.of_mem_zip hy).1 with q | q
    · exact .inl q
    · exact absurd rfl (nc _ (PySem.mem_of_lookup q))
  refine wpAny_newFunctionEnv_cells S.kind hkind fun env he s2 x2 => ?_
  subst he
  have e0 : Env0 X.prog X.w X.K X.mg X.base X.A.in1 X.stack s1 H1 := I1.env0.in1
  have J0 := inv_startG (E := fun _ _ _ => False) S (show X.A.in1.handled = none from I1.ok.hd hcalm) e0 hvl r x2
  obtain ⟨h2, tk2, es2, kp2⟩ := x2.done
  have kpA : ∀ b o, s1.heap.get? b = some o → s2.heap.get? b = some o := x2.toInCall.keep
  have os2 : s2.os = s1.os := by rw [es2]
  have ge2 : s2.gens = s1.gens := by rw [es2]
  have lim2 : s2.heap.NoLimit := I1.nolimit.keeps kpA
  refine ⟨lim2, ?_⟩
  -- the generator's own object
  generalize hgo : ({ cls := .type "generator", data := .fields #[.int s2.gens.size 0, .str x s2.toks, .str qual (s2.toks + 1)] } : Obj) = go
  have hgo' : go.cls = .type "generator" ∧ go.data = .fields #[.int s2.gens.size 0, .str x s2.toks, .str qual (s2.toks + 1)] ∧ go.slots = #[] := by subst hgo; exact ⟨rfl, rfl, rfl⟩
  have hpush : (s2.heap.push go).get? s2.heap.objs.size = some go := by subst hgo; exact Heap.get?_push_size _ rfl
  have kpN : ∀ b o, s1.heap.get? b = some o → (s2.heap.push go).get? b = some o := fun b o e => Heap.get?_push_of_some _ (kpA b o e)
  have hbN : AllBare (s2.gens.push (.fresh (.func gbody (envOfC qual gscope s1.heap.objs.size f cdv)))) := AllBare.push (by rw [ge2]; exact I1.bare) rfl
  have IN : Inv X pins σ H1 ({ s2 with gens := s2.gens.push (.fresh (.func gbody (envOfC qual gscope s1.heap.objs.size f cdv))), toks := s2.toks + 1 + 1, heap := s2.heap.push go } : Shared) :=
    I1.call' (ch := []) os2 (Un.kept kpN) (I1.hok.kept kpN) hbN fun b z => by simp at z
  have isG : ∀ h : Heap, h.get? s2.heap.objs.size = some go → h.IsGen s2.heap.objs.size s2.gens.size := fun h e => ⟨go, _, _, e, hgo'.1, hgo'.2.1, hgo'.2.2⟩
  refine wpAny_pyIter_gen (isG _ hpush) ?_
  -- the frame
  have lt2 : s1.heap.objs.size < s2.heap.objs.size := x2.toInCall.ns.lt
  have frsLt : ∀ b ∈ frs X.stack, b < s1.heap.objs.size := fun b hb => by
    obtain ⟨_, o, ho, _⟩ := I1.stack.mem hb
    exact Heap.lt_size ho
  have Sg : GSt (ge X N qual gscope f cdv s1.heap.objs.size [(s2.heap.objs.size, go)]) :=
    { mod := I1.ok.mod, kind := S.kind, glob := rfl, blt := rfl, cells := cells_acc nc
      nocell := fun y => ⟨fun z => nc _ (PySem.mem_of_lookup (show gscope.names.lookup y = some .cell from z)) rfl, fun z => S.nofree _ (PySem.mem_of_lookup (show gscope.names.lookup y = some .free from z)) rfl⟩
      frame := rfl, bsz := Nat.le_trans I1.ok.bsz I1.sz, out := frsLt, hd := I1.ok.hd hcalm, frames := I1.ok.frames
      own := fun q hq => by
        rw [List.mem_singleton.mp hq]
        refine ⟨Nat.ne_of_gt lt2, fun z => ?_, fun v z => ?_⟩
        · exact absurd (Nat.lt_trans (frsLt _ z) lt2) (Nat.lt_irrefl _)
        · rw [hgo'.2.1] at z; cases z }
  obtain ⟨mm, ⟨og, oes, oep, og1, og2, og3, og4⟩, ogl⟩ := id J0.loc
  have lo : LocO (ge X N qual gscope f cdv s1.heap.objs.size [(s2.heap.objs.size, go)]) (start N vs) og := fun h e => by
    refine ⟨mm, ⟨og, oes, oep, e, og2, og3, og4⟩, fun i y v h1 h2 h3 => ?_⟩
    obtain ⟨u, ru, l⟩ := ogl i y v h1 h2 h3
    rcases l with l | ⟨z, _⟩
    · exact ⟨u, ru, l.1, l.2⟩
    · exact z.elim (fun z => absurd z (Sg.nocell y).1) fun z => absurd z (Sg.nocell y).2
  have slp : Slp (ge X N qual gscope f cdv s1.heap.objs.size [(s2.heap.objs.size, go)]) [] (start N vs) og := ⟨lo, J0.len, fun q hq => (nomatch hq)⟩
  have hroom : Room k ((ge X N qual gscope f cdv s1.heap.objs.size [(s2.heap.objs.size, go)]).Aw.deeper (ge X N qual gscope f cdv s1.heap.objs.size [(s2.heap.objs.size, go)]).env) := (hr.in1).deeper _
  refine walk_gen (G := ge X N qual gscope f cdv s1.heap.objs.size [(s2.heap.objs.size, go)]) (U := U) (b := b) (W := W) (gn := s2.gens.size) (go := go) hp I1.ok hcalm rfl rfl rfl rfl (fun _ _ e => e) rfl I1.lt (fun y c e => ?_) (fun b hb => ?_) (fun q hq => Heap.lt_size (I1.pin q hq).1) (Nat.le_of_lt lt2) isG
    ⟨hgo'.1, _, hgo'.2.1⟩ (by have := hr.dp; omega) hg tk hbody turn m0 _ ⟨[], σ, H1, b, [], og, .fresh (.func gbody (envOfC qual gscope s1.heap.objs.size f cdv)), IN, w0, ?_⟩
  · obtain ⟨v, z⟩ := I1.cell y c e
    exact z.lt
  · exact frsLt b (fs_stack I1.ok b hb)
  · have hfree : H1 s1.heap.objs.size = none := I1.hok.fresh (Nat.le_refl _)
    refine ⟨Array.getElem?_push_size .., .inl ⟨_, rfl⟩, ⟨Heap.get?_push_of_some _ og1, hfree⟩, ⟨fun z => absurd (frsLt _ z) (Nat.lt_irrefl _), fun v z => by rw [og2] at z; cases z⟩, fun q hq => (nomatch hq), fun q hq => ?_, fun q hq => (nomatch hq), fun s3 H3 wk hgd => ?_⟩
    · rw [List.mem_singleton.mp hq]
      exact ⟨hpush, I1.hok.fresh (Nat.le_of_lt lt2)⟩
    · refine s1_func fun J => ?_
      refine (hgb cdv _ _ Sg hroom).run U b b [] s3 H3 _ [] _ J id id [] s3 (start N vs) H3 (gEnd U) at_func (Nat.add_zero _) (Heap.lt_size wk.fr.1) (fun q hq => (nomatch hq)) (fun n' ys' sr' Hr' s' fl hn' hz' z => ?_) (gx_inv Sg slp wk) (hstart H3 hgd)
      cases fl with
      | next =>
        obtain ⟨σ', H', I', q⟩ := z
        refine s1_end (.ok (.ret .none)) ?_
        have q2 : U.fin Hr' ys' H' := q
        cases n' with
        | zero => exact ⟨rfl, H', (gx_out Sg I').1, q2⟩
        | succ n' => exact ⟨rfl, H', (gx_out Sg I').1, q2⟩
      | brk => obtain ⟨_, _, _, q⟩ := z; exact q.elim
      | cont => obtain ⟨_, _, _, q⟩ := z; exact q.elim
      | ret u => exact z.elim
end
end GF

/-! Words of our own over the hand layer. -/
namespace Cp
open PySem PySem.Spec PyProof.Rows L2

theorem Same.seqT {K : PySem.W.Frag} {H H' : Hp} {a : Addr} {xs : List V} (e : Same H H') (h : SqT K H a xs) : SqT K H' a xs := by
  rcases h with h | h
  · exact .inl (Evl.ex_rd e h)
  · exact .inr h
/-- a list or a tuple -/
def Sq (K : PySem.W.Frag) (H : Hp) (a : Addr) (xs : List V) : Prop := SqL K H a xs ∨ SqT K H a xs
theorem Sq.same {K : PySem.W.Frag} {H H' : Hp} {a : Addr} {xs : List V} (h : Sq K H a xs) (e : Same H H') : Sq K H' a xs := h.elim (fun z => .inl (e.seq z)) fun z => .inr (Same.seqT e z)
theorem same_new {H : Hp} {p : Addr} {o : HO} (h : H p = none) : Same H (upd H p o) := fun a u e => by rw [upd_ne (ne_of_none e h)]; exact e
theorem same_mut {H H' : Hp} {p : Addr} {o : HO} (e : Same H H') (h : H p = none) : Same H (upd H' p o) := fun a u ha => by
  rw [upd_ne (ne_of_none ha h)]
  exact e a u ha
section
variable {X : Cx}
/-- a name that holds a list or a tuple, walked -/
def iSq (K : PySem.W.Frag) (i : Nat) : TI := fun σ H R => ∃ a, σ[i]? = some (some (.ref a)) ∧ (((∃ xs, SqL K H a xs) ∧ R (Itl K a) H) ∨ ((∃ xs, SqT K H a xs) ∧ R (Itt K a) H))
theorem pi_sq (i : Nat) {x : Str} {pos : Pos} {tg : Expr} (hN : X.N[i]? = some x := by rfl) (hv : Vis X.env.scope x := by first | exact Or.inl rfl | exact Or.inr (Or.inl rfl) | exact Or.inr (Or.inr rfl)) (hd : (x == ("__debug__" : Str)) = false := by decide) (hcd : (x == ("__classdict__" : Str)) = false := by decide) :
    PI X tg (.Name x pos) (iSq X.K i) := by
  refine ⟨fun pins s σ H R I h => ?_⟩
  obtain ⟨a, e, h⟩ := h
  rcases h with ⟨hx, h⟩ | ⟨hx, h⟩
  · exact (pi_list (pv i hN hv hd hcd)).run pins s σ H R I ⟨_, e, a, rfl, hx, h⟩
  · exact (pi_tup (pv i hN hv hd hcd)).run pins s σ H R I ⟨_, e, a, rfl, hx, h⟩
/-- what is never reached -/
theorem pe_no {e : Expr} : PE X e (fun _ _ _ => False) := ⟨fun _ _ _ _ _ _ h => h.elim⟩
theorem pi_no {tg e : Expr} : PI X tg e (fun _ _ _ => False) := ⟨fun _ _ _ _ _ _ h => h.elim⟩
theorem pss_no {st : List Stmt} : PSs X st (fun _ _ _ => False) := ⟨fun _ _ _ _ _ _ h => h.elim⟩
theorem ps_no {st : Stmt} : PS X st (fun _ _ _ => False) := ⟨fun _ _ _ _ _ _ h => h.elim⟩
end
theorem if_t {c : Bool} {A B : Prop} (hc : c = true) (h : A) : if c = true then A else B := by
  rw [if_pos hc]
  exact h
theorem if_f {c : Bool} {A B : Prop} (hc : c = false) (h : B) : if c = true then A else B := by
  rw [hc, if_neg Bool.false_ne_true]
  exact h
/-- a statement without bodies -/
def FlatS (K : PySem.W.Frag) (H : Hp) (t : Addr) (w : Str) (rest : List V) : Prop := SqT K H t (.str w :: rest) ∧ w ≠ "if" ∧ w ≠ "while" ∧ rest.length ≤ 10
theorem FlatS.same {K : PySem.W.Frag} {H H' : Hp} {t : Addr} {w : Str} {rest : List V} (h : FlatS K H t w rest) (e : Same H H') : FlatS K H' t w rest := ⟨Same.seqT e h.1, h.2⟩
def Flat (K : PySem.W.Frag) (H : Hp) (v : V) : Prop := ∃ t w rest, v = .ref t ∧ FlatS K H t w rest
theorem Flat.same {K : PySem.W.Frag} {H H' : Hp} {v : V} (h : Flat K H v) (e : Same H H') : Flat K H' v := let ⟨t, w, r, a, b⟩ := h; ⟨t, w, r, a, b.same e⟩
/-- a body of statements without bodies -/
def FlatB (K : PySem.W.Frag) (H : Hp) (a : Addr) (xs : List V) : Prop := Sq K H a xs ∧ xs.length ≤ 100 ∧ ∀ x ∈ xs, Flat K H x
theorem FlatB.same {K : PySem.W.Frag} {H H' : Hp} {a : Addr} {xs : List V} (h : FlatB K H a xs) (e : Same H H') : FlatB K H' a xs := ⟨h.1.same e, h.2.1, fun x hx => (h.2.2 x hx).same e⟩

open Evl
section
variable {K : PySem.W.Frag} {σ : L2.St} {H : Hp} {ta tb te : TE} {x y z v : V}
/-- len of a list or a tuple -/
theorem ev_lenQ {p : Addr} {xs : List V} (ha : Ev ta σ H (.ref p)) (h : Sq K H p xs) : Ev (tCB (rLenS K) (tCons ta tNil)) σ H (.int (xs.length : Int)) := fun H1 e Q q =>
  ha H1 e _ fun H2 e2 => ⟨p, xs, rfl, h.elim (fun z => Or.inl (ex_l (e.trans e2) z)) (fun z => Or.inr (ex_t (e.trans e2) z)), q H2 e2⟩
theorem et_eq {a b : V} (h1 : Ev ta σ H a) (h2 : Ev tb σ H b) (hs : scal a b = true) : EvT (tTest (tOp rEq ta tb)) σ H (decide (a = b)) := et_test (ev_op h1 h2 (rv_eq hs))
theorem et_ne {a b : V} (h1 : Ev ta σ H a) (h2 : Ev tb σ H b) (hs : scal a b = true) : EvT (tTest (tOp rNe ta tb)) σ H (!decide (a = b)) := et_test (ev_op h1 h2 (rv_ne hs))
theorem ev_ixT {p : Addr} {xs : List V} {i : Int} (h1 : Ev ta σ H (.ref p)) (h2 : Ev tb σ H (.int i)) (h : SqT K H p xs) (ha : atI xs i = some v) : Ev (tOp (rIxT K) ta tb) σ H v := ev_op h1 h2 (rv_ixT h ha)
end

/-! ### values by what is true of them -/
section
variable {K : PySem.W.Frag} {σ : L2.St} {H : Hp}
/-- what H3 keeps of a stretch from H1 to H2: what H knows, and what is new -/
structure Kp (H H1 H2 H3 : Hp) : Prop where
  old : Ex H H3
  new : ∀ a o, H1 a = none → H2 a = some o → H3 a = some o
theorem Kp.self {H1 H2 : Hp} (e : Ex H H2) : Kp H H1 H2 H2 := ⟨e, fun _ _ _ h => h⟩
theorem Kp.ext {H1 H2 H3 H4 : Hp} (k : Kp H H1 H2 H3) (e : Ex H3 H4) : Kp H H1 H2 H4 := ⟨k.old.trans e, fun a o n h => e a o (k.new a o n h)⟩
/-- a part of the stretch -/
theorem Kp.part {H1 H2 H3 H4 H5 : Hp} (k : Kp H H1 H2 H3) (e1 : Ex H1 H4) (e2 : Ex H5 H2) : Kp H H4 H5 H3 := ⟨k.old, fun a o n h => k.new a o (fresh_back e1 n) (e2 a o h)⟩
/-- te gives a value of which P holds, whatever else becomes of the heap; what is known stands -/
def EvP (te : TE) (σ : L2.St) (H : Hp) (P : V → Hp → Prop) : Prop := ∀ H1, Ex H H1 → ∀ Q : VK, (∀ v H2, Ex H1 H2 → (∀ H3, Kp H H1 H2 H3 → P v H3) → Q v H2) → te σ H1 Q
theorem EvP.of {te : TE} {v : V} {P : V → Hp → Prop} (h : Ev te σ H v) (hp : ∀ H1, Ex H H1 → P v H1) : EvP te σ H P := fun H1 e Q q => h H1 e Q fun H2 e2 => q v H2 e2 fun H3 k => hp H3 k.old
theorem EvP.imp {te : TE} {P P' : V → Hp → Prop} (h : EvP te σ H P) (hp : ∀ v H1, Ex H H1 → P v H1 → P' v H1) : EvP te σ H P' := fun H1 e Q q => h H1 e Q fun v H2 e2 p => q v H2 e2 fun H3 k => hp v H3 k.old (p H3 k)
theorem EvP.mono {te : TE} {P : V → Hp → Prop} {H' : Hp} (e : Ex H H') (h : EvP te σ H P) : EvP te σ H' P := fun H1 a Q q => h H1 (e.trans a) Q fun v H2 e2 p => q v H2 e2 fun H3 k => p H3 ⟨e.trans k.old, k.new⟩
/-- what is walked: n turns, at turn i Y -/
def EvW (wi : TI) (σ : L2.St) (H : Hp) (n : Nat) (Y : Nat → Hp → V → Hp → Prop) : Prop := ∃ (J : It) (G : Hp → Prop), Walk J n G Y ∧ (∀ H1, Ex H H1 → G H1) ∧ ∀ H1, Ex H H1 → ∀ R : It → Hp → Prop, (∀ H2, Ex H1 H2 → R J H2) → wi σ H1 R
theorem ew_list {te : TE} {a : Addr} {xs : List V} (h : Ev te σ H (.ref a)) (hx : SqL K H a xs) : EvW (iList K te) σ H xs.length (YAt xs) :=
  ⟨Itl K a, fun H1 => SqL K H1 a xs, walk_list, fun H1 e => ex_l e hx, fun H1 e R q => h H1 e _ fun H2 e2 => ⟨a, rfl, ⟨xs, ex_l (e.trans e2) hx⟩, q H2 e2⟩⟩
theorem ew_tup {te : TE} {a : Addr} {xs : List V} (h : Ev te σ H (.ref a)) (hx : SqT K H a xs) : EvW (iTup K te) σ H xs.length (YAt xs) :=
  ⟨Itt K a, fun H1 => SqT K H1 a xs, walk_tup, fun H1 e => ex_t e hx, fun H1 e R q => h H1 e _ fun H2 e2 => ⟨a, rfl, ⟨xs, ex_t (e.trans e2) hx⟩, q H2 e2⟩⟩
theorem ew_sq {i : Nat} {a : Addr} {xs : List V} (h : σ[i]? = some (some (.ref a))) (hx : Sq K H a xs) : EvW (iSq K i) σ H xs.length (YAt xs) := by
  rcases hx with hx | hx
  · exact ⟨Itl K a, fun H1 => SqL K H1 a xs, walk_list, fun H1 e => ex_l e hx, fun H1 e R q => ⟨a, h, .inl ⟨⟨xs, ex_l e hx⟩, q H1 (Ex.refl H1)⟩⟩⟩
  · exact ⟨Itt K a, fun H1 => SqT K H1 a xs, walk_tup, fun H1 e => ex_t e hx, fun H1 e R q => ⟨a, h, .inr ⟨⟨xs, ex_t e hx⟩, q H1 (Ex.refl H1)⟩⟩⟩
theorem ew_str {te : TE} {z : Str} (h : Ev te σ H (.str z)) : EvW (iStr te) σ H z.cps.size (fun i H v H' => H' = H ∧ ∃ c, z.cps[i]? = some c ∧ v = .str ⟨#[c]⟩) :=
  ⟨Its z, fun _ => True, walk_str, fun _ _ => trivial, fun H1 e R q => h H1 e _ fun H2 e2 => ⟨z, rfl, q H2 e2⟩⟩
theorem ew_rng1 {ta : TA} {n : Int} (h : EvA ta σ H [.int n]) (hn : 0 ≤ n ∧ n ≤ 100000) : EvW (iRng1 ta) σ H n.toNat (YFn fun i => .int (0 + (i : Int))) :=
  ⟨Itr 0 n.toNat, fun _ => True, walk_range, fun _ _ => trivial, fun H1 e R q => h H1 e _ fun H2 e2 => ⟨n, rfl, by omega, by omega, q H2 e2⟩⟩

/-- the turns that give -/
def ixs (n : Nat) (f : Nat → Bool) : List Nat := (List.range n).filter f
theorem ixs_yes {n : Nat} {f : Nat → Bool} (h : f n = true) : ixs (n + 1) f = ixs n f ++ [n] := by
  unfold ixs
  rw [List.range_succ, List.filter_append, List.filter_cons, if_pos h]
  rfl
theorem ixs_no {n : Nat} {f : Nat → Bool} (h : f n = false) : ixs (n + 1) f = ixs n f := by
  unfold ixs
  rw [List.range_succ, List.filter_append, List.filter_cons, if_neg (by rw [h]; decide)]
  show _ ++ [] = _
  rw [List.append_nil]
theorem ixs_len (n : Nat) (f : Nat → Bool) : (ixs n f).length ≤ n := by
  unfold ixs
  have h := List.length_filter_le f (List.range n)
  rw [List.length_range] at h
  exact h
theorem ixs_all (n : Nat) : ixs n (fun _ => true) = List.range n := by
  unfold ixs
  exact List.filter_eq_self.mpr fun _ _ => rfl
/-- ys: one for each k of ks, by El -/
def Els (El : Nat → V → Hp → Prop) (ks : List Nat) (ys : List V) (H : Hp) : Prop := ys.length = ks.length ∧ ∀ (j k : Nat) (y : V), ks[j]? = some k → ys[j]? = some y → El k y H
theorem Els.more {El : Nat → V → Hp → Prop} {ks : List Nat} {ys : List V} {k : Nat} {y : V} (h : Els El ks ys H) (hy : El k y H) : Els El (ks ++ [k]) (ys ++ [y]) H := by
  obtain ⟨h1, h2⟩ := h
  refine ⟨by rw [List.length_append, List.length_append, h1]; rfl, fun j k' y' e1 e2 => ?_⟩
  by_cases hj : j < ks.length
  · rw [List.getElem?_append_left hj] at e1
    rw [List.getElem?_append_left (by omega)] at e2
    exact h2 j k' y' e1 e2
  · rw [List.getElem?_append_right (by omega)] at e1
    rw [List.getElem?_append_right (by omega), h1] at e2
    cases hz : j - ks.length with
    | zero =>
      rw [hz] at e1 e2
      have a1 : k = k' := Option.some.inj e1
      have a2 : y = y' := Option.some.inj e2
      subst a1 a2
      exact hy
    | succ m =>
      rw [hz] at e1
      simp at e1
theorem Els.mono {El : Nat → V → Hp → Prop} {ks : List Nat} {ys : List V} {H' : Hp} (h : Els El ks ys H) (hm : ∀ k y, El k y H → El k y H') : Els El ks ys H' := ⟨h.1, fun j k y a b => hm k y (h.2 j k y a b)⟩
/-- a new list whose items are told by El -/
def EvN (te : TE) (σ : L2.St) (H : Hp) (ks : List Nat) (El : Nat → V → Hp → Prop) : Prop := ∀ H1, Ex H H1 → ∀ Q : VK, (∀ p ys H2, H1 p = none → Ex H1 H2 → H2 p = some (.lst ys) → (∀ H3, Kp H H1 H2 H3 → Els El ks ys H3) → Q (.ref p) H2) → te σ H1 Q
theorem EvN.mono {te : TE} {ks : List Nat} {El : Nat → V → Hp → Prop} {H' : Hp} (e : Ex H H') (h : EvN te σ H ks El) : EvN te σ H' ks El := fun H1 a Q q => h H1 (e.trans a) Q fun p ys H2 n e2 h2 z => q p ys H2 n e2 h2 fun H3 k => z H3 ⟨e.trans k.old, k.new⟩
/-- [elt for target in .. if test] -/
theorem en_lc {wi : TI} {g : L2.TG} {tt : TT} {te : TE} {vs : List Nat} {n : Nat} {Y : Nat → Hp → V → Hp → Prop} {El : Nat → V → Hp → Prop} (f : Nat → Bool) (hw : EvW wi σ H n Y) (hn : n ≤ 90000)
    (turn : ∀ i x H1 H2, i < n → Ex H H1 → Y i H1 x H2 → Ex H1 H2 ∧ ∀ Q : L2.St → Hp → Prop, (∀ σ2 H3, Ex H2 H3 → wipe σ2 vs = wipe σ vs → EvT tt σ2 H (f i) → (f i = true → ∀ H4, Ex H3 H4 → ∀ Q : VK, (∀ v H5, Ex H4 H5 → (∀ H6, Kp H H1 H5 H6 → El i v H6) → Q v H5) → te σ2 H4 Q) → Q σ2 H3) → g x (wipe σ vs) H2 Q) : EvN (tLc wi g tt te vs) σ H (ixs n f) El := fun H0 e0 Q q => by
  obtain ⟨J, G, w, hG, hwi⟩ := hw
  refine hwi H0 e0 _ fun H1 e1 D hD => ?_
  refine lc_it w (fun i H' => Ex H1 H' ∧ ∃ ys, H' D = some (.lst ys) ∧ ys.length = (ixs i f).length ∧ ∀ H3, Ex H H3 → (∀ a o, a ≠ D → H1 a = none → H' a = some o → H3 a = some o) → Els El (ixs i f) ys H3) ⟨Ex.new hD, [], upd_same, rfl, fun H3 _ _ => ⟨rfl, fun j k y z => by simp [ixs] at z⟩⟩
    (fun i H' _ p => hG H' ((e0.trans e1).trans p.1)) (fun i x H' H2 hi p y => ?_) fun H' p => ?_
  · obtain ⟨p1, ys, p2, p4, p3⟩ := p
    obtain ⟨t1, t2⟩ := turn i x H' H2 hi ((e0.trans e1).trans p1) y
    refine t2 _ fun σ2 H3 e3 hwp ht hte => ⟨hwp, ?_⟩
    have d3 : H3 D = some (.lst ys) := e3 D _ (t1 D _ p2)
    refine ht H3 ((((e0.trans e1).trans p1).trans t1).trans e3) _ fun H4 e4 => ?_
    have d4 : H4 D = some (.lst ys) := e4 D _ d3
    have ex4 : Ex H' H4 := (t1.trans e3).trans e4
    cases hf : f i with
    | true =>
      refine hte hf H4 e4 _ fun y H5 e5 hy => ?_
      have d5 : H5 D = some (.lst ys) := e5 D _ d4
      refine ⟨ys, d5, ?_, Ex.mut (p1.trans (ex4.trans e5)) hD, ys ++ [y], upd_same, ?_, fun H6 e6 k6 => ?_⟩
      · rw [p4]
        exact sz_lt (by have := ixs_len i f; omega)
      · rw [ixs_yes hf, List.length_append, List.length_append, p4]
        rfl
      · rw [ixs_yes hf]
        have old := p3 H6 e6 fun a o ha n h => k6 a o ha n (by rw [upd_ne ha]; exact (ex4.trans e5) a o h)
        refine Els.more old (hy H6 ⟨e6, fun a o n h => ?_⟩)
        have ha : a ≠ D := fun z => by rw [z, p2] at n; cases n
        exact k6 a o ha (fresh_back p1 n) (by rw [upd_ne ha]; exact h)
    | false =>
      refine ⟨p1.trans ex4, ys, d4, by rw [ixs_no hf]; exact p4, fun H6 e6 k6 => ?_⟩
      rw [ixs_no hf]
      exact p3 H6 e6 fun a o ha n h => k6 a o ha n (ex4 a o h)
  · obtain ⟨p1, ys, p2, _, p3⟩ := p
    refine q D ys H' (fresh_back e1 hD) (e1.trans p1) p2 fun H3 k => p3 H3 k.old fun a o _ n h => k.new a o (fresh_back e1 n) h
/-- the same, the target a name, no tuple on the way -/
theorem en_lcN {wi : TI} {tt : TT} {te : TE} {vs : List Nat} {j n : Nat} {Y : Nat → Hp → V → Hp → Prop} {El : Nat → V → Hp → Prop} (f : Nat → Bool) (hw : EvW wi σ H n Y) (hn : n ≤ 90000) (hY : ∀ i H1 x H2, Y i H1 x H2 → H2 = H1) (hwp : ∀ x, wipe ((wipe σ vs).set j (some x)) vs = wipe σ vs)
    (ht : ∀ i x H1, i < n → Ex H H1 → Y i H1 x H1 → EvT tt ((wipe σ vs).set j (some x)) H (f i)) (he : ∀ i x H1, i < n → Ex H H1 → Y i H1 x H1 → f i = true → EvP te ((wipe σ vs).set j (some x)) H (El i)) : EvN (tLc wi (gName j) tt te vs) σ H (ixs n f) El :=
  en_lc f hw hn fun i x H1 H2 hi e y => by
    have e2 := hY i H1 x H2 y
    subst e2
    exact ⟨Ex.refl _, fun Q q => q _ _ (Ex.refl _) (hwp x) (ht i x _ hi e y) fun hf H4 e4 Q2 q2 => he i x _ hi e y hf H4 (e.trans e4) Q2 fun v H5 e5 p => q2 v H5 e5 fun H6 k => p H6 (k.part e4 (Ex.refl _))⟩
end

/-! ### promises -/
/-- a value of which P holds, what stood stands -/
def RetP (P : V → Hp → Prop) (H : Hp) (Q : VK) : Prop := ∀ v H2, Ex H H2 → (∀ H3, (∀ a o, H a = none → H2 a = some o → H3 a = some o) → P v H3) → Q v H2
/-- a new list of items told by El -/
def RetN (ks : List Nat) (El : Nat → V → Hp → Prop) (H : Hp) (Q : VK) : Prop := ∀ p ys H2, H p = none → Ex H H2 → H2 p = some (.lst ys) → (∀ H3, (∀ a o, H a = none → H2 a = some o → H3 a = some o) → Els El ks ys H3) → Q (.ref p) H2
theorem RetV.call {sp : Sp} {vs : List V} {H : Hp} {z : V} (h : ∀ H1, Ex H H1 → ∀ Q E, RetV z H1 Q → sp vs H1 Q E) : SpV sp vs H z := fun H1 e Q q E => h H1 e Q E q
theorem RetL.call {sp : Sp} {vs xs : List V} {H : Hp} (h : ∀ H1, Ex H H1 → ∀ Q E, RetL xs H1 Q → sp vs H1 Q E) : SpL sp vs H xs := fun H1 e Q q E => h H1 e Q E q
section
variable {K : PySem.W.Frag} {σ : L2.St} {H : Hp}
theorem en_call {sp : Sp} {dvs vs : List V} {E : XK} {ta : TA} {ks : List Nat} {El : Nat → V → Hp → Prop} (h : EvA ta σ H vs) (hs : ∀ H1, Ex H H1 → ∀ Q E, RetN ks El H1 Q → sp (vs ++ dvs) H1 Q E) : EvN (tCall sp dvs E ta) σ H ks El := fun H1 e Q q =>
  h H1 e _ fun H2 e2 => hs H2 (e.trans e2) Q E fun p ys H3 n e3 h3 z => q p ys H3 (fresh_back e2 n) (e2.trans e3) h3 fun H4 k => z H4 fun a o na ha => k.new a o (fresh_back e2 na) ha
theorem evp_call {sp : Sp} {dvs vs : List V} {E : XK} {ta : TA} {P : V → Hp → Prop} (h : EvA ta σ H vs) (hs : ∀ H1, Ex H H1 → ∀ Q E, RetP P H1 Q → sp (vs ++ dvs) H1 Q E) : EvP (tCall sp dvs E ta) σ H P := fun H1 e Q q =>
  h H1 e _ fun H2 e2 => hs H2 (e.trans e2) Q E fun v H3 e3 z => q v H3 (e2.trans e3) fun H4 k => z H4 fun a o na ha => k.new a o (fresh_back e2 na) ha
/-- a list of items, told by their values, is a list of these -/
theorem els_vals {v : Nat → V} {ks : List Nat} {ys : List V} (h : Els (fun k y _ => y = v k) ks ys H) : ys = ks.map v := by
  obtain ⟨h1, h2⟩ := h
  apply List.ext_getElem?
  intro j
  by_cases hj : j < ks.length
  · have e1 : ks[j]? = some ks[j] := List.getElem?_eq_getElem hj
    have e2 : ys[j]? = some ys[j] := List.getElem?_eq_getElem (by omega)
    rw [e2, List.getElem?_map, e1, h2 j _ _ e1 e2]
    rfl
  · rw [List.getElem?_eq_none (by omega), List.getElem?_eq_none (by rw [List.length_map]; omega)]
/-- .. as a list that is known -/
theorem EvN.vals {te : TE} {v : Nat → V} {ks : List Nat} (h : EvN te σ H ks (fun k y _ => y = v k)) : EvL te σ H (ks.map v) := fun H1 e Q q => h H1 e Q fun p ys H2 n e2 h2 z => q p H2 n e2 (by
  rw [h2, els_vals (z H2 (Kp.self (e.trans e2)))])
theorem evp_v {te : TE} {v : V} (h : Ev te σ H v) : EvP te σ H (fun y _ => y = v) := EvP.of h fun _ _ => rfl
end
end Cp

namespace Cp
open PySem PySem.Spec PyProof.Rows L2 Evl
def top (i : Nat) : Stmt := PySem.Challenge.pw_copytoll_k64_faults_in_order.main.body.getD i (.Pass ⟨0, 0, 0, 0⟩)
abbrev FnP (K : PySem.W.Frag) (x : Str) (st : Stmt) (dvs : List V) (f : Addr) (fd : FuncData) : Prop := FunD K x x (defArgs st) (defBody st) (defScope st) dvs [] f fd
abbrev MeP (K : PySem.W.Frag) (x q : Str) (st : Stmt) (f : Addr) (fd : FuncData) : Prop := FunD K x q (defArgs st) (defBody st) (defScope st) [] [] f fd
abbrev sBodies : Stmt := top 3
abbrev sCount : Stmt := top 4
abbrev sNest : Stmt := top 5
def spBodies (K : PySem.W.Frag) : Sp := fun vs H Q _ => ∃ t w rest, vs = [.ref t] ∧ FlatS K H t w rest ∧ RetL [] H Q
def spCount (K : PySem.W.Frag) : Sp := fun vs H Q _ => ∃ a xs, vs = [.ref a] ∧ FlatB K H a xs ∧ RetV (.int (xs.length : Int)) H Q
def spNest (K : PySem.W.Frag) : Sp := fun vs H Q _ => ∃ a xs, vs = [.ref a] ∧ FlatB K H a xs ∧ RetV (.int 1) H Q
section
variable {K : PySem.W.Frag} {σ : L2.St} {H : Hp}
theorem et_yes : EvT tYes σ H true := fun H1 _ _ q => q H1 (Ex.refl H1)
theorem ev_sum {te : TE} {ns : List Int} (h : EvL te σ H (ns.map V.int)) : Ev (tCB (rSum K) (tCons te tNil)) σ H (.int ns.sum) := fun H1 e Q q =>
  h H1 e _ fun p H2 _ e2 h2 => ⟨p, ns, rfl, sq_of h2, q H2 e2⟩
theorem ev_sum0 {te : TE} (h : EvL te σ H []) : Ev (tCB (rSum K) (tCons te tNil)) σ H (.int 0) := ev_sum (ns := []) h
theorem sum_ones {l : List Nat} : V.int ((l.map fun _ => (1 : Int)).sum) = .int (l.length : Int) := by
  congr 1
  induction l with
  | nil => rfl
  | cons a l ih =>
    rw [List.map_cons, List.sum_cons, ih, List.length_cons]
    omega
/-- a comprehension over an empty new list -/
theorem el_lc0 {tl te : TE} {g : L2.TG} {tt : TT} {vs : List Nat} (h : EvL tl σ H []) : EvL (tLc (iList K tl) g tt te vs) σ H [] := fun H0 e Q q =>
  h H0 e _ fun a H1 ha e1 hx => ⟨a, rfl, ⟨[], sq_of hx⟩, fun Dl hD => lc_list (xs := []) (fun i H' => Ex H1 H' ∧ H' Dl = some (.lst [])) ⟨Ex.new hD, upd_same⟩ (fun i H' _ p => sq_of (p.1 a _ hx)) (fun i x H' hi p => by simp at hi) fun H' p => q Dl H' (fresh_back e1 hD) (e1.trans p.1) p.2⟩
/-- [x for a in xs for b in .. ] whose inner lists are all empty -/
theorem el_lc20 {wi : TI} {g1 : L2.TG} {tt1 : TT} {te tl : TE} {vs vs1 : List Nat} {j n : Nat} {Y : Nat → Hp → V → Hp → Prop} (hw : EvW wi σ H n Y) (hY : ∀ i H1 x H2, Y i H1 x H2 → H2 = H1) (hwp : ∀ x, wipe ((wipe σ vs).set j (some x)) vs = wipe σ vs)
    (hi : ∀ i x H1, i < n → Ex H H1 → Y i H1 x H1 → EvL tl ((wipe σ vs).set j (some x)) H1 []) : EvL (tLc2 wi (gName j) tYes (iList K tl) g1 tt1 te vs vs1) σ H [] := fun H0 e0 Q q => by
  obtain ⟨J, G, w, hG, hwi⟩ := hw
  refine hwi H0 e0 _ fun H1 e1 D hD => ?_
  refine ⟨fun i m H' => m = n - i ∧ i ≤ n ∧ Ex H1 H' ∧ H' D = some (.lst []), ⟨n, by simp, Nat.zero_le _, Ex.new hD, upd_same⟩, ?_⟩
  rintro i m H' ⟨rfl, hin, p1, p2⟩
  have g := hG H' ((e0.trans e1).trans p1)
  by_cases hlt : i < n
  · refine .inr ⟨w.goes i H' hlt g, fun H2 => Ex H1 H2 ∧ H2 D = some (.lst []), fun H2 z => ⟨n - (i + 1), by omega, rfl, hlt, z.1, z.2⟩, fun x H2 y => ?_⟩
    have y := w.yields i H' x H2 hlt g y
    have e2 := hY i H' x H2 y
    subst e2
    refine ⟨hwp x, ?_⟩
    refine hi i x H2 hlt ((e0.trans e1).trans p1) y H2 (Ex.refl _) _ fun p H3 hp e3 h3 => ⟨p, rfl, ⟨[], sq_of h3⟩, fun a b H4 => a = 0 ∧ Ex H3 H4, ⟨0, rfl, Ex.refl _⟩, ?_⟩
    rintro a b H4 ⟨rfl, e4⟩
    exact .inl ⟨⟨[], sq_of (e4 p _ h3), Nat.le_refl _⟩, p1.trans (e3.trans e4), e4 D _ (e3 D _ p2)⟩
  · have e : i = n := by omega
    subst e
    exact .inl ⟨w.stops H' g, q D H' (fresh_back e1 hD) (e1.trans p1) p2⟩
theorem el_cat {ta tb : TE} {xs ys : List V} (ha : EvL ta σ H xs) (hb : EvL tb σ H ys) (hz : xs.length + ys.length ≤ 100000) : EvL (tOp rCat ta tb) σ H (xs ++ ys) := fun H1 e Q k =>
  ha H1 e _ fun p H2 np e2 hp => hb H2 (e.trans e2) _ fun q H3 nq e3 hq => ⟨p, q, xs, ys, rfl, rfl, e3 p _ hp, hq, sz_of hz, fun r hr => k r _ (fresh_back (e2.trans e3) hr) ((e2.trans e3).trans (Ex.new hr)) upd_same⟩
theorem ev_max1 {te : TE} {n : Int} (h : EvL te σ H [.int n]) : Ev (tCB (rMax K) (tCons te tNil)) σ H (.int n) := fun H1 e Q q =>
  h H1 e _ fun p H2 _ e2 h2 => ⟨p, [n], rfl, sq_of h2, Nat.one_pos, fun m hm _ => by
    rw [List.mem_singleton.mp hm]
    exact q H2 e2⟩
end
section
variable {P : Program} {w : World} {K : PySem.W.Frag} {mg : Str → Option Value} {base : Heap} {f : Addr} {fd : FuncData}
theorem bodies_call {K : PySem.W.Frag} {H : Hp} {t : Addr} {w : Str} {r : List V} (h : FlatS K H t w r) : SpL (spBodies K) [.ref t] H [] := RetL.call fun H1 e Q E q => ⟨t, w, r, rfl, h.same e, q⟩
theorem sc_bodies : FnScope ["statement"] ["statement"] (defScope sBodies) := ⟨rfl, rfl, rfl, by decide +kernel, rfl, by decide +kernel, by decide +kernel⟩
theorem ok_bodies (F : FnP K "bodies_of" sBodies [] f fd) (gL : mg "len" = none) : FnOk P w K mg base CX0 1 f fd ["statement"] (spBodies K) := by
  refine F.ok sc_bodies (fun vs H Q E h => ?_) (fun cdv A outer s H vs Q E hr h => ?_)
  · obtain ⟨t, w, r, rfl, _⟩ := h
    rfl
  · obtain ⟨t, w, r, rfl, ⟨hs, h1, h2, hl⟩, k⟩ := h
    refine ⟨_, pss_cons (ps_if (PW.pt (pw_and (pt_cmpR op_eq (pe_callB call_len_seq (by rfl) gL PySem.boot_len (pa_cons (pv 0) pa_nil)) pe_int (nomark _)) (pw_and1 (pt_cmpR op_eq (pe_ix ix_tup (pv 0) pe_int (fun _ _ => rfl)) pe_str (nomark _))))) pss_no pss_nil)
      (pss_cons (ps_if (PW.pt (pw_and (pt_cmpR op_eq (pe_callB call_len_seq (by rfl) gL PySem.boot_len (pa_cons (pv 0) pa_nil)) pe_int (nomark _)) (pw_and1 (pt_cmpR op_eq (pe_ix ix_tup (pv 0) pe_int (fun _ _ => rfl)) pe_str (nomark _))))) pss_no pss_nil)
      (pss_one (ps_ret (pe_lst pa_nil)))), ?_⟩
    have nf : ∀ b : Bool, (b && decide (V.str w = V.str "if")) = true → False := fun b z => h1 (V.str.inj (of_decide_eq_true (Bool.and_eq_true_iff.mp z).2))
    have nw : ∀ b : Bool, (b && decide (V.str w = V.str "while")) = true → False := fun b z => h2 (V.str.inj (of_decide_eq_true (Bool.and_eq_true_iff.mp z).2))
    refine q_when (et_and (et_eq (ev_lenQ (ev_var rfl) (.inr hs)) ev_c rfl) fun _ => et_eq (ev_ixT (ev_var rfl) ev_c hs (at_of (j := 0) rfl rfl)) ev_c rfl) (fun hb => (nf _ hb).elim) fun _ H1 e1 => ?_
    refine q_when (et_and (et_eq (ev_lenQ (ev_var rfl) (.inr (Same.seqT e1 hs))) ev_c rfl) fun _ => et_eq (ev_ixT (ev_var rfl) ev_c (Same.seqT e1 hs) (at_of (j := 0) rfl rfl)) ev_c rfl) (fun hb => (nw _ hb).elim) fun _ H2 e2 => ?_
    exact s_retL (el_lst ea_nil (by decide)) fun p H3 hp e3 h3 => k.go (e1.trans e2) hp e3 h3
theorem sc_count : FnScope ["body", "statement", "inner"] ["body"] (defScope sCount) := ⟨rfl, rfl, rfl, by decide +kernel, rfl, by decide +kernel, by decide +kernel⟩
def t_countE (K : PySem.W.Frag) : TE := tOp (rI0 fun i j => .int (i + j)) (tC (.int 1)) (tCB (rSum K) (tCons (tLc (iList K (tCall (spBodies K) [] E0 (tCons (tVar 1) tNil))) (gName 2) tYes (fun _ _ _ => False) [2]) tNil))
theorem ok_count {fB : Addr} {fdB : FuncData} (F : FnP K "count_in" sCount [] f fd) (GB : FnOk P w K mg base CX0 1 fB fdB ["statement"] (spBodies K)) (gB : mg "bodies_of" = some (.ref fB)) (kB : PySem.W.keepIn K (.ref fB) = true) (bB : Binds K fdB ["statement"] []) (gS : mg "sum" = none) :
    FnOk P w K mg base CX0 2 f fd ["body"] (spCount K) := by
  refine F.ok sc_count (fun vs H Q E h => ?_) (fun cdv A outer s H vs Q E hr h => ?_)
  · obtain ⟨a, xs, rfl, _⟩ := h
    rfl
  · obtain ⟨a, xs, rfl, hB, k⟩ := h
    refine ⟨_, pss_one (ps_ret (pe_callB (cr_sum rfl) (by rfl) gS boot_sum (pa_cons (pe_lc (own := [("statement", 1)]) (g := gName 1) (tt := tYes) (te := t_countE K) rfl sc_count.nd (pi_sq 0) (blkOk_by (by kernel_rfl)) (fun _ _ _ _ _ => pg_name (i := 1) sc_count.nd rfl (Or.inl rfl)) (fun _ _ _ _ _ => pts_nil) (fun _ _ _ _ _ => ?_)) pa_nil))), ?_⟩
    · refine pe_op op_add pe_int ?_
      refine pe_callB (r := rSum K) (cr_sum rfl) (by rfl) gS boot_sum (pa_cons ?_ pa_nil)
      exact pe_lc (own := [("inner", 2)]) (g := gName 2) (tt := tYes) rfl sc_count.nd (pi_list (by exact pe_call GB hr (by rfl) gB kB bB .nil pass0 (by exact pa_cons (pv 1) pa_nil))) (blkOk_by (by kernel_rfl)) (fun _ _ _ _ _ => pg_name (i := 2) sc_count.nd rfl (Or.inl rfl)) (fun _ _ _ _ _ => pts_nil) (fun _ _ _ _ _ => pe_no)
    have in0 : ∀ σ' H', Ex H H' → ∀ x, σ'[1]? = some (some x) → Flat K H x → Ev (t_countE K) σ' H' (.int 1) := by
      intro σ' H' e x hx hf
      obtain ⟨t, w, r, rfl, hf⟩ := hf
      refine ev_op (x := .int 1) (y := .int 0) ev_c (ev_sum0 (el_lc0 (el_call (ea_cons (ev_var hx) ea_nil) (bodies_call (hf.same e))))) rv_I0
    have el : EvN (tLc (iSq K 0) (gName 1) tYes (t_countE K) [1]) (start ["body", "statement", "inner"] [.ref a]) H (ixs xs.length fun _ => true) (fun k y _ => y = .int 1) := by
      refine en_lcN (fun _ => true) (ew_sq rfl hB.1) (by have := hB.2.1; omega) (fun i H1 x H2 y => y.1) (fun x => rfl) (fun i x H1 hi e y => et_yes) fun i x H1 hi e y _ => ?_
      exact evp_v (in0 _ _ (Ex.refl _) x rfl (hB.2.2 x (List.mem_of_getElem? y.2)))
    refine s_ret (ev_is (ev_sum (ns := (ixs xs.length fun _ => true).map fun _ => (1 : Int)) (by
      have h2 := EvN.vals el
      rw [List.map_map]
      exact h2)) (by rw [ixs_all, sum_ones, List.length_range])) fun H1 e1 => k.go e1
theorem sc_nest : FnScope ["body", "statement", "inner"] ["body"] (defScope sNest) := ⟨rfl, rfl, rfl, by decide +kernel, rfl, by decide +kernel, by decide +kernel⟩
theorem ok_nest {fB : Addr} {fdB : FuncData} (F : FnP K "nesting_of" sNest [] f fd) (GB : FnOk P w K mg base CX0 1 fB fdB ["statement"] (spBodies K)) (gB : mg "bodies_of" = some (.ref fB)) (kB : PySem.W.keepIn K (.ref fB) = true) (bB : Binds K fdB ["statement"] []) (gS : mg "max" = none) :
    FnOk P w K mg base CX0 2 f fd ["body"] (spNest K) := by
  refine F.ok sc_nest (fun vs H Q E h => ?_) (fun cdv A outer s H vs Q E hr h => ?_)
  · obtain ⟨a, xs, rfl, _⟩ := h
    rfl
  · obtain ⟨a, xs, rfl, hB, k⟩ := h
    refine ⟨_, pss_one (ps_ret (pe_op op_add pe_int (pe_callB (r := rMax K) (cr_max rfl) (by rfl) gS boot_max (pa_cons (pe_op op_cat (pe_lst (pa_cons pe_int pa_nil)) (pe_lc2 (own := [("statement", 1), ("inner", 2)]) (vs1 := [2]) (g := gName 1) (g1 := gName 2) (tt := tYes) (tt1 := tYes) (wi1 := iList K (tCall (spBodies K) [] E0 (tCons (tVar 1) tNil))) rfl sc_nest.nd (pi_sq 0) (blkOk_by (by kernel_rfl)) (by decide)
      (fun _ _ _ _ _ => pg_name (i := 1) sc_nest.nd rfl (Or.inl rfl)) (fun _ _ _ _ _ => pts_nil) (fun _ _ _ _ _ => ?_) (fun _ _ _ _ _ => pg_name (i := 2) sc_nest.nd rfl (Or.inl rfl)) (fun _ _ _ _ _ => pts_nil) (fun _ _ _ _ _ => pe_no))) pa_nil)))), ?_⟩
    · exact pi_list (by exact pe_call GB hr (by rfl) gB kB bB .nil pass0 (by exact pa_cons (pv 1) pa_nil))
    refine s_ret (ev_op (x := .int 1) (y := .int 0) ev_c (ev_max1 (el_cat (ys := []) (el_lst (ea_cons ev_c ea_nil) (by decide)) (el_lc20 (ew_sq rfl hB.1) (fun i H1 x H2 y => y.1) (fun x => rfl) fun i x H1 hi e y => ?_) (by decide))) rv_I0) fun H1 e1 => k.go e1
    obtain ⟨t, w, r, rfl, hf⟩ := hB.2.2 x (List.mem_of_getElem? y.2)
    exact el_call (ea_cons (ev_var rfl) ea_nil) (bodies_call (hf.same e))
end
end Cp

namespace Cp
open PySem PySem.Spec PyProof.Rows L2 Evl GF
abbrev sNum : Stmt := top 6
def Nnum : List Str := ["body", "first", "at", "statement", "inner"]
theorem gsc_num : GScope Nnum ["body", "first"] (defScope sNum) := ⟨rfl, rfl, rfl, by decide +kernel, rfl, by decide +kernel, by decide +kernel⟩
theorem gnc_num : ∀ y ∈ (defScope sNum).names, y.2 ≠ .cell := by decide +kernel
def tGno : GW → TY := fun _ _ _ _ _ _ _ => False
theorem g1_no {G : GE} {st : Stmt} : GS1 G st tGno := ⟨fun _ _ _ _ _ _ _ _ _ _ _ _ _ _ _ _ _ _ _ _ _ _ _ h => h.elim⟩
theorem gs_no {G : GE} {st : List Stmt} : GSs1 G st tGno := ⟨fun _ _ _ _ _ _ _ _ _ _ _ _ _ _ _ _ _ _ _ _ _ _ _ h => h.elim⟩
def tNum (K : PySem.W.Frag) : GW → TY := tSq (tPl (tAsg (tVar 1) (gName 2))) (tSq (tFr (iSq K 0) (gName 3) (tSq (tYd (tTup (tCons (tVar 2) (tCons (tVar 3) tNil)))) (tSq (tPl (tAug 2 (tC (.int 1)) (ipI fun i j => i + j))) (tSq (tFr (iList K (tCall (spBodies K) [] E0 (tCons (tVar 3) tNil))) (gName 4) tGno) tN1)))) tN1)
section
variable {P : Program} {w : World} {K : PySem.W.Frag} {mg : Str → Option Value} {base : Heap}
theorem gb_num {X : Cx} {k : Nat} {f fB : Addr} {fdB : FuncData} {qual : Str} (GB : FnOk X.prog X.w X.K X.mg X.base CX0 1 fB fdB ["statement"] (spBodies X.K)) (gB : X.mg "bodies_of" = some (.ref fB)) (kB : PySem.W.keepIn X.K (.ref fB) = true) (bB : Binds X.K fdB ["statement"] []) :
    ∀ cdv gl own, GSt (ge X Nnum qual (defScope sNum) f cdv gl own) → Room 2 ((ge X Nnum qual (defScope sNum) f cdv gl own).Aw.deeper (ge X Nnum qual (defScope sNum) f cdv gl own).env) → GSs1 (ge X Nnum qual (defScope sNum) f cdv gl own) (defBody sNum) (tNum X.K) := by
  intro cdv gl own S hr
  refine g1_cons (g1_plain fun sr Hr => ps_asg (pv 1) (pg_name (i := 2) gsc_num.nd rfl (Or.inl rfl)) rfl) (g1_cons (g1_for S (fun sr Hr => pi_sq 0) (fun sr Hr => pg_name (i := 3) gsc_num.nd rfl (Or.inl rfl)) ?_) g1_nil)
  refine g1_cons (g1_yield S fun sr Hr => pe_tup (pa_cons (pv 2) (pa_cons (pv 3) pa_nil))) (g1_cons (g1_plain fun sr Hr => ps_aug gsc_num.nd (i := 2) rfl (Or.inl rfl) pe_int ip_add (Or.inl rfl)) (g1_cons (g1_for S (fun sr Hr => ?_) (fun sr Hr => pg_name (i := 4) gsc_num.nd rfl (Or.inl rfl)) gs_no) g1_nil))
  exact pi_list (pe_call GB (hr.mono (by decide)) (by rfl) gB kB bB .nil pass0 (pa_cons (pv 3) pa_nil))
end
/-- what is wanted of numbered -/
def UN (H0 : Hp) (xs : List V) : GW where
  Gd := fun H => Ex H0 H
  yl := fun Hr ys x H' => Ex Hr H' ∧ ∃ p y, x = .ref p ∧ xs[ys.length]? = some y ∧ H' p = some (.tup [.int (ys.length : Nat), y])
  fin := fun Hr ys H' => Ex Hr H' ∧ ys.length = xs.length
theorem num_run {K : PySem.W.Frag} {H0 : Hp} {a : Addr} {xs : List V} (hB : FlatB K H0 a xs) : ∀ H2, (UN H0 xs).Gd H2 → tNum K (UN H0 xs) (gEnd (UN H0 xs)) H2 [] xs.length (start Nnum [.ref a, .int 0]) H2 := by
  intro H2 g2
  refine ⟨.int 0, rfl, ?_⟩
  have body : ∀ (J : It) (σ0 : L2.St), (∀ i H, i < xs.length → Ex H0 H → J.go i H) → (∀ H, Ex H0 H → J.stop xs.length H) → (∀ i H x H', i < xs.length → Ex H0 H → J.yld i H x H' → YAt xs i H x H') → σ0[0]? = some (some (.ref a)) → σ0[2]? = some (some (.int 0)) → σ0.length = 5 → 
      ∃ W : Nat → Nat → Hp → List V → L2.St → Hp → Prop, (∃ m, W 0 m H2 [] σ0 H2) ∧ ∀ i m Hr ys σ H, W i m Hr ys σ H →
      (J.stop i H ∧ tN1 (UN H0 xs) (gEnd (UN H0 xs)) Hr ys xs.length σ H) ∨ (J.go i H ∧ ∃ N : Hp → List V → L2.St → Hp → Prop, (∀ Hr' ys' σ' H', N Hr' ys' σ' H' → ∃ m', m' < m ∧ W (i + 1) m' Hr' ys' σ' H') ∧
        ∀ x H', J.yld i H x H' → gName 3 x σ H' fun σ2 H2 => (tSq (tYd (tTup (tCons (tVar 2) (tCons (tVar 3) tNil)))) (tSq (tPl (tAug 2 (tC (.int 1)) (ipI fun i j => i + j))) (tSq (tFr (iList K (tCall (spBodies K) [] E0 (tCons (tVar 3) tNil))) (gName 4) tGno) tN1))) (UN H0 xs) { nx := N, ct := N, bk := fun _ _ _ _ => False } Hr ys xs.length σ2 H2) := by
    intro J σ0 hgo hst hy z0 z2 zl
    refine ⟨fun i m Hr ys σ H => m = xs.length - i ∧ i = ys.length ∧ i ≤ xs.length ∧ σ[0]? = some (some (.ref a)) ∧ σ[2]? = some (some (.int (i : Nat))) ∧ σ.length = 5 ∧ Ex Hr H ∧ Ex H0 Hr, ⟨_, rfl, rfl, Nat.zero_le _, z0, z2, zl, Ex.refl _, g2⟩, ?_⟩
    rintro i m Hr ys σ H ⟨rfl, rfl, hi, s0, s2, sl, e, e0⟩
    by_cases hlt : ys.length < xs.length
    · refine .inr ⟨hgo _ H hlt (e0.trans e), fun Hr' ys' σ' H' => ys'.length = ys.length + 1 ∧ σ'[0]? = some (some (.ref a)) ∧ σ'[2]? = some (some (.int ((ys.length + 1 : Nat)))) ∧ σ'.length = 5 ∧ Ex Hr' H' ∧ Ex H0 Hr', ?_, ?_⟩
      · rintro Hr' ys' σ' H' ⟨q1, q2, q3, q4, q5, q6⟩
        exact ⟨_, by omega, rfl, q1.symm, hlt, q2, q3, q4, q5, q6⟩
      · intro x H' y
        obtain ⟨rfl, hx⟩ := hy _ H x H' hlt (e0.trans e) y
        show _ ∧ _
        refine ⟨hlt, ⟨_, by rw [List.getElem?_set_ne (by decide)]; exact s2, _, by rw [List.getElem?_set_self (by omega)], sz_of (n := 2) (by decide), fun p hp => ⟨⟨e.trans (Ex.new hp), p, x, rfl, hx, upd_same⟩, fun H3 g3 => ?_⟩⟩⟩
        refine ⟨.int (ys.length : Nat), by rw [List.getElem?_set_ne (by decide)]; exact s2, ys.length, 1, rfl, rfl, ?_⟩
        obtain ⟨t, wd, r, rfl, hf⟩ := hB.2.2 x (List.mem_of_getElem? hx)
        refine ⟨.ref t, by rw [List.getElem?_set_ne (by decide), List.getElem?_set_self (by omega)], ?_⟩
        refine ⟨t, wd, r, rfl, hf.same g3, fun p4 H4 hp4 e4 h4 => ⟨p4, rfl, ⟨[], sq_of h4⟩, ?_⟩⟩
        refine ⟨fun i m Hr' ys' σ' H' => i = 0 ∧ Ex H3 H' ∧ H' p4 = some (.lst []) ∧ Hr' = H3 ∧ ys' = ys ++ [.ref p] ∧ σ' = (σ.set 3 (some (.ref t))).set 2 (some (.int ((ys.length : Int) + 1))), ⟨0, rfl, e4, h4, rfl, rfl, rfl⟩, ?_⟩
        rintro i m Hr' ys' σ' H' ⟨rfl, q1, q2, rfl, rfl, rfl⟩
        refine .inl ⟨⟨[], sq_of q2, Nat.le_refl _⟩, ?_, ?_, ?_, ?_, q1, g3⟩
        · rw [List.length_append]; rfl
        · rw [List.getElem?_set_ne (by decide), List.getElem?_set_ne (by decide)]
          exact s0
        · rw [List.getElem?_set_self (by rw [List.length_set]; omega)]
          rfl
        · rw [List.length_set, List.length_set]
          exact sl
    · have q : ys.length = xs.length := by omega
      refine .inl ⟨by rw [q]; exact hst H (e0.trans e), e, q⟩
  refine ⟨a, rfl, ?_⟩
  rcases hB.1 with q | q
  · exact .inl ⟨⟨xs, ex_l g2 q⟩, body (Itl K a) _ (fun i H hi e => walk_list.goes i H hi (ex_l e q)) (fun H e => walk_list.stops H (ex_l e q)) (fun i H x H' hi e y => walk_list.yields i H x H' hi (ex_l e q) y) rfl rfl rfl⟩
  · exact .inr ⟨⟨xs, ex_t g2 q⟩, body (Itt K a) _ (fun i H hi e => walk_tup.goes i H hi (ex_t e q)) (fun H e => walk_tup.stops H (ex_t e q)) (fun i H x H' hi e y => walk_tup.yields i H x H' hi (ex_t e q) y) rfl rfl rfl⟩
/-- for .. in numbered(body, 0), the heap's old things standing -/
theorem s_forNum {K : PySem.W.Frag} {σ : L2.St} {H : Hp} {ta : TA} {g : L2.TG} {tb : TS} {D : Ends} {a : Addr} {xs : List V} (ha : EvA ta σ H [.ref a, .int 0]) (hB : FlatB K H a xs) (Pv : Nat → L2.St → Hp → Prop) (h0 : ∀ H1, Ex H H1 → Pv 0 σ H1) (hG : ∀ i σ' H', Pv i σ' H' → Ex H H')
    (hs : ∀ i x σ' H' p H2 (N : L2.St → Hp → Prop), xs[i]? = some x → Pv i σ' H' → Ex H' H2 → H2 p = some (.tup [.int (i : Nat), x]) → (∀ σ3 H3, Pv (i + 1) σ3 H3 → N σ3 H3) → g (.ref p) σ' H2 fun σ2 H3 => tb { D with nx := N, ct := N, bk := D.nx } σ2 H3)
    (hd : ∀ σ' H' H2, Pv xs.length σ' H' → Ex H' H2 → D.nx σ' H2) :
    tForG ta Nnum (tNum K) g tb D σ H := ha H (Ex.refl H) _ fun H1 e1 => ⟨UN H xs, xs.length, num_run hB, fun m ys σ' H' => m = xs.length - ys.length ∧ ys.length ≤ xs.length ∧ Pv ys.length σ' H', ⟨_, rfl, Nat.zero_le _, h0 H1 e1⟩, by
  rintro m ys σ' H' ⟨rfl, hl, pv⟩
  refine ⟨hG _ _ _ pv, ?_, ?_⟩
  · rintro x H2 ⟨e2, p, y, rfl, hy, hp⟩
    have hlt := (List.getElem?_eq_some_iff.mp hy).1
    exact hs ys.length y σ' H' p H2 _ hy pv e2 hp fun σ3 H3 z => ⟨xs.length - (ys ++ [V.ref p]).length, by rw [List.length_append, List.length_singleton]; omega, rfl, by rw [List.length_append, List.length_singleton]; omega, by rw [List.length_append, List.length_singleton]; exact z⟩
  · rintro H2 ⟨e2, hl2⟩
    rw [hl2] at pv
    exact hd σ' H' H2 pv e2⟩
end Cp

namespace Cp
open PySem PySem.Spec PyProof.Rows L2 Evl
/-- the statements of the law's programs: put x.n, copy y from x's mark, call, and the four odd ones -/
inductive Sh where
  | P | M | C (w : Str) | O0 | O1 | O2 | O3
deriving DecidableEq
/-- v is such a statement -/
def IsS (K : PySem.W.Frag) (H : Hp) : Sh → V → Prop
  | .P, v => ∃ t q, v = .ref t ∧ SqT K H t [.str "put", .ref q] ∧ SqT K H q [.str "x", .str "n"]
  | .M, v => ∃ t p q, v = .ref t ∧ SqT K H t [.str "copy", .ref p, .ref q, .bl true] ∧ SqT K H p [.str "y"] ∧ SqT K H q [.str "x"]
  | .C w, v => ∃ t p q r u, v = .ref t ∧ SqT K H t [.str "call", .ref p, .str w, .ref q] ∧ SqT K H p [.str "x"] ∧ SqT K H q [.ref r] ∧ SqT K H r [.ref u, .bl false] ∧ SqT K H u [.str "x"]
  | .O0, v => ∃ t q, v = .ref t ∧ SqT K H t [.str "put", .ref q] ∧ SqT K H q [.str "x"]
  | .O1, v => ∃ t, v = .ref t ∧ SqT K H t [.str "put"]
  | .O2, v => ∃ t q, v = .ref t ∧ SqT K H t [.str "sing", .ref q] ∧ SqT K H q [.str "x"]
  | .O3, v => ∃ t q, v = .ref t ∧ SqT K H t [.str "new", .ref q] ∧ SqT K H q [.str "zz"]
theorem IsS.ex {K : PySem.W.Frag} {H H' : Hp} (e : Ex H H') : ∀ {s : Sh} {v : V}, IsS K H s v → IsS K H' s v
  | .P, _, ⟨t, q, a, b, c⟩ => ⟨t, q, a, ex_t e b, ex_t e c⟩
  | .M, _, ⟨t, p, q, a, b, c, d⟩ => ⟨t, p, q, a, ex_t e b, ex_t e c, ex_t e d⟩
  | .C _, _, ⟨t, p, q, r, u, a, b, c, d, f, g⟩ => ⟨t, p, q, r, u, a, ex_t e b, ex_t e c, ex_t e d, ex_t e f, ex_t e g⟩
  | .O0, _, ⟨t, q, a, b, c⟩ => ⟨t, q, a, ex_t e b, ex_t e c⟩
  | .O1, _, ⟨t, a, b⟩ => ⟨t, a, ex_t e b⟩
  | .O2, _, ⟨t, q, a, b, c⟩ => ⟨t, q, a, ex_t e b, ex_t e c⟩
  | .O3, _, ⟨t, q, a, b, c⟩ => ⟨t, q, a, ex_t e b, ex_t e c⟩
def Sh.word : Sh → Str
  | .P => "put" | .M => "copy" | .C _ => "call" | .O0 => "put" | .O1 => "put" | .O2 => "sing" | .O3 => "new"
theorem IsS.flat {K : PySem.W.Frag} {H : Hp} : ∀ {s : Sh} {v : V}, IsS K H s v → ∃ t r, v = .ref t ∧ FlatS K H t s.word r
  | .P, _, ⟨t, q, a, b, c⟩ => ⟨t, _, a, b, by decide, by decide, by simp⟩
  | .M, _, ⟨t, p, q, a, b, c, d⟩ => ⟨t, _, a, b, by decide, by decide, by simp⟩
  | .C _, _, ⟨t, p, q, r, u, a, b, c, d, f, g⟩ => ⟨t, _, a, b, (show ("call" : Str) ≠ "if" by decide), (show ("call" : Str) ≠ "while" by decide), by simp⟩
  | .O0, _, ⟨t, q, a, b, c⟩ => ⟨t, _, a, b, by decide, by decide, by simp⟩
  | .O1, _, ⟨t, a, b⟩ => ⟨t, _, a, b, by decide, by decide, by simp⟩
  | .O2, _, ⟨t, q, a, b, c⟩ => ⟨t, _, a, b, by decide, by decide, by simp⟩
  | .O3, _, ⟨t, q, a, b, c⟩ => ⟨t, _, a, b, by decide, by decide, by simp⟩
theorem IsS.isFlat {K : PySem.W.Frag} {H : Hp} {s : Sh} {v : V} (h : IsS K H s v) : Flat K H v := let ⟨t, r, e, f⟩ := h.flat; ⟨t, _, r, e, f⟩
/-- a body -/
def IsB (K : PySem.W.Frag) (H : Hp) : List Sh → List V → Prop
  | [], xs => xs = []
  | s :: ss, xs => ∃ v vs, xs = v :: vs ∧ IsS K H s v ∧ IsB K H ss vs
theorem IsB.ex {K : PySem.W.Frag} {H H' : Hp} (e : Ex H H') : ∀ {ss : List Sh} {xs : List V}, IsB K H ss xs → IsB K H' ss xs
  | [], _, h => h
  | _ :: _, _, ⟨v, vs, a, b, c⟩ => ⟨v, vs, a, b.ex e, IsB.ex e c⟩
theorem IsB.len {K : PySem.W.Frag} {H : Hp} : ∀ {ss : List Sh} {xs : List V}, IsB K H ss xs → xs.length = ss.length
  | [], _, h => by rw [h]; rfl
  | _ :: ss, _, ⟨v, vs, a, b, c⟩ => by rw [a, List.length_cons, List.length_cons, IsB.len c]
theorem IsB.at {K : PySem.W.Frag} {H : Hp} : ∀ {ss : List Sh} {xs : List V} {i : Nat} {x : V}, IsB K H ss xs → xs[i]? = some x → ∃ s, ss[i]? = some s ∧ IsS K H s x
  | [], _, _, _, h, e => by rw [h] at e; simp at e
  | s :: ss, _, 0, x, ⟨v, vs, a, b, c⟩, e => by
    rw [a] at e
    have : v = x := Option.some.inj e
    exact ⟨s, rfl, this ▸ b⟩
  | s :: ss, _, i + 1, x, ⟨v, vs, a, b, c⟩, e => by
    rw [a] at e
    exact IsB.at (ss := ss) (i := i) c e
theorem IsB.of {K : PySem.W.Frag} {H : Hp} : ∀ {ss : List Sh} {xs : List V}, xs.length = ss.length → (∀ (i : Nat) s x, ss[i]? = some s → xs[i]? = some x → IsS K H s x) → IsB K H ss xs
  | [], xs, h, _ => List.eq_nil_of_length_eq_zero h
  | s :: ss, [], h, _ => by simp at h
  | s :: ss, x :: xs, h, k => ⟨x, xs, rfl, k 0 s x rfl rfl, IsB.of (by simpa using h) fun i s' x' a b => k (i + 1) s' x' a b⟩
theorem IsB.flat {K : PySem.W.Frag} {H : Hp} {a : Addr} {ss : List Sh} {xs : List V} (h : IsB K H ss xs) (hs : Sq K H a xs) (hl : ss.length ≤ 100) : FlatB K H a xs := ⟨hs, by rw [h.len]; exact hl, fun x hx => by
  obtain ⟨i, hi⟩ := List.mem_iff_getElem?.mp hx
  obtain ⟨s, _, z⟩ := h.at hi
  exact z.isFlat⟩

/-! ### new lists told by a word -/
def EvB (te : TE) (σ : L2.St) (H : Hp) (Pp : List V → Hp → Prop) : Prop := ∀ H1, Ex H H1 → ∀ Q : VK, (∀ p ys H2, H1 p = none → Ex H1 H2 → H2 p = some (.lst ys) → (∀ H3, Kp H H1 H2 H3 → Pp ys H3) → Q (.ref p) H2) → te σ H1 Q
/-- the promise: H0 what the caller knows -/
def RetB (H0 : Hp) (Pp : List V → Hp → Prop) (H : Hp) (Q : VK) : Prop := ∀ p ys H2, H p = none → Ex H H2 → H2 p = some (.lst ys) → (∀ H3, Kp H0 H H2 H3 → Pp ys H3) → Q (.ref p) H2
section
variable {K : PySem.W.Frag} {σ : L2.St} {H : Hp}
theorem EvB.of {te : TE} {xs : List V} {Pp : List V → Hp → Prop} (h : EvL te σ H xs) (hp : ∀ H1, Ex H H1 → Pp xs H1) : EvB te σ H Pp := fun H1 e Q q => h H1 e Q fun p H2 n e2 h2 => q p xs H2 n e2 h2 fun H3 k => hp H3 k.old
theorem EvB.mono {te : TE} {Pp : List V → Hp → Prop} {H' : Hp} (e : Ex H H') (h : EvB te σ H Pp) : EvB te σ H' Pp := fun H1 a Q q => h H1 (e.trans a) Q fun p ys H2 n e2 h2 z => q p ys H2 n e2 h2 fun H3 k => z H3 ⟨e.trans k.old, k.new⟩
theorem eb_call {sp : Sp} {dvs vs : List V} {E : XK} {ta : TA} {Pp : List V → Hp → Prop} (h : EvA ta σ H vs) (hs : ∀ H1, Ex H H1 → ∀ Q E, RetB H Pp H1 Q → sp (vs ++ dvs) H1 Q E) : EvB (tCall sp dvs E ta) σ H Pp := fun H1 e Q q =>
  h H1 e _ fun H2 e2 => hs H2 (e.trans e2) Q E fun p ys H3 n e3 h3 z => q p ys H3 (fresh_back e2 n) (e2.trans e3) h3 fun H4 k => z H4 ⟨k.old, fun a o na ha => k.new a o (fresh_back e2 na) ha⟩
/-- a display of one new tuple -/
theorem eb_tup1 {ta : TA} {vs : List V} (h : EvA ta σ H vs) (hl : vs.length ≤ 100000) : EvB (tLst (tCons (tTup ta) tNil)) σ H (fun ys H3 => ∃ t, ys = [.ref t] ∧ SqT K H3 t vs) := fun H1 e Q q =>
  h H1 e _ fun H2 e2 => ⟨sz_of hl, fun t ht => ⟨sz_of (n := 1) (by decide), fun p hp => q p [.ref t] _ (fresh_back (e2.trans (Ex.new ht)) hp) ((e2.trans (Ex.new ht)).trans (Ex.new hp)) upd_same fun H3 k => ⟨t, rfl, st_of (k.new t _ (fresh_back e2 ht) (by
    rw [upd_ne (ne_of_none upd_same hp), upd_same]))⟩⟩⟩
theorem s_retB {te : TE} {Pp : List V → Hp → Prop} {D : Ends} {H0 He : Hp} {Q : VK} (h : EvB te σ H0 Pp) (e0 : Ex H0 He) (e1 : Ex He H) (k : RetB H0 Pp He Q) (hQ : D.rt = Q) : tRet te D σ H := h H (e0.trans e1) _ fun p ys H2 n e2 h2 z => by
  rw [hQ]
  exact k p ys H2 (fresh_back e1 n) (e1.trans e2) h2 fun H3 kk => z H3 ⟨kk.old, fun a o na ha => kk.new a o (fresh_back e1 na) ha⟩
theorem eb_if {t : TT} {ta tb : TE} {b : Bool} {Pp : List V → Hp → Prop} (h : EvT t σ H b) (h1 : b = true → EvB ta σ H Pp) (h2 : b = false → EvB tb σ H Pp) : EvB (tIf t ta tb) σ H Pp := fun H1 e Q q => h H1 e _ fun H2 e2 => by
  have q' : ∀ p ys H3, H2 p = none → Ex H2 H3 → H3 p = some (.lst ys) → (∀ H4, Kp H H2 H3 H4 → Pp ys H4) → Q (.ref p) H3 := fun p ys H3 n e3 h3 z => q p ys H3 (fresh_back e2 n) (e2.trans e3) h3 fun H4 k => z H4 ⟨k.old, fun a o na ha => k.new a o (fresh_back e2 na) ha⟩
  cases b with
  | true =>
    show ta σ H2 Q
    exact h1 rfl H2 (e.trans e2) Q q'
  | false =>
    show tb σ H2 Q
    exact h2 rfl H2 (e.trans e2) Q q'
theorem el_of {ta : TE} {p : Addr} {xs : List V} (ha : Ev ta σ H (.ref p)) (h : Sq K H p xs) : EvL (tCB (fun xs H Q => ∃ p ys, xs = [.ref p] ∧ (SqL K H p ys ∨ SqT K H p ys) ∧ ∀ l, H l = none → Q (.ref l) (upd H l (.lst ys))) (tCons ta tNil)) σ H xs := fun H1 e Q q =>
  ha H1 e _ fun H2 e2 => ⟨p, xs, rfl, h.same (e.trans e2), fun l hl => q l _ (fresh_back e2 hl) (e2.trans (Ex.new hl)) upd_same⟩
end
section
variable {K : PySem.W.Frag} {σ : L2.St} {H : Hp} {t : TT} {ta tb : TE} {tu tw tz : TS} {D : Ends}
theorem et_eqs {x y : Str} {b : Bool} (h1 : Ev ta σ H (.str x)) (h2 : Ev tb σ H (.str y)) (hb : decide (V.str x = V.str y) = b) : EvT (tTest (tOp rEq ta tb)) σ H b := et_is (et_eq h1 h2 rfl) hb
theorem et_nes {x y : Str} {b : Bool} (h1 : Ev ta σ H (.str x)) (h2 : Ev tb σ H (.str y)) (hb : (!decide (V.str x = V.str y)) = b) : EvT (tTest (tOp rNe ta tb)) σ H b := et_is (et_ne h1 h2 rfl) hb
theorem q_no (h : EvT t σ H false) (k : ∀ H1, Ex H H1 → tz D σ H1) : tSeq (tIfS t tu tNext) tz D σ H := q_when h (fun z => nomatch z) fun _ => k
theorem q_yes (h : EvT t σ H true) (k : ∀ H1, Ex H H1 → tu { D with nx := tz D } σ H1) : tSeq (tIfS t tu tw) tz D σ H := q_if h (fun _ => k) fun z => nomatch z
theorem q_els (h : EvT t σ H false) (k : ∀ H1, Ex H H1 → tw { D with nx := tz D } σ H1) : tSeq (tIfS t tu tw) tz D σ H := q_if h (fun z => nomatch z) fun _ => k
theorem eb_yes {Pp : List V → Hp → Prop} (h : EvT t σ H true) (h1 : EvB ta σ H Pp) : EvB (tIf t ta tb) σ H Pp := eb_if h (fun _ => h1) fun z => nomatch z
theorem eb_els {Pp : List V → Hp → Prop} (h : EvT t σ H false) (h1 : EvB tb σ H Pp) : EvB (tIf t ta tb) σ H Pp := eb_if h (fun z => nomatch z) fun _ => h1
/-- t[j] of a tuple -/
theorem ev_t {i j : Nat} {p : Addr} {xs : List V} {v : V} (hσ : σ[i]? = some (some (.ref p))) (h : SqT K H p xs) (hj : xs[j]? = some v) : Ev (tOp (rIxT K) (tVar i) (tC (.int (j : Nat)))) σ H v := ev_ixT (ev_var hσ) ev_c h (at_of rfl hj)
theorem EvB.imp {te : TE} {Pp Pp' : List V → Hp → Prop} (h : EvB te σ H Pp) (hp : ∀ ys H1, Ex H H1 → Pp ys H1 → Pp' ys H1) : EvB te σ H Pp' := fun H1 e Q q => h H1 e Q fun p ys H2 n e2 h2 z => q p ys H2 n e2 h2 fun H3 k => hp ys H3 k.old (z H3 k)
end
/-! ### sources_of -/
def Sh.src : Sh → Option Bool
  | .M => some true | .C _ => some false | _ => none
/-- a source: the path x, and whether it gives -/
def IsSrc (K : PySem.W.Frag) (H : Hp) (b : Bool) (v : V) : Prop := ∃ t q, v = .ref t ∧ SqT K H t [.ref q, .bl b] ∧ SqT K H q [.str "x"]
def SrcL (K : PySem.W.Frag) (s : Sh) (ys : List V) (H : Hp) : Prop := match s.src with
  | none => ys = []
  | some b => ∃ v, ys = [v] ∧ IsSrc K H b v
def Sh.good : Sh → Bool
  | .P => true | .M => true | .C _ => true | _ => false
def spSrc (K : PySem.W.Frag) : Sp := fun vs H Q _ => ∃ s v H0, vs = [v] ∧ Ex H0 H ∧ IsS K H0 s v ∧ s.good = true ∧ RetB H0 (SrcL K s) H Q
abbrev sSrc : Stmt := top 9
theorem sc_src : FnScope ["statement"] ["statement"] (defScope sSrc) := ⟨rfl, rfl, rfl, by decide +kernel, rfl, by decide +kernel, by decide +kernel⟩
section
variable {P : Program} {w : World} {K : PySem.W.Frag} {mg : Str → Option Value} {base : Heap} {f : Addr} {fd : FuncData}
theorem ok_src (F : FnP K "sources_of" sSrc [] f fd) (gL : mg "list" = none) : FnOk P w K mg base CX0 1 f fd ["statement"] (spSrc K) := by
  refine F.ok sc_src (fun vs H Q E h => ?_) (fun cdv A outer s H vs Q E hr h => ?_)
  · obtain ⟨s, v, H0, rfl, _⟩ := h
    rfl
  · obtain ⟨s, v, H0, rfl, e0, hs, hg, k⟩ := h
    refine ⟨_, pss_cons (ps_if (pt_cmpR op_eq (pe_ix ix_tup (pv 0) pe_int (fun _ _ => rfl)) pe_str (nomark _)) (pss_one (ps_ret (pe_lst (pa_cons (pe_tup (pa_cons (pe_ix ix_tup (pv 0) pe_int (fun _ _ => rfl)) (pa_cons (pe_ix ix_tup (pv 0) pe_int (fun _ _ => rfl)) pa_nil))) pa_nil)))) pss_nil)
      (pss_one (ps_ret (pe_ifExp (pt_cmpR op_eq (pe_ix ix_tup (pv 0) pe_int (fun _ _ => rfl)) pe_str (nomark _)) (pe_callTy call_list_of (by rfl) gL boot_list (pa_cons (pe_ix ix_tup (pv 0) pe_int (fun _ _ => rfl)) pa_nil)) (pe_lst pa_nil)))), ?_⟩
    cases s with
    | P =>
      obtain ⟨t, q, rfl, h1, h2⟩ := hs
      refine q_no (et_eqs (ev_t (j := 0) rfl (ex_t e0 h1) rfl) ev_c (by decide)) fun H1 e1 => ?_
      refine s_retB (eb_els (et_eqs (ev_t (j := 0) rfl h1 rfl) ev_c (by decide)) (EvB.of (el_lst ea_nil (by decide)) fun _ _ => rfl)) e0 e1 k rfl
    | M =>
      obtain ⟨t, p, q, rfl, h1, h2, h3⟩ := hs
      refine q_yes (et_eqs (ev_t (j := 0) rfl (ex_t e0 h1) rfl) ev_c (by decide)) fun H1 e1 => ?_
      refine s_retB ((eb_tup1 (ea_cons (ev_t (j := 2) rfl h1 rfl) (ea_cons (ev_t (j := 3) rfl h1 rfl) ea_nil)) (by simp)).imp fun ys H2 e2 ⟨r, a, b⟩ => ⟨_, a, r, q, rfl, b, ex_t e2 h3⟩) e0 e1 k rfl
    | C w =>
      obtain ⟨t, p, q, r, u, rfl, h1, h2, h3, h4, h5⟩ := hs
      refine q_no (et_eqs (ev_t (j := 0) rfl (ex_t e0 h1) rfl) ev_c (by decide)) fun H1 e1 => ?_
      refine s_retB (eb_yes (et_eqs (ev_t (j := 0) rfl h1 rfl) ev_c (by decide)) (EvB.of (el_of (ev_t (j := 3) rfl h1 rfl) (.inr h3)) fun H2 e2 => ⟨_, rfl, r, u, rfl, ex_t e2 h4, ex_t e2 h5⟩)) e0 e1 k rfl
    | O0 => cases hg
    | O1 => cases hg
    | O2 => cases hg
    | O3 => cases hg
end
end Cp

namespace Cp
open PySem PySem.Spec PyProof.Rows L2 Evl
/-- what H0 knows, and what is new between He and H -/
def glue (H0 He H : Hp) : Hp := fun a => if He a = none then H a else H0 a
section
variable {H0 He H H2 H3 : Hp}
theorem glue_new {a : Addr} (h : He a = none) : glue H0 He H a = H a := if_pos h
theorem glue_old (e0 : Ex H0 He) : Ex H0 (glue H0 He H) := fun a o h => by
  unfold glue
  rw [if_neg (fun z => by rw [e0 a o h] at z; cases z)]
  exact h
theorem glue_ex (e0 : Ex H0 He) (e1 : Ex He H) : Ex (glue H0 He H) H := fun a o h => by
  unfold glue at h
  by_cases z : He a = none
  · rw [if_pos z] at h
    exact h
  · rw [if_neg z] at h
    exact e1 a o (e0 a o h)
theorem glue_kp (e1 : Ex He H) (e2 : Ex H H2) (k : Kp H0 He H2 H3) : Kp (glue H0 He H) H H2 H3 := by
  refine ⟨fun a o h => ?_, fun a o n h => k.new a o (fresh_back e1 n) h⟩
  unfold glue at h
  by_cases z : He a = none
  · rw [if_pos z] at h
    exact k.new a o z (e2 a o h)
  · rw [if_neg z] at h
    exact k.old a o h
end
section
variable {K : PySem.W.Frag} {σ : L2.St} {H : Hp}
theorem s_retG {te : TE} {Pp : List V → Hp → Prop} {D : Ends} {H0 He : Hp} {Q : VK} (h : EvB te σ (glue H0 He H) Pp) (e0 : Ex H0 He) (e1 : Ex He H) (k : RetB H0 Pp He Q) (hQ : D.rt = Q) : tRet te D σ H := h H (glue_ex e0 e1) _ fun p ys H2 n e2 h2 z => by
  rw [hQ]
  exact k p ys H2 (fresh_back e1 n) (e1.trans e2) h2 fun H3 kk => z H3 (glue_kp e1 e2 kk)
/-- [] + e -/
theorem eb_cat0 {ta tb : TE} {Pp : List V → Hp → Prop} {p : Addr} (ha : Ev ta σ H (.ref p)) (hp : H p = some (.lst [])) (hb : EvB tb σ H Pp) (hl : ∀ ys H1, Pp ys H1 → ys.length ≤ 1000) : EvB (tOp rCat ta tb) σ H Pp := fun H1 e Q q =>
  ha H1 e _ fun H2 e2 => hb H2 (e.trans e2) _ fun c ys H3 n e3 h3 z => ⟨p, c, [], ys, rfl, rfl, e3 p _ (e2 p _ (e p _ hp)), h3, by
    have := hl ys H3 (z H3 (Kp.self ((e.trans e2).trans e3)))
    exact sz_of (by simp; omega), fun l hl' => q l ys _ (fresh_back (e2.trans e3) hl') ((e2.trans e3).trans (Ex.new hl')) upd_same fun H4 k => z H4 ⟨k.old, fun a o na ha => k.new a o (fresh_back e2 na) (by
      rw [upd_ne (ne_of_none ha hl')]
      exact ha)⟩⟩
/-- a slice of a new list of which nothing stays -/
theorem el_sl0 {te : TE} {tl th : TO} {lo hi : Option Int} {Pp : List V → Hp → Prop} (h : EvB te σ H Pp) (h1 : EvO tl σ H lo) (h2 : EvO th σ H hi) (hc : ∀ ys H1, Pp ys H1 → cutV ys lo hi = []) : EvL (tSl (rSlL K) te tl th) σ H [] := fun H1 e Q q =>
  h H1 e _ fun p ys H2 n e2 hp z => h1 H2 (e.trans e2) _ fun H3 e3 => h2 H3 ((e.trans e2).trans e3) _ fun H4 e4 =>
    ⟨p, ys, rfl, sq_of (e4 p _ (e3 p _ hp)), fun l hl => q l _ (fresh_back ((e2.trans e3).trans e4) hl) (((e2.trans e3).trans e4).trans (Ex.new hl)) (by rw [upd_same, hc ys H2 (z H2 (Kp.self (e.trans e2)))])⟩
theorem pg_no {X : Cx} {tg : Expr} : PG X tg (fun _ _ _ _ => False) := ⟨fun _ _ _ _ _ _ _ _ _ h => h.elim⟩
theorem EvO.sum {te : TE} {i : Int} (h : Ev te σ H (.int i)) : EvO (tPart te) σ H (some i) := eo_some h
end
theorem g_two {K : PySem.W.Frag} {i j : Nat} {t : Addr} {x y : V} {σ : L2.St} {H : Hp} {Q : L2.St → Hp → Prop} (h : SqT K H t [x, y]) (k : Q ((σ.set i (some x)).set j (some y)) H) : gTup K 2 (gCons (gName i) (gCons (gName j) gNil)) (.ref t) σ H Q := ⟨t, _, rfl, h, rfl, x, _, rfl, y, _, rfl, rfl, k⟩
/-! ### uses_of, first_use -/
def UseL (K : PySem.W.Frag) (b : Bool) (n : Str) (ys : List V) (H : Hp) : Prop := ∃ t, ys = [.ref t] ∧ SqT K H t [.bl b, .str n]
def spUses (K : PySem.W.Frag) : Sp := fun vs H Q _ => ∃ s v H0, Ex H0 H ∧ IsS K H0 s v ∧ ((s = .P ∧ vs = [v, .int (-1)] ∧ RetB H0 (UseL K true "x") H Q) ∨ (s = .M ∧ vs = [v, .int 0] ∧ RetB H0 (UseL K false "y") H Q))
abbrev sUses : Stmt := top 10
def Nuses : List Str := ["statement", "done", "found", "path", "give"]
theorem sc_uses : FnScope Nuses ["statement", "done"] (defScope sUses) := ⟨rfl, rfl, rfl, by decide +kernel, rfl, by decide +kernel, by decide +kernel⟩
section
variable {P : Program} {w : World} {K : PySem.W.Frag} {mg : Str → Option Value} {base : Heap} {f : Addr} {fd : FuncData}
theorem ok_uses {fS : Addr} {fdS : FuncData} (F : FnP K "uses_of" sUses [.int (-1)] f fd) (GS : FnOk P w K mg base CX0 1 fS fdS ["statement"] (spSrc K)) (gS : mg "sources_of" = some (.ref fS)) (kS : PySem.W.keepIn K (.ref fS) = true) (bS : Binds K fdS ["statement"] []) (gL : mg "len" = none) :
    FnOk P w K mg base CX0 2 f fd ["statement", "done"] (spUses K) := by
  refine F.ok sc_uses (fun vs H Q E h => ?_) (fun cdv A outer s H vs Q E hr h => ?_)
  · obtain ⟨s, v, H0, _, _, ⟨_, rfl, _⟩ | ⟨_, rfl, _⟩⟩ := h <;> rfl
  · obtain ⟨s, v, H0, e0, hs, h⟩ := h
    refine ⟨_, pss_cons (by
        exact ps_if (pt_cmpR op_eq (pe_ix ix_tup (pv 0) pe_int (fun _ _ => rfl)) pe_str (nomark _)) (pss_one (ps_ret (pe_lst pa_nil))) pss_nil) <| pss_cons (by
        exact ps_if (pt_cmpR op_in_seq (pe_ix ix_tup (pv 0) pe_int (fun _ _ => rfl)) (pe_tup (pa_cons pe_str (pa_cons pe_str pa_nil))) rfl) (pss_one (ps_ret (pe_lst (pa_cons (pe_tup (pa_cons pe_bl (pa_cons (pe_ix ix_tup (pe_ix ix_tup (pv 0) pe_int (fun _ _ => rfl)) pe_int (fun _ _ => rfl)) pa_nil))) pa_nil)))) pss_nil) <| pss_cons (by
        exact ps_setLc (i := 2) (own := [("path", 3), ("give", 4)]) (g := fun _ _ _ _ => False) (tt := tYes) rfl sc_uses.nd rfl rfl rfl (pi_list (by exact pe_slice sl_list (pe_call GS hr (by rfl) gS kS bS .nil pass0 (pa_cons (pv 0) pa_nil)) (po_some (pe_op op_add (pv 1) pe_int)) po_none)) (blkOk_by (by kernel_rfl)) (fun _ _ _ _ _ => pg_no) (fun _ _ _ _ _ => pts_nil) (fun _ _ _ _ _ => pe_no)) <| pss_one (by
        refine ps_ret (pe_op op_cat (pv 2) (pe_lst (pa_cons (pe_tup (pa_cons (by
          exact pe_cmpR op_gt (pe_callB call_len_seq (by rfl) gL PySem.boot_len (pa_cons (pe_ix ix_tup (pv 0) pe_int (fun _ _ => rfl)) pa_nil)) pe_int (nomark _)) (pa_cons (by
          exact pe_ix ix_tup (pe_ix ix_tup (pv 0) pe_int (fun _ _ => rfl)) pe_int (fun _ _ => rfl)) pa_nil))) pa_nil)))), ?_⟩
    rcases h with ⟨rfl, rfl, k⟩ | ⟨rfl, rfl, k⟩
    · obtain ⟨t, q, rfl, h1, h2⟩ := hs
      refine q_no (et_eqs (ev_t (j := 0) rfl (ex_t e0 h1) rfl) ev_c (by decide)) fun H1 e1 => ?_
      refine q_yes (et_test (ev_inU (ev_t (j := 0) rfl (ex_t (e0.trans e1) h1) rfl) (eu_tup (ea_cons ev_c (ea_cons ev_c ea_nil)) (by simp)) rfl rfl)) fun H2 e2 => ?_
      exact s_retB (eb_tup1 (ea_cons ev_c (ea_cons (ev_ixT (ev_t (j := 1) rfl h1 rfl) ev_c h2 (at_of (j := 0) rfl rfl)) ea_nil)) (by simp)) e0 (e1.trans e2) k rfl
    · obtain ⟨t, p, q, rfl, h1, h2, h3⟩ := hs
      refine q_no (et_eqs (ev_t (j := 0) rfl (ex_t e0 h1) rfl) ev_c (by decide)) fun H1 e1 => ?_
      refine q_no (et_test (ev_inU (ev_t (j := 0) rfl (ex_t (e0.trans e1) h1) rfl) (eu_tup (ea_cons ev_c (ea_cons ev_c ea_nil)) (by simp)) rfl rfl)) fun H2 e2 => ?_
      refine q_asgL (el_lc0 (el_sl0 (Pp := SrcL K .M) (eb_call (ea_cons (ev_var rfl) ea_nil) fun H3 e3 Q E kq => ⟨.M, _, H2, rfl, e3, ⟨t, p, q, rfl, ?_, ?_, ?_⟩, rfl, kq⟩) (eo_some (ev_op (x := .int 0) (y := .int 1) (ev_var rfl) ev_c rv_I0)) eo_none ?_)) fun l H3 hl e3 h3' => ?_
      · exact ex_t (e0.trans (e1.trans e2)) h1
      · exact ex_t (e0.trans (e1.trans e2)) h2
      · exact ex_t (e0.trans (e1.trans e2)) h3
      · rintro ys H4 ⟨v, rfl, _⟩
        rfl
      · have e03 := (e1.trans e2).trans e3
        have hg : ∀ a xs, SqT K H0 a xs → SqT K (glue H0 H H3) a xs := fun a xs z => ex_t (glue_old e0) z
        refine s_retG (eb_cat0 (p := l) (ev_var rfl) ((glue_new (fresh_back (e1.trans e2) hl)).trans h3') ((eb_tup1 (ea_cons (ev_op (x := .int 1) (y := .int 1) (ev_lenQ (ev_t (j := 1) rfl (hg _ _ h1) rfl) (.inr (hg _ _ h2))) ev_c rv_I0) (ea_cons (ev_ixT (ev_t (j := 1) rfl (hg _ _ h1) rfl) ev_c (hg _ _ h2) (at_of (j := 0) rfl rfl)) ea_nil)) (by simp)).imp (Pp' := UseL K false "y") fun ys H4 e4 ⟨r, a, b⟩ => ⟨r, a, b⟩) ?_) e0 e03 k rfl
        rintro ys H4 ⟨r, rfl, _⟩
        simp
theorem sc_first : FnScope ["uses", "name", "reads", "one"] ["uses", "name"] (defScope (top 11)) := ⟨rfl, rfl, rfl, by decide +kernel, rfl, by decide +kernel, by decide +kernel⟩
/-- first_use of one use -/
def spFirst (K : PySem.W.Frag) : Sp := fun vs H Q _ => ∃ p t b n m, vs = [.ref p, .str m] ∧ SqL K H p [.ref t] ∧ SqT K H t [.bl b, .str n] ∧ RetV (if n = m then .bl b else .non) H Q
theorem ok_first (F : FnP K "first_use" (top 11) [] f fd) : FnOk P w K mg base CX0 1 f fd ["uses", "name"] (spFirst K) := by
  refine F.ok sc_first (fun vs H Q E h => ?_) (fun cdv A outer s H vs Q E hr h => ?_)
  · obtain ⟨p, t, b, n, m, rfl, _⟩ := h
    rfl
  · obtain ⟨p, t, b, n, m, rfl, h1, h2, k⟩ := h
    refine ⟨_, pss_cons (by
        exact ps_for (passes_of rfl) rfl (pi_list (pv 0)) (pg_tup rfl (pgs_cons (pg_name (i := 2) sc_first.nd rfl (Or.inl rfl)) (pgs_cons (pg_name (i := 3) sc_first.nd rfl (Or.inl rfl)) pgs_nil))) (pss_one (ps_if (pt_cmpR op_eq (pv 3) (pv 1) (nomark _)) (pss_one (ps_ret (pv 2))) pss_nil))) <| pss_one (by
        exact ps_ret pe_non), ?_⟩
    refine q_forL (ev_var rfl) h1 (fun i σ' H' => Ex H H' ∧ (i = 1 → n ≠ m) ∧ (i = 0 → σ' = start ["uses", "name", "reads", "one"] [.ref p, .str m])) (fun H1 e1 => ⟨e1, fun z => (nomatch z), fun _ => rfl⟩) (fun i σ' H' _ z => ex_l z.1 h1) (fun i x σ' H' hx z => ?_) fun σ' H' z => ?_
    · obtain ⟨e1, _, z⟩ := z
      cases i with
      | succ i => simp at hx
      | zero =>
        have ex : .ref t = x := Option.some.inj hx
        subst ex
        rw [z rfl]
        refine g_two (ex_t e1 h2) ?_
        refine s_when (et_eq (ev_var rfl) (ev_var rfl) rfl) (fun hb H2 e2 => s_ret (ev_var rfl) fun H3 e3 => ?_) fun hb H2 e2 => ⟨e1.trans e2, fun _ q => ?_, fun q => (nomatch q)⟩
        · have q : n = m := V.str.inj (of_decide_eq_true hb)
          rw [if_pos q] at k
          exact k H3 ((e1.trans e2).trans e3)
        · rw [q] at hb
          simp at hb
    · obtain ⟨e1, z, _⟩ := z
      rw [if_neg (z rfl)] at k
      exact s_ret ev_c fun H2 e2 => k H2 (e1.trans e2)
end
end Cp

namespace Cp
open PySem PySem.Spec PyProof.Rows L2 Evl GN
section
variable {K : PySem.W.Frag} {σ : L2.St} {H : Hp}
theorem sqT_upd {H : Hp} {l t : Addr} {z : List V} {o : HO} {xs : List V} (hl : H l = some (.lst z)) (h : SqT K H t xs) : SqT K (upd H l o) t xs := by
  rcases h with h | h
  · refine .inl ?_
    have ht : t ≠ l := fun e => by
      subst e
      rcases h with h | ⟨o', h⟩
      · rw [hl] at h
        cases h
      · rw [hl] at h
        cases h
    rcases h with h | ⟨o', h⟩
    · exact .inl (by rw [upd_ne ht]; exact h)
    · exact .inr ⟨o', by rw [upd_ne ht]; exact h⟩
  · exact .inr h
/-- enumerate(xs) walked: the pairs are new -/
theorem ew_enum {ta : TA} {a : Addr} {xs : List V} (h : EvA ta σ H [.ref a]) (hx : Sq K H a xs) : EvW (iEnumS K ta) σ H xs.length (YPair (fun i => some (.int (i : Nat))) fun i => xs[i]?) := by
  rcases hx with hx | hx
  · exact ⟨Ite K a, fun H1 => SqL K H1 a xs, walk_enum, fun H1 e => ex_l e hx, fun H1 e R q => h H1 e _ fun H2 e2 => ⟨a, rfl, .inl ⟨⟨xs, ex_l (e.trans e2) hx⟩, q H2 e2⟩⟩⟩
  · exact ⟨Itet K a, fun H1 => SqT K H1 a xs, walk_enumT, fun H1 e => ex_t e hx, fun H1 e R q => h H1 e _ fun H2 e2 => ⟨a, rfl, .inr (.inl ⟨⟨xs, ex_t (e.trans e2) hx⟩, q H2 e2⟩)⟩⟩
/-- for over what is walked, the walked thing known in H0 -/
theorem s_forW {wi : TI} {g : L2.TG} {tu : TS} {D : Ends} {n : Nat} {Y : Nat → Hp → V → Hp → Prop} {H0 : Hp} (hw : EvW wi σ H0 n Y) (e0 : Ex H0 H) (Pv : Nat → L2.St → Hp → Prop) (h0 : ∀ H1, Ex H H1 → Pv 0 σ H1) (hG : ∀ i σ' H', i ≤ n → Pv i σ' H' → Ex H0 H')
    (hs : ∀ i x σ' H' H2, i < n → Pv i σ' H' → Y i H' x H2 → g x σ' H2 fun σ2 H3 => tu { D with nx := Pv (i + 1), ct := Pv (i + 1), bk := D.nx } σ2 H3) (hd : ∀ σ' H', Pv n σ' H' → D.nx σ' H') : tFor wi g tu D σ H := by
  obtain ⟨J, G, w, hG', hwi⟩ := hw
  exact hwi H e0 _ fun H1 e1 => for_it w Pv (h0 H1 e1) (fun i σ H hi p => hG' H (hG i σ H hi p)) (fun i x σ H H' hi p y => hs i x σ H H' hi p y) hd
theorem ev_call1L {sp : Sp} {dvs : List V} {E : XK} {te : TE} {xs : List V} {z : V} (h : EvL te σ H xs) (hs : ∀ p H1, Ex H H1 → H1 p = some (.lst xs) → SpV sp ([.ref p] ++ dvs) H1 z) : Ev (tCall sp dvs E (tCons te tNil)) σ H z := fun H1 e Q q =>
  h H1 e _ fun p H2 _ e2 hp => hs p H2 (e.trans e2) hp H2 (Ex.refl _) Q (fun H3 e3 => q H3 (e2.trans e3)) E
/-- xs.extend(e), e a new list -/
theorem s_ext {l : Addr} {xs : List V} {ta te : TE} {Pp : List V → Hp → Prop} {H0 : Hp} {D : Ends} (hl : H l = some (.lst xs)) (ha : Ev ta σ H (.ref l)) (h : EvB te σ H0 Pp) (e0 : Ex H0 H) (hz : ∀ ys H1, Pp ys H1 → xs.length + ys.length ≤ 100000)
    (k : ∀ p ys H1, H p = none → Ex H H1 → H1 p = some (.lst ys) → (∀ H3, Kp H0 H H1 H3 → Pp ys H3) → D.nx σ (upd H1 l (.lst (xs ++ ys)))) : tDrop (tBM K "list" rExtend ta (tCons te tNil)) D σ H := ha H (Ex.refl H) _ fun H1 e1 =>
  ⟨.inl ⟨rfl, xs, sq_of (e1 l _ hl)⟩, h H1 (e0.trans e1) _ fun p ys H2 n e2 hp z => ⟨l, p, xs, ys, rfl, rfl, e2 l _ (e1 l _ hl), hp, sz_of (hz ys H2 (z H2 (Kp.self ((e0.trans e1).trans e2)))), k p ys H2 (fresh_back e1 n) (e1.trans e2) hp fun H3 kk => z H3 ⟨kk.old, fun a o na hh => kk.new a o (fresh_back e1 na) hh⟩⟩⟩
end
/-! ### rows_of, laid -/
def RowL (K : PySem.W.Frag) (v : V) (f : Int) (ys : List V) (H : Hp) : Prop := ∃ t, ys = [.ref t] ∧ SqT K H t [v, .int f, .int f]
def spRow (K : PySem.W.Frag) : Sp := fun vs H Q _ => ∃ v a f H0, vs = [v, .int a, .int f] ∧ Ex H0 H ∧ Flat K H0 v ∧ RetB H0 (RowL K v f) H Q
def Nrow : List Str := ["statement", "at", "follow", "bodies", "head", "yes", "no", "late", "rows"]
theorem sc_row : FnScope Nrow ["statement", "at", "follow"] (defScope (top 8)) := ⟨rfl, rfl, rfl, by decide +kernel, rfl, by decide +kernel, by decide +kernel⟩
/-- the rows of a flat body -/
def RowsL (K : PySem.W.Frag) (xs ys : List V) (H : Hp) : Prop := ys.length = xs.length ∧ ∀ (i : Nat) x y, xs[i]? = some x → ys[i]? = some y → ∃ t, y = .ref t ∧ SqT K H t [x, .int ((i : Nat) + 1), .int ((i : Nat) + 1)]
def spLaid (K : PySem.W.Frag) : Sp := fun vs H Q _ => ∃ a xs H0, vs = [.ref a, .int 0, .int (xs.length : Nat)] ∧ Ex H0 H ∧ FlatB K H0 a xs ∧ RetB H0 (RowsL K xs) H Q
def Nlaid : List Str := ["body", "first", "after", "rows", "at", "place", "statement", "size", "follow"]
theorem sc_laid : FnScope Nlaid ["body", "first", "after"] (defScope (top 7)) := ⟨rfl, rfl, rfl, by decide +kernel, rfl, by decide +kernel, by decide +kernel⟩
section
variable {P : Program} {w : World} {K : PySem.W.Frag} {mg : Str → Option Value} {base : Heap} {f : Addr} {fd : FuncData}
theorem ok_row {fB : Addr} {fdB : FuncData} (F : FnP K "rows_of" (top 8) [] f fd) (GB : FnOk P w K mg base CX0 1 fB fdB ["statement"] (spBodies K)) (gB : mg "bodies_of" = some (.ref fB)) (kB : PySem.W.keepIn K (.ref fB) = true) (bB : Binds K fdB ["statement"] []) (gL : mg "len" = none) :
    FnOk P w K mg base CX0 2 f fd ["statement", "at", "follow"] (spRow K) := by
  refine F.ok sc_row (fun vs H Q E h => ?_) (fun cdv A outer s H vs Q E hr h => ?_)
  · obtain ⟨v, a, f, H0, rfl, _⟩ := h
    rfl
  · obtain ⟨v, a, fo, H0, rfl, e0, ⟨t, wd, r, rfl, hf⟩, k⟩ := h
    refine ⟨_, pss_cons (by
        exact ps_asg (pe_call GB hr (by rfl) gB kB bB .nil pass0 (pa_cons (pv 0) pa_nil)) (pg_name (i := 3) sc_row.nd rfl (Or.inl rfl))) <| pss_cons (by
        exact ps_if (pt_cmpR op_eq (pe_callB call_len_seq (by rfl) gL PySem.boot_len (pa_cons (pv 3) pa_nil)) pe_int (nomark _)) (pss_one (ps_ret (pe_lst (pa_cons (pe_tup (pa_cons (pv 0) (pa_cons (pv 2) (pa_cons (pv 2) pa_nil)))) pa_nil)))) pss_nil) <| pss_no, ?_⟩
    refine q_asgL (el_call (ea_cons (ev_var rfl) ea_nil) (bodies_call (hf.same e0))) fun p H1 hp e1 h1 => ?_
    refine q_yes (et_is (et_eq (ev_lenQ (ev_var rfl) (.inl (sq_of h1))) ev_c rfl) rfl) fun H2 e2 => ?_
    exact s_retB (eb_tup1 (ea_cons (ev_var rfl) (ea_cons (ev_var rfl) (ea_cons (ev_var rfl) ea_nil))) (by simp)) e0 (e1.trans e2) k rfl
theorem ok_laid {fC fR : Addr} {fdC fdR : FuncData} (F : FnP K "laid" (top 7) [] f fd) (GC : FnOk P w K mg base CX0 2 fC fdC ["body"] (spCount K)) (gC : mg "count_in" = some (.ref fC)) (kC : PySem.W.keepIn K (.ref fC) = true) (bC : Binds K fdC ["body"] [])
    (GR : FnOk P w K mg base CX0 2 fR fdR ["statement", "at", "follow"] (spRow K)) (gR : mg "rows_of" = some (.ref fR)) (kR : PySem.W.keepIn K (.ref fR) = true) (bR : Binds K fdR ["statement", "at", "follow"] []) (gL : mg "len" = none) (gE : mg "enumerate" = none) :
    FnOk P w K mg base CX0 3 f fd ["body", "first", "after"] (spLaid K) := by
  refine F.ok sc_laid (fun vs H Q E h => ?_) (fun cdv A outer s H vs Q E hr h => ?_)
  · obtain ⟨a, xs, H0, rfl, _⟩ := h
    rfl
  · obtain ⟨a, xs, H0, rfl, e0, hB, k⟩ := h
    refine ⟨_, pss_cons (by
        exact ps_par (i := 3) (j := 4) rfl sc_laid.nd rfl rfl (by decide) rfl rfl (pa_cons (pe_lst pa_nil) (pa_cons (pv 1) pa_nil)) (by rfl)) <| pss_cons (by
        refine ps_for (passes_of rfl) rfl (pi_enumS (by rfl) gE (pa_cons (pv 0) pa_nil)) (pg_tup rfl (pgs_cons (pg_name (i := 5) sc_laid.nd rfl (Or.inl rfl)) (pgs_cons (pg_name (i := 6) sc_laid.nd rfl (Or.inl rfl)) pgs_nil))) (pss_cons (by
            exact ps_asg (pe_call GC hr (by rfl) gC kC bC .nil pass0 (pa_cons (pe_lst (pa_cons (pv 6) pa_nil)) pa_nil)) (pg_name (i := 7) sc_laid.nd rfl (Or.inl rfl))) <| pss_cons (by
            exact ps_asg (pe_ifExp (pt_cmpR op_lt (pe_op op_add (pv 5) pe_int) (pe_callB call_len_seq (by rfl) gL PySem.boot_len (pa_cons (pv 0) pa_nil)) (nomark _)) (pe_op op_add (pv 4) (pv 7)) (pv 2)) (pg_name (i := 8) sc_laid.nd rfl (Or.inl rfl))) <| pss_cons (by
            exact ps_expr (pe_bm PySem.F.plainAttrs_list PySem.F.slot_list_extend PySem.F.type_list_extend mt_extend (pv 3) (pa_cons (pe_call GR hr (by rfl) gR kR bR .nil pass0 (pa_cons (pv 6) (pa_cons (pv 4) (pa_cons (pv 8) pa_nil)))) pa_nil))) <| pss_one (by
            exact ps_aug sc_laid.nd (i := 4) rfl (Or.inl rfl) (pv 7) ip_add (Or.inl rfl)))) <| pss_one (by
        exact ps_ret (pv 3)), ?_⟩
    refine ⟨sz_of (n := 0) (by decide), fun l hl => ⟨.int 0, rfl, .ref l, .int 0, rfl, ?_⟩⟩
    have hn := hB.2.1
    refine s_forW (H0 := H0) (n := xs.length) (ew_enum (ea_cons (ev_var rfl) ea_nil) hB.1) (e0.trans (Ex.new hl)) (fun i σ' H' => ∃ ys p5 p6 p7 p8, σ' = [some (.ref a), some (.int 0), some (.int (xs.length : Nat)), some (.ref l), some (.int (i : Nat)), p5, p6, p7, p8] ∧ H' l = some (.lst ys) ∧ Ex H H' ∧ ys.length = i ∧
      ∀ H3, Ex H0 H3 → (∀ b o, b ≠ l → H b = none → H' b = some o → H3 b = some o) → RowsL K (xs.take i) ys H3) ?_ (fun i σ' H' _ z => ?_) ?_ ?_
    · intro H1 e1
      exact ⟨[], none, none, none, none, rfl, e1 l _ upd_same, (Ex.new hl).trans e1, rfl, fun H3 _ _ => ⟨rfl, fun i x y hx => by simp at hx⟩⟩
    · obtain ⟨ys, p5, p6, p7, p8, _, _, e, _⟩ := z
      exact e0.trans e
    · rintro i x σ' H' H2 hi ⟨ys, p5, p6, p7, p8, rfl, hl', e, hly, hR⟩ ⟨T, v5, x6, rfl, hT, rfl, h5, h6⟩
      have h5 : V.int (i : Nat) = v5 := Option.some.inj h5
      subst h5
      have eT : Ex H' (upd H' T (.tup [.int (i : Nat), x6])) := Ex.new hT
      refine g_two (st_of upd_same) ?_
      obtain ⟨t, wd, r, rfl, hf⟩ := hB.2.2 x6 (List.mem_of_getElem? h6)
      refine q_asg (v := .int 1) (ev_call1L (el_lst (ea_cons (ev_var rfl) ea_nil) (by simp)) fun p H1 e1 hp => ?_) fun H3 e3 => ?_
      · refine RetV.call fun H5 e5 Q E q => ⟨p, [.ref t], rfl, ⟨.inl (sq_of (e5 p _ hp)), by simp, fun y hy => ?_⟩, q⟩
        rw [List.mem_singleton.mp hy]
        exact ⟨t, wd, r, rfl, hf.same (((e0.trans e).trans eT).trans (e1.trans e5))⟩
      refine q_asg (v := .int ((i : Nat) + 1)) (ev_if (b := decide ((i : Int) + 1 < (xs.length : Nat))) (et_test (ev_op (x := .int ((i : Nat) + 1)) (y := .int (xs.length : Nat)) (ev_op (x := .int (i : Nat)) (y := .int 1) (ev_var rfl) ev_c rv_I0) (ev_lenQ (ev_var rfl) (hB.1.same (((e0.trans e).trans eT).trans e3))) rv_I0)) (fun _ => ev_op (x := .int (i : Nat)) (y := .int 1) (ev_var rfl) (ev_var rfl) rv_I0) fun hb => ?_) fun H4 e4 => ?_
      · have q : (xs.length : Int) = (i : Int) + 1 := by
          have := of_decide_eq_false hb
          omega
        refine ev_is (ev_var (v := .int (xs.length : Nat)) rfl) (by rw [q])
      have hl4 : H4 l = some (.lst ys) := e4 l _ (e3 l _ (eT l _ hl'))
      have e04 : Ex H H4 := ((e.trans eT).trans e3).trans e4
      refine s_ext (H0 := H0) hl4 (ev_var rfl) (Pp := RowL K (.ref t) ((i : Nat) + 1)) (eb_call (ea_cons (ev_var rfl) (ea_cons (ev_var rfl) (ea_cons (ev_var rfl) ea_nil))) fun H5 e5 Q E kq => ⟨_, _, _, H0, rfl, e5, ⟨t, wd, r, rfl, hf⟩, kq⟩) (e0.trans e04) ?_ fun p zs H5 hp e5 h5 hz => ?_
      · rintro zs H5 ⟨t', rfl, _⟩
        simp; omega
      · obtain ⟨tz, rfl, _⟩ := hz H5 (Kp.self ((e0.trans e04).trans e5))
        refine s_aug (a := (i : Nat)) (b := 1) rfl (ev_var rfl) fun H6 e6 => ?_
        refine ⟨ys ++ [.ref tz], _, _, _, _, rfl, e6 l _ upd_same, (Ex.mut (e04.trans e5) hl).trans e6, by simp [hly], fun H7 e7 k7 => ?_⟩
        have old := hR H7 e7 fun b o hb n h => k7 b o hb n (e6 b o (by
          rw [upd_ne hb]
          exact e5 b o (e4 b o (e3 b o (eT b o h)))))
        obtain ⟨tz', e1, row⟩ := hz H7 ⟨e7, fun b o n h => by
          have hb : b ≠ l := fun z => by
            rw [z, hl4] at n
            cases n
          exact k7 b o hb (fresh_back e04 n) (e6 b o (by rw [upd_ne hb]; exact h))⟩
        have e1 : tz = tz' := V.ref.inj (List.cons.inj e1).1
        subst e1
        refine ⟨by simp [hly]; omega, fun j x y hx hy => ?_⟩
        by_cases hj : j < i
        · rw [List.getElem?_append_left (by omega)] at hy
          refine old.2 j x y ?_ hy
          rw [List.getElem?_take_of_lt hj]
          rw [List.getElem?_take_of_lt (by omega)] at hx
          exact hx
        · have hj2 : j = i := by
            have := (List.getElem?_eq_some_iff.mp hx).1
            simp at this
            omega
          subst hj2
          have h6 : xs[j]? = some (.ref t) := h6
          rw [List.getElem?_take_of_lt (by omega), h6] at hx
          rw [List.getElem?_append_right (by omega), hly, Nat.sub_self] at hy
          have e1 : .ref t = x := Option.some.inj hx
          have e2 : .ref tz = y := Option.some.inj hy
          subst e1 e2
          exact ⟨tz, rfl, row⟩
    · rintro σ' H' ⟨ys, p5, p6, p7, p8, rfl, hl', e, hly, hR⟩
      refine s_ret (v := .ref l) (ev_var rfl) fun H1 e1 => k l ys H1 hl (e.trans e1) (e1 l _ hl') fun H3 kk => ?_
      have z := hR H3 kk.old fun b o _ n h => kk.new b o n (e1 b o h)
      rw [List.take_length] at z
      exact z
end
end Cp

namespace Cp
open PySem PySem.Spec PyProof.Rows L2 Evl GN
theorem hu1 {k : Nat} {A : Around} (r : Room k A) : A.units + 1 < cLine := by have := r.units; omega
section
variable {K : PySem.W.Frag} {σ : L2.St} {H : Hp} {ta tb te td ty tv : TE} {D : Ends}
theorem rd_ex {H H' : Hp} (e : Ex H H') {a : Addr} {u : HO} (h : Rd H a u) : Rd H' a u := ex_rd e h
theorem ev_din {a : Addr} {k : L2.Key} {kvs : List (L2.Key × V)} (hy : Ev ty σ H (kV k)) (hd : Ev td σ H (.ref a)) (h : Rd H a (.dK kvs)) : Ev (tDIn ty td) σ H (.bl (valV kvs k).isSome) := fun H1 e Q q =>
  hy H1 e _ fun H2 e2 => hd H2 (e.trans e2) _ fun H3 e3 => ⟨a, _, rfl, .inl ⟨kvs, k, rd_ex ((e.trans e2).trans e3) h, rfl, rfl⟩, q H3 (e2.trans e3)⟩
theorem ev_dnotin {a : Addr} {k : L2.Key} {kvs : List (L2.Key × V)} (hy : Ev ty σ H (kV k)) (hd : Ev td σ H (.ref a)) (h : Rd H a (.dK kvs)) : Ev (tDNotIn ty td) σ H (.bl (!(valV kvs k).isSome)) := fun H1 e Q q =>
  hy H1 e _ fun H2 e2 => hd H2 (e.trans e2) _ fun H3 e3 => ⟨a, _, rfl, .inl ⟨kvs, k, rd_ex ((e.trans e2).trans e3) h, rfl, rfl⟩, q H3 (e2.trans e3)⟩
theorem ev_dget {a : Addr} {k : L2.Key} {kvs : List (L2.Key × V)} {v : V} (hd : Ev td σ H (.ref a)) (hy : Ev ty σ H (kV k)) (h : Rd H a (.dK kvs)) (hv : valV kvs k = some v) : Ev (tDGet td ty) σ H v := fun H1 e Q q =>
  hd H1 e _ fun H2 e2 => hy H2 (e.trans e2) _ fun H3 e3 => ⟨a, v, rfl, .inl ⟨kvs, k, rd_ex ((e.trans e2).trans e3) h, rfl, hv.symm⟩, q H3 (e2.trans e3)⟩
theorem s_dput {a : Addr} {k : L2.Key} {kvs : List (L2.Key × V)} {v : V} (hv : Ev tv σ H v) (hd : Ev td σ H (.ref a)) (hy : Ev ty σ H (kV k)) (h : H a = some (.dK kvs)) (hl : kvs.length < 100000) (kk : ∀ H1, Ex H H1 → D.nx σ (upd H1 a (.dK (putK kvs k v)))) : sDPut td ty tv D σ H :=
  hv H (Ex.refl H) _ fun H1 e1 => hd H1 e1 _ fun H2 e2 => hy H2 (e1.trans e2) _ fun H3 e3 => ⟨a, _, rfl, DPut.k (((e1.trans e2).trans e3) a _ h) (sz_lt hl), kk H3 ((e1.trans e2).trans e3)⟩
/-- x = xs.pop() -/
theorem s_pop {l : Addr} {xs : List V} {x : V} {i : Nat} (hl : H l = some (.lst (xs ++ [x]))) (ha : Ev ta σ H (.ref l)) (k : ∀ H1, Ex H H1 → D.nx (σ.set i (some x)) (upd H1 l (.lst xs))) : tAsg (tBM0 K "list" rPop ta) (gName i) D σ H := ha H (Ex.refl H) _ fun H1 e1 =>
  ⟨.inl ⟨rfl, _, sq_of (e1 l _ hl)⟩, l, _, x, rfl, rfl, e1 l _ hl, by simp, by
    rw [List.dropLast_concat]
    exact k H1 e1⟩
theorem ev_rd {te : TE} {v : V} {H' : Hp} (e : Ex H H') (h : Ev te σ H v) : Ev te σ H' v := h.mono e
theorem ev_ixL {p : Addr} {xs : List V} {i : Nat} {v : V} (h1 : Ev ta σ H (.ref p)) (h2 : Ev tb σ H (.int (i : Nat))) (h : SqL K H p xs) (ha : xs[i]? = some v) : Ev (tOp (rIxL K) ta tb) σ H v := ev_op h1 h2 (rv_ixL h (atI_nat ha))
/-- a, b, c = a tuple -/
theorem s_asg3 {t : Addr} {x y z : V} {i j m : Nat} (h : Ev te σ H (.ref t)) (ht : SqT K H t [x, y, z]) (k : ∀ H1, Ex H H1 → D.nx (((σ.set i (some x)).set j (some y)).set m (some z)) H1) : tAsg te (gTup K 3 (gCons (gName i) (gCons (gName j) (gCons (gName m) gNil)))) D σ H := h H (Ex.refl H) _ fun H1 e => ⟨t, _, rfl, ex_t e ht, rfl, x, _, rfl, y, _, rfl, z, _, rfl, rfl, k H1 e⟩
theorem et_nei {a b : V} {c : Bool} (h1 : Ev ta σ H a) (h2 : Ev tb σ H b) (hs : scal a b = true) (hb : decide (a = b) = c) : EvT (tTest (tOp rEq ta tb)) σ H c := et_is (et_eq h1 h2 hs) hb
theorem et_orT {t u : TT} (h : EvT t σ H true) : EvT (tOr t u) σ H true := fun H1 e Q q => h H1 e _ q
theorem et_orF {t u : TT} {b : Bool} (h : EvT t σ H false) (h2 : EvT u σ H b) : EvT (tOr t u) σ H b := et_or h fun _ => h2
theorem q_asg3 {t : Addr} {x y z : V} {i j m : Nat} {tz : TS} (h : Ev te σ H (.ref t)) (ht : SqT K H t [x, y, z]) (k : ∀ H1, Ex H H1 → tz D (((σ.set i (some x)).set j (some y)).set m (some z)) H1) : tSeq (tAsg te (gTup K 3 (gCons (gName i) (gCons (gName j) (gCons (gName m) gNil))))) tz D σ H := s_asg3 (D := { D with nx := tz D }) h ht k
theorem q_pop {l : Addr} {xs : List V} {x : V} {i : Nat} {tz : TS} (hl : H l = some (.lst (xs ++ [x]))) (ha : Ev ta σ H (.ref l)) (k : ∀ H1, Ex H H1 → tz D (σ.set i (some x)) (upd H1 l (.lst xs))) : tSeq (tAsg (tBM0 K "list" rPop ta) (gName i)) tz D σ H := s_pop (D := { D with nx := tz D }) hl ha k
theorem q_dput {a : Addr} {k : L2.Key} {kvs : List (L2.Key × V)} {v : V} {tz : TS} (hv : Ev tv σ H v) (hd : Ev td σ H (.ref a)) (hy : Ev ty σ H (kV k)) (h : H a = some (.dK kvs)) (hl : kvs.length < 100000) (kk : ∀ H1, Ex H H1 → tz D σ (upd H1 a (.dK (putK kvs k v)))) : tSeq (sDPut td ty tv) tz D σ H := s_dput (D := { D with nx := tz D }) hv hd hy h hl kk
theorem s_forNT {g : L2.TG} {tu : TS} {xs : List V} (h : EvU te σ H xs) (Pv : Addr → Nat → L2.St → Hp → Prop) (h0 : ∀ p H1, H p = none → Ex H H1 → H1 p = some (.tup xs) → Pv p 0 σ H1) (hl : ∀ p i σ' H', Pv p i σ' H' → H' p = some (.tup xs))
    (hs : ∀ p i x σ' H', xs[i]? = some x → Pv p i σ' H' → g x σ' H' fun σ2 H2 => tu { D with nx := Pv p (i + 1), ct := Pv p (i + 1), bk := D.nx } σ2 H2) (hd : ∀ p σ' H', Pv p xs.length σ' H' → D.nx σ' H') : tFor (iTup K te) g tu D σ H :=
  h H (Ex.refl H) _ fun p H1 hp e h1 => ⟨p, rfl, ⟨xs, st_of h1⟩, for_tup (Pv p) (h0 p H1 hp e h1) (fun i σ' H' _ z => st_of (hl p i σ' H' z)) (hs p) (hd p)⟩
end
/-! ### comes_to_end -/
/-- what does not stop a way: all but a call of what isn't known -/
def okS (kn : Str → Bool) : Sh → Bool
  | .C w => kn w
  | _ => true
def kn (kvs : List (L2.Key × V)) (w : Str) : Bool := (valV kvs (.inr w)).isSome
def spEnds (K : PySem.W.Frag) : Sp := fun vs H Q _ => ∃ r d xs ys ss kvs, vs = [.ref r, .ref d] ∧ SqL K H r ys ∧ RowsL K xs ys H ∧ IsB K H ss xs ∧ ss.all Sh.good = true ∧ ss.length ≤ 100 ∧ Rd H d (.dK kvs) ∧ RetV (.bl (ss.all (okS (kn kvs)))) H Q
def Nends : List Str := ["rows", "known", "line", "seen", "here", "statement", "yes", "no", "there"]
theorem sc_ends : FnScope Nends ["rows", "known"] (defScope (top 13)) := ⟨rfl, rfl, rfl, by decide +kernel, rfl, by decide +kernel, by decide +kernel⟩
section
variable {P : Program} {w : World} {K : PySem.W.Frag} {mg : Str → Option Value} {base : Heap} {f : Addr} {fd : FuncData}
theorem ok_ends (F : FnP K "comes_to_end" (top 13) [] f fd) (gL : mg "len" = none) : FnOk P w K mg base CX0 1 f fd ["rows", "known"] (spEnds K) := by
  refine F.ok sc_ends (fun vs H Q E h => ?_) (fun cdv A outer s H vs Q E hr h => ?_)
  · obtain ⟨r, d, xs, ys, ss, kvs, rfl, _⟩ := h
    rfl
  · obtain ⟨r, d, xs, ys, ss, kvs, rfl, hr1, hR, hB, hg, hn, hd, k⟩ := h
    refine ⟨_, pss_cons (by
        exact ps_par (i := 2) (j := 3) rfl sc_ends.nd rfl rfl (by decide) rfl rfl (pa_cons (pe_lst (pa_cons pe_int pa_nil)) (pa_cons (pe_disp (pps_cons pe_int pe_bl pps_nil) (by rfl) (by rfl) (fun z => by cases z) (by decide)) pa_nil)) (by rfl)) <| pss_cons (by
        refine ps_while (passes_of rfl) (pt_cmpR op_gt (pe_callB call_len_seq (by rfl) gL PySem.boot_len (pa_cons (pv 2) pa_nil)) pe_int (nomark _)) (pss_cons (by
          exact ps_asg (pe_bm0 PySem.F.plainAttrs_list PySem.F.slot_list_pop PySem.F.type_list_pop mt_pop (pv 2)) (pg_name (i := 4) sc_ends.nd rfl (Or.inl rfl))) <| pss_cons (by
          exact ps_if (pt_cmpR op_eq (pv 4) (pe_callB call_len_seq (by rfl) gL PySem.boot_len (pa_cons (pv 0) pa_nil)) (nomark _)) (pss_one (ps_ret pe_bl)) pss_nil) <| pss_cons (by
          exact ps_asg (pe_ix ix_list (pv 0) (pv 4) (fun _ _ => rfl)) (pg_tup rfl (pgs_cons (pg_name (i := 5) sc_ends.nd rfl (Or.inl rfl)) (pgs_cons (pg_name (i := 6) sc_ends.nd rfl (Or.inl rfl)) (pgs_cons (pg_name (i := 7) sc_ends.nd rfl (Or.inl rfl)) pgs_nil))))) <| pss_one (by
          refine ps_if (PW.pt (pw_or (pt_cmpR op_ne (pe_ix ix_tup (pv 5) pe_int (fun _ _ => rfl)) pe_str (nomark _)) (pw_or1 (pt_cmp (pc_din (hu1 hr) (pe_ix ix_tup (pv 5) pe_int (fun _ _ => rfl)) (pv 1)))))) (pss_one (by
            refine ps_for (passes_of rfl) rfl (pi_tup (pe_tup (pa_cons (pv 6) (pa_cons (pv 7) pa_nil)))) (pg_name (i := 8) sc_ends.nd rfl (Or.inl rfl)) (pss_one (by
              refine ps_if (pt_cmp (pc_dnotin (hu1 hr) (pv 8) (pv 3))) (pss_cons (by
                exact ps_dput (hu1 hr) (pv 3) (pv 8) pe_bl rfl) <| pss_one (by
                exact ps_expr (pe_bm PySem.F.plainAttrs_list PySem.F.slot_list_append PySem.F.type_list_append mt_append (pv 2) (pa_cons (pv 8) pa_nil)))) pss_nil)))) pss_nil))) <| pss_one (by
        exact ps_ret pe_bl), ?_⟩
    have hxl : xs.length = ss.length := hB.len
    have hyl : ys.length = ss.length := hR.1.trans hxl
    refine ⟨sz_of (n := 1) (by decide), fun l hl m hm => ?_⟩
    refine ⟨upd_same, [(.inl 0, .bl true)], rfl, by decide, .ref l, .ref m, rfl, ?_⟩
    have hm0 : H m = none := fresh_back (Ex.new hl) hm
    have hlm : l ≠ m := fun z => by rw [← z, upd_same] at hm; cases hm
    have hml : m ≠ l := Ne.symm hlm
    refine q_while (fun mm σ' H' => ∃ p4 p5 p6 p7 p8 sv, σ' = [some (.ref r), some (.ref d), some (.ref l), some (.ref m), p4, p5, p6, p7, p8] ∧ Ex H H' ∧ H' m = some (.dK sv) ∧
      ((∃ i : Nat, i ≤ ss.length ∧ mm = ss.length - i + 1 ∧ H' l = some (.lst [.int (i : Nat)]) ∧ (∀ j : Int, (valV sv (.inl j)).isSome = decide (0 ≤ j ∧ j ≤ i)) ∧ sv.length ≤ i + 1 ∧ (ss.take i).all (okS (kn kvs)) = true) ∨ (mm = 0 ∧ H' l = some (.lst []) ∧ ss.all (okS (kn kvs)) = false))) (ss.length - 0 + 1) ?_ ?_
    · refine ⟨none, none, none, none, none, _, rfl, Ex.mut ((Ex.new hl).trans (Ex.new hm)) hm0, upd_same, .inl ⟨0, Nat.zero_le _, rfl, ?_, fun j => ?_, by decide, rfl⟩⟩
      · rw [upd_ne hlm, upd_ne hlm, upd_same]
        rfl
      · show (valV (putK ([] : List (L2.Key × V)) (.inl 0) (.bl true)) (.inl j)).isSome = _
        rw [valV_put]
        by_cases z : j = 0
        · subst z
          rfl
        · rw [if_neg (fun q => z (Sum.inl.inj q))]
          exact (decide_eq_false (by omega)).symm
    · rintro mm σ' H' ⟨p4, p5, p6, p7, p8, sv, rfl, e, hsv, hcase⟩
      rcases hcase with ⟨i, hi, rfl, hl', hsn, hsl, htk⟩ | ⟨rfl, hl', hall⟩
      · refine ⟨true, et_test (ev_is (ev_op (x := .int 1) (y := .int 0) (ev_lenQ (ev_var rfl) (.inl (sq_of hl'))) ev_c rv_I0) rfl), fun _ H1 e1 => ⟨_, fun σ2 H2 z => z, ?_⟩, fun z => nomatch z⟩
        refine q_pop (xs := []) (e1 l _ hl') (ev_var rfl) fun H2 e2 => ?_
        have e02 : Ex H (upd H2 l (.lst [])) := Ex.mut ((e.trans e1).trans e2) hl
        refine q_when (et_eq (ev_var rfl) (ev_lenQ (ev_var rfl) (.inl (ex_l e02 hr1))) rfl) (fun hb H3 e3 => ?_) fun hb H3 e3 => ?_
        · have hin : (i : Int) = ys.length := V.int.inj (of_decide_eq_true hb)
          have hin : i = ss.length := by omega
          rw [hin, List.take_length] at htk
          rw [htk] at k
          exact s_ret ev_c fun H4 e4 => k.go ((e02.trans e3).trans e4)
        · have hin : i < ss.length := by
            have : ¬ (V.int (i : Nat) = V.int (ys.length : Nat)) := of_decide_eq_false hb
            have : i ≠ ys.length := fun z => this (by rw [z])
            omega
          have hy1 : ys[i]? = some ys[i] := List.getElem?_eq_getElem (by omega)
          have hx1 : xs[i]? = some xs[i] := List.getElem?_eq_getElem (by omega)
          obtain ⟨t, ht, row⟩ := hR.2 i _ _ hx1 hy1
          rw [ht] at hy1
          refine q_asg3 (te := tOp (rIxL K) (tVar 0) (tVar 4)) (ev_ixL (ev_var rfl) (ev_var rfl) (ex_l (e02.trans e3) hr1) hy1) (ex_t (e02.trans e3) row) fun H4 e4 => ?_
          obtain ⟨si, hsi, his⟩ := hB.at hx1
          have hgi : si.good = true := List.all_eq_true.mp hg si (List.mem_of_getElem? hsi)
          have e4' : Ex H H4 := (e02.trans e3).trans e4
          have hl4 : H4 l = some (.lst []) := e4 l _ (e3 l _ upd_same)
          have hm4 : H4 m = some (.dK sv) := e4 m _ (e3 m _ (by
            rw [upd_ne hml]
            exact e2 m _ (e1 m _ hsv)))
          have tk1 : (ss.take (i + 1)).all (okS (kn kvs)) = okS (kn kvs) si := by
            rw [List.take_add_one, hsi]
            simp [htk]
          have hd4 : ∀ {H5 : Hp}, Ex H4 H5 → Rd H5 d (.dK kvs) := fun z => rd_ex (e4'.trans z) hd
          refine s_when (b := okS (kn kvs) si) ?_ (fun hb H5 e5 => ?_) fun hb H5 e5 => ?_
          · cases si with
            | P =>
              obtain ⟨t2, q2, ex, h1, h2⟩ := his
              rw [ex]
              exact et_orT (et_nes (ev_t (j := 0) rfl (ex_t e4' h1) rfl) ev_c (by decide))
            | M =>
              obtain ⟨t2, p2, q2, ex, h1, h2, h3⟩ := his
              rw [ex]
              exact et_orT (et_nes (ev_t (j := 0) rfl (ex_t e4' h1) rfl) ev_c (by decide))
            | C wc =>
              obtain ⟨t2, p2, q2, r2, u2, ex, h1, h2, h3, h4, h5⟩ := his
              rw [ex]
              exact et_orF (et_nes (ev_t (j := 0) rfl (ex_t e4' h1) rfl) ev_c (by decide)) (et_B (ev_din (k := .inr wc) (ev_t (j := 2) rfl (ex_t e4' h1) rfl) (ev_var rfl) (rd_ex e4' hd)))
            | O0 => cases hgi
            | O1 => cases hgi
            | O2 => cases hgi
            | O3 => cases hgi
          · refine s_forNT (xs := [.int ((i : Nat) + 1), .int ((i : Nat) + 1)]) (eu_tup (ea_cons (ev_var rfl) (ea_cons (ev_var rfl) ea_nil)) (by simp)) (fun p n σ' H' => ∃ p8 sv', σ' = [some (.ref r), some (.ref d), some (.ref l), some (.ref m), some (.int (i : Nat)), some xs[i], some (.int ((i : Nat) + 1)), some (.int ((i : Nat) + 1)), p8] ∧ Ex H H' ∧ H p = none ∧ p ≠ l ∧ p ≠ m ∧ H' p = some (.tup [.int ((i : Nat) + 1), .int ((i : Nat) + 1)]) ∧ H' m = some (.dK sv') ∧
              ((n = 0 ∧ H' l = some (.lst []) ∧ sv' = sv) ∨ (1 ≤ n ∧ H' l = some (.lst [.int ((i : Nat) + 1)]) ∧ (∀ j : Int, (valV sv' (.inl j)).isSome = decide (0 ≤ j ∧ j ≤ (i : Int) + 1)) ∧ sv'.length ≤ i + 2))) ?_ (fun p n σ' H' z => ?_) ?_ ?_
            · intro p H6 hp e6 h6
              have hl5 := e5 l _ hl4
              have hm5 := e5 m _ hm4
              exact ⟨_, sv, rfl, (e4'.trans e5).trans e6, fresh_back (e4'.trans e5) hp, (fun z => by rw [z, hl5] at hp; cases hp), (fun z => by rw [z, hm5] at hp; cases hp), h6, e6 m _ hm5, .inl ⟨rfl, e6 l _ hl5, rfl⟩⟩
            · obtain ⟨p8, sv', _, _, _, _, _, z, _⟩ := z
              exact z
            · rintro p n x σ' H6 hx ⟨p8, sv', rfl, e6, hp, hpl, hpm, h6, hm6, hc⟩
              have hx1 : x = .int ((i : Nat) + 1) := by
                match n, hx with
                | 0, hx => exact (Option.some.inj hx).symm
                | 1, hx => exact (Option.some.inj hx).symm
                | n + 2, hx => simp at hx
              subst hx1
              rcases hc with ⟨rfl, hl6, rfl⟩ | ⟨hn1, hl6, hs6, hz6⟩
              · refine s_when (b := true) (et_B (ev_is (ev_dnotin (k := .inl ((i : Nat) + 1)) (ev_var rfl) (ev_var rfl) (.inl hm6)) ?_)) (fun _ H7 e7 => ?_) fun z => nomatch z
                · rw [hsn, decide_eq_false (by omega)]
                  rfl
                · refine q_dput (k := .inl ((i : Nat) + 1)) ev_c (ev_var rfl) (ev_var rfl) (e7 m _ hm6) (by omega) fun H8 e8 => ?_
                  refine s_app (xs := []) (by rw [upd_ne hlm]; exact e8 l _ (e7 l _ hl6)) (ev_var rfl) (ev_var rfl) (by simp) fun H9 e9 => ?_
                  have e09 : Ex H H9 := (Ex.mut ((e6.trans e7).trans e8) hm0).trans e9
                  refine ⟨_, _, rfl, Ex.mut e09 hl, hp, hpl, hpm, ?_, by rw [upd_ne hml]; exact e9 m _ upd_same, .inr ⟨Nat.le_refl _, upd_same, fun j => ?_, ?_⟩⟩
                  · rw [upd_ne hpl]
                    refine e9 p _ ?_
                    rw [upd_ne hpm]
                    exact e8 p _ (e7 p _ h6)
                  · rw [valV_put]
                    by_cases z : (Sum.inl j : L2.Key) = .inl ((i : Nat) + 1)
                    · rw [if_pos z]
                      have z := Sum.inl.inj z
                      exact (decide_eq_true (by omega)).symm
                    · rw [if_neg z, hsn]
                      have z : j ≠ (i : Nat) + 1 := fun q => z (by rw [q])
                      exact decide_eq_decide.mpr (by omega)
                  · have := length_putK sv' (Sum.inl ((i : Nat) + 1)) (.bl true)
                    omega
              · refine s_when (b := false) (et_B (ev_is (ev_dnotin (k := .inl ((i : Nat) + 1)) (ev_var rfl) (ev_var rfl) (.inl hm6)) ?_)) (fun z => nomatch z) fun _ H7 e7 => ?_
                · rw [hs6]
                  have : decide ((0 : Int) ≤ (i : Int) + 1 ∧ (i : Int) + 1 ≤ (i : Int) + 1) = true := decide_eq_true (by omega)
                  rw [this]
                  rfl
                · exact ⟨_, sv', rfl, e6.trans e7, hp, hpl, hpm, e7 p _ h6, e7 m _ hm6, .inr ⟨by omega, e7 l _ hl6, hs6, hz6⟩⟩
            · rintro p σ' H6 ⟨p8, sv', rfl, e6, hp, hpl, hpm, h6, hm6, hc⟩
              rcases hc with ⟨z, _⟩ | ⟨_, hl6, hs6, hz6⟩
              · cases z
              · refine ⟨ss.length - (i + 1) + 1, by omega, _, _, _, _, _, sv', rfl, e6, hm6, .inl ⟨i + 1, hin, rfl, hl6, fun j => ?_, hz6, tk1.trans hb⟩⟩
                rw [hs6]
                rfl
          · refine ⟨0, by omega, _, _, _, _, _, sv, rfl, e4'.trans e5, e5 m _ hm4, .inr ⟨rfl, e5 l _ hl4, ?_⟩⟩
            rw [List.all_eq_false]
            exact ⟨si, List.mem_of_getElem? hsi, by rw [hb]; decide⟩
      · refine ⟨false, et_test (ev_is (ev_op (x := .int 0) (y := .int 0) (ev_lenQ (ev_var rfl) (.inl (sq_of hl'))) ev_c rv_I0) rfl), fun z => (nomatch z), fun _ H1 e1 => ?_⟩
        rw [hall] at k
        exact s_ret ev_c fun H4 e4 => k.go ((e.trans e1).trans e4)
end
end Cp

namespace Cp
open PySem PySem.Spec PyProof.Rows L2 Evl GN
/-- all that can be read of H can be read of H' -/
def Rx (H H' : Hp) : Prop := ∀ a u, Rd H a u → Rd H' a u
theorem ex_rx {H H' : Hp} (e : Ex H H') : Rx H H' := fun a u h => ex_rd e h
theorem Rx.trans {H H1 H2 : Hp} (x : Rx H H1) (y : Rx H1 H2) : Rx H H2 := fun a u h => y a u (x a u h)
theorem Rx.l {K : PySem.W.Frag} {H H' : Hp} {a : Addr} {xs : List V} (e : Rx H H') (h : SqL K H a xs) : SqL K H' a xs := h.elim (fun z => .inl (e _ _ z)) .inr
theorem Rx.t {K : PySem.W.Frag} {H H' : Hp} {a : Addr} {xs : List V} (e : Rx H H') (h : SqT K H a xs) : SqT K H' a xs := h.elim (fun z => .inl (e _ _ z)) .inr
theorem rx_frz {H : Hp} {c : Addr} {u : HO} {od : Obj} (h : H c = some u) (m : Mut (some u)) : Rx H (upd H c (.frz od u)) := fun a v hv => by
  by_cases z : a = c
  · subst z
    rcases hv with hv | ⟨o, hv⟩
    · rw [h] at hv
      cases hv
      exact .inr ⟨od, upd_same⟩
    · rw [h] at hv
      cases hv
      exact m.elim
  · rcases hv with hv | ⟨o, hv⟩
    · exact .inl (by rw [upd_ne z]; exact hv)
    · exact .inr ⟨o, by rw [upd_ne z]; exact hv⟩
theorem ex_frz {H H' : Hp} {c : Addr} {u' : HO} (e : Ex H H') : Ex (upd H c u') (upd H' c u') := fun a o h => by
  by_cases z : a = c
  · subst z
    rw [upd_same] at h ⊢
    exact h
  · rw [upd_ne z] at h ⊢
    exact e a o h
theorem ex_thaw {H H' : Hp} {c : Addr} {u u' : HO} (h : H c = some u) (e : Ex (upd H c u') H') : Ex H (upd H' c u) := fun a o ho => by
  by_cases z : a = c
  · subst z
    rw [upd_same, ← h, ho]
  · rw [upd_ne z]
    exact e a o (by rw [upd_ne z]; exact ho)
theorem IsS.rx {K : PySem.W.Frag} {H H' : Hp} (e : Rx H H') : ∀ {s : Sh} {v : V}, IsS K H s v → IsS K H' s v
  | .P, _, ⟨t, q, a, b, c⟩ => ⟨t, q, a, e.t b, e.t c⟩
  | .M, _, ⟨t, p, q, a, b, c, d⟩ => ⟨t, p, q, a, e.t b, e.t c, e.t d⟩
  | .C _, _, ⟨t, p, q, r, u, a, b, c, d, f, g⟩ => ⟨t, p, q, r, u, a, e.t b, e.t c, e.t d, e.t f, e.t g⟩
  | .O0, _, ⟨t, q, a, b, c⟩ => ⟨t, q, a, e.t b, e.t c⟩
  | .O1, _, ⟨t, a, b⟩ => ⟨t, a, e.t b⟩
  | .O2, _, ⟨t, q, a, b, c⟩ => ⟨t, q, a, e.t b, e.t c⟩
  | .O3, _, ⟨t, q, a, b, c⟩ => ⟨t, q, a, e.t b, e.t c⟩
theorem IsB.rx {K : PySem.W.Frag} {H H' : Hp} (e : Rx H H') : ∀ {ss : List Sh} {xs : List V}, IsB K H ss xs → IsB K H' ss xs
  | [], _, h => h
  | _ :: _, _, ⟨v, vs, a, b, c⟩ => ⟨v, vs, a, b.rx e, IsB.rx e c⟩
theorem RowsL.rx {K : PySem.W.Frag} {H H' : Hp} {xs ys : List V} (e : Rx H H') (h : RowsL K xs ys H) : RowsL K xs ys H' := ⟨h.1, fun i x y a b => let ⟨t, p, q⟩ := h.2 i x y a b; ⟨t, p, e.t q⟩⟩
/-- the rows of a body, at r -/
def RowsOf (K : PySem.W.Frag) (H : Hp) (r : Addr) (ss : List Sh) : Prop := ∃ xs ys, SqL K H r ys ∧ RowsL K xs ys H ∧ IsB K H ss xs ∧ ss.all Sh.good = true ∧ ss.length ≤ 100
theorem RowsOf.rx {K : PySem.W.Frag} {H H' : Hp} {r : Addr} {ss : List Sh} (e : Rx H H') : RowsOf K H r ss → RowsOf K H' r ss
  | ⟨xs, ys, a, b, c, d, f⟩ => ⟨xs, ys, e.l a, b.rx e, c.rx e, d, f⟩
/-- the code: names, rows, bodies -/
abbrev Ent := Str × Addr × List Sh
def entK (e : Ent) : L2.Key × V := (.inr e.1, .ref e.2.1)
def CodeOf (K : PySem.W.Frag) (H : Hp) (c : Addr) (es : List Ent) : Prop := H c = some (.dK (es.map entK)) ∧ (es.map (·.1)).Nodup ∧ es.length ≤ 10 ∧ ∀ e ∈ es, RowsOf K H e.2.1 e.2.2
theorem valV_ent : ∀ {es : List Ent} {e : Ent}, (es.map (·.1)).Nodup → e ∈ es → valV (es.map entK) (.inr e.1) = some (.ref e.2.1)
  | [], _, _, h => by simp at h
  | a :: es, e, hn, h => by
    rw [List.map_cons, List.nodup_cons] at hn
    rcases List.mem_cons.mp h with z | z
    · subst z
      exact valV_pos rfl
    · have ne : ¬ (entK a).1 = .inr e.1 := fun q => hn.1 (by
        have q : a.1 = e.1 := Sum.inr.inj q
        rw [q]
        exact List.mem_map_of_mem z)
      rw [List.map_cons, valV_neg ne]
      exact valV_ent hn.2 z
/-- least: every closed set holds it -/
def Least (es : List Ent) (F : Str → Bool) : Prop := ∀ G : Str → Bool, (∀ e ∈ es, e.2.2.all (okS G) = true → G e.1 = true) → ∀ w, F w = true → G w = true
def Closed (es : List Ent) (F : Str → Bool) : Prop := ∀ e ∈ es, e.2.2.all (okS F) = true → F e.1 = true
def mu (es : List Ent) (F : Str → Bool) : Nat := (es.filter fun e => !F e.1).length
theorem okS_mono {F G : Str → Bool} (h : ∀ w, F w = true → G w = true) {ss : List Sh} (a : ss.all (okS F) = true) : ss.all (okS G) = true := by
  rw [List.all_eq_true] at a ⊢
  intro s hs
  have z := a s hs
  cases s with
  | C w => exact h w z
  | _ => rfl
theorem least_put {es : List Ent} {F F' : Str → Bool} (h : Least es F) {e : Ent} (he : e ∈ es) (ha : e.2.2.all (okS F) = true) (hF : ∀ w, F' w = if w = e.1 then true else F w) : Least es F' := fun G hG w hw => by
  rw [hF] at hw
  by_cases z : w = e.1
  · rw [z]
    exact hG e he (okS_mono (h G hG) ha)
  · rw [if_neg z] at hw
    exact h G hG w hw
theorem mu_put {es : List Ent} {F F' : Str → Bool} {e : Ent} (he : e ∈ es) (hn : F e.1 = false) (hF : ∀ w, F' w = if w = e.1 then true else F w) : mu es F' < mu es F := by
  unfold mu
  have hle : ∀ l : List Ent, (l.filter fun e => !F' e.1).length ≤ (l.filter fun e => !F e.1).length := fun l => by
    induction l with
    | nil => exact Nat.le_refl _
    | cons a l ih =>
      rw [List.filter_cons, List.filter_cons]
      have z := hF a.1
      by_cases q : a.1 = e.1
      · rw [if_pos q] at z
        rw [z]
        simp only [Bool.not_true, Bool.false_eq_true, if_false]
        split <;> simp <;> omega
      · rw [if_neg q] at z
        rw [z]
        split <;> simp <;> omega
  induction es with
  | nil => simp at he
  | cons a l ih =>
    rw [List.filter_cons, List.filter_cons]
    have z := hF a.1
    by_cases q : a.1 = e.1
    · rw [if_pos q] at z
      rw [z, q, hn]
      have := hle l
      simp only [Bool.not_true, Bool.not_false, Bool.false_eq_true, if_false, if_true, List.length_cons]
      omega
    · rw [if_neg q] at z
      have hl : e ∈ l := by
        rcases List.mem_cons.mp he with r | r
        · exact absurd (by rw [r]) q
        · exact r
      have := ih hl
      rw [z]
      split <;> simp <;> omega
theorem kn_put (kvs : List (L2.Key × V)) (w : Str) (v : V) : ∀ w', kn (putK kvs (.inr w) v) w' = if w' = w then true else kn kvs w' := fun w' => by
  unfold kn
  rw [valV_put]
  by_cases z : w' = w
  · rw [if_pos (by rw [z]), if_pos z]
    rfl
  · rw [if_neg (fun q => z (Sum.inr.inj q)), if_neg z]
/-! ### returning -/
def spRet (K : PySem.W.Frag) : Sp := fun vs H Q _ => ∃ c es, vs = [.ref c] ∧ CodeOf K H c es ∧ ∀ p kvs H2, H p = none → Ex H H2 → H2 p = some (.dK kvs) → Least es (kn kvs) → Closed es (kn kvs) → Q (.ref p) H2
theorem sc_ret : FnScope ["rows_by", "found", "grown", "name"] ["rows_by"] (defScope (top 14)) := ⟨rfl, rfl, rfl, by decide +kernel, rfl, by decide +kernel, by decide +kernel⟩
section
variable {P : Program} {w : World} {K : PySem.W.Frag} {mg : Str → Option Value} {base : Heap} {f : Addr} {fd : FuncData}
theorem ok_ret {fE : Addr} {fdE : FuncData} (F : FnP K "returning" (top 14) [] f fd) (GE : FnOk P w K mg base CX0 1 fE fdE ["rows", "known"] (spEnds K)) (gE : mg "comes_to_end" = some (.ref fE)) (kE : PySem.W.keepIn K (.ref fE) = true) (bE : Binds K fdE ["rows", "known"] []) :
    FnOk P w K mg base CX0 2 f fd ["rows_by"] (spRet K) := by
  refine F.ok sc_ret (fun vs H Q E h => ?_) (fun cdv A outer s H vs Q E hr h => ?_)
  · obtain ⟨c, es, rfl, _⟩ := h
    rfl
  · obtain ⟨c, es, rfl, ⟨hc, hnd, hlen, hR⟩, k⟩ := h
    refine ⟨_, pss_cons (by
        exact ps_par (i := 1) (j := 2) rfl sc_ret.nd rfl rfl (by decide) rfl rfl (pa_cons pe_dnewK (pa_cons pe_bl pa_nil)) (by rfl)) <| pss_cons (by
        refine ps_while (passes_of rfl) (pt_val (pv 2) (by intro _; rfl)) (pss_cons (by
          exact ps_asg pe_bl (pg_name (i := 2) sc_ret.nd rfl (Or.inl rfl))) <| pss_one (by
          refine ps_lock (ps_for (passes_of rfl) rfl (pi_keys (pv 0)) (pg_name (i := 3) sc_ret.nd rfl (Or.inl rfl)) (pss_one (by
            refine ps_if (PW.pt (pw_and (pt_cmp (pc_dnotin (hu1 hr) (pv 3) (pv 1))) (pw_and1 (pt_val (by exact pe_call GE hr (by rfl) gE kE bE .nil pass0 (pa_cons (pe_dget (hu1 hr) (pv 0) (pv 3) (fun _ _ => rfl)) (pa_cons (pv 1) pa_nil))) (by intro _; rfl))))) (pss_cons (by
              exact ps_dput (hu1 hr) (pv 1) (pv 3) pe_bl rfl) <| pss_one (by
              exact ps_asg pe_bl (pg_name (i := 2) sc_ret.nd rfl (Or.inl rfl)))) pss_nil)))))) <| pss_one (by
        exact ps_ret (pv 1)), ?_⟩
    intro p hp
    refine ⟨.ref p, .bl true, rfl, ?_⟩
    have mu_le : ∀ F, mu es F ≤ es.length := fun F => List.length_filter_le _ _
    refine q_while (fun mm σ' H' => ∃ g p3 kvs, σ' = [some (.ref c), some (.ref p), some (.bl g), p3] ∧ Ex H H' ∧ H' p = some (.dK kvs) ∧ kvs.length + mu es (kn kvs) ≤ es.length ∧ Least es (kn kvs) ∧ (g = false → Closed es (kn kvs)) ∧ mm = if g = true then mu es (kn kvs) + 1 else 0) (mu es (kn []) + 1) ⟨true, none, [], rfl, Ex.new hp, upd_same, by have := mu_le (kn []); simp; omega, (fun G hG w hw => by cases hw), fun z => (nomatch z), rfl⟩ ?_
    rintro mm σ' H' ⟨g, p3, kvs, rfl, e, hkv, hlen2, hleast, hcl, rfl⟩
    refine ⟨g, et_B (ev_var rfl), fun hg H1 e1 => ?_, fun hg H1 e1 => ?_⟩
    · subst hg
      refine ⟨_, fun σ2 H2 z => z, ?_⟩
      refine q_asg (v := .bl false) ev_c fun H2 e2 => ?_
      have hc2 : H2 c = some (.dK (es.map entK)) := e2 c _ (e1 c _ (e c _ hc))
      have hp2 : H2 p = some (.dK kvs) := e2 p _ (e1 p _ hkv)
      have hpc : p ≠ c := fun z => by rw [z, hc] at hp; cases hp
      refine ⟨c, _, hc2, trivial, fun od => ?_⟩
      have ef : Ex (upd H c (.frz od (.dK (es.map entK)))) (upd H2 c (.frz od (.dK (es.map entK)))) := ex_frz ((e.trans e1).trans e2)
      refine s_forW (H0 := upd H c (.frz od (.dK (es.map entK)))) (n := (es.map entK).length) (Y := fun i H x H' => H' = H ∧ ∃ k v, (es.map entK)[i]? = some (k, v) ∧ x = kV k) ⟨Itk c od (es.map entK), fun H => H c = some (.frz od (.dK (es.map entK))), ⟨fun i _ hi q => ⟨q, hi⟩, fun _ q => ⟨q, Nat.le_refl _⟩, fun i H x H' hi q y => y⟩, fun H1 e1 => e1 c _ upd_same, fun H1 e1 R q => ⟨.ref c, rfl, c, od, rfl, .inl ⟨_, e1 c _ upd_same, q H1 (Ex.refl _)⟩⟩⟩ ef
        (fun i σ' H' => ∃ g p3 kvs', σ' = [some (.ref c), some (.ref p), some (.bl g), p3] ∧ Ex (upd H c (.frz od (.dK (es.map entK)))) H' ∧ H' p = some (.dK kvs') ∧ kvs'.length + mu es (kn kvs') ≤ es.length ∧ Least es (kn kvs') ∧ mu es (kn kvs') ≤ mu es (kn kvs) ∧ (g = true → mu es (kn kvs') < mu es (kn kvs)) ∧
          (g = false → ∀ (j : Nat) e, j < i → es[j]? = some e → e.2.2.all (okS (kn kvs')) = true → kn kvs' e.1 = true)) ?_ ?_ ?_ ?_
      · intro H3 e3
        exact ⟨false, _, kvs, rfl, ef.trans e3, e3 p _ (by rw [upd_ne hpc]; exact hp2), hlen2, hleast, Nat.le_refl _, fun z => (nomatch z), fun _ j e hj => absurd hj (Nat.not_lt_zero _)⟩
      · rintro i σ' H3 _ ⟨_, _, _, _, z, _⟩
        exact z
      · rintro i x σ' H3 H4 hi ⟨g, p3, kvs', rfl, e3, hp3, hl3, hle3, hm3, hg3, hc3⟩ ⟨rfl, kk, v, hkk, rfl⟩
        rw [List.getElem?_map] at hkk
        obtain ⟨en, hen, hee⟩ := Option.map_eq_some_iff.mp hkk
        cases hee
        have hmem : en ∈ es := List.mem_of_getElem? hen
        have rxf : Rx H (upd H c (.frz od (.dK (es.map entK)))) := rx_frz hc trivial
        refine s_when (b := !(kn kvs' en.1) && en.2.2.all (okS (kn kvs'))) (et_and (et_B (ev_dnotin (k := .inr en.1) (ev_var rfl) (ev_var rfl) (.inl hp3))) fun _ => et_B (ev_call (ea_cons (ev_dget (k := .inr en.1) (ev_var rfl) (ev_var rfl) (.inr ⟨od, e3 c _ upd_same⟩) (valV_ent hnd hmem)) (ea_cons (ev_var rfl) ea_nil)) (RetV.call fun H5 e5 Q E q => ?_))) (fun hb H5 e5 => ?_) fun hb H5 e5 => ?_
        · obtain ⟨xs, ys, a1, a2, a3, a4, a5⟩ := (hR en hmem).rx (rxf.trans (ex_rx (e3.trans e5)))
          exact ⟨en.2.1, p, xs, ys, en.2.2, kvs', rfl, a1, a2, a3, a4, a5, .inl (e5 p _ hp3), q⟩
        · have hb := Bool.and_eq_true_iff.mp hb
          have hn : kn kvs' en.1 = false := by
            cases z : kn kvs' en.1 with
            | false => rfl
            | true => rw [z] at hb; exact absurd hb.1 (by decide)
          have hmu := mu_put hmem hn (kn_put kvs' en.1 (.bl true))
          have hlp := length_putK kvs' (Sum.inr en.1) (.bl true)
          have hpH : (upd H c (.frz od (.dK (es.map entK)))) p = none := by rw [upd_ne hpc]; exact hp
          refine q_dput (k := .inr en.1) ev_c (ev_var rfl) (ev_var rfl) (e5 p _ hp3) (by omega) fun H6 e6 => ?_
          refine s_asg (v := .bl true) ev_c fun H7 e7 => ?_
          exact ⟨true, _, _, rfl, (Ex.mut ((e3.trans e5).trans e6) hpH).trans e7, e7 p _ upd_same, by omega, least_put hle3 hmem hb.2 (kn_put kvs' en.1 _), by omega, fun _ => by omega, fun z => (nomatch z)⟩
        · refine ⟨g, _, kvs', rfl, e3.trans e5, e5 p _ hp3, hl3, hle3, hm3, hg3, fun hgf j e' hj hej ha => ?_⟩
          by_cases hji : j < i
          · exact hc3 hgf j e' hji hej ha
          · have : j = i := by omega
            rw [this, hen] at hej
            cases hej
            rw [ha] at hb
            simpa using hb
      · rintro σ' H3 ⟨g, p3, kvs', rfl, e3, hp3, hl3, hle3, hm3, hg3, hc3⟩
        refine ⟨e3 c _ upd_same, if g = true then mu es (kn kvs') + 1 else 0, ?_, g, p3, kvs', rfl, ex_thaw hc e3, by rw [upd_ne hpc]; exact hp3, hl3, hle3, fun hgf e' he' ha => ?_, rfl⟩
        · rw [if_pos rfl]
          cases g with
          | true => have := hg3 rfl; simp; omega
          | false => simp
        · obtain ⟨j, hj⟩ := List.mem_iff_getElem?.mp he'
          have := (List.getElem?_eq_some_iff.mp hj).1
          exact hc3 hgf j e' (by rw [List.length_map]; omega) hj ha
    · exact s_ret (v := .ref p) (ev_var rfl) fun H2 e2 => k p kvs H2 hp ((e.trans e1).trans e2) (e2 p _ (e1 p _ hkv)) hleast (hcl hg)
end
end Cp

namespace Cp
open PySem PySem.Spec PyProof.Rows L2 Evl GN
/-! ### way_to_reading -/
/-- behind the mark at i stands a put -/
def spWay (K : PySem.W.Frag) : Sp := fun vs H Q _ => ∃ r g i ss, vs = [.ref r, g, .int (i : Nat), .int 0] ∧ RowsOf K H r ss ∧ ss[i]? = some .M ∧ ss[i + 1]? = some .P ∧ ∀ p H2, Ex H H2 → Q (.ref p) H2
def Nway : List Str := ["rows", "gives", "number", "done", "name", "first", "line", "seen", "way", "here", "statement", "yes", "no"]
theorem sc_way : FnScope Nway ["rows", "gives", "number", "done"] (defScope (top 12)) := ⟨rfl, rfl, rfl, by decide +kernel, rfl, by decide +kernel, by decide +kernel⟩
section
variable {P : Program} {w : World} {K : PySem.W.Frag} {mg : Str → Option Value} {base : Heap} {f : Addr} {fd : FuncData}
/-- the parts of the row of s at i -/
theorem rows_at {K : PySem.W.Frag} {H : Hp} {r : Addr} {ss : List Sh} {i : Nat} {s : Sh} (h : RowsOf K H r ss) (hi : ss[i]? = some s) : ∃ ys t v, SqL K H r ys ∧ ys.length = ss.length ∧ ys[i]? = some (.ref t) ∧ SqT K H t [v, .int ((i : Nat) + 1), .int ((i : Nat) + 1)] ∧ IsS K H s v := by
  obtain ⟨xs, ys, a, b, c, d, e⟩ := h
  have l1 := c.len
  have l2 := b.1
  have hl := (List.getElem?_eq_some_iff.mp hi).1
  have hx : xs[i]? = some xs[i] := List.getElem?_eq_getElem (by omega)
  have hy : ys[i]? = some ys[i] := List.getElem?_eq_getElem (by omega)
  obtain ⟨t, e1, e2⟩ := b.2 i _ _ hx hy
  obtain ⟨s', e3, e4⟩ := c.at hx
  rw [hi] at e3
  cases e3
  rw [e1] at hy
  exact ⟨ys, t, _, a, by omega, hy, e2, e4⟩
theorem ev_srcx {K : PySem.W.Frag} {σ : L2.St} {H : Hp} {ta : TA} {v : V} {E : XK} (h : EvA ta σ H [v]) (hv : IsS K H .M v) (h3 : σ[3]? = some (some (.int 0))) :
    Ev (tOp (rIxT K) (tOp (rIxT K) (tOp (rIxL K) (tCall (spSrc K) [] E ta) (tVar 3)) (tC (.int 0))) (tC (.int 0))) σ H (.str "x") := fun H1 e Q q => by
  refine eb_call (H := H) (Pp := SrcL K .M) h (fun H2 e2 Q E kq => ⟨.M, v, H, rfl, e2, hv, rfl, kq⟩) H1 e _ fun p ys H2 n e2 h2 z => ?_
  obtain ⟨u, rfl, t, q', rfl, s1, s2⟩ := z H2 (Kp.self (e.trans e2))
  exact ⟨.int 0, h3, p, _, 0, _, rfl, rfl, sq_of h2, rfl, t, _, 0, _, rfl, rfl, s1, rfl, q', _, 0, _, rfl, rfl, s2, rfl, q H2 e2⟩
theorem ev_first {K : PySem.W.Frag} {σ : L2.St} {H : Hp} {te : TE} {b : Bool} {n m : Str} {E : XK} (h : EvB te σ H (UseL K b n)) (h4 : σ[4]? = some (some (.str m))) : Ev (tCall (spFirst K) [] E (tCons te (tCons (tVar 4) tNil))) σ H (if n = m then .bl b else .non) := fun H1 e Q q =>
  h H1 e _ fun p ys H2 _ e2 h2 z => by
    obtain ⟨t, rfl, ht⟩ := z H2 (Kp.self (e.trans e2))
    exact ⟨.str m, h4, p, t, b, n, m, rfl, sq_of h2, ht, fun H3 e3 => q H3 (e2.trans e3)⟩
theorem ok_way {fS fU fF : Addr} {fdS fdU fdF : FuncData} {dsU : List Value} (F : FnP K "way_to_reading" (top 12) [] f fd) (GS : FnOk P w K mg base CX0 1 fS fdS ["statement"] (spSrc K)) (gS : mg "sources_of" = some (.ref fS)) (kS : PySem.W.keepIn K (.ref fS) = true) (bS : Binds K fdS ["statement"] [])
    (GU : FnOk P w K mg base CX0 2 fU fdU ["statement", "done"] (spUses K)) (gU : mg "uses_of" = some (.ref fU)) (kU : PySem.W.keepIn K (.ref fU) = true) (bU : Binds K fdU ["statement", "done"] []) (bU1 : Binds K fdU ["statement", "done"] dsU) (vU : Vals [.int (-1)] dsU)
    (GF : FnOk P w K mg base CX0 1 fF fdF ["uses", "name"] (spFirst K)) (gF : mg "first_use" = some (.ref fF)) (kF : PySem.W.keepIn K (.ref fF) = true) (bF : Binds K fdF ["uses", "name"] []) (gL : mg "len" = none) :
    FnOk P w K mg base CX0 3 f fd ["rows", "gives", "number", "done"] (spWay K) := by
  refine F.ok sc_way (fun vs H Q E h => ?_) (fun cdv A outer s H vs Q E hr h => ?_)
  · obtain ⟨r, g, i, ss, rfl, _⟩ := h
    rfl
  · obtain ⟨r, g, i, ss, rfl, hR, hi, hi1, k⟩ := h
    have hr1 := hr.mono (j := 1) (by decide)
    refine ⟨_, pss_cons (by
        refine ps_asg (pe_ix ix_tup (pe_ix ix_tup (pe_ix ix_list (by
          exact pe_call GS hr1 (by rfl) gS kS bS .nil pass0 (pa_cons (pe_ix ix_tup (pe_ix ix_list (pv 0) (pv 2) (fun _ _ => rfl)) pe_int (fun _ _ => rfl)) pa_nil)) (pv 3) (fun _ _ => rfl)) pe_int (fun _ _ => rfl)) pe_int (fun _ _ => rfl)) (pg_name (i := 4) sc_way.nd rfl (Or.inl rfl))) <| pss_cons (by
        refine ps_asg (by
          exact pe_call GF hr1 (by rfl) gF kF bF .nil pass0 (pa_cons (by exact pe_call GU hr (by rfl) gU kU bU .nil pass0 (pa_cons (pe_ix ix_tup (pe_ix ix_list (pv 0) (pv 2) (fun _ _ => rfl)) pe_int (fun _ _ => rfl)) (pa_cons (pv 3) pa_nil))) (pa_cons (pv 4) pa_nil))) (pg_name (i := 5) sc_way.nd rfl (Or.inl rfl))) <| pss_cons (by
        exact ps_if (pt_cmpR op_notN (pv 5) pe_non (nomark _)) pss_no pss_nil) <| pss_cons (by
        exact ps_par (i := 6) (j := 7) rfl sc_way.nd rfl rfl (by decide) rfl rfl (pa_cons (pe_lst (pa_cons (pe_lst (pa_cons (pv 2) (pa_cons (pe_ix ix_tup (pe_ix ix_list (pv 0) (pv 2) (fun _ _ => rfl)) pe_int (fun _ _ => rfl)) pa_nil))) pa_nil)) (pa_cons pe_dnewK pa_nil)) (by rfl)) <| pss_cons (by
        refine ps_while (passes_of rfl) (pt_cmpR op_gt (pe_callB call_len_seq (by rfl) gL PySem.boot_len (pa_cons (pv 6) pa_nil)) pe_int (nomark _)) (pss_cons (by
          exact ps_asg (pe_bm PySem.F.plainAttrs_list PySem.F.slot_list_pop PySem.F.type_list_pop mt_popAt (pv 6) (pa_cons pe_int pa_nil)) (pg_name (i := 8) sc_way.nd rfl (Or.inl rfl))) <| pss_cons (by
          exact ps_asg (pe_ix ix_list (pv 8) (pe_un un_neg pe_int) (fun _ _ => rfl)) (pg_name (i := 9) sc_way.nd rfl (Or.inl rfl))) <| pss_one (by
          refine ps_if (pt_cmpR op_eq (pv 9) (pe_callB call_len_seq (by rfl) gL PySem.boot_len (pa_cons (pv 0) pa_nil)) (nomark _)) pss_no (pss_one (by
            refine ps_if (pt_cmp (pc_dnotin (hu1 hr) (pv 9) (pv 7))) (pss_cons (by
              exact ps_dput (hu1 hr) (pv 7) (pv 9) pe_bl rfl) <| pss_cons (by
              exact ps_asg (pe_ix ix_list (pv 0) (pv 9) (fun _ _ => rfl)) (pg_tup rfl (pgs_cons (pg_name (i := 10) sc_way.nd rfl (Or.inl rfl)) (pgs_cons (pg_name (i := 11) sc_way.nd rfl (Or.inl rfl)) (pgs_cons (pg_name (i := 12) sc_way.nd rfl (Or.inl rfl)) pgs_nil))))) <| pss_cons (by
              refine ps_asg (by
                exact pe_call GF hr1 (by rfl) gF kF bF .nil pass0 (pa_cons (by exact pe_call GU hr (by rfl) gU kU bU1 vU pass0 (pa_cons (pv 10) pa_nil)) (pa_cons (pv 4) pa_nil))) (pg_name (i := 5) sc_way.nd rfl (Or.inl rfl))) <| pss_cons (by
              exact ps_if (pt_cmpR op_is_bl (pv 5) pe_bl (nomark _)) (pss_one (ps_ret (pv 8))) pss_nil) <| pss_no) pss_nil))))) <| pss_no, ?_⟩
    obtain ⟨ys, t, v, a1, a2, a3, a4, a5⟩ := rows_at hR hi
    obtain ⟨ys', t', v', b1, b2, b3, b4, b5⟩ := rows_at hR hi1
    have hl1 := (List.getElem?_eq_some_iff.mp hi1).1
    have row : ∀ {σ : L2.St} {H' : Hp}, Ex H H' → σ[0]? = some (some (.ref r)) → σ[2]? = some (some (.int (i : Nat))) → ∀ {j : Nat} {x : V}, [v, .int ((i : Nat) + 1), .int ((i : Nat) + 1)][j]? = some x → Ev (tOp (rIxT K) (tOp (rIxL K) (tVar 0) (tVar 2)) (tC (.int (j : Nat)))) σ H' x := fun {σ H'} e z0 z2 {j x} hx =>
      ev_ixT (ev_ixL (ev_var z0) (ev_var z2) (ex_l e a1) a3) ev_c (ex_t e a4) (at_of rfl hx)
    refine q_asg (v := .str "x") (ev_srcx (ea_cons (row (Ex.refl _) rfl rfl (j := 0) rfl) ea_nil) a5 rfl) fun H1 e1 => ?_
    refine q_asg (v := .non) (ev_is (ev_first (b := false) (n := "y") (m := "x") (eb_call (ea_cons (row e1 rfl rfl (j := 0) rfl) (ea_cons (ev_var rfl) ea_nil)) fun H2 e2 Q E kq => ⟨.M, v, H1, e2, a5.ex e1, .inr ⟨rfl, rfl, kq⟩⟩) rfl) (by rw [if_neg (by decide)])) fun H2 e2 => ?_
    have e02 := e1.trans e2
    refine q_no (et_test (ev_op (x := .non) (y := .non) (z := .bl false) (ev_var rfl) ev_c fun H3 e3 Q q => ⟨rfl, q H3 (Ex.refl _)⟩)) fun H3 e3 => ?_
    have e03 := e02.trans e3
    refine ⟨_, rfl, ?_⟩
    refine row e03 rfl rfl (j := 1) rfl H3 (Ex.refl _) _ fun H4 e4 => ⟨sz_of (n := 2) (by decide), fun w0 hw0 => ⟨sz_of (n := 1) (by decide), fun l hl s0 hs0 => ⟨.ref l, .ref s0, rfl, ?_⟩⟩⟩
    have e4w : Ex H4 (upd H4 w0 (.lst [.int (i : Nat), .int ((i : Nat) + 1)])) := Ex.new hw0
    have e4l := e4w.trans (Ex.new (o := .lst [.ref w0]) hl)
    have e4s := e4l.trans (Ex.new (o := .dK []) hs0)
    have hws : w0 ≠ s0 := fun z => by rw [← z, upd_ne (fun z => by rw [← z, upd_same] at hl; cases hl), upd_same] at hs0; cases hs0
    have hwl : w0 ≠ l := fun z => by rw [← z, upd_same] at hl; cases hl
    have hls : l ≠ s0 := fun z => by rw [← z, upd_same] at hs0; cases hs0
    refine q_while (tz := fun _ _ _ => False) (D := { nx := fun x H' => Q V.non H', rt := Q }) (fun m σ' H' => m = 1 ∧ ∃ p8 p9 p10 p11 p12, σ' = [some (.ref r), some g, some (.int (i : Nat)), some (.int 0), some (.str "x"), some .non, some (.ref l), some (.ref s0), p8, p9, p10, p11, p12] ∧ Ex H H' ∧ H' w0 = some (.lst [.int (i : Nat), .int ((i : Nat) + 1)]) ∧ H' l = some (.lst [.ref w0]) ∧ H' s0 = some (.dK [])) 1
      ⟨rfl, none, none, none, none, none, rfl, (e03.trans e4).trans e4s, by rw [upd_ne hws, upd_ne hwl, upd_same], by rw [upd_ne hls, upd_same], upd_same⟩ ?_
    rintro m σ' H' ⟨rfl, p8, p9, p10, p11, p12, rfl, e5, hw5, hl5, hs5⟩
    have hlH : H l = none := fresh_back ((e03.trans e4).trans e4w) hl
    have hsH : H s0 = none := fresh_back ((e03.trans e4).trans e4l) hs0
    refine ⟨true, et_test (ev_is (ev_op (x := .int 1) (y := .int 0) (ev_lenQ (ev_var rfl) (.inl (sq_of hl5))) ev_c rv_I0) rfl), fun _ H6 e6 => ⟨fun _ _ => False, fun _ _ z => z.elim, ?_⟩, fun z => nomatch z⟩
    refine ⟨.ref l, rfl, .inl ⟨rfl, _, sq_of (e6 l _ hl5)⟩, l, [.ref w0], 0, 0, .ref w0, rfl, rfl, e6 l _ hl5, by decide, by decide, rfl, rfl, ?_⟩
    have e7 : Ex H (upd H6 l (.lst ([V.ref w0].eraseIdx 0))) := Ex.mut (e5.trans e6) hlH
    have hw7 : (upd H6 l (.lst ([V.ref w0].eraseIdx 0))) w0 = some (.lst [.int (i : Nat), .int ((i : Nat) + 1)]) := by rw [upd_ne hwl]; exact e6 w0 _ hw5
    have hs7 : (upd H6 l (.lst ([V.ref w0].eraseIdx 0))) s0 = some (.dK []) := by rw [upd_ne (Ne.symm hls)]; exact e6 s0 _ hs5
    refine q_asg (v := .int ((i : Nat) + 1)) (ev_op (x := .ref w0) (y := .int (-1)) (ev_var rfl) (ev_un (x := .int 1) ev_c ru_neg) (rv_ixL (sq_of hw7) (show atI ([V.int (i : Nat)] ++ [V.int ((i : Nat) + 1)]) (-1) = some (V.int ((i : Nat) + 1)) from atI_last _ _))) fun H8 e8 => ?_
    refine s_if (b := false) (et_is (et_eq (ev_var rfl) (ev_lenQ (ev_var rfl) (.inl (ex_l (e7.trans e8) b1))) rfl) (decide_eq_false fun z => ?_)) (fun z => nomatch z) fun _ H9 e9 => ?_
    · have z := V.int.inj z
      omega
    refine s_if (b := true) (et_B (ev_dnotin (k := .inl ((i : Nat) + 1)) (ev_var rfl) (ev_var rfl) (.inl (e9 s0 _ (e8 s0 _ hs7))))) (fun _ H10 e10 => ?_) fun z => nomatch z
    refine q_dput (k := .inl ((i : Nat) + 1)) ev_c (ev_var rfl) (ev_var rfl) (e10 s0 _ (e9 s0 _ (e8 s0 _ hs7))) (by simp) fun H11 e11 => ?_
    have e12 : Ex H (upd H11 s0 (.dK (putK [] (.inl ((i : Nat) + 1)) (.bl true)))) := Ex.mut (e7.trans (e8.trans (e9.trans (e10.trans e11)))) hsH
    refine q_asg3 (te := tOp (rIxL K) (tVar 0) (tVar 9)) (ev_ixL (i := i + 1) (ev_var rfl) (ev_var rfl) (ex_l e12 b1) b3) (ex_t e12 b4) fun H13 e13 => ?_
    refine q_asg (v := .bl true) (ev_is (ev_first (b := true) (n := "x") (m := "x") (eb_call (ea_cons (ev_var rfl) ea_nil) fun H2 e2 Q E kq => ⟨.P, v', H13, e2, b5.ex (e12.trans e13), .inl ⟨rfl, rfl, kq⟩⟩) rfl) (by rw [if_pos rfl])) fun H14 e14 => ?_
    refine q_yes (et_test (ev_op (x := .bl true) (y := .bl true) (z := .bl true) (ev_var rfl) ev_c fun H3 e3 Q q => ⟨true, true, rfl, rfl, q H3 (Ex.refl _)⟩)) fun H15 e15 => ?_
    exact s_ret (v := .ref w0) (ev_var rfl) fun H16 e16 => k w0 H16 ((e12.trans e13).trans (e14.trans (e15.trans e16)))
end
end Cp

/-! set(list of distinct texts), its len. -/
namespace GZ
open PySem PySem.Spec PyProof.Rows SS
section
variable {prog : Program} {w : World} {A : Around} {R : Result → Shared → Prop} {I : Addr} {fp wr : List Addr} {G : Array GenState → Array GenState → Prop} {n : Nat} {P : Nat → Value → Prop} {St : Nat → Shared → Prop}
theorem lp_strs (W : WalksS prog w A.in1 I fp wr G n P St) (S : Addr) (hSf : S ∉ fp) (xs : List Str) (hsz : xs.length = n) (hn1 : xs.Nodup) (hnb : n ≤ 1000)
    (hval : ∀ i v, P i v → ∃ t, v = .str (xs.getD i Str.empty) t) :
    ∀ (k i : Nat) (s : Shared), n - i = k → i ≤ n → St i s →
      s.heap.SetOf (PySem.strKind prog w) S (fun k' => (xs.take i).any (· == k')) i →
      (∀ s', Moved (S :: wr) G s s' → s'.heap.SetOf (PySem.strKind prog w) S (fun k' => (xs.take n).any (· == k')) n → R (.ok (.ret .none)) s') →
      codeAny (model prog w) A (.builtin "set.update.loop" ⟨[.ref S, .ref I], []⟩) R s := by
  have hSw : S ∉ wr := fun h => hSf (W.sub _ h)
  have hsub : ∀ b ∈ wr, b ∈ S :: wr := fun b hb => List.mem_cons_of_mem _ hb
  intro k
  induction k with
  | zero =>
    intro i s hk hi hst hS hR
    have hin : i = n := by omega
    subst hin
    refine codeAny_builtin PyProof.Rows.F.entry_set_update_loop ?_
    rw [Around.under_plainId PyProof.Rows.F.plain_set_update_loop _]
    show wpAny _ A.in1 (pyNext (.ref I) >>= _) _ _ s
    refine wpAny_bind (W.done s _ _ hst fun s' hm => ?_)
    show wpAny _ A.in1 (ret Value.none) _ _ s'
    exact wpAny_pure (hR s' (hm.mono hsub) (by
      obtain ⟨o, es, ep, t, ho, rest⟩ := hS
      exact ⟨o, es, ep, t, hm.heap S _ hSw ho, rest⟩))
  | succ k ih =>
    intro i s hk hi hst hS hR
    have hlt : i < n := by omega
    refine codeAny_builtin PyProof.Rows.F.entry_set_update_loop ?_
    rw [Around.under_plainId PyProof.Rows.F.plain_set_update_loop _]
    show wpAny _ A.in1 (pyNext (.ref I) >>= _) _ _ s
    refine wpAny_bind (W.item i s _ _ hlt hst fun v s' hP hst' hm => ?_)
    obtain ⟨t, rfl⟩ := hval i v hP
    have hS' : s'.heap.SetOf (PySem.strKind prog w) S (fun k' => (xs.take i).any (· == k')) i := by
      obtain ⟨o, es, ep, tb, ho, rest⟩ := hS
      exact ⟨o, es, ep, tb, hm.heap S _ hSw ho, rest⟩
    show wpAny _ A.in1 (holding [Value.str (xs.getD i Str.empty) t] (setAdd S (.str (xs.getD i Str.empty) t)) >>= _) _ _ s'
    refine wpAny_bind (wpAny_holding ?_)
    unfold setAdd
    refine wpAny_holding ?_
    refine wpAny_bind ((PySem.strKind prog w).pyHash (k := xs.getD i Str.empty) (strKind_is _ _ _ _) ?_)
    refine wpAny_setAddHashed_of (knd := PySem.strKind prog w) (s := { s' with toks := s'.toks + 1 }) (strKind_is _ _ _ _) rfl hS' (by unfold scanBound; omega) fun h' hsb hS2 => ?_
    have hSi : h'.SetOf (PySem.strKind prog w) S (fun k' => (xs.take (i + 1)).any (· == k')) (i + 1) := by
      have hlx : i < xs.length := by omega
      have eg : xs.getD i Str.empty = xs[i] := by rw [List.getD_eq_getElem?_getD, List.getElem?_eq_getElem hlx]; rfl
      have et : xs.take (i + 1) = xs.take i ++ [xs[i]] := by rw [List.take_add_one, List.getElem?_eq_getElem hlx]; rfl
      have nw : ((xs.take i).any (· == xs[i])) = false := List.any_eq_false.mpr fun y hy => by
        obtain ⟨j, hj⟩ := List.mem_iff_getElem?.mp hy
        rw [List.getElem?_take] at hj
        by_cases hji : j < i
        · rw [if_pos hji] at hj
          obtain ⟨hjl, ej⟩ := List.getElem?_eq_some_iff.mp hj
          intro q
          exact List.pairwise_iff_getElem.mp hn1 j i hjl hlx hji (ej.trans (eq_of_beq q))
        · rw [if_neg hji] at hj
          cases hj
      refine SetOf_congr hS2 (fun k' => ?_) ?_
      · rw [et, List.any_append, eg]
        show ((xs.take i).any (· == k') || decide (k' = xs[i])) = ((xs.take i).any (· == k') || [xs[i]].any (· == k'))
        congr 1
        by_cases q : k' = xs[i]
        · subst q; simp
        · have hb : (xs[i] == k') = false := by simpa [beq_iff_eq] using (fun h' : xs[i] = k' => q h'.symm)
          simp [hb, q]
      · rw [eg, nw]
        rfl
    refine wpAny_pure ⟨plainId_quiet PyProof.Rows.F.plain_set_update_loop _, ih (i + 1) _ (by omega) hlt (W.frame _ s' _ _ hst' (Nat.le_succ _) fun b hb o e => ?_) hSi fun s'' hm'' hS'' => ?_⟩
    · rw [hsb.2 b (fun h : b = S => hSf (by rw [← h]; exact hb))]; exact e
    · refine hR s'' (Moved.trans W.gtrans ((hm.mono hsub).then_heap (Nat.le_succ _) fun b o hb e => ?_) hm'') hS''
      rw [hsb.2 b (fun h : b = S => hb (by rw [h]; exact List.mem_cons_self))]; exact e
end

section
variable {prog : Program} {w : World} {A : Around} {E : Value → Shared → Prop} {s : Shared}
set_option maxHeartbeats 3200000 in
theorem call_set_strs {l : Addr} {items : Array Value} {xs : List Str} {Q : Value → Shared → Prop}
    (hh : A.handled = none) (hl : s.heap.IsList l items) (hi : PyProof.Rows.StrsAre items.toList xs) (hn1 : xs.Nodup) (hnb : xs.length ≤ 1000)
    (h : ∀ (h' : Heap) (tk : Nat), h'.SetOf (PySem.strKind prog w) s.heap.objs.size (fun k' => (xs.take items.size).any (· == k')) items.size →
      (∀ b o, b < s.heap.objs.size → s.heap.get? b = some o → h'.get? b = some o) → Q (.ref s.heap.objs.size) { s with heap := h', toks := tk }) :
    wpAny (model prog w) A (call (.type "set") [.ref l]) Q E s := by
  obtain ⟨c, tl, hmro⟩ := PySem.F.called_set.mro
  have hmade := PySem.F.called_set.made
  have hsub := PySem.F.called_set.sub
  refine wpAny_call (codeAny_of_tree ?_)
  show wpAny _ _ (callAny (.type "set") _) _ _ _
  refine wpAny_pure ⟨Code.quiet_builtin _ (by decide +kernel), codeAny_builtin PySem.F.entry_type_call ?_⟩
  rw [Around.under_plain (weight_type_call_type "set" [.ref l] []) rfl]
  have h1 := PySem.F.called_set.notType
  have h2 := PySem.F.called_set.canCreate
  have hct := PySem.F.typeCall_set_1 (.ref l)
  repeat (any_goals (first | assumption | wp_step))

  refine codeAny_mono (code_set_new_1 (.ref l) (E := E) (Q₁ := fun obj s₁ => ∃ led : Bool, obj = .ref s.heap.objs.size ∧ s₁ = { s with heap := s.heap.push { cls := .type "set", dict := none, data := .set #[] 0 (.fresh 0 0 led) } }) fun led => ⟨led, rfl, rfl⟩) fun r s₁ hr => ?_
  cases r with
  | error e => exact hr
  | ok fl =>
    cases fl with
    | ret obj =>
      obtain ⟨led, rfl, rfl⟩ := hr
      have hS : (s.heap.push { cls := .type "set", dict := none, data := .set #[] 0 (.fresh 0 0 led) }).get? s.heap.objs.size = some { cls := .type "set", dict := none, data := .set #[] 0 (.fresh 0 0 led) } := Heap.get?_push_size _ rfl
      have hT : Shared.TypeIs { s with heap := s.heap.push { cls := .type "set", dict := none, data := .set #[] 0 (.fresh 0 0 led) } } (.ref s.heap.objs.size) "set" := ⟨_, hS, rfl⟩
      have hli := PySem.F.called_set.init.lookup
      have hbi := PySem.F.called_set.init.bind (.ref s.heap.objs.size)
      repeat (any_goals (first | assumption | wp_step))

      refine codeAny_mono (codeAny_call_builtin (R := wants (fun r s₂ => r = .none ∧ ∃ h' tk, s₂ = { s with heap := h', toks := tk } ∧
          h'.SetOf (PySem.strKind prog w) s.heap.objs.size (fun k' => (xs.take items.size).any (· == k')) items.size ∧
          (∀ b o, b < s.heap.objs.size → s.heap.get? b = some o → h'.get? b = some o)) E) PySem.F.called_set.init.plain PySem.F.entry_set_init (check_set_init_1 hT ?_)) fun r₂ s₂ hr₂ => ?_
      · obtain ⟨ol, hol, hcl, nl, hdl⟩ := hl
        obtain ⟨ocls, odict, odata, oslots⟩ := ol
        simp only at hcl hdl
        subst hcl; subst hdl
        have hol' : (s.heap.push { cls := .type "set", dict := none, data := .set #[] 0 (.fresh 0 0 led) }).get? l = some { cls := .type "list", dict := odict, data := .seq items nl, slots := oslots } := Heap.get?_push_of_some _ hol
        have hsls := PySem.F.sub_list_set
        have hslf := PySem.F.sub_list_frozenset
        have hne : (Value.type "list" == Value.type "dict") = false := by decide
        have hl1 : (s.heap.push { cls := .type "set", dict := none, data := .set #[] 0 (.fresh 0 0 led) }).IsList l items := ⟨_, hol', rfl, nl, rfl⟩
        unfold Builtin.«set.__init__» noKeywords Builtin.Frozenset.updateFrom
        generalize hPI : pyIter = PI
        wp_walk
        subst hPI

        refine wpAny_pyIter_list hl1 ?_
        refine wpAny_bind (wpAny_runValue ?_)
        have hlS : l < s.heap.objs.size := Heap.lt_size hol
        have hh3 : A.in1.in1.in1.handled = none := by simp [hh]
        have hneI : l ≠ (s.heap.push { cls := .type "set", dict := none, data := .set #[] 0 (.fresh 0 0 led) }).objs.size := by
          rw [Heap.size_push]; exact Nat.ne_of_lt (Nat.lt_succ_of_lt hlS)
        have hSf : s.heap.objs.size ∉ [(s.heap.push { cls := .type "set", dict := none, data := .set #[] 0 (.fresh 0 0 led) }).objs.size, l] := by
          rw [Heap.size_push]; simp only [List.mem_cons, List.mem_singleton, List.not_mem_nil, or_false, not_or]
          exact ⟨Nat.ne_of_lt (Nat.lt_succ_self _), Nat.ne_of_gt hlS⟩
        have hsz : xs.length = items.size := by rw [← StrsAre.len_eq hi, Array.length_toList]
        have hval : ∀ (i : Nat) (v : Value), items[i]? = some v → ∃ t, v = .str (xs.getD i Str.empty) t := fun i v hv => strs_at hi i v (by rw [Array.getElem?_toList]; exact hv)
        refine lp_strs ((Walks.list hh3 _ l hneI items).toS) s.heap.objs.size
          hSf xs hsz hn1 (by rw [← hsz]; exact hnb) hval (items.size - 0) 0 _ (by omega) (Nat.zero_le _)
          ⟨⟨_, Heap.get?_push_size _ rfl, rfl, rfl⟩, (hl1.push _)⟩ ?hS0 ?hR
        case hS0 =>
          have hget : ((s.heap.push { cls := .type "set", dict := none, data := .set #[] 0 (.fresh 0 0 led) }).push { cls := .type "list_iterator", data := .fields #[.ref l, .int 0 0] }).get? s.heap.objs.size
              = some { cls := .type "set", dict := none, data := .set #[] 0 (.fresh 0 0 led) } := Heap.get?_push_of_some _ hS
          exact PyProof.Rows.SetOf_congr ((PyProof.Rows.setObjOf_fresh (knd := PySem.strKind prog w) led).setOf hget (by unfold scanBound; omega)) (fun _ => rfl) rfl
        case hR =>
          intro s' hm hS'
          obtain ⟨h', g', d', tk', os'⟩ := s'
          have eg : g' = s.gens := hm.gens
          have ed : d' = s.drawn := hm.drawn
          have eo : os' = s.os := hm.os
          subst eg; subst ed; subst eo
          show wpAny _ _ _ _ _ _
          refine wpAny_pure ?_
          show wpAny _ _ (ret Value.none) _ _ _
          refine wpAny_pure ⟨rfl, h', tk', rfl, hS', fun b o hb e => ?_⟩
          have hb1 : b ≠ s.heap.objs.size := Nat.ne_of_lt hb
          have hb2 : b ≠ (s.heap.push { cls := .type "set", dict := none, data := .set #[] 0 (.fresh 0 0 led) }).objs.size := by
            rw [Heap.size_push]; exact Nat.ne_of_lt (Nat.lt_succ_of_lt hb)
          exact hm.heap b o (by simp only [List.mem_cons, List.mem_singleton, List.not_mem_nil, or_false, not_or]; exact ⟨hb1, hb2⟩) (Heap.get?_push_of_some _ (Heap.get?_push_of_some _ e))

      · cases r₂ with
        | error e => exact hr₂
        | ok fl₂ =>
          cases fl₂ with
          | ret r =>
            obtain ⟨rfl, h', tk, rfl, hS', hk'⟩ := hr₂
            repeat (any_goals (first | assumption | wp_step))
            exact h _ _ hS' hk'
          | _ => exact hr₂.elim
    | _ => exact hr.elim
end
end GZ

namespace GZ
open PySem PySem.Spec PyProof.Rows SS L2
/-- len(set(xs)), xs a list of distinct texts -/
def tLenSetS (K : PySem.W.Frag) (ta : TE) : TE := fun σ H Q => ta σ H fun x H1 => ∃ (l : Addr) (xs : List Str), x = .ref l ∧ SqL K H1 l (xs.map V.str) ∧ xs.Nodup ∧ xs.length ≤ 1000 ∧ Q (.int (xs.length : Nat)) H1
theorem pe_lenSetS {X : Cx} {a : Expr} {ta : TE} {p p2 q pos : Pos} (hg : Gl X "len") (hm : X.mg "len" = none) (hg2 : Gl X "set") (hm2 : X.mg "set" = none) (ha : PE X a ta) (hc : X.calm = true := by rfl)
    (na : starEach [a] X.env = (false, eval a X.env) :: starEach [] X.env := by rfl) : PE X (.Call (.Name "len" p) [.Call (.Name "set" p2) [a] [] q] [] pos) (tLenSetS X.K ta) := by
  refine ⟨fun pins s σ H Q I h => Call_ (ld_blt I hg hm boot_len (PyProof.Rows.callWith_builtin1 (PyProof.Rows.args_cons ?_ rfl) rfl rfl))⟩
  refine Call_ (ld_blt I hg2 hm2 boot_set (PyProof.Rows.callWith_type1 (PyProof.Rows.args_cons (thn (ha.run pins s σ H _ I h) fun v s1 hv => PyProof.Rows.args_nil ?_) na) na rfl))
  obtain ⟨x, H1, I1, r1, l, xs, rfl, hq, hnd, hl, q1⟩ := hv
  cases r1
  obtain ⟨its, r, pl, hz⟩ := I1.list hq
  have hlen : its.toArray.size = xs.length := by rw [List.size_toArray, ← r.length, List.length_map]
  refine call_set_strs (I1.ok.hd hc) pl.isList (by simpa using strsAre_of r) hnd hl fun h' tk hS hk => PyProof.Rows.args_nil ?_
  rw [hlen] at hS
  obtain ⟨o, es, ep, t, ho, hex, hd, _, _, _, hf, hn⟩ := hS
  have I2 : Inv X pins σ H1 { s1 with heap := h', toks := tk } := I1.kept fun b o e => hk b o (Heap.lt_size e) e
  exact call_len_set ho hex hd hf (by rw [hn]; omega) ⟨.int xs.length, H1, I2.tok _, ⟨_, by rw [hn]⟩, q1⟩
end GZ

namespace Cp
open PySem PySem.Spec PyProof.Rows L2 Evl GN GZ
section
variable {K : PySem.W.Frag} {σ : L2.St} {H : Hp}
theorem ev_all {te : TE} {bs : List Bool} (h : EvL te σ H (bs.map V.bl)) : Ev (tCB (rAll K) (tCons te tNil)) σ H (.bl (bs.all id)) := fun H1 e Q q =>
  h H1 e _ fun p H2 _ e2 h2 => ⟨p, bs, rfl, sq_of h2, q H2 e2⟩
/-- o.f -/
theorem ev_fld {te : TE} {a C dx : Addr} {fs : List (Str × V)} {f : Str} {v : V} (h : Ev te σ H (.ref a)) (ha : H a = some (.ins C dx fs)) (c : Cls K C) (n : NoAttr K C f) (l : fs.lookup f = some v) : Ev (tFld K te f) σ H v := fun H1 e Q q =>
  h H1 e _ fun H2 e2 => ⟨a, C, dx, fs, v, rfl, e2 a _ (e a _ ha), c, n, l, q H2 e2⟩
/-- a chain a <= b <= c of ints that holds -/
theorem et_chain {ta tb tc : TE} {x y z : Int} (h1 : Ev ta σ H (.int x)) (h2 : Ev tb σ H (.int y)) (h3 : Ev tc σ H (.int z)) (hxy : x ≤ y) (hyz : y ≤ z) : Ev (tChain (rI0 fun i j => .bl (decide (i ≤ j))) (rI0 fun i j => .bl (decide (i ≤ j))) ta tb tc) σ H (.bl true) := fun H1 e Q q =>
  h1 H1 e _ fun H2 e2 => h2 H2 (e.trans e2) _ fun H3 e3 => ⟨x, y, rfl, rfl, true, (by show V.bl (decide (x ≤ y)) = _; rw [decide_eq_true hxy]), h3 H3 ((e.trans e2).trans e3) _ fun H4 e4 => ⟨y, z, rfl, rfl, by
    show Q (V.bl (decide (y ≤ z))) H4
    rw [decide_eq_true hyz]
    exact q H4 ((e2.trans e3).trans e4)⟩⟩
end
/-! ### is_word -/
def lowL : Str := "abcdefghijklmnopqrstuvwxyz"
def isLow (z : Str) (k : Nat) : Bool := match z.cps[k]? with
  | some c => !(Builtin.Str.occurrences lowL ⟨#[c]⟩ 0 lowL.length 1).isEmpty
  | none => false
def isW (z : Str) : Bool := ((List.range z.cps.size).map (isLow z)).all id
def spWord : Sp := fun vs H Q _ => ∃ z, vs = [.str z] ∧ 1 ≤ z.length ∧ z.length ≤ 6 ∧ RetV (.bl (isW z)) H Q
theorem sc_word : FnScope ["text", "sign"] ["text"] (defScope (top 38)) := ⟨rfl, rfl, rfl, by decide +kernel, rfl, by decide +kernel, by decide +kernel⟩
section
variable {P : Program} {w : World} {K : PySem.W.Frag} {mg : Str → Option Value} {base : Heap} {f : Addr} {fd : FuncData}
theorem ok_word {t : Tok} (F : FnP K "is_word" (top 38) [] f fd) (gL : mg "len" = none) (gA : mg "all" = none) (gT : mg "LETTERS" = some (.str lowL t)) : FnOk P w K mg base CX0 1 f fd ["text"] spWord := by
  refine F.ok sc_word (fun vs H Q E h => ?_) (fun cdv A outer s H vs Q E hr h => ?_)
  · obtain ⟨z, rfl, _⟩ := h
    rfl
  · obtain ⟨z, rfl, h1, h6, k⟩ := h
    refine ⟨_, pss_one (by
      refine ps_ret (pe_and (pe_chain op_le op_le pe_int (pe_callB call_len_str (by rfl) gL PySem.boot_len (pa_cons (pv 0) pa_nil)) pe_int) (pe_one (pe_callB (cr_all rfl) (by rfl) gA boot_all (pa_cons (by
        exact pe_lc (own := [("sign", 1)]) (g := gName 1) (tt := tYes) (te := tOp (fun x y H Q => ∃ i j, x = .str i ∧ y = .str j ∧ Q (.bl (!(Builtin.Str.occurrences j i 0 j.length 1).isEmpty)) H) (tVar 1) (tC (.str lowL))) rfl sc_word.nd (pi_str (pv 0)) (blkOk_by (by kernel_rfl)) (fun _ _ _ _ _ => pg_name (i := 1) sc_word.nd rfl (Or.inl rfl)) (fun _ _ _ _ _ => pts_nil) (fun _ _ _ _ _ => by
          exact pe_cmpR op_in_str (pv 1) (pe_glob (by rfl) gT ⟨_, rfl⟩) (by rfl))) pa_nil))))), ?_⟩
    have hz : z.cps.size = z.length := rfl
    refine s_ret (v := .bl (true && isW z)) (ev_andV (et_chain (x := 1) (y := z.length) (z := 6) ev_c (fun H1 e Q q => ?_) ev_c (by omega) (by omega)) fun _ => ev_all ?_) fun H1 e1 => ?_
    · exact ⟨.str z, rfl, z, rfl, sz_of (by omega), q H1 (Ex.refl _)⟩
    · have el : EvN (tLc (iStr (tVar 0)) (gName 1) tYes (tOp (fun x y H Q => ∃ i j, x = .str i ∧ y = .str j ∧ Q (.bl (!(Builtin.Str.occurrences j i 0 j.length 1).isEmpty)) H) (tVar 1) (tC (.str lowL))) [1]) (start ["text", "sign"] [.str z]) H (ixs z.cps.size fun _ => true) (fun k y _ => y = .bl (isLow z k)) := by
        refine en_lcN (fun _ => true) (ew_str (ev_var rfl)) (by omega) (fun i H1 x H2 y => y.1) (fun x => rfl) (fun i x H1 hi e y => et_yes) fun i x H1 hi e y _ => ?_
        obtain ⟨_, c, hc, rfl⟩ := y
        refine evp_v (fun H2 e2 Q q => ⟨.str ⟨#[c]⟩, rfl, ⟨#[c]⟩, lowL, rfl, rfl, ?_⟩)
        unfold isLow at q
        rw [hc] at q
        exact q H2 (Ex.refl _)
      have h2 := EvN.vals el
      rw [ixs_all] at h2
      rw [List.map_map]
      exact h2
    · rw [Bool.true_and]
      exact k.go e1
end
end Cp

namespace Cp
open PySem PySem.Spec PyProof.Rows L2 Evl GN GZ
section
variable {K : PySem.W.Frag} {σ : L2.St} {H : Hp}
/-- [te for g in one item] -/
theorem el_lc1 {tl te : TE} {g : L2.TG} {vs : List Nat} {a : Addr} {v z : V} (h : Ev tl σ H (.ref a)) (hx : SqL K H a [v])
    (turn : ∀ H1, Ex H H1 → ∀ Q : L2.St → Hp → Prop, (∀ σ2, wipe σ2 vs = wipe σ vs → Ev te σ2 H z → Q σ2 H1) → g v (wipe σ vs) H1 Q) : EvL (tLc (iList K tl) g tYes te vs) σ H [z] := by
  have el : EvN (tLc (iList K tl) g tYes te vs) σ H (ixs 1 fun _ => true) (fun k y _ => y = z) := by
    refine en_lc (fun _ => true) (ew_list h hx) (by decide) fun i x H1 H2 hi e y => ?_
    obtain ⟨rfl, hy⟩ := y
    have hi : i = 0 := by simpa using hi
    subst hi
    have ex : v = x := Option.some.inj hy
    subst ex
    refine ⟨Ex.refl _, fun Q q => turn H2 e Q fun σ2 hw hv => q σ2 H2 (Ex.refl _) hw et_yes fun _ H4 e4 Q2 q2 => hv H4 (e.trans e4) Q2 fun H5 e5 => q2 z H5 e5 fun _ _ => rfl⟩
  exact EvN.vals el
end
/-! ### Kinds -/
structure KC (K : PySem.W.Frag) (C : Addr) : Prop where
  cls : Cls K C
  forms : NoAttr K C "forms"
  sizes : NoAttr K C "sizes"
abbrev mK (j : Nat) : Stmt := inClass (top 39) j
def Nmay : List Str := ["self", "name", "fields", "words", "field", "kind", "word"]
theorem sc_may : FnScope Nmay ["self", "name", "fields"] (defScope (mK 5)) := ⟨rfl, rfl, rfl, by decide +kernel, rfl, by decide +kernel, by decide +kernel⟩
/-- may_follow('leaf', [('n', None)]), no kind being there -/
def spMay (K : PySem.W.Frag) (C : Addr) : Sp := fun vs H Q _ => ∃ x dx fs a fl p, vs = [.ref x, .str "leaf", .ref fl] ∧ H x = some (.ins C dx fs) ∧ fs.lookup ("forms" : Str) = some (V.ref a) ∧ Rd H a (.dK []) ∧ SqL K H fl [.ref p] ∧ SqT K H p [.str "n", .non] ∧ RetV (.bl true) H Q
section
variable {P : Program} {w : World} {K : PySem.W.Frag} {mg : Str → Option Value} {base : Heap} {f : Addr} {fd : FuncData} {C : Addr}
theorem ok_may {fW : Addr} {fdW : FuncData} {t : Tok} (F : MeP K "may_follow" "Kinds.may_follow" (mK 5) f fd) (kc : KC K C) (GW : FnOk P w K mg base CX0 1 fW fdW ["text"] spWord) (gW : mg "is_word" = some (.ref fW)) (kW : PySem.W.keepIn K (.ref fW) = true) (bW : Binds K fdW ["text"] [])
    (gL : mg "len" = none) (gA : mg "all" = none) (gS : mg "set" = none) (gF : mg "FIELDS" = some (.int 3 t)) : FnOk P w K mg base CX0 2 f fd ["self", "name", "fields"] (spMay K C) := by
  refine F.ok sc_may (fun vs H Q E h => ?_) (fun cdv A outer s H vs Q E hr h => ?_)
  · obtain ⟨x, dx, fs, a, fl, p, rfl, _⟩ := h
    rfl
  · obtain ⟨x, dx, fs, a, fl, p, rfl, hx, hf, ha, hl, hp, k⟩ := h
    refine ⟨_, pss_cons (by
        refine ps_if (PW.pt (pw_or (pt_not (pt_val (by
          exact pe_call GW hr (by rfl) gW kW bW .nil pass0 (pa_cons (pv 1) pa_nil)) (by intro _; rfl))) (pw_or (pt_cmp (by
          exact pc_din (hu1 hr) (pv 1) (pe_fld (pv 0) rfl))) (pw_or1 (pt_not (by
          exact pt_chain op_le op_le pe_int (pe_callB call_len_seq (by rfl) gL PySem.boot_len (pa_cons (pv 2) pa_nil)) (pe_glob (v := .int 3) (by rfl) gF ⟨_, rfl⟩))))))) (pss_one (ps_ret pe_bl)) pss_nil) <| pss_cons (by
        exact ps_setLc (i := 3) (own := [("field", 4), ("kind", 5)]) (g := gTup K 2 (gCons (gName 4) (gCons (gName 5) gNil))) (tt := tYes) (te := tVar 4) rfl sc_may.nd rfl rfl rfl (pi_list (pv 2)) (blkOk_by (by kernel_rfl)) (fun _ _ _ _ _ => pg_tup rfl (pgs_cons (pg_name (i := 4) sc_may.nd rfl (Or.inl rfl)) (pgs_cons (pg_name (i := 5) sc_may.nd rfl (Or.inl rfl)) pgs_nil))) (fun _ _ _ _ _ => pts_nil) (fun _ _ _ _ _ => by exact pv 4)) <| pss_cons (by
        refine ps_if (PW.pt (pw_or (pt_not (pt_val (pe_callB (cr_all rfl) (by rfl) gA boot_all (pa_cons (by
          exact pe_lc (own := [("word", 6)]) (g := gName 6) (tt := tYes) (te := tCall spWord [] E0 (tCons (tVar 6) tNil)) rfl sc_may.nd (pi_list (pv 3)) (blkOk_by (by kernel_rfl)) (fun _ _ _ _ _ => pg_name (i := 6) sc_may.nd rfl (Or.inl rfl)) (fun _ _ _ _ _ => pts_nil) (fun _ _ _ _ _ => by exact pe_call GW hr (by rfl) gW kW bW .nil pass0 (pa_cons (pv 6) pa_nil))) pa_nil)) (by intro _; rfl))) (pw_or1 (by
          exact pt_cmpR op_lt (pe_lenSetS (by rfl) gL (by rfl) gS (pv 3)) (pe_callB call_len_seq (by rfl) gL PySem.boot_len (pa_cons (pv 3) pa_nil)) (nomark _))))) (pss_one (ps_ret pe_bl)) pss_nil) <| pss_one (by
        refine ps_ret (pe_callB (cr_all rfl) (by rfl) gA boot_all (pa_cons (by
          exact pe_lc (own := [("field", 4), ("kind", 5)]) (g := gTup K 2 (gCons (gName 4) (gCons (gName 5) gNil))) (tt := tYes) (te := tOrV (tOp (fun x y H Q => y = .non ∧ Q (.bl (decide (x = .non))) H) (tVar 5) (tC .non)) (fun _ _ _ => False)) rfl sc_may.nd (pi_list (pv 2)) (blkOk_by (by kernel_rfl)) (fun _ _ _ _ _ => pg_tup rfl (pgs_cons (pg_name (i := 4) sc_may.nd rfl (Or.inl rfl)) (pgs_cons (pg_name (i := 5) sc_may.nd rfl (Or.inl rfl)) pgs_nil))) (fun _ _ _ _ _ => pts_nil) (fun _ _ _ _ _ => by exact pe_or (pe_cmpR op_isN (pv 5) pe_non (nomark _)) pe_no)) pa_nil))), ?_⟩
    have wd : ∀ {σ : L2.St} {H' : Hp} {te : TE} {z : Str}, Ev te σ H' (.str z) → 1 ≤ z.length → z.length ≤ 6 → isW z = true → Ev (tCall spWord [] E0 (tCons te tNil)) σ H' (.bl true) := fun h h1 h6 hz => ev_is (ev_call (ea_cons h ea_nil) (RetV.call fun H1 e Q E q => ⟨_, rfl, h1, h6, q⟩)) (by rw [hz])
    refine q_no (et_is (et_or (a := false) (et_is (et_not (et_B (wd (z := "leaf") (ev_var rfl) (by decide) (by decide) (by decide +kernel)))) rfl) fun _ => et_or (a := false) (et_B (ev_is (ev_din (k := .inr "leaf") (ev_var rfl) (ev_fld (ev_var rfl) hx kc.cls kc.forms hf) ha) rfl)) fun _ => et_is (et_not (et_test (et_chain (x := 1) (y := 1) (z := 3) ev_c (ev_lenQ (ev_var rfl) (.inl hl)) ev_c (by decide) (by decide)))) (b := false) rfl) rfl) fun H1 e1 => ?_
    refine q_asgL (el_lc1 (z := .str "n") (ev_var rfl) (ex_l e1 hl) fun H2 e2 Q q => g_two (ex_t (e1.trans e2) hp) (q _ rfl (ev_var rfl))) fun pw H2 hpw e2 h2 => ?_
    refine q_no (et_is (et_or (a := false) (et_is (et_not (et_B (ev_all (bs := [true]) (el_lc1 (z := .bl true) (ev_var rfl) (sq_of h2) fun H3 e3 Q q => q _ rfl (wd (z := "n") (ev_var rfl) (by decide) (by decide) (by decide +kernel)))))) rfl) fun _ => et_test (b := false) (ev_is (ev_op (x := .int 1) (y := .int 1) (fun H3 e3 Q q => ⟨.ref pw, rfl, pw, ["n"], rfl, ex_l e3 (sq_of h2), by decide, by decide, q H3 (Ex.refl _)⟩) (ev_lenQ (ev_var rfl) (.inl (sq_of h2))) rv_I0) rfl)) rfl) fun H3 e3 => ?_
    have e03 := (e1.trans e2).trans e3
    refine s_ret (v := .bl true) (ev_is (ev_all (bs := [true]) (el_lc1 (z := .bl true) (ev_var rfl) (ex_l e03 hl) fun H4 e4 Q q => g_two (ex_t (e03.trans e4) hp) (q _ rfl (ev_is (ev_orV (a := true) (b := true) (ev_op (x := .non) (y := .non) (z := .bl true) (ev_var rfl) ev_c fun H5 e5 Q q => ⟨rfl, q H5 (Ex.refl _)⟩) fun z => nomatch z) rfl)))) rfl) fun H4 e4 => k.go (e03.trans e4)
end
end Cp

namespace Cp
open PySem PySem.Spec PyProof.Rows L2 Evl GN GZ
/-- o.f = v as a target -/
def gFld (K : PySem.W.Frag) (ta : TE) (f : Str) : L2.TG := fun y σ H Q => ta σ H fun x H2 => ∃ a C dx fs, x = .ref a ∧ H2 a = some (.ins C dx fs) ∧ Cls K C ∧ NoAttr K C f ∧ fs.length < 1000 ∧ Q σ (upd H2 a (.ins C dx (putF f y fs)))
theorem pg_fld {X : Cx} {o : Expr} {ta : TE} {f : Str} {pos : Pos} (ha : PE X o ta) : PG X (.Attribute o f pos) (gFld X.K ta f) := by
  refine ⟨fun pins s σ H v u Q I r h => ?_⟩
  rw [assign_Attribute]
  refine wpAny_bind (wpAny_holding (thn (ha.run pins s σ H _ I h) fun ov s1 hh => wpAny_bind (wpAny_standAt (wpAny_bind (wpAny_holding ?_)))))
  obtain ⟨x, H1, I1, rx, a, C, dx, fs, rfl, ea, c, n, l, q⟩ := hh
  obtain rfl : ov = Value.ref a := rx
  exact setattr_ok I1 ea c n l r fun s2 I2 => wpAny_release ⟨σ, _, I2, q⟩
section
variable {K : PySem.W.Frag} {H : Hp} {x C dx : Addr} {fs : List (Str × V)} {o : HO}
theorem rd_ins {a : Addr} {u : HO} (hx : H x = some (.ins C dx fs)) (hu : ∀ fs', u ≠ .ins C dx fs') (h : Rd H a u) : Rd (upd H x o) a u := by
  have ha : a ≠ x := fun z => by
    subst z
    rcases h with h | ⟨o', h⟩
    · rw [hx] at h
      cases h
      exact hu _ rfl
    · rw [hx] at h
      cases h
  rcases h with h | ⟨o', h⟩
  · exact .inl (by rw [upd_ne ha]; exact h)
  · exact .inr ⟨o', by rw [upd_ne ha]; exact h⟩
theorem sqL_ins {a : Addr} {xs : List V} (hx : H x = some (.ins C dx fs)) (h : SqL K H a xs) : SqL K (upd H x o) a xs := h.elim (fun z => .inl (rd_ins hx (fun _ q => by cases q) z)) .inr
theorem sqT_ins {a : Addr} {xs : List V} (hx : H x = some (.ins C dx fs)) (h : SqT K H a xs) : SqT K (upd H x o) a xs := h.elim (fun z => .inl (rd_ins hx (fun _ q => by cases q) z)) .inr
end
section
variable {K : PySem.W.Frag} {σ : L2.St} {H : Hp}
theorem g_nest {i j m : Nat} {T t : Addr} {u y z : V} {Q : L2.St → Hp → Prop} (hT : SqT K H T [u, .ref t]) (ht : SqT K H t [y, z]) (k : Q (((σ.set i (some u)).set j (some y)).set m (some z)) H) : gTup K 2 (gCons (gName i) (gCons (gTup K 2 (gCons (gName j) (gCons (gName m) gNil))) gNil)) (.ref T) σ H Q :=
  ⟨T, _, rfl, hT, rfl, u, _, rfl, .ref t, _, rfl, t, _, rfl, ht, rfl, y, _, rfl, z, _, rfl, rfl, rfl, k⟩
theorem ev_meth {ta : TE} {t : TA} {C a dx : Addr} {fs : List (Str × V)} {m : Str} {sp : Sp} {dvs vs : List V} {E : XK} {z : V} (h : Ev ta σ H (.ref a)) (ha : H a = some (.ins C dx fs)) (hm : fs.lookup m = none) (hv : EvA t σ H vs) (hs : SpV sp (.ref a :: (vs ++ dvs)) H z) : Ev (tMeth C m sp dvs E ta t) σ H z := fun H1 e Q q =>
  h H1 e _ fun H2 e2 => ⟨a, dx, fs, rfl, e2 a _ (e a _ ha), hm, hv H2 (e.trans e2) _ fun H3 e3 => hs H3 ((e.trans e2).trans e3) Q (fun H4 e4 => q H4 ((e2.trans e3).trans e4)) E⟩
/-- [te for g in one item if not ..] -/
theorem el_lc1n {tl te : TE} {g : L2.TG} {tt : TT} {vs : List Nat} {a : Addr} {v : V} (h : Ev tl σ H (.ref a)) (hx : SqL K H a [v])
    (turn : ∀ H1, Ex H H1 → ∀ Q : L2.St → Hp → Prop, (∀ σ2, wipe σ2 vs = wipe σ vs → EvT tt σ2 H false → Q σ2 H1) → g v (wipe σ vs) H1 Q) : EvL (tLc (iList K tl) g tt te vs) σ H [] := by
  have el : EvN (tLc (iList K tl) g tt te vs) σ H (ixs 1 fun _ => false) (fun k y _ => y = .non) := by
    refine en_lc (fun _ => false) (ew_list h hx) (by decide) fun i x H1 H2 hi e y => ?_
    obtain ⟨rfl, hy⟩ := y
    have hi : i = 0 := by simpa using hi
    subst hi
    have ex : v = x := Option.some.inj hy
    subst ex
    exact ⟨Ex.refl _, fun Q q => turn H2 e Q fun σ2 hw hv => q σ2 H2 (Ex.refl _) hw hv fun z => nomatch z⟩
  exact EvN.vals el
/-- [(a, b) for g in one item] -/
theorem en_lc1T {tl : TE} {ta : TA} {g : L2.TG} {vs : List Nat} {a : Addr} {v : V} {zs : List V} (hz : zs.length ≤ 1000) (h : Ev tl σ H (.ref a)) (hx : SqL K H a [v])
    (turn : ∀ H1, Ex H H1 → ∀ Q : L2.St → Hp → Prop, (∀ σ2, wipe σ2 vs = wipe σ vs → EvA ta σ2 H zs → Q σ2 H1) → g v (wipe σ vs) H1 Q) : EvB (tLc (iList K tl) g tYes (tTup ta) vs) σ H (fun ys H3 => ∃ p, ys = [.ref p] ∧ H3 p = some (.tup zs)) := by
  have el : EvN (tLc (iList K tl) g tYes (tTup ta) vs) σ H (ixs 1 fun _ => true) (fun k y H3 => ∃ p, y = .ref p ∧ H3 p = some (.tup zs)) := by
    refine en_lc (fun _ => true) (ew_list h hx) (by decide) fun i x H1 H2 hi e y => ?_
    obtain ⟨rfl, hy⟩ := y
    have hi : i = 0 := by simpa using hi
    subst hi
    have ex : v = x := Option.some.inj hy
    subst ex
    refine ⟨Ex.refl _, fun Q q => turn H2 e Q fun σ2 hw hv => q σ2 H2 (Ex.refl _) hw et_yes fun _ H4 e4 Q2 q2 => ?_⟩
    exact hv H4 (e.trans e4) _ fun H5 e5 => ⟨sz_of (by omega), fun p hp => q2 (.ref p) _ (e5.trans (Ex.new hp)) fun H6 k => ⟨p, rfl, k.new p _ (fresh_back (e4.trans e5) hp) upd_same⟩⟩
  intro H1 e Q q
  refine el H1 e Q fun p ys H2 n e2 h2 z => q p ys H2 n e2 h2 fun H3 k => ?_
  obtain ⟨l1, l2⟩ := z H3 k
  match ys, l1 with
  | [y], _ =>
    obtain ⟨p', e1, e2⟩ := l2 0 0 y rfl rfl
    exact ⟨p', by rw [e1], e2⟩
theorem q_dputB {td ty tv : TE} {tz : TS} {D : Ends} {Pp : List V → Hp → Prop} {a : Addr} {k : L2.Key} {kvs : List (L2.Key × V)} (hv : EvB tv σ H Pp) (hd : ∀ H1, Ex H H1 → Ev td σ H1 (.ref a)) (hy : ∀ H1, Ex H H1 → Ev ty σ H1 (kV k)) (h : H a = some (.dK kvs)) (hl : kvs.length < 100000)
    (kk : ∀ p ys H1, H p = none → Ex H H1 → H1 p = some (.lst ys) → Pp ys H1 → tz D σ (upd H1 a (.dK (putK kvs k (.ref p))))) : tSeq (sDPut td ty tv) tz D σ H := hv H (Ex.refl H) _ fun p ys H1 n e1 h1 z => hd H1 e1 H1 (Ex.refl _) _ fun H2 e2 => hy H2 (e1.trans e2) H2 (Ex.refl _) _ fun H3 e3 =>
  ⟨a, _, rfl, DPut.k (((e1.trans e2).trans e3) a _ h) (sz_lt hl), kk p ys H3 n ((e1.trans e2).trans e3) (e3 p _ (e2 p _ h1)) (z H3 ⟨(e1.trans e2).trans e3, fun c o _ hc => e3 c o (e2 c o hc)⟩)⟩
end
/-- a Kinds with the one kind leaf, its field n -/
def KindsOk (H : Hp) (C x : Addr) : Prop := ∃ dx a b q p, H x = some (.ins C dx [("forms", .ref a), ("sizes", .ref b)]) ∧ H a = some (.dK [(.inr "leaf", .ref q)]) ∧ H q = some (.lst [.ref p]) ∧ H p = some (.tup [.str "n", .non])
theorem KindsOk.ex {H H' : Hp} {C x : Addr} (e : Ex H H') : KindsOk H C x → KindsOk H' C x
  | ⟨dx, a, b, q, p, h1, h2, h3, h4⟩ => ⟨dx, a, b, q, p, e _ _ h1, e _ _ h2, e _ _ h3, e _ _ h4⟩
theorem put1 (v : V) : putF "forms" v [] = [(("forms" : Str), v)] := rfl
theorem put2 (v w : V) : putF "sizes" w (putF "forms" v []) = [(("forms" : Str), v), (("sizes" : Str), w)] := by
  rw [put1]
  unfold putF
  rw [if_neg (by decide)]
  rfl
def Nki : List Str := ["self", "rows", "at", "name", "fields", "field", "kind"]
theorem sc_ki : FnScope Nki ["self", "rows"] (defScope (mK 0)) := ⟨rfl, rfl, rfl, by decide +kernel, rfl, by decide +kernel, by decide +kernel⟩
def spKi (K : PySem.W.Frag) (C : Addr) : Sp := fun vs H Q _ => ∃ x dx r t fl p, vs = [.ref x, .ref r] ∧ H x = some (.ins C dx []) ∧ SqL K H r [.ref t] ∧ SqT K H t [.str "leaf", .ref fl] ∧ SqL K H fl [.ref p] ∧ SqT K H p [.str "n", .non] ∧
  ∀ H2, KindsOk H2 C x → (∀ a o, a ≠ x → H a = some o → H2 a = some o) → Q .non H2
section
variable {P : Program} {w : World} {K : PySem.W.Frag} {mg : Str → Option Value} {base : Heap} {f : Addr} {fd : FuncData} {C : Addr}
theorem ok_ki {fM : Addr} {fdM : FuncData} {t4 t8 : Tok} (F : MeP K "__init__" "Kinds.__init__" (mK 0) f fd) (kc : KC K C) (mM : Meth K C "may_follow" fM) (GM : FnOk P w K mg base CX0 2 fM fdM ["self", "name", "fields"] (spMay K C)) (bM : Binds K fdM ["self", "name", "fields"] [])
    (gL : mg "len" = none) (gE : mg "enumerate" = none) (gS : mg "sum" = none) (gK : mg "KINDS" = some (.int 4 t4)) (g8 : mg "SIZE" = some (.int 8 t8)) : FnOk P w K mg base CX0 3 f fd ["self", "rows"] (spKi K C) := by
  refine F.ok sc_ki (fun vs H Q E h => ?_) (fun cdv A outer s H vs Q E hr h => ?_)
  · obtain ⟨x, dx, r, t, fl, p, rfl, _⟩ := h
    rfl
  · obtain ⟨x, dx, r, t, fl, p, rfl, hx, h1, h2, h3, h4, k⟩ := h
    refine ⟨_, pss_cons (by
        exact ps_asg (pe_tup (pa_cons pe_dnewK (pa_cons pe_dnewK pa_nil))) (pg_tup rfl (pgs_cons (pg_fld (pv 0)) (pgs_cons (pg_fld (pv 0)) pgs_nil)))) <| pss_cons (by
        refine ps_if (pt_not (by
          exact pt_chain op_le op_le pe_int (pe_callB call_len_seq (by rfl) gL PySem.boot_len (pa_cons (pv 1) pa_nil)) (pe_glob (v := .int 4) (by rfl) gK ⟨_, rfl⟩))) pss_no pss_nil) <| pss_one (by
        refine ps_for (passes_of rfl) rfl (pi_enumS (by rfl) gE (pa_cons (pv 1) pa_nil)) (pg_tup rfl (pgs_cons (pg_name (i := 2) sc_ki.nd rfl (Or.inl rfl)) (pgs_cons (pg_tup rfl (pgs_cons (pg_name (i := 3) sc_ki.nd rfl (Or.inl rfl)) (pgs_cons (pg_name (i := 4) sc_ki.nd rfl (Or.inl rfl)) pgs_nil))) pgs_nil))) (pss_cons (by
          refine ps_if (pt_not (pt_val (by
            exact pe_meth (pv 0) kc.cls mM GM hr bM .nil pass0 (pa_cons (pv 3) (pa_cons (pv 4) pa_nil))) (by intro _; rfl))) pss_no pss_nil) <| pss_cons (by
          refine ps_dput (hu1 hr) (pe_fld (pv 0) rfl) (pv 3) (by
            exact pe_lc (own := [("field", 5), ("kind", 6)]) (g := gTup K 2 (gCons (gName 5) (gCons (gName 6) gNil))) (tt := tYes) (te := tTup (tCons (tVar 5) (tCons (tVar 6) tNil))) rfl sc_ki.nd (pi_list (pv 4)) (blkOk_by (by kernel_rfl)) (fun _ _ _ _ _ => pg_tup rfl (pgs_cons (pg_name (i := 5) sc_ki.nd rfl (Or.inl rfl)) (pgs_cons (pg_name (i := 6) sc_ki.nd rfl (Or.inl rfl)) pgs_nil))) (fun _ _ _ _ _ => pts_nil) (fun _ _ _ _ _ => by exact pe_tup (pa_cons (pv 5) (pa_cons (pv 6) pa_nil)))) rfl) <| pss_cons (by
          refine ps_dput (hu1 hr) (pe_fld (pv 0) rfl) (pv 3) (pe_op op_add pe_int (pe_callB (cr_sum rfl) (by rfl) gS boot_sum (pa_cons (by
            exact pe_lc (own := [("field", 5), ("kind", 6)]) (g := gTup K 2 (gCons (gName 5) (gCons (gName 6) gNil))) (tt := tTest (tOp (fun x y H Q => y = .non ∧ Q (.bl (!decide (x = .non))) H) (tVar 6) (tC .non))) (te := fun _ _ _ => False) rfl sc_ki.nd (pi_list (pv 4)) (blkOk_by (by kernel_rfl)) (fun _ _ _ _ _ => pg_tup rfl (pgs_cons (pg_name (i := 5) sc_ki.nd rfl (Or.inl rfl)) (pgs_cons (pg_name (i := 6) sc_ki.nd rfl (Or.inl rfl)) pgs_nil))) (fun _ _ _ _ _ => pts_one (by exact pt_cmpR op_notN (pv 6) pe_non (nomark _))) (fun _ _ _ _ _ => pe_no)) pa_nil))) rfl) <| pss_one (by
          exact ps_if (pt_cmpR op_gt (pe_dget (hu1 hr) (pe_fld (pv 0) rfl) (pv 3) (fun _ _ => rfl)) (pe_glob (v := .int 8) (by rfl) g8 ⟨_, rfl⟩) (by rfl)) pss_no pss_nil))), ?_⟩
    intro a ha b hb
    refine ⟨sz_of (n := 2) (by decide), fun T hT => ?_⟩
    have e1 : Ex H (upd (upd (upd H a (.dK [])) b (.dK [])) T (.tup [.ref a, .ref b])) := ((Ex.new ha).trans (Ex.new hb)).trans (Ex.new hT)
    have hab : a ≠ b := fun z => by rw [← z, upd_same] at hb; cases hb
    have haT : a ≠ T := fun z => by rw [← z, upd_ne hab, upd_same] at hT; cases hT
    have hbT : b ≠ T := fun z => by rw [← z, upd_same] at hT; cases hT
    have hax : a ≠ x := fun z => by rw [z, hx] at ha; cases ha
    have hbH : H b = none := fresh_back (Ex.new ha) hb
    have hbx : b ≠ x := fun z => by rw [z, hx] at hbH; cases hbH
    have ha3 : (upd (upd (upd H a (.dK [])) b (.dK [])) T (.tup [.ref a, .ref b])) a = some (.dK []) := by rw [upd_ne haT, upd_ne hab, upd_same]
    have hb3 : (upd (upd (upd H a (.dK [])) b (.dK [])) T (.tup [.ref a, .ref b])) b = some (.dK []) := by rw [upd_ne hbT, upd_same]
    have hx3 := e1 x _ hx
    refine ⟨T, _, rfl, st_of upd_same, rfl, .ref a, _, rfl, .ref x, rfl, x, C, dx, [], rfl, hx3, kc.cls, kc.forms, by decide, .ref b, _, rfl, .ref x, rfl, x, C, dx, _, rfl, upd_same, kc.cls, kc.sizes, (show (1 : Nat) < 1000 by decide), rfl, ?_⟩
    generalize upd (upd (upd H a (.dK [])) b (.dK [])) T (.tup [.ref a, .ref b]) = H3 at e1 ha3 hb3 hx3
    rw [put2, put1]
    dsimp only
    have old5 : Ex (upd H x (.ins C dx [("forms", .ref a), ("sizes", .ref b)])) (upd (upd H3 x (.ins C dx [("forms", .ref a)])) x (.ins C dx [("forms", .ref a), ("sizes", .ref b)])) := fun c o h => by
      by_cases z : c = x
      · subst z
        rw [upd_same] at h ⊢
        exact h
      · rw [upd_ne z] at h
        rw [upd_ne z, upd_ne z]
        exact e1 c o h
    have ha5 : (upd (upd H3 x (.ins C dx [("forms", .ref a)])) x (.ins C dx [("forms", .ref a), ("sizes", .ref b)])) a = some (.dK []) := by rw [upd_ne hax, upd_ne hax]; exact ha3
    have hb5 : (upd (upd H3 x (.ins C dx [("forms", .ref a)])) x (.ins C dx [("forms", .ref a), ("sizes", .ref b)])) b = some (.dK []) := by rw [upd_ne hbx, upd_ne hbx]; exact hb3
    generalize upd (upd H3 x (.ins C dx [("forms", .ref a)])) x (.ins C dx [("forms", .ref a), ("sizes", .ref b)]) = H5 at old5 ha5 hb5
    have g1 : SqL K (upd H x (.ins C dx [("forms", .ref a), ("sizes", .ref b)])) r [.ref t] := sqL_ins hx h1
    have g2 : SqT K (upd H x (.ins C dx [("forms", .ref a), ("sizes", .ref b)])) t [.str "leaf", .ref fl] := sqT_ins hx h2
    have g3 : SqL K (upd H x (.ins C dx [("forms", .ref a), ("sizes", .ref b)])) fl [.ref p] := sqL_ins hx h3
    have g4 : SqT K (upd H x (.ins C dx [("forms", .ref a), ("sizes", .ref b)])) p [.str "n", .non] := sqT_ins hx h4
    have gx : (upd H x (.ins C dx [("forms", .ref a), ("sizes", .ref b)])) x = some (.ins C dx [("forms", .ref a), ("sizes", .ref b)]) := upd_same
    have gold : ∀ c o, c ≠ x → H c = some o → (upd H x (.ins C dx [("forms", .ref a), ("sizes", .ref b)])) c = some o := fun c o z h => by rw [upd_ne z]; exact h
    have gna : (upd H x (.ins C dx [("forms", .ref a), ("sizes", .ref b)])) a = none := by rw [upd_ne hax]; exact ha
    have gnb : (upd H x (.ins C dx [("forms", .ref a), ("sizes", .ref b)])) b = none := by rw [upd_ne hbx]; exact hbH
    generalize upd H x (.ins C dx [("forms", .ref a), ("sizes", .ref b)]) = Hb at old5 g1 g2 g3 g4 gx gold gna gnb
    refine q_no ?_ fun H6 e6 => ?_
    · exact et_is (et_not (et_test (et_chain (x := 1) (y := 1) (z := 4) ev_c (ev_lenQ (ev_var rfl) (.inl (ex_l old5 g1))) ev_c (by decide) (by decide)))) rfl
    refine s_forW (H0 := Hb) (n := 1) (ew_enum (ea_cons (ev_var rfl) ea_nil) (.inl g1)) (old5.trans e6) (fun i σ' H' => ∃ p2 p3 p4 p5 p6, σ' = [some (.ref x), some (.ref r), p2, p3, p4, p5, p6] ∧ Ex Hb H' ∧ (i = 0 → H' a = some (.dK []) ∧ H' b = some (.dK [])) ∧ (i = 1 → KindsOk H' C x)) ?_ (fun i σ' H' _ z => ?_) ?_ ?_
    · intro H7 e7
      exact ⟨_, _, _, _, _, rfl, (old5.trans e6).trans e7, fun _ => ⟨e7 a _ (e6 a _ ha5), e7 b _ (e6 b _ hb5)⟩, fun z => (nomatch z)⟩
    · obtain ⟨p2, p3, p4, p5, p6, _, z, _⟩ := z
      exact z
    · rintro i x1 σ' H' H7 hi ⟨p2, p3, p4, p5, p6, rfl, e7, hab0, _⟩ ⟨T2, v5, x6, rfl, hT2, rfl, h5, h6⟩
      have hi : i = 0 := by omega
      subst hi
      obtain ⟨ha7, hb7⟩ := hab0 rfl
      have h6 : V.ref t = x6 := Option.some.inj h6
      subst h6
      have eT : Ex H' (upd H' T2 (.tup [v5, .ref t])) := Ex.new hT2
      have e8 := e7.trans eT
      refine g_nest (st_of upd_same) (ex_t e8 g2) ?_
      refine q_no (et_is (et_not (et_B (ev_meth (z := .bl true) (ev_var rfl) (e8 x _ gx) rfl (ea_cons (ev_var rfl) (ea_cons (ev_var rfl) ea_nil)) (RetV.call fun H9 e9 Q E q => ⟨x, dx, _, a, fl, p, rfl, e9 x _ (e8 x _ gx), rfl, .inl (e9 a _ (eT a _ ha7)), ex_l (e8.trans e9) g3, ex_t (e8.trans e9) g4, q⟩)))) rfl) fun H9 e9 => ?_
      have e09 := e8.trans e9
      have ha9 : H9 a = some (.dK []) := e9 a _ (eT a _ ha7)
      have hb9 : H9 b = some (.dK []) := e9 b _ (eT b _ hb7)
      refine q_dputB (k := .inr "leaf") (a := a) (kvs := []) (Pp := fun ys H3 => ∃ p, ys = [.ref p] ∧ H3 p = some (.tup [.str "n", .non])) ?_ (fun H10 e10 => ev_fld (ev_var rfl) ((e09.trans e10) x _ gx) kc.cls kc.forms rfl) (fun H10 e10 => ev_var rfl) ha9 (by decide) fun q ys H11 hq e11 hq10 z10 => ?_
      · exact en_lc1T (zs := [.str "n", .non]) (by simp) (ev_var rfl) (ex_l e09 g3) fun H10 e10 Q q => g_two (ex_t (e09.trans e10) g4) (q _ rfl (ea_cons (ev_var rfl) (ea_cons (ev_var rfl) ea_nil)))
      obtain ⟨p', rfl, hp'⟩ := z10
      have e11' : Ex Hb (upd H11 a (.dK (putK [] (.inr "leaf") (.ref q)))) := Ex.mut (e09.trans e11) gna
      have hqa : q ≠ a := fun z => by rw [z, ha9] at hq; cases hq
      have hp9 : p' ≠ a := fun z => by rw [z, e11 a _ ha9] at hp'; cases hp'
      have hqb : q ≠ b := fun z => by rw [z, hb9] at hq; cases hq
      have hpb : p' ≠ b := fun z => by rw [z, e11 b _ hb9] at hp'; cases hp'
      refine q_dput (v := .int 1) (k := .inr "leaf") (kvs := []) (a := b) ?_ (ev_fld (ev_var rfl) (e11' x _ gx) kc.cls kc.sizes rfl) (ev_var rfl) (by rw [upd_ne (Ne.symm hab)]; exact e11 b _ hb9) (by decide) fun H12 e12 => ?_
      · refine ev_op (x := .int 1) (y := .int 0) ev_c (ev_sum0 (el_lc1n (ev_var rfl) (ex_l e11' g3) fun H12 e12 Q q => g_two (ex_t (e11'.trans e12) g4) (q _ rfl ?_))) rv_I0
        exact et_test (ev_op (x := .non) (y := .non) (z := .bl false) (ev_var rfl) ev_c fun H13 e13 Q q => ⟨rfl, q H13 (Ex.refl _)⟩)
      have e13 : Ex Hb (upd H12 b (.dK (putK [] (.inr "leaf") (.int 1)))) := Ex.mut (e11'.trans e12) gnb
      refine s_when (b := false) (et_test (ev_is (ev_op (x := .int 1) (y := .int 8) (ev_dget (k := .inr "leaf") (v := .int 1) (ev_fld (ev_var rfl) (e13 x _ gx) kc.cls kc.sizes rfl) (ev_var rfl) (.inl upd_same) rfl) ev_c rv_I0) rfl)) (fun z => nomatch z) fun _ H14 e14 => ?_
      refine ⟨_, _, _, _, _, rfl, e13.trans e14, fun z => (nomatch z), fun _ => ⟨dx, a, b, q, p', e14 x _ (e13 x _ gx), e14 a _ ?_, e14 q _ ?_, e14 p' _ ?_⟩⟩
      · rw [upd_ne hab]
        exact e12 a _ upd_same
      · rw [upd_ne hqb]
        exact e12 q _ (by rw [upd_ne hqa]; exact hq10)
      · rw [upd_ne hpb]
        exact e12 p' _ (by rw [upd_ne hp9]; exact hp')
    · rintro σ' H' ⟨p2, p3, p4, p5, p6, rfl, e7, _, hk⟩
      exact k H' (hk rfl) fun c o z h => e7 c o (gold c o z h)
end
end Cp

namespace Cp
open PySem PySem.Spec PyProof.Rows L2 Evl GN GZ
def Npl : List Str := ["self", "name", "field", "words", "word", "kind"]
theorem sc_pl : FnScope Npl ["self", "name", "field"] (defScope (mK 9)) := ⟨rfl, rfl, rfl, by decide +kernel, rfl, by decide +kernel, by decide +kernel⟩
def spPl (C : Addr) : Sp := fun vs H Q _ => ∃ x, vs = [.ref x, .str "leaf", .str "n"] ∧ KindsOk H C x ∧ RetV (.int 0) H Q
def Nka : List Str := ["self", "name", "fields", "here", "field"]
theorem sc_ka : FnScope Nka ([("self" : Str), "name"] ++ [("fields" : Str)]) (defScope (mK 10)) := ⟨rfl, rfl, rfl, by decide +kernel, rfl, by decide +kernel, by decide +kernel⟩
/-- the kind of leaf, of leaf.n -/
def KaR (rest : List V) (v : V) : Prop := (rest = [] ∧ v = .str "leaf") ∨ (rest = [.str "n"] ∧ v = .non)
def spKa0 (K : PySem.W.Frag) (C : Addr) : Sp := fun vs H Q _ => ∃ x p rest v, vs = [.ref x, .str "leaf", .ref p] ∧ KindsOk H C x ∧ SqT K H p rest ∧ KaR rest v ∧ RetV v H Q
def spKa (C : Addr) : Sp := fun vs H Q _ => ∃ x rest v, vs = .ref x :: .str "leaf" :: rest ∧ KindsOk H C x ∧ KaR rest v ∧ RetV v H Q
section
variable {P : Program} {w : World} {K : PySem.W.Frag} {mg : Str → Option Value} {base : Heap} {f : Addr} {fd : FuncData} {C : Addr}
theorem ok_pl (F : MeP K "place_of" "Kinds.place_of" (mK 9) f fd) (kc : KC K C) : FnOk P w K mg base CX0 1 f fd ["self", "name", "field"] (spPl C) := by
  refine F.ok sc_pl (fun vs H Q E h => ?_) (fun cdv A outer s H vs Q E hr h => ?_)
  · obtain ⟨x, rfl, _⟩ := h
    rfl
  · obtain ⟨x, rfl, ⟨dx, a, b, q, p, h1, h2, h3, h4⟩, k⟩ := h
    refine ⟨_, pss_cons (by
        exact ps_setLc (i := 3) (own := [("word", 4), ("kind", 5)]) (g := gTup K 2 (gCons (gName 4) (gCons (gName 5) gNil))) (tt := tYes) (te := tVar 4) rfl sc_pl.nd rfl rfl rfl (pi_list (by exact pe_dget (hu1 hr) (pe_fld (pv 0) rfl) (pv 1) (fun _ _ => rfl))) (blkOk_by (by kernel_rfl)) (fun _ _ _ _ _ => pg_tup rfl (pgs_cons (pg_name (i := 4) sc_pl.nd rfl (Or.inl rfl)) (pgs_cons (pg_name (i := 5) sc_pl.nd rfl (Or.inl rfl)) pgs_nil))) (fun _ _ _ _ _ => pts_nil) (fun _ _ _ _ _ => by exact pv 4)) <| pss_cons (by
        exact ps_if (pt_cmpR op_notIn_seq (pv 2) (pv 3) (by rfl)) pss_no pss_nil) <| pss_one (by
        exact ps_ret (pe_bm PySem.F.plainAttrs_list PySem.F.slot_list_index PySem.F.type_list_index mt_index (pv 3) (pa_cons (pv 2) pa_nil))), ?_⟩
    refine q_asgL (el_lc1 (z := .str "n") (ev_dget (k := .inr "leaf") (v := .ref q) (ev_fld (ev_var rfl) h1 kc.cls kc.forms rfl) (ev_var rfl) (.inl h2) rfl) (sq_of h3) fun H2 e2 Q q => g_two (st_of (e2 _ _ h4)) (q _ rfl (ev_var rfl))) fun pw H2 hpw e2 hw => ?_
    refine q_no (et_test (ev_is (ev_op (ev_var rfl) (ev_var rfl) (rv_niL (xs := [.str "n"]) (sq_of hw) rfl rfl)) rfl)) fun H3 e3 => ?_
    exact s_ret (v := .int 0) (fun H4 e4 Q q => ⟨.ref pw, rfl, .inl ⟨rfl, _, sq_of (e4 _ _ (e3 _ _ hw))⟩, .str "n", rfl, pw, [.str "n"], .str "n", 0, .str "n", rfl, rfl, sq_of (e4 _ _ (e3 _ _ hw)), rfl, rfl, rfl, rfl, fun m z' hm => absurd hm (Nat.not_lt_zero _), q H4 (Ex.refl _)⟩) fun H4 e4 => k.go ((e2.trans e3).trans e4)
theorem ok_ka {fP : Addr} {fdP : FuncData} (F : MeP K "kind_at" "Kinds.kind_at" (mK 10) f fd) (kc : KC K C) (mP : Meth K C "place_of" fP) (GP : FnOk P w K mg base CX0 1 fP fdP ["self", "name", "field"] (spPl C)) (bP : Binds K fdP ["self", "name", "field"] []) : FnR P w K mg base CX0 3 f (spKa C) := by
  obtain ⟨oc, od, dV, kV, doc, pm, an, cdv, ct, osl, efd, lk, hcd, hd, _⟩ := F.ex
  subst efd
  have hdn : dV = .none := by
    rcases hd with ⟨_, z⟩ | ⟨z, _⟩
    · exact z
    · exact absurd rfl z
  subst hdn
  refine (StX.fn_star (k := 2) (sp := spKa0 K C) (N := Nka) (ps := ["self", "name"]) (pv := "fields") lk hcd sc_ka StX.cxUp_none ?_ (fun A outer s H vs Q E hr h => ?_)).imp fun vs H Q E h => ?_
  · intro us rest hl
    match us, rest, hl with
    | [_, _], [], _ => rfl
    | [_, _], _ :: _, _ => rfl
  · obtain ⟨x, p, rest, v, rfl, ⟨dx, a, b, q, p', h1, h2, h3, h4⟩, hp, hv, k⟩ := h
    refine ⟨_, pss_cons (by
        exact ps_if (pt_cmp (pc_dnotin (hu1 hr) (pv 1) (pe_fld (pv 0) rfl))) pss_no pss_nil) <| pss_cons (by
        exact ps_asg (pv 1) (pg_name (i := 3) sc_ka.nd rfl (Or.inl rfl))) <| pss_cons (by
        refine ps_for (passes_of rfl) rfl (pi_tup (pv 2)) (pg_name (i := 4) sc_ka.nd rfl (Or.inl rfl)) (pss_cons (by
          exact ps_if (pt_cmpR op_isN (pv 3) pe_non (nomark _)) pss_no pss_nil) <| pss_one (by
          exact ps_asg (pe_ix ix_tup (pe_ix ix_list (pe_dget (hu1 hr) (pe_fld (pv 0) rfl) (pv 3) (fun _ _ => rfl)) (by
            exact pe_meth (pv 0) kc.cls mP GP (hr.mono (by decide)) bP .nil pass0 (pa_cons (pv 3) (pa_cons (pv 4) pa_nil))) (fun _ _ => rfl)) pe_int (fun _ _ => rfl)) (pg_name (i := 3) sc_ka.nd rfl (Or.inl rfl))))) <| pss_one (by
        exact ps_ret (pv 3)), ?_⟩
    refine q_no (et_B (ev_is (ev_dnotin (k := .inr "leaf") (ev_var rfl) (ev_fld (ev_var rfl) h1 kc.cls kc.forms rfl) (.inl h2)) rfl)) fun H1 e1 => ?_
    refine q_asg (v := .str "leaf") (ev_var rfl) fun H2 e2 => ?_
    have e02 := e1.trans e2
    have hlen : rest.length ≤ 1 := by rcases hv with ⟨rfl, _⟩ | ⟨rfl, _⟩ <;> simp
    refine q_forT (ev_var rfl) (ex_t e02 hp) (fun i σ' H' => Ex H H' ∧ ∃ p4 y, σ' = [some (.ref x), some (.str "leaf"), some (.ref p), some y, p4] ∧ (i = 0 → y = .str "leaf") ∧ (i = 1 → y = .non)) (fun H3 e3 => ⟨e02.trans e3, none, _, rfl, fun _ => rfl, fun z => (nomatch z)⟩) (fun i σ' H' _ z => ex_t z.1 hp) ?_ ?_
    · rintro i x1 σ' H3 hx ⟨e3, p4, y, rfl, hy, _⟩
      have hi : i = 0 := by
        have := (List.getElem?_eq_some_iff.mp hx).1
        omega
      subst hi
      have hy := hy rfl
      subst hy
      have hr1 : x1 = .str "n" := by
        rcases hv with ⟨rfl, _⟩ | ⟨rfl, _⟩
        · cases hx
        · exact (Option.some.inj hx).symm
      subst hr1
      refine q_no (et_test (ev_op (x := .str "leaf") (y := .non) (z := .bl false) (ev_var rfl) ev_c fun H4 e4 Q q => ⟨rfl, q H4 (Ex.refl _)⟩)) fun H4 e4 => ?_
      have e04 := e3.trans e4
      refine s_asg (v := .non) (ev_ixT (i := 1) (p := p') (xs := [.str "n", .non]) (ev_ixL (i := 0) (p := q) (ev_dget (k := .inr "leaf") (v := .ref q) (ev_fld (ev_var rfl) (e04 _ _ h1) kc.cls kc.forms rfl) (ev_var rfl) (.inl (e04 _ _ h2)) rfl) ?_ (sq_of (e04 _ _ h3)) rfl) ev_c (st_of (e04 _ _ h4)) (at_of (j := 1) rfl rfl)) fun H5 e5 => ⟨e04.trans e5, _, _, rfl, fun z => (nomatch z), fun _ => rfl⟩
      exact ev_meth (z := .int ((0 : Nat) : Int)) (ev_var rfl) (e04 _ _ h1) rfl (ea_cons (ev_var rfl) (ea_cons (ev_var rfl) ea_nil)) (RetV.call fun H6 e6 Q E kk => ⟨x, rfl, (KindsOk.ex (e04.trans e6) ⟨dx, a, b, q, p', h1, h2, h3, h4⟩), kk⟩)
    · rintro σ' H3 ⟨e3, p4, y, rfl, hy0, hy1⟩
      have hy : y = v := by
        rcases hv with ⟨rfl, rfl⟩ | ⟨rfl, rfl⟩
        · exact hy0 rfl
        · exact hy1 rfl
      subst hy
      exact s_ret (v := y) (ev_var rfl) fun H4 e4 => k.go (e3.trans e4)
  · obtain ⟨x, rest, v, rfl, hk, hv, k⟩ := h
    have hlen : rest.length ≤ 1 := by rcases hv with ⟨rfl, _⟩ | ⟨rfl, _⟩ <;> simp
    exact ⟨[.ref x, .str "leaf"], rest, rfl, rfl, sz_of (by omega), fun p hp => ⟨x, p, rest, v, rfl, hk.ex (Ex.new hp), st_of upd_same, hv, fun H2 e2 => k H2 ((Ex.new hp).trans e2)⟩⟩
end
end Cp

namespace Cp
open PySem PySem.Spec PyProof.Rows L2 Evl GN GZ
abbrev mP (j : Nat) : Stmt := inClass (top 49) j
structure PC (K : PySem.W.Frag) (C : Addr) : Prop where
  cls : Cls K C
  table : NoAttr K C "table"
  signs : NoAttr K C "signs"
  texts : NoAttr K C "texts"
  code : NoAttr K C "code"
/-- the signature of main (m), of f and g -/
def SgnOk (H : Hp) (m : Bool) (t : Addr) : Prop := ∃ l1 l2 p1 p2, H t = some (.tup [.ref l1, .ref l2, if m then .non else .str "x"]) ∧ H l1 = some (.lst (if m then [] else [.ref p1])) ∧ H l2 = some (.lst (if m then [.ref p1, .ref p2] else [.ref p2])) ∧ H p1 = some (.tup [.str "x", .str "leaf"]) ∧ H p2 = some (.tup [.str "y", .str "leaf"])
/-- a Program whose heads are read: the three names -/
def POk (H : Hp) (C CK x : Addr) : Prop := ∃ dx fs tb sg sgs, H x = some (.ins C dx fs) ∧ (∀ m : Str, m ∉ [("table" : Str), "signs", "texts", "code"] → fs.lookup m = none) ∧ fs.lookup ("table" : Str) = some (V.ref tb) ∧ KindsOk H CK tb ∧ fs.lookup ("signs" : Str) = some (V.ref sg) ∧ H sg = some (.dK sgs) ∧
  ∀ w : Str, (∃ m, (w = "main" ∧ m = true ∨ (w = "f" ∨ w = "g") ∧ m = false)) → ∃ m t, (w = "main" ↔ m = true) ∧ valV sgs (.inr w) = some (.ref t) ∧ SgnOk H m t
def isName (w : Str) : Prop := w = "main" ∨ w = "f" ∨ w = "g"
theorem POk.ex {H H' : Hp} {C CK x : Addr} (e : Ex H H') : POk H C CK x → POk H' C CK x
  | ⟨dx, fs, tb, sg, sgs, h1, h2, h3, h4, h5, h6, h7⟩ => ⟨dx, fs, tb, sg, sgs, e _ _ h1, h2, h3, h4.ex e, h5, e _ _ h6, fun w hw => let ⟨m, t, a, b, l1, l2, p1, p2, c1, c2, c3, c4, c5⟩ := h7 w hw; ⟨m, t, a, b, l1, l2, p1, p2, e _ _ c1, e _ _ c2, e _ _ c3, e _ _ c4, e _ _ c5⟩⟩
theorem sc_kin : FnScope ["self", "name", "takes", "has", "gives"] ["self", "name"] (defScope (mP 6)) := ⟨rfl, rfl, rfl, by decide +kernel, rfl, by decide +kernel, by decide +kernel⟩
/-- x and y, both leaves -/
def dXY : List (L2.Key × V) := [(.inr "x", .str "leaf"), (.inr "y", .str "leaf")]
def RetDX (H : Hp) (Q : VK) : Prop := ∀ p H2, H p = none → Ex H H2 → H2 p = some (.dK dXY) → Q (.ref p) H2
def spKin (C CK : Addr) : Sp := fun vs H Q _ => ∃ x w, vs = [.ref x, .str w] ∧ POk H C CK x ∧ isName w ∧ RetDX H Q
section
variable {P : Program} {w : World} {K : PySem.W.Frag} {mg : Str → Option Value} {base : Heap} {f : Addr} {fd : FuncData} {C CK : Addr}
theorem POk.sgn {H : Hp} {x : Addr} (h : POk H C CK x) : ∃ dx fs tb sg sgs, H x = some (.ins C dx fs) ∧ (∀ m : Str, m ∉ [("table" : Str), "signs", "texts", "code"] → fs.lookup m = none) ∧ fs.lookup ("table" : Str) = some (V.ref tb) ∧ KindsOk H CK tb ∧ fs.lookup ("signs" : Str) = some (V.ref sg) ∧ H sg = some (.dK sgs) ∧ ∀ w, isName w → ∃ m t, (w = "main" ↔ m = true) ∧ valV sgs (.inr w) = some (.ref t) ∧ SgnOk H m t := by
  obtain ⟨dx, fs, tb, sg, sgs, h1, h2, h3, h4, h5, h6, h7⟩ := h
  refine ⟨dx, fs, tb, sg, sgs, h1, h2, h3, h4, h5, h6, fun w hw => h7 w ?_⟩
  rcases hw with h | h
  · exact ⟨true, .inl ⟨h, rfl⟩⟩
  · exact ⟨false, .inr ⟨h, rfl⟩⟩
theorem ok_kin (F : MeP K "kinds_in" "Program.kinds_in" (mP 6) f fd) (pc : PC K C) (gD : mg "dict" = none) : FnOk P w K mg base CX0 1 f fd ["self", "name"] (spKin C CK) := by
  refine F.ok sc_kin (fun vs H Q E h => ?_) (fun cdv A outer s H vs Q E hr h => ?_)
  · obtain ⟨x, w, rfl, _⟩ := h
    rfl
  · obtain ⟨x, nm, rfl, hP, hn, k⟩ := h
    obtain ⟨dx, fs, tb, sg, sgs, h1, h2, h3, h4, h5, h6, h7⟩ := hP.sgn
    obtain ⟨m, t, _, hv, l1, l2, p1, p2, c1, c2, c3, c4, c5⟩ := h7 nm hn
    refine ⟨_, pss_cons (by
        exact ps_asg (pe_dget (hu1 hr) (pe_fld (pv 0) rfl) (pv 1) (fun _ _ => rfl)) (pg_tup rfl (pgs_cons (pg_name (i := 2) sc_kin.nd rfl (Or.inl rfl)) (pgs_cons (pg_name (i := 3) sc_kin.nd rfl (Or.inl rfl)) (pgs_cons (pg_name (i := 4) sc_kin.nd rfl (Or.inl rfl)) pgs_nil))))) <| pss_one (by
        exact ps_ret (pe_callTy (call_dictP rfl) (by rfl) gD boot_dict (pa_cons (pe_op op_cat (pv 2) (pv 3)) pa_nil))), ?_⟩
    refine q_asg3 (te := tDGet (tFld K (tVar 0) "signs") (tVar 1)) (ev_dget (k := .inr nm) (ev_fld (ev_var rfl) h1 pc.cls pc.signs h5) (ev_var rfl) (.inl h6) hv) (st_of c1) fun H1 e1 => ?_
    have hcat : (if m then ([] : List V) else [.ref p1]) ++ (if m then [V.ref p1, .ref p2] else [.ref p2]) = [p1, p2].map V.ref := by cases m <;> rfl
    refine ⟨.ref l1, rfl, .ref l2, rfl, l1, l2, _, _, rfl, rfl, e1 _ _ c2, e1 _ _ c3, ?_, fun q hq => ⟨q, [p1, p2], dXY, rfl, sq_of (by rw [upd_same, hcat]), ?_, fun d hd => ?_⟩⟩
    · cases m <;> exact sz_of (n := 2) (by decide)
    · have eq1 : Ex H1 (upd H1 q (.lst ((if m then ([] : List V) else [.ref p1]) ++ (if m then [V.ref p1, .ref p2] else [.ref p2])))) := Ex.new hq
      exact .cons (st_of (eq1 _ _ (e1 _ _ c4))) (.cons (st_of (eq1 _ _ (e1 _ _ c5))) .nil)
    · exact k d _ (fresh_back (e1.trans (Ex.new hq)) hd) ((e1.trans (Ex.new hq)).trans (Ex.new hd)) upd_same
end
end Cp

namespace Cp
open PySem PySem.Spec PyProof.Rows L2 Evl GN GZ
/-- the paths of the law's programs, the kind of each -/
def PkR (pth : List V) (z : Str) : Prop := (pth = [.str "x"] ∧ z = "leaf") ∨ (pth = [.str "y"] ∧ z = "leaf") ∨ (pth = [.str "x", .str "n"] ∧ z = "#") ∨ (pth = [.str "zz"] ∧ z = "")
def spPk (K : PySem.W.Frag) (C CK : Addr) : Sp := fun vs H Q _ => ∃ x w q pth z, vs = [.ref x, .str w, .ref q] ∧ POk H C CK x ∧ isName w ∧ SqT K H q pth ∧ PkR pth z ∧ RetV (.str z) H Q
def Npk : List Str := ["self", "name", "path", "kinds", "fields", "found"]
theorem sc_pk : FnScope Npk ["self", "name", "path"] (defScope (mP 7)) := ⟨rfl, rfl, rfl, by decide +kernel, rfl, by decide +kernel, by decide +kernel⟩
theorem ev_methSB {K : PySem.W.Frag} {σ : L2.St} {H : Hp} {ta t1 t2 : TE} {C g a dx b : Addr} {fs : List (Str × V)} {m : Str} {sp : Sp} {E : XK} {y1 z : V} {vs : List V} (h : Ev ta σ H (.ref a)) (ha : H a = some (.ins C dx fs)) (hm : fs.lookup m = none) (h1 : Ev t1 σ H y1) (h2 : Ev t2 σ H (.ref b)) (hb : SqT K H b vs) (hs : SpV sp (.ref a :: y1 :: vs) H z) : Ev (tMethSB K C m g sp E ta t1 t2) σ H z := fun H1 e Q q =>
  h H1 e _ fun H2 e2 => ⟨a, dx, fs, rfl, e2 a _ (e a _ ha), hm, fun p hp => h1 _ ((e.trans e2).trans (Ex.new hp)) _ fun H3 e3 => h2 H3 (((e.trans e2).trans (Ex.new hp)).trans e3) _ fun H4 e4 =>
    ⟨b, vs, rfl, .inl (ex_t ((((e.trans e2).trans (Ex.new hp)).trans e3).trans e4) hb), e4 p _ (e3 p _ upd_same), hs H4 ((((e.trans e2).trans (Ex.new hp)).trans e3).trans e4) Q (fun H5 e5 => q H5 (((e2.trans (Ex.new hp)).trans e3).trans (e4.trans e5))) E⟩⟩
theorem eu_slT {K : PySem.W.Frag} {σ : L2.St} {H : Hp} {te : TE} {tl th : TO} {a : Addr} {xs : List V} {lo hi : Option Int} (h : Ev te σ H (.ref a)) (h1 : EvO tl σ H lo) (h2 : EvO th σ H hi) (hs : SqT K H a xs) (hw : ¬ (HT.sIx xs.length 0 lo = 0 ∧ HT.sIx xs.length xs.length hi = xs.length)) : EvU (tSl (rSlT K) te tl th) σ H (cutV xs lo hi) := fun H1 e Q q =>
  h H1 e _ fun H2 e2 => h1 H2 (e.trans e2) _ fun H3 e3 => h2 H3 ((e.trans e2).trans e3) _ fun H4 e4 =>
    ⟨a, xs, rfl, ex_t (((e.trans e2).trans e3).trans e4) hs, hw, fun p hp => q p _ (fresh_back ((e2.trans e3).trans e4) hp) (((e2.trans e3).trans e4).trans (Ex.new hp)) upd_same⟩
theorem dXY_x : valV dXY (.inr "x") = some (.str "leaf") := by decide +kernel
theorem dXY_y : valV dXY (.inr "y") = some (.str "leaf") := by decide +kernel
theorem dXY_zz : valV dXY (.inr "zz") = none := by decide +kernel
theorem sx1 (n : Nat) : HT.sIx (n + 1) 0 (some 1) = 1 := by
  have h := HT.sIx_nat (n + 1) 0 1
  rw [show ((1 : Nat) : Int) = 1 from rfl] at h
  rw [h]
  omega
theorem cut1 (x : V) (tl : List V) : cutV (x :: tl) (some 1) none = tl := by
  unfold cutV
  rw [List.length_cons, sx1]
  show List.take (tl.length + 1 - 1) tl = tl
  rw [Nat.add_sub_cancel, List.take_length]
theorem q_try {tb ts : TS} {D : Ends} {σ : L2.St} {H : Hp} (h : tb { D with nx := ts D } σ H) : tSeq (fun D σ H => tb D σ H) ts D σ H := h
section
variable {P : Program} {w : World} {K : PySem.W.Frag} {mg : Str → Option Value} {base : Heap} {f : Addr} {fd : FuncData} {C CK : Addr}
theorem ok_pk {fI fA cBF : Addr} {fdI : FuncData} {t : Tok} (F : MeP K "path_kind" "Program.path_kind" (mP 7) f fd) (pc : PC K C) (kc : KC K CK) (mI : Meth K C "kinds_in" fI) (GI : FnOk P w K mg base CX0 1 fI fdI ["self", "name"] (spKin C CK)) (bI : Binds K fdI ["self", "name"] [])
    (mA : BMeth K CK "kind_at" fA) (GA : FnR P w K mg base CX0 3 fA (spKa CK)) (gL : mg "len" = none) (gN : mg "NUMBER" = some (.str "#" t)) (gB : mg "BadField" = some (.ref cBF)) : FnOk P w K mg base CX0 4 f fd ["self", "name", "path"] (spPk K C CK) := by
  refine F.ok sc_pk (fun vs H Q E h => ?_) (fun cdv A outer s H vs Q E hr h => ?_)
  · obtain ⟨x, w, q, pth, z, rfl, _⟩ := h
    rfl
  · obtain ⟨x, nm, q, pth, z, rfl, hP, hn, hq, hpk, k⟩ := h
    obtain ⟨dx, fs, tb, sg, sgs, h1, h2, h3, h4, h5, h6, h7⟩ := hP.sgn
    refine ⟨_, pss_cons (by
        refine ps_asg (by
          exact pe_meth (pv 0) pc.cls mI GI (hr.mono (by decide)) bI .nil pass0 (pa_cons (pv 1) pa_nil)) (pg_name (i := 3) sc_pk.nd rfl (Or.inl rfl))) <| pss_cons (by
        exact ps_if (PW.pt (pw_or (pt_cmpR op_eq (pe_callB call_len_seq (by rfl) gL PySem.boot_len (pa_cons (pv 2) pa_nil)) pe_int (nomark _)) (pw_or1 (pt_cmp (pc_dnotin (hu1 hr) (pe_ix ix_tup (pv 2) pe_int (fun _ _ => rfl)) (pv 3)))))) (pss_one (ps_ret pe_str)) pss_nil) <| pss_cons (by
        exact ps_asg (pe_slice sl_tup (pv 2) (po_some pe_int) po_none) (pg_name (i := 4) sc_pk.nd rfl (Or.inl rfl))) <| pss_cons (by
        refine ps_try_only (tb := fun _ => tAsg (tMethSB K CK "kind_at" fA (spKa CK) E0 (tFld K (tVar 0) "table") (tDGet (tVar 3) (tOp (rIxT K) (tVar 2) (tC (.int 0)))) (tVar 4)) (gName 5)) (ts := fun _ _ _ => fun _ _ _ => False) (Wout := fun _ _ _ _ => False) rfl rfl ⟨by rfl, by decide, .inl gB⟩ takes0 (fun W pn xe tk hp => pss_one (by
          exact ps_asg (pe_methSB (pe_fld (pv 0) rfl) kc.cls mA GA hr pass0 (pe_dget (hu1 hr) (pv 3) (pe_ix ix_tup (pv 2) pe_int (fun _ _ => rfl)) (fun _ _ => rfl)) (pv 4)) (pg_name (i := 5) sc_pk.nd rfl (Or.inl rfl)))) fun a oe cls d pn hz hf => pss_no) <| pss_one (by
        exact ps_ret (pe_ifExp (pt_cmpR op_isN (pv 5) pe_non (nomark _)) (pe_glob (v := .str "#") (by rfl) gN ⟨_, rfl⟩) (pv 5))), ?_⟩
    refine ⟨.ref x, rfl, x, dx, fs, rfl, h1, h2 _ (by decide +kernel), .str nm, rfl, x, nm, rfl, hP, hn, fun p H1 hp e1 hk => ?_⟩
    have cs : (∃ hd tl v, pth = .str hd :: tl ∧ (hd = "x" ∨ hd = "y") ∧ KaR tl v ∧ tl.length ≤ 1 ∧ (if v = .non then V.str "#" else v) = .str z) ∨ (pth = [.str "zz"] ∧ z = "") := by
      rcases hpk with ⟨rfl, rfl⟩ | ⟨rfl, rfl⟩ | ⟨rfl, rfl⟩ | ⟨rfl, rfl⟩
      · exact .inl ⟨"x", [], _, rfl, .inl rfl, .inl ⟨rfl, rfl⟩, by simp, rfl⟩
      · exact .inl ⟨"y", [], _, rfl, .inr rfl, .inl ⟨rfl, rfl⟩, by simp, rfl⟩
      · exact .inl ⟨"x", [.str "n"], _, rfl, .inl rfl, .inr ⟨rfl, rfl⟩, by simp, rfl⟩
      · exact .inr ⟨rfl, rfl⟩
    rcases cs with ⟨hd, tl, v, rfl, hxy, hka, htl, hz⟩ | ⟨rfl, rfl⟩
    · have hv : valV dXY (.inr hd) = some (.str "leaf") := by
        rcases hxy with rfl | rfl
        · exact dXY_x
        · exact dXY_y
      refine q_no (et_is (et_or (a := false) (et_is (et_eq (ev_lenQ (ev_var rfl) (.inr (ex_t e1 hq))) ev_c rfl) (decide_eq_false fun e => ?_)) fun _ => et_B (ev_is (ev_dnotin (k := .inr hd) (ev_t (j := 0) rfl (ex_t e1 hq) rfl) (ev_var rfl) (.inl hk)) (by rw [hv]; rfl))) rfl) fun H2 e2 => ?_
      · have e := V.int.inj e
        rw [List.length_cons] at e
        omega
      have e02 := e1.trans e2
      refine q_asgU (eu_slT (ev_var rfl) (eo_some ev_c) eo_none (ex_t e02 hq) ?_) fun q2 H3 hq2 e3 h3' => ?_
      · rw [List.length_cons, sx1]
        exact fun z => absurd z.1 (by decide)
      rw [cut1] at h3'
      have e03 := e02.trans e3
      refine q_asg (te := tMethSB K CK "kind_at" fA (spKa CK) E0 (tFld K (tVar 0) "table") (tDGet (tVar 3) (tOp (rIxT K) (tVar 2) (tC (.int 0)))) (tVar 4)) (i := 5) (v := v) ?_ fun H4 e4 => ?_
      · obtain ⟨kdx, ka, kb, kq, kp, k1, k2, k3, k4⟩ := h4.ex e03
        exact ev_methSB (ev_fld (ev_var rfl) (e03 _ _ h1) pc.cls pc.table h3) k1 rfl (ev_dget (k := .inr hd) (ev_var rfl) (ev_t (j := 0) rfl (ex_t e03 hq) rfl) (.inl ((e2.trans e3) _ _ hk)) hv) (ev_var rfl) (st_of h3') (RetV.call fun H5 e5 Q E kk => ⟨tb, tl, v, rfl, h4.ex (e03.trans e5), hka, kk⟩)
      · refine s_ret (v := .str z) (ev_if (b := decide (v = .non)) (et_test (ev_op (x := v) (y := .non) (z := .bl (decide (v = .non))) (ev_var rfl) ev_c fun H5 e5 Q q => ⟨rfl, q H5 (Ex.refl _)⟩)) (fun hb => ?_) fun hb => ?_) fun H5 e5 => k.go ((e03.trans e4).trans e5)
        · rw [if_pos (of_decide_eq_true hb)] at hz
          exact ev_is ev_c hz
        · rw [if_neg (of_decide_eq_false hb)] at hz
          exact ev_is (ev_var rfl) hz
    · refine q_yes (et_is (et_or (a := false) (et_is (et_eq (ev_lenQ (ev_var rfl) (.inr (ex_t e1 hq))) ev_c rfl) (by decide)) fun _ => et_B (ev_is (ev_dnotin (k := .inr "zz") (ev_t (j := 0) rfl (ex_t e1 hq) rfl) (ev_var rfl) (.inl hk)) (by rw [dXY_zz]; rfl))) rfl) fun H2 e2 => ?_
      exact s_ret ev_c fun H3 e3 => k.go ((e1.trans e2).trans e3)
end
end Cp

namespace Cp
open PySem PySem.Spec PyProof.Rows L2 Evl GN GZ
def Nsf : List Str := ["self", "name", "path", "give", "kind"]
theorem sc_sf : FnScope Nsf Nsf (defScope (mP 9)) := ⟨rfl, rfl, rfl, by decide +kernel, rfl, by decide +kernel, by decide +kernel⟩
/-- the source x, for a leaf -/
def spSf (K : PySem.W.Frag) (C CK : Addr) : Sp := fun vs H Q _ => ∃ x w q g, vs = [.ref x, .str w, .ref q, .bl g, .str "leaf"] ∧ POk H C CK x ∧ isName w ∧ SqT K H q [.str "x"] ∧ RetV (.bl true) H Q
section
variable {P : Program} {w : World} {K : PySem.W.Frag} {mg : Str → Option Value} {base : Heap} {f : Addr} {fd : FuncData} {C CK : Addr}
theorem pk_call {H : Hp} {x q : Addr} {nm : Str} {pth : List V} {z : Str} (hP : POk H C CK x) (hn : isName nm) (hq : SqT K H q pth) (hpk : PkR pth z) : SpV (spPk K C CK) [.ref x, .str nm, .ref q] H (.str z) := RetV.call fun H1 e Q E k => ⟨x, nm, q, pth, z, rfl, hP.ex e, hn, ex_t e hq, hpk, k⟩
theorem ok_sf {fP : Addr} {fdP : FuncData} (F : MeP K "source_fits" "Program.source_fits" (mP 9) f fd) (pc : PC K C) (mK : Meth K C "path_kind" fP) (GP : FnOk P w K mg base CX0 4 fP fdP ["self", "name", "path"] (spPk K C CK)) (bP : Binds K fdP ["self", "name", "path"] []) (gL : mg "len" = none) :
    FnOk P w K mg base CX0 5 f fd Nsf (spSf K C CK) := by
  refine F.ok sc_sf (fun vs H Q E h => ?_) (fun cdv A outer s H vs Q E hr h => ?_)
  · obtain ⟨x, w, q, g, rfl, _⟩ := h
    rfl
  · obtain ⟨x, nm, q, g, rfl, hP, hn, hq, k⟩ := h
    obtain ⟨dx, fs, tb, sg, sgs, h1, h2, h3, h4, h5, h6, h7⟩ := hP.sgn
    refine ⟨_, pss_one (by
      refine ps_ret (pe_and (by
        exact pe_cmpR op_eq (pe_meth (pv 0) pc.cls mK GP hr bP .nil pass0 (pa_cons (pv 1) (pa_cons (pv 2) pa_nil))) (pv 4) (nomark _)) (pe_one (pe_or (by
        exact pe_not (pv 3)) (pe_one (by
        exact pe_cmpR op_eq (pe_callB call_len_seq (by rfl) gL PySem.boot_len (pa_cons (pv 2) pa_nil)) pe_int (nomark _))))))), ?_⟩
    refine s_ret (v := .bl true) (ev_is (ev_andV (a := true) (b := true) (ev_is (ev_op (x := .str "leaf") (y := .str "leaf") (ev_meth (ev_var rfl) h1 (h2 _ (by decide +kernel)) (ea_cons (ev_var rfl) (ea_cons (ev_var rfl) ea_nil)) (pk_call hP hn hq (.inl ⟨rfl, rfl⟩))) (ev_var rfl) (rv_eq rfl)) (by simp)) fun _ => ev_is (ev_orV (b := true) (ev_notV (a := g) (ev_var rfl)) fun _ => ev_is (ev_op (x := .int 1) (y := .int 1) (ev_lenQ (ev_var rfl) (.inr hq)) ev_c (rv_eq rfl)) (by simp)) (by simp)) rfl) fun H1 e1 => k.go e1
end
end Cp

namespace Cp
open PySem PySem.Spec PyProof.Rows L2 Evl GN GZ
/-- D.get(k, x), D a written dict of the module -/
def tKGet2 (K : PySem.W.Frag) (d : Addr) (td ty tx : TE) : TE := fun σ H Q => td σ H fun x H1 => x = .ref d ∧ ty σ H1 fun y H2 => tx σ H2 fun z H3 => ∃ (w : Str) (r : Option Value) (v : V), y = .str w ∧ PySem.W.nsIn K d w = some r ∧ (∀ u, r = some u → RelV v u) ∧ (r = none → v = z) ∧ Q v H3
theorem pe_kget2 {X : Cx} {d : Addr} {es : Array DictEntry} {n : Nat} {o e f : Expr} {apos cpos : Pos} {td ty tx : TE} (D : KDict X.K X.w d es n) (ho : PE X o td) (he : PE X e ty) (hf : PE X f tx) (m : M2 X o "get" apos e f cpos) : PE X (.Call (.Attribute o "get" apos) [e, f] [] cpos) (tKGet2 X.K d td ty tx) := by
  refine ⟨fun pins s σ H Q I h => wpAny_Call_method m.base m.few m.line PySem.F.plainAttrs_dict PySem.F.slot_dict_get PySem.F.type_dict_get (thn (ho.run pins s σ H _ I h) fun u s1 ⟨x, H1, I1, rx, ex, q1⟩ => ?_)⟩
  subst ex
  obtain rfl : u = Value.ref d := rx
  refine ⟨kd_type D I1, fun b hb => ?_, ?_⟩
  · cases hb
    exact ⟨_, I1.kIn _ _ D.at_, rfl⟩
  rw [m.trees]
  refine Calls.callWith_builtin rfl (Calls.evalArgs_plain (Calls.spliced_cons (thn (he.run pins s1 σ H1 _ I1 q1) fun iv s2 ⟨y, H2, I2, ry, q2⟩ =>
    Calls.spliced_cons (thn (hf.run pins s2 σ H2 _ I2 q2) fun fv s3 ⟨z, H3, I3, rz, w, r, v, ey, hr, h1, h2, q3⟩ => Calls.spliced_nil ?_))))
  subst ey
  obtain ⟨t, rfl⟩ := ry
  have mo := PySem.W.mapOf_K (prog := X.prog) (w := X.w) I3.kIn D.at_ D.lit
  refine call_meetsIn PySem.F.slot_dict_get mo.typeIs PySem.F.entry_dict_get (PySem.F.args_dict_get_3 _ _ _) (meets_dict_get_default (PySem.strKind X.prog X.w) d (PySem.strKind_is X.prog X.w w t) D.low fv) ⟨_, mo, ?_⟩
  rw [PySem.W.find_K D.at_ hr]
  refine ⟨v, H3, I3.tok _, ?_, q3⟩
  cases r with
  | some u => exact h1 u rfl
  | none =>
    rw [h2 rfl]
    exact rz
end Cp

namespace Cp
open PySem PySem.Spec PyProof.Rows L2 Evl GN GZ
/-- how long a statement of that word is -/
def formN (z : Str) : Int := if z = "put" then 2 else if z = "copy" then 4 else if z = "call" then 4 else if z = "new" then 2 else 0
def Forms (K : PySem.W.Frag) (d : Addr) : Prop := ∀ z ∈ [("put" : Str), "copy", "call", "sing", "new"], ∃ r, PySem.W.nsIn K d z = some r ∧ (∀ u, r = some u → RelV (.int (formN z)) u) ∧ (r = none → formN z = 0)
theorem ev_kget {K : PySem.W.Frag} {σ : L2.St} {H : Hp} {d : Addr} {td ty tx : TE} {z : Str} (hF : Forms K d) (hd : Ev td σ H (.ref d)) (hy : Ev ty σ H (.str z)) (hx : Ev tx σ H (.int 0)) (hz : z ∈ [("put" : Str), "copy", "call", "sing", "new"]) : Ev (tKGet2 K d td ty tx) σ H (.int (formN z)) := fun H1 e Q q =>
  hd H1 e _ fun H2 e2 => ⟨rfl, hy H2 (e.trans e2) _ fun H3 e3 => hx H3 ((e.trans e2).trans e3) _ fun H4 e4 => by
    obtain ⟨r, a, b, c⟩ := hF z hz
    exact ⟨z, r, _, rfl, a, b, fun h => by rw [c h], q H4 ((e2.trans e3).trans e4)⟩⟩
theorem et_form {K : PySem.W.Frag} {σ : L2.St} {H : Hp} {d t : Addr} {z : Str} {r : List V} {b : Bool} (hF : Forms K d) (hσ : σ[2]? = some (some (.ref t))) (h : SqT K H t (.str z :: r)) (hz : z ∈ [("put" : Str), "copy", "call", "sing", "new"]) {n : Nat} (hn : r.length = n) (hb : decide (formN z = ((n + 1 : Nat) : Int)) = !b) :
    EvT (tOr (tTest (tOp rEq (tCB (rLenS K) (tCons (tVar 2) tNil)) (tC (.int 0)))) (tTest (tOp rNe (tKGet2 K d (tC (.ref d)) (tOp (rIxT K) (tVar 2) (tC (.int 0))) (tC (.int 0))) (tCB (rLenS K) (tCons (tVar 2) tNil))))) σ H b := by
  subst hn
  refine et_orF (et_is (et_eq (ev_lenQ (ev_var hσ) (.inr h)) ev_c rfl) (decide_eq_false fun e => ?_)) (et_is (et_ne (ev_kget hF ev_c (ev_t (j := 0) hσ h rfl) ev_c hz) (ev_lenQ (ev_var hσ) (.inr h)) rfl) ?_)
  · have e := V.int.inj e
    rw [List.length_cons] at e
    omega
  · have e1 : decide (V.int (formN z) = V.int ((V.str z :: r).length : Nat)) = decide (formN z = ((r.length + 1 : Nat) : Int)) := by
      rw [List.length_cons]
      exact decide_eq_decide.mpr ⟨V.int.inj, fun h => by rw [h]⟩
    rw [e1, hb, Bool.not_not]
theorem et_bod {K : PySem.W.Frag} {σ : L2.St} {H : Hp} {t : Addr} {z : Str} {r : List V} {E : XK} (hσ : σ[2]? = some (some (.ref t))) (h : FlatS K H t z r) :
    EvT (tTest (tOp (rI0 fun i j => .bl (decide (j < i))) (tCB (rLenS K) (tCons (tCall (spBodies K) [] E (tCons (tVar 2) tNil)) tNil)) (tC (.int 0)))) σ H false := et_test (ev_is (ev_op (x := .int 0) (y := .int 0) (ev_lenN (xs := []) (el_call (ea_cons (ev_var hσ) ea_nil) (bodies_call h))) ev_c rv_I0) rfl)
/-- a call of f or g from the source x -/
def spCf (K : PySem.W.Frag) (C CK : Addr) : Sp := fun vs H Q _ => ∃ x w wc q r u, vs = [.ref x, .str w, .str "leaf", .str wc, .ref q] ∧ POk H C CK x ∧ isName w ∧ (wc = "f" ∨ wc = "g") ∧ SqT K H q [.ref r] ∧ SqT K H r [.ref u, .bl false] ∧ SqT K H u [.str "x"] ∧ RetV (.bl true) H Q
def spFits (K : PySem.W.Frag) (C CK : Addr) : Sp := fun vs H Q _ => ∃ x w v s, vs = [.ref x, .str w, v] ∧ POk H C CK x ∧ isName w ∧ IsS K H s v ∧ (∀ wc, s = .C wc → wc = "f" ∨ wc = "g") ∧ RetV (.bl s.good) H Q
def Nfit : List Str := ["self", "name", "statement", "target"]
theorem sc_fit : FnScope Nfit ["self", "name", "statement"] (defScope (mP 8)) := ⟨rfl, rfl, rfl, by decide +kernel, rfl, by decide +kernel, by decide +kernel⟩
section
variable {P : Program} {w : World} {K : PySem.W.Frag} {mg : Str → Option Value} {base : Heap} {f : Addr} {fd : FuncData} {C CK : Addr}
theorem ok_fit {fB fP fS fC dF : Addr} {fdB fdP fdS fdC : FuncData} {es : Array DictEntry} {n : Nat} {t : Tok} (F : MeP K "statement_fits" "Program.statement_fits" (mP 8) f fd) (pc : PC K C)
    (GB : FnOk P w K mg base CX0 1 fB fdB ["statement"] (spBodies K)) (gB : mg "bodies_of" = some (.ref fB)) (kB : PySem.W.keepIn K (.ref fB) = true) (bB : Binds K fdB ["statement"] [])
    (mk : Meth K C "path_kind" fP) (GP : FnOk P w K mg base CX0 4 fP fdP ["self", "name", "path"] (spPk K C CK)) (bP : Binds K fdP ["self", "name", "path"] [])
    (mS : Meth K C "source_fits" fS) (GS : FnOk P w K mg base CX0 5 fS fdS Nsf (spSf K C CK)) (bS : Binds K fdS Nsf [])
    (mC : Meth K C "call_fits" fC) (GC : FnOk P w K mg base CX0 6 fC fdC ["self", "name", "target", "called", "sources"] (spCf K C CK)) (bC : Binds K fdC ["self", "name", "target", "called", "sources"] [])
    (gL : mg "len" = none) (gN : mg "NUMBER" = some (.str "#" t)) (gF : mg "FORMS" = some (.ref dF)) (D : KDict K w dF es n) (hF : Forms K dF) : FnOk P w K mg base CX0 7 f fd ["self", "name", "statement"] (spFits K C CK) := by
  refine F.ok sc_fit (fun vs H Q E h => ?_) (fun cdv A outer s H vs Q E hr h => ?_)
  · obtain ⟨x, w, v, s, rfl, _⟩ := h
    rfl
  · obtain ⟨x, nm, v, s, rfl, hP, hn, hs, hw, k⟩ := h
    obtain ⟨dx, fs, tb, sg, sgs, h1, h2, h3, h4, h5, h6, h7⟩ := hP.sgn
    refine ⟨_, pss_cons (by
        exact ps_if (PW.pt (pw_or (pt_cmpR op_eq (pe_callB call_len_seq (by rfl) gL PySem.boot_len (pa_cons (pv 2) pa_nil)) pe_int (nomark _)) (pw_or1 (pt_cmpR op_ne (pe_kget2 D (pe_glob (v := .ref dF) (by rfl) gF rfl) (pe_ix ix_tup (pv 2) pe_int (fun _ _ => rfl)) pe_int ⟨rfl, rfl, rfl, rfl⟩) (pe_callB call_len_seq (by rfl) gL PySem.boot_len (pa_cons (pv 2) pa_nil)) (nomark _))))) (pss_one (ps_ret pe_bl)) pss_nil) <| pss_cons (by
        exact ps_if (pt_cmpR op_gt (pe_callB call_len_seq (by rfl) gL PySem.boot_len (pa_cons (pe_call GB (hr.mono (by decide)) (by rfl) gB kB bB .nil pass0 (pa_cons (pv 2) pa_nil)) pa_nil)) pe_int (nomark _)) pss_no pss_nil) <| pss_cons (by
        exact ps_asg (pe_meth (pv 0) pc.cls mk GP (hr.mono (by decide)) bP .nil pass0 (pa_cons (pv 1) (pa_cons (pe_ix ix_tup (pv 2) pe_int (fun _ _ => rfl)) pa_nil))) (pg_name (i := 3) sc_fit.nd rfl (Or.inl rfl))) <| pss_cons (by
        exact ps_if (pt_cmpR op_eq (pe_ix ix_tup (pv 2) pe_int (fun _ _ => rfl)) pe_str (nomark _)) pss_no pss_nil) <| pss_cons (by
        exact ps_if (pt_cmpR op_eq (pe_ix ix_tup (pv 2) pe_int (fun _ _ => rfl)) pe_str (nomark _)) (pss_one (ps_ret (pe_cmpR op_eq (pv 3) (pe_glob (v := .str "#") (by rfl) gN ⟨_, rfl⟩) (nomark _)))) pss_nil) <| pss_cons (by
        exact ps_if (PW.pt (pw_or (pt_cmpR op_in_seq (pv 3) (pe_tup (pa_cons pe_str (pa_cons (pe_glob (v := .str "#") (by rfl) gN ⟨_, rfl⟩) pa_nil))) (by rfl)) (pw_or1 (pt_cmpR op_eq (pe_ix ix_tup (pv 2) pe_int (fun _ _ => rfl)) pe_str (nomark _))))) (pss_one (ps_ret (pe_cmpR op_notIn_seq (pv 3) (pe_tup (pa_cons pe_str (pa_cons (pe_glob (v := .str "#") (by rfl) gN ⟨_, rfl⟩) pa_nil))) (by rfl)))) pss_nil) <| pss_cons (by
        exact ps_if (pt_cmpR op_eq (pe_ix ix_tup (pv 2) pe_int (fun _ _ => rfl)) pe_str (nomark _)) (pss_one (ps_ret (pe_meth (pv 0) pc.cls mS GS (hr.mono (by decide)) bS .nil pass0 (pa_cons (pv 1) (pa_cons (pe_ix ix_tup (pv 2) pe_int (fun _ _ => rfl)) (pa_cons (pe_ix ix_tup (pv 2) pe_int (fun _ _ => rfl)) (pa_cons (pv 3) pa_nil))))))) pss_nil) <| pss_one (by
        exact ps_ret (pe_meth (pv 0) pc.cls mC GC hr bC .nil pass0 (pa_cons (pv 1) (pa_cons (pv 3) (pa_cons (pe_ix ix_tup (pv 2) pe_int (fun _ _ => rfl)) (pa_cons (pe_ix ix_tup (pv 2) pe_int (fun _ _ => rfl)) pa_nil)))))), ?_⟩
    have lk : ∀ {H' : Hp} {σ : L2.St} {q : Addr} {pth : List V} {z : Str} {te : TE}, Ex H H' → σ[0]? = some (some (.ref x)) → σ[1]? = some (some (.str nm)) → Ev te σ H' (.ref q) → SqT K H q pth → PkR pth z → Ev (tMeth C "path_kind" (spPk K C CK) [] E0 (tVar 0) (tCons (tVar 1) (tCons te tNil))) σ H' (.str z) := fun e z0 z1 hq hs hp => ev_meth (ev_var z0) (e _ _ h1) (h2 _ (by decide +kernel)) (ea_cons (ev_var z1) (ea_cons hq ea_nil)) (pk_call (hP.ex e) hn (ex_t e hs) hp)
    cases s with
    | P =>
      obtain ⟨tt, q, rfl, s1, s2⟩ := hs
      refine q_no (et_form (n := 1) hF rfl s1 (by simp) rfl (by decide +kernel)) fun H1 e1 => ?_
      refine q_no (et_bod rfl ⟨ex_t e1 s1, by decide, by decide, by simp⟩) fun H2 e2 => ?_
      have e02 := e1.trans e2
      refine q_asg (v := .str "#") (lk e02 rfl rfl (ev_t (j := 1) rfl (ex_t e02 s1) rfl) s2 (.inr (.inr (.inl ⟨rfl, rfl⟩)))) fun H3 e3 => ?_
      have e03 := e02.trans e3
      refine q_no (et_eqs (ev_t (j := 0) rfl (ex_t e03 s1) rfl) ev_c (by decide)) fun H4 e4 => ?_
      refine q_yes (et_eqs (ev_t (j := 0) rfl (ex_t (e03.trans e4) s1) rfl) ev_c (by decide)) fun H5 e5 => ?_
      exact s_ret (v := .bl true) (ev_is (ev_op (x := .str "#") (y := .str "#") (ev_var rfl) ev_c (rv_eq rfl)) (by simp)) fun H6 e6 => k.go (((e03.trans e4).trans e5).trans e6)
    | O0 =>
      obtain ⟨tt, q, rfl, s1, s2⟩ := hs
      refine q_no (et_form (n := 1) hF rfl s1 (by simp) rfl (by decide +kernel)) fun H1 e1 => ?_
      refine q_no (et_bod rfl ⟨ex_t e1 s1, by decide, by decide, by simp⟩) fun H2 e2 => ?_
      have e02 := e1.trans e2
      refine q_asg (v := .str "leaf") (lk e02 rfl rfl (ev_t (j := 1) rfl (ex_t e02 s1) rfl) s2 (.inl ⟨rfl, rfl⟩)) fun H3 e3 => ?_
      have e03 := e02.trans e3
      refine q_no (et_eqs (ev_t (j := 0) rfl (ex_t e03 s1) rfl) ev_c (by decide)) fun H4 e4 => ?_
      refine q_yes (et_eqs (ev_t (j := 0) rfl (ex_t (e03.trans e4) s1) rfl) ev_c (by decide)) fun H5 e5 => ?_
      exact s_ret (v := .bl false) (ev_is (ev_op (x := .str "leaf") (y := .str "#") (ev_var rfl) ev_c (rv_eq rfl)) (by decide +kernel)) fun H6 e6 => k.go (((e03.trans e4).trans e5).trans e6)
    | O1 =>
      obtain ⟨tt, rfl, s1⟩ := hs
      refine q_yes (et_form (n := 0) hF rfl s1 (by simp) rfl (by decide +kernel)) fun H1 e1 => ?_
      exact s_ret ev_c fun H2 e2 => k.go (e1.trans e2)
    | O2 =>
      obtain ⟨tt, q, rfl, s1, s2⟩ := hs
      refine q_yes (et_form (n := 1) hF rfl s1 (by simp) rfl (by decide +kernel)) fun H1 e1 => ?_
      exact s_ret ev_c fun H2 e2 => k.go (e1.trans e2)
    | O3 =>
      obtain ⟨tt, q, rfl, s1, s2⟩ := hs
      refine q_no (et_form (n := 1) hF rfl s1 (by simp) rfl (by decide +kernel)) fun H1 e1 => ?_
      refine q_no (et_bod rfl ⟨ex_t e1 s1, by decide, by decide, by simp⟩) fun H2 e2 => ?_
      have e02 := e1.trans e2
      refine q_asg (v := .str "") (lk e02 rfl rfl (ev_t (j := 1) rfl (ex_t e02 s1) rfl) s2 (.inr (.inr (.inr ⟨rfl, rfl⟩)))) fun H3 e3 => ?_
      have e03 := e02.trans e3
      refine q_no (et_eqs (ev_t (j := 0) rfl (ex_t e03 s1) rfl) ev_c (by decide)) fun H4 e4 => ?_
      refine q_no (et_eqs (ev_t (j := 0) rfl (ex_t (e03.trans e4) s1) rfl) ev_c (by decide)) fun H5 e5 => ?_
      refine q_yes (et_orT (et_test (ev_is (ev_inU (ev_var rfl) (eu_tup (ea_cons ev_c (ea_cons ev_c ea_nil)) (by simp)) rfl rfl) (by decide +kernel)))) fun H6 e6 => ?_
      exact s_ret (v := .bl false) (ev_is (ev_niU (ev_var rfl) (eu_tup (ea_cons ev_c (ea_cons ev_c ea_nil)) (by simp)) rfl rfl) (by decide +kernel)) fun H7 e7 => k.go ((((e03.trans e4).trans e5).trans e6).trans e7)
    | M =>
      obtain ⟨tt, p, q, rfl, s1, s2, s3⟩ := hs
      refine q_no (et_form (n := 3) hF rfl s1 (by simp) rfl (by decide +kernel)) fun H1 e1 => ?_
      refine q_no (et_bod rfl ⟨ex_t e1 s1, by decide, by decide, by simp⟩) fun H2 e2 => ?_
      have e02 := e1.trans e2
      refine q_asg (v := .str "leaf") (lk e02 rfl rfl (ev_t (j := 1) rfl (ex_t e02 s1) rfl) s2 (.inr (.inl ⟨rfl, rfl⟩))) fun H3 e3 => ?_
      have e03 := e02.trans e3
      refine q_no (et_eqs (ev_t (j := 0) rfl (ex_t e03 s1) rfl) ev_c (by decide)) fun H4 e4 => ?_
      refine q_no (et_eqs (ev_t (j := 0) rfl (ex_t (e03.trans e4) s1) rfl) ev_c (by decide)) fun H5 e5 => ?_
      have e05 := (e03.trans e4).trans e5
      refine q_no (et_orF (et_test (ev_is (ev_inU (ev_var rfl) (eu_tup (ea_cons ev_c (ea_cons ev_c ea_nil)) (by simp)) rfl rfl) (by decide +kernel))) (et_eqs (ev_t (j := 0) rfl (ex_t e05 s1) rfl) ev_c (by decide))) fun H6 e6 => ?_
      have e06 := e05.trans e6
      refine q_yes (et_eqs (ev_t (j := 0) rfl (ex_t e06 s1) rfl) ev_c (by decide)) fun H7 e7 => ?_
      have e07 := e06.trans e7
      exact s_ret (v := .bl true) (ev_meth (ev_var rfl) (e07 _ _ h1) (h2 _ (by decide +kernel)) (ea_cons (ev_var rfl) (ea_cons (ev_t (j := 2) rfl (ex_t e07 s1) rfl) (ea_cons (ev_t (j := 3) rfl (ex_t e07 s1) rfl) (ea_cons (ev_var rfl) ea_nil)))) (RetV.call fun H8 e8 Q E kk => ⟨x, nm, q, true, rfl, hP.ex (e07.trans e8), hn, ex_t (e07.trans e8) s3, kk⟩)) fun H8 e8 => k.go (e07.trans e8)
    | C wc =>
      obtain ⟨tt, p, q, r, u, rfl, s1, s2, s3, s4, s5⟩ := hs
      refine q_no (et_form (n := 3) hF rfl s1 (by simp) rfl (by decide +kernel)) fun H1 e1 => ?_
      refine q_no (et_bod rfl ⟨ex_t e1 s1, by decide, by decide, by simp⟩) fun H2 e2 => ?_
      have e02 := e1.trans e2
      refine q_asg (v := .str "leaf") (lk e02 rfl rfl (ev_t (j := 1) rfl (ex_t e02 s1) rfl) s2 (.inl ⟨rfl, rfl⟩)) fun H3 e3 => ?_
      have e03 := e02.trans e3
      refine q_no (et_eqs (ev_t (j := 0) rfl (ex_t e03 s1) rfl) ev_c (by decide)) fun H4 e4 => ?_
      refine q_no (et_eqs (ev_t (j := 0) rfl (ex_t (e03.trans e4) s1) rfl) ev_c (by decide)) fun H5 e5 => ?_
      have e05 := (e03.trans e4).trans e5
      refine q_no (et_orF (et_test (ev_is (ev_inU (ev_var rfl) (eu_tup (ea_cons ev_c (ea_cons ev_c ea_nil)) (by simp)) rfl rfl) (by decide +kernel))) (et_eqs (ev_t (j := 0) rfl (ex_t e05 s1) rfl) ev_c (by decide))) fun H6 e6 => ?_
      have e06 := e05.trans e6
      refine q_no (et_eqs (ev_t (j := 0) rfl (ex_t e06 s1) rfl) ev_c (by decide)) fun H7 e7 => ?_
      have e07 := e06.trans e7
      exact s_ret (v := .bl true) (ev_meth (ev_var rfl) (e07 _ _ h1) (h2 _ (by decide +kernel)) (ea_cons (ev_var rfl) (ea_cons (ev_var rfl) (ea_cons (ev_t (j := 2) rfl (ex_t e07 s1) rfl) (ea_cons (ev_t (j := 3) rfl (ex_t e07 s1) rfl) ea_nil)))) (RetV.call fun H8 e8 Q E kk => ⟨x, nm, wc, q, r, u, rfl, hP.ex (e07.trans e8), hn, hw wc rfl, ex_t (e07.trans e8) s3, ex_t (e07.trans e8) s4, ex_t (e07.trans e8) s5, kk⟩)) fun H8 e8 => k.go (e07.trans e8)
end
end Cp

/-! zip of a tuple and a list. -/
namespace GN
open PySem PySem.Spec PyProof.Rows L2
/-- the tuple at a and the list at b, the items in new pairs -/
def ItzM (K : PySem.W.Frag) (a b : Addr) : It :=
  ⟨fun i H => ∃ (xs ys : List V) (x y : V), SqT K H a xs ∧ SqL K H b ys ∧ xs[i]? = some x ∧ ys[i]? = some y,
    fun i H v H' => ∃ T x y, v = .ref T ∧ H T = none ∧ H' = upd H T (.tup [x, y]) ∧ (∀ xs, SqT K H a xs → xs[i]? = some x) ∧ ∀ ys, SqL K H b ys → ys[i]? = some y,
    fun i H => ∃ xs ys : List V, SqT K H a xs ∧ SqL K H b ys ∧ i ≤ xs.length ∧ i ≤ ys.length ∧ (i = xs.length ∨ i = ys.length)⟩
theorem turn_zipM {P : Program} {w : World} {K : PySem.W.Frag} {elts : List Expr} {kk : Nat} {tpos : Pos} {a b z TI TO i1 i2 : Addr} (S : ZipSep2 z TI TO i1 i2 [i1, a] [i2, b]) (ha : a ≠ i1) (hb : b ≠ i2) :
    Turn P w K (.Tuple elts kk tpos) (ItzM K a b) [z, TI, TO, i1, i2] z (fun i h => IsZip h z TI TO .none ∧ IsTupOf2 h TI (.ref i1) (.ref i2) ∧ (∃ x y, IsTupOf2 h TO x y) ∧ h.IsTupleIter i1 a i ∧ h.IsListIter i2 b i) where
  mem := by simp
  obj := fun i h st c hc => by
    obtain ⟨hz, hTI, ⟨x, y, hTO⟩, ⟨o1, e1, _, d1⟩, ⟨o2, e2, _, d2⟩⟩ := st
    rcases (by simpa using hc : c = z ∨ c = TI ∨ c = TO ∨ c = i1 ∨ c = i2) with q | q | q | q | q
    · subst q; exact ⟨_, hz, fun v q => nomatch q⟩
    · subst q; exact ⟨_, hTI, fun v q => nomatch q⟩
    · subst q; exact ⟨_, hTO, fun v q => nomatch q⟩
    · exact ⟨o1, q ▸ e1, fun v q => by rw [d1] at q; cases q⟩
    · exact ⟨o2, q ▸ e2, fun v q => by rw [d2] at q; cases q⟩
  keep := fun i h h' st k => by
    obtain ⟨hz, hTI, ⟨x, y, hTO⟩, h1, h2⟩ := st
    exact ⟨k z (by simp) _ hz, k TI (by simp) _ hTI, ⟨x, y, k TO (by simp) _ hTO⟩, h1.at fun o q => k i1 (by simp) o q, h2.at fun o q => k i2 (by simp) o q⟩
  item := by
    intro X hP hw hK hc i pins s σ H E I hf st hg
    subst hP hw hK
    obtain ⟨hz, hTI, ⟨x0, y0, hTO⟩, h1, h2⟩ := st
    obtain ⟨xs, ys, x, y, hqx, hqy, hx, hy⟩ := hg
    obtain ⟨its, rv, p, _⟩ := I.tuple hqx
    obtain ⟨its2, rv2, p2, _⟩ := I.list hqy
    obtain ⟨u, hu, ru⟩ := rv.get hx
    obtain ⟨u2, hu2, ru2⟩ := rv2.get hy
    have hzl : z < s.heap.objs.size := Heap.lt_size hz
    have l1 := (List.getElem?_eq_some_iff.mp hu).1
    have l2 := (List.getElem?_eq_some_iff.mp hu2).1
    refine wpAny_pyNext_zipD2_item S (Draws.tuple (A := X.A.in1) (I.ok.hd hc) i1 a ha its.toArray) (Draws.list (A := X.A.in1) (I.ok.hd hc) i2 b hb its2.toArray) hz hTI hTO ⟨h1, p⟩ ⟨h2, p2.isList⟩ (by simpa using l1) (by simpa using l2) fun v1 v2 h' tk q1 q2 z' TO' g1 g2 hT hsz hk => ?_
    have e1 : v1 = u := by
      have q1 : its.toArray[i]? = some v1 := q1
      rw [List.getElem?_toArray, hu] at q1
      exact (Option.some.inj q1).symm
    have e2 : v2 = u2 := by
      have q2 : its2.toArray[i]? = some v2 := q2
      rw [List.getElem?_toArray, hu2] at q2
      exact (Option.some.inj q2).symm
    subst e1 e2
    refine ⟨_, rfl, wpAny_letOwnedTupleGo_zip (s := { s with heap := h', toks := tk }) z' fun h'' z'' sb => ?_⟩
    have hT2 : h''.get? s.heap.objs.size = some { cls := .type "tuple", data := .seq #[v1, v2] } := (sb.2 _ (Nat.ne_of_gt hzl)).trans hT
    have new : ObjOk X.prog X.w (upd H s.heap.objs.size (.tup [x, y])) h'' s.heap.objs.size (.tup [x, y]) := ⟨by show 2 ≤ sizeLine; decide, [v1, v2], .cons ru (.cons ru2 .nil), ⟨_, hT2, rfl, _, rfl⟩⟩
    have I1 : Inv X pins σ (upd H s.heap.objs.size (.tup [x, y])) { s with heap := h'', toks := tk } :=
      I.turnedNew (ch := [z, TI, TO, i1, i2]) (fun c o hb q => (sb.2 c (fun q' => hb (by simp [q']))).trans (hk c o (fun q' => hb (by simp [q'])) (fun q' => hb (by simp [q'])) (fun q' => hb (by simp [q'])) (fun q' => hb (by simp [q'])) q)) hf (Nat.le_refl _) new
    refine ⟨.ref s.heap.objs.size, _, I1, rfl, ⟨_, x, y, rfl, I.hok.fresh (Nat.le_refl _), rfl, fun l hl => by rw [I.tuple_inj hl hqx]; exact hx, fun l hl => by rw [I.list_inj hl hqy]; exact hy⟩, ⟨z'', ?_, ⟨v1, v2, ?_⟩, ?_, ?_⟩, fun c hcm => ?_⟩
    · exact (sb.2 _ S.TIz).trans (hk _ _ S.TIz S.TITO S.TIi1 S.TIi2 hTI)
    · exact (sb.2 _ S.TOz).trans TO'
    · exact g1.1.at fun o q => (sb.2 _ (Ne.symm S.zi1)).trans q
    · exact g2.1.at fun o q => (sb.2 _ (Ne.symm S.zi2)).trans q
    · have hlt : c < s.heap.objs.size := by
        rcases (by simpa using hcm : c = z ∨ c = TI ∨ c = TO ∨ c = i1 ∨ c = i2) with q | q | q | q | q
        · exact q ▸ hzl
        · exact q ▸ Heap.lt_size hTI
        · exact q ▸ Heap.lt_size hTO
        · obtain ⟨_, w1, _⟩ := h1; exact q ▸ Heap.lt_size w1
        · obtain ⟨_, w2, _⟩ := h2; exact q ▸ Heap.lt_size w2
      rw [upd_ne (Nat.ne_of_lt hlt)]
      exact (hf c hcm).1
  done := by
    intro X hP hw hK hc i pins s σ H E I hf st hg
    subst hP hw hK
    obtain ⟨hz, hTI, ⟨x0, y0, hTO⟩, h1, h2⟩ := st
    obtain ⟨xs, ys, hqx, hqy, le1, le2, hend⟩ := hg
    obtain ⟨its, rv, p, _⟩ := I.tuple hqx
    obtain ⟨its2, rv2, p2, _⟩ := I.list hqy
    have l1 := rv.length
    have l2 := rv2.length
    refine wpAny_pyNext_zipD2_end S (Draws.tuple (A := X.A.in1) (I.ok.hd hc) i1 a ha its.toArray) (Draws.list (A := X.A.in1) (I.ok.hd hc) i2 b hb its2.toArray) hz hTI hTO ⟨h1, p⟩ ⟨h2, p2.isList⟩ (by simp; omega) (by simp; omega) (by simp; omega) fun h' tk hk => ⟨rfl, I.turnedL (t' := tk) (ch := [z, TI, TO, i1, i2]) (fun c o hb q => ?_) hf⟩
    exact hk c o (fun q' => hb (by simp [q'])) (fun q' => hb (by simp [q'])) (fun q' => hb (by simp [q'])) (fun q' => hb (by simp [q'])) q
  self := fun A i s Q E st h => wpAny_pyIter_zip st.1 h
/-- zip(a tuple, a list) -/
def iZipM (K : PySem.W.Frag) (ta : TA) : TI := fun σ H R => ta σ H fun vs H1 => ∃ a b xs ys, vs = [.ref a, .ref b] ∧ SqT K H1 a xs ∧ SqL K H1 b ys ∧ R (ItzM K a b) H1
theorem pi_zipM {X : Cx} {e e2 : Expr} {ta : TA} {p pos tpos : Pos} {elts : List Expr} {kk : Nat} (hg : Gl X "zip") (hm : X.mg "zip" = none) (ha : PA X [e, e2] ta)
    (hs : starEach [e, e2] X.env = (false, eval e X.env) :: starEach [e2] X.env := by rfl) (hpl : (backTo pos (starEach [e2] X.env)).any (·.1) = false := by rfl) : PI X (.Tuple elts kk tpos) (.Call (.Name "zip" p) [e, e2] [] pos) (iZipM X.K ta) := by
  refine ⟨fun pins s σ H R I h => Call_ (ld_blt I hg hm PyProof.Rows.boot_zip (PyProof.Rows.callWith_type1 (thn (ha.run pos pins s σ H _ I h) fun us s1 ⟨vs, H1, I1, r1, q1⟩ => ?_) hs hpl))⟩
  obtain ⟨a, b, xs, ys, ex, hqx, hqy, q⟩ := q1
  subst ex
  cases r1 with
  | cons r rr =>
    cases rr with
    | cons r' rr =>
      cases rr
      cases r
      cases r'
      obtain ⟨its, rv, p1, _⟩ := I1.tuple hqx
      obtain ⟨its2, rv2, p2, _⟩ := I1.list hqy
      obtain ⟨o1, ho1, _⟩ := id p1
      have la : a < s1.heap.objs.size := Heap.lt_size ho1
      have lb : b < s1.heap.objs.size := p2.lt
      refine zip_begins2 (begins_tuple a its.toArray) (begins_list b its2.toArray) p1 p2.isList fun h' hz hTI hTO h1 h2 hsz hk => wpAny_pyIter_zip hz ?_
      refine ⟨s1.heap.objs.size + 4, [s1.heap.objs.size + 4, s1.heap.objs.size + 2, s1.heap.objs.size + 3, s1.heap.objs.size, s1.heap.objs.size + 1], _, _, H1, rfl, I1.kept (t' := s1.toks) hk, turn_zipM (zip_sep2 (fun c hc => by rw [List.mem_singleton.mp hc]; exact la) fun c hc => by rw [List.mem_singleton.mp hc]; exact lb) (Nat.ne_of_lt la) (Nat.ne_of_lt (Nat.lt_succ_of_lt lb)), ⟨hz, hTI, ⟨_, _, hTO⟩, ⟨_, h1, rfl, rfl⟩, ⟨_, h2, rfl, rfl⟩⟩, fun c hcm => ?_, q⟩
      have hle : s1.heap.objs.size ≤ c := by
        rcases (by simpa using hcm : c = s1.heap.objs.size + 4 ∨ c = s1.heap.objs.size + 2 ∨ c = s1.heap.objs.size + 3 ∨ c = s1.heap.objs.size ∨ c = s1.heap.objs.size + 1) with z | z | z | z | z <;> (rw [z]; first | exact Nat.le_add_right _ _ | exact Nat.le_refl _)
      exact I1.fpOk hle (I1.hok.fresh hle)
theorem walk_zipM {K : PySem.W.Frag} {a b : Addr} {xs ys : List V} {n : Nat} (h1 : xs.length = n) (h2 : ys.length = n) : Walk (ItzM K a b) n (fun H => SqT K H a xs ∧ SqL K H b ys) (YPair (fun i => xs[i]?) fun i => ys[i]?) :=
  ⟨fun i _ hi q => ⟨xs, ys, xs[i], ys[i], q.1, q.2, by simp, by simp⟩, fun _ q => ⟨xs, ys, q.1, q.2, by omega, by omega, .inl h1.symm⟩, fun i H v H' hi q ⟨T, x, y, a1, a2, a3, a4, a5⟩ => ⟨T, x, y, a1, a2, a3, a4 xs q.1, a5 ys q.2⟩⟩
end GN

namespace Cp
open PySem PySem.Spec PyProof.Rows L2 Evl GN GZ
section
variable {K : PySem.W.Frag} {σ : L2.St} {H : Hp}
theorem g_nest2 {i j m n : Nat} {T t u : Addr} {a b c d : V} {Q : L2.St → Hp → Prop} (hT : SqT K H T [.ref t, .ref u]) (ht : SqT K H t [a, b]) (hu : SqT K H u [c, d]) (k : Q ((((σ.set i (some a)).set j (some b)).set m (some c)).set n (some d)) H) :
    gTup K 2 (gCons (gTup K 2 (gCons (gName i) (gCons (gName j) gNil))) (gCons (gTup K 2 (gCons (gName m) (gCons (gName n) gNil))) gNil)) (.ref T) σ H Q :=
  ⟨T, _, rfl, hT, rfl, .ref t, _, rfl, t, _, rfl, ht, rfl, a, _, rfl, b, _, rfl, rfl, .ref u, _, rfl, u, _, rfl, hu, rfl, c, _, rfl, d, _, rfl, rfl, rfl, k⟩
/-- [te for g in zip(one, one)] -/
theorem el_lcZ1 {ta : TA} {te : TE} {g : L2.TG} {vs : List Nat} {a b : Addr} {v u z : V} (h : EvA ta σ H [.ref a, .ref b]) (hx : SqT K H a [v]) (hy : SqL K H b [u])
    (turn : ∀ T H1, Ex H H1 → H1 T = some (.tup [v, u]) → ∀ Q : L2.St → Hp → Prop, (∀ σ2, wipe σ2 vs = wipe σ vs → Ev te σ2 H z → Q σ2 H1) → g (.ref T) (wipe σ vs) H1 Q) : EvL (tLc (iZipM K ta) g tYes te vs) σ H [z] := by
  have el : EvN (tLc (iZipM K ta) g tYes te vs) σ H (ixs 1 fun _ => true) (fun k y _ => y = z) := by
    refine en_lc (fun _ => true) (Y := YPair (fun i => [v][i]?) fun i => [u][i]?) ⟨ItzM K a b, fun H => SqT K H a [v] ∧ SqL K H b [u], walk_zipM rfl rfl, fun H1 e => ⟨ex_t e hx, ex_l e hy⟩, fun H1 e R q => h H1 e _ fun H2 e2 => ⟨a, b, [v], [u], rfl, ex_t (e.trans e2) hx, ex_l (e.trans e2) hy, q H2 e2⟩⟩ (by decide) fun i x H1 H2 hi e y => ?_
    obtain ⟨T, x1, y1, rfl, hT, rfl, q1, q2⟩ := y
    have hi : i = 0 := by omega
    subst hi
    have e1 : v = x1 := Option.some.inj q1
    have e2 : u = y1 := Option.some.inj q2
    subst e1 e2
    have eT : Ex H1 (upd H1 T (.tup [v, u])) := Ex.new hT
    exact ⟨eT, fun Q q => turn T _ (e.trans eT) upd_same Q fun σ2 hw hv => q σ2 _ (Ex.refl _) hw et_yes fun _ H4 e4 Q2 q2 => hv H4 ((e.trans eT).trans e4) Q2 fun H5 e5 => q2 z H5 e5 fun _ _ => rfl⟩
  exact EvN.vals el
end
def Ncf : List Str := ["self", "name", "target", "called", "sources", "takes", "path", "give", "one", "kind"]
theorem sc_cf : FnScope Ncf ["self", "name", "target", "called", "sources"] (defScope (mP 10)) := ⟨rfl, rfl, rfl, by decide +kernel, rfl, by decide +kernel, by decide +kernel⟩
section
variable {P : Program} {w : World} {K : PySem.W.Frag} {mg : Str → Option Value} {base : Heap} {f : Addr} {fd : FuncData} {C CK : Addr}
theorem ok_cf {fI fS : Addr} {fdI fdS : FuncData} (F : MeP K "call_fits" "Program.call_fits" (mP 10) f fd) (pc : PC K C) (mI : Meth K C "kinds_in" fI) (GI : FnOk P w K mg base CX0 1 fI fdI ["self", "name"] (spKin C CK)) (bI : Binds K fdI ["self", "name"] [])
    (mS : Meth K C "source_fits" fS) (GS : FnOk P w K mg base CX0 5 fS fdS Nsf (spSf K C CK)) (bS : Binds K fdS Nsf []) (gL : mg "len" = none) (gA : mg "all" = none) (gZ : mg "zip" = none) : FnOk P w K mg base CX0 6 f fd ["self", "name", "target", "called", "sources"] (spCf K C CK) := by
  refine F.ok sc_cf (fun vs H Q E h => ?_) (fun cdv A outer s H vs Q E hr h => ?_)
  · obtain ⟨x, w, wc, q, r, u, rfl, _⟩ := h
    rfl
  · obtain ⟨x, nm, wc, q, r, u, rfl, hP, hn, hwc, s1, s2, s3, k⟩ := h
    obtain ⟨dx, fs, tb, sg, sgs, h1, h2, h3, h4, h5, h6, h7⟩ := hP.sgn
    obtain ⟨m, t, hm, hv, l1, l2, p1, p2, c1, c2, c3, c4, c5⟩ := h7 wc (.inr hwc)
    have hmf : m = false := by
      cases m with
      | false => rfl
      | true =>
        have := hm.mpr rfl
        subst this
        rcases hwc with h | h <;> exact absurd h (by decide +kernel)
    subst hmf
    refine ⟨_, pss_cons (by
        exact ps_if (PW.pt (pw_or (pt_cmp (pc_dnotin (hu1 hr) (pv 3) (pe_fld (pv 0) rfl))) (pw_or1 (pt_cmpR op_isN (pe_ix ix_tup (pe_dget (hu1 hr) (pe_fld (pv 0) rfl) (pv 3) (fun _ _ => rfl)) pe_int (fun _ _ => rfl)) pe_non (nomark _))))) (pss_one (ps_ret pe_bl)) pss_nil) <| pss_cons (by
        exact ps_asg (pe_ix ix_tup (pe_dget (hu1 hr) (pe_fld (pv 0) rfl) (pv 3) (fun _ _ => rfl)) pe_int (fun _ _ => rfl)) (pg_name (i := 5) sc_cf.nd rfl (Or.inl rfl))) <| pss_cons (by
        refine ps_if (PW.pt (pw_or (pt_cmpR op_ne (pe_callB call_len_seq (by rfl) gL PySem.boot_len (pa_cons (pv 4) pa_nil)) (pe_callB call_len_seq (by rfl) gL PySem.boot_len (pa_cons (pv 5) pa_nil)) (nomark _)) (pw_or1 (by
          exact pt_cmpR op_ne (pe_dget (hu1 hr) (pe_meth (pv 0) pc.cls mI GI (hr.mono (by decide)) bI .nil pass0 (pa_cons (pv 3) pa_nil)) (pe_ix ix_tup (pe_dget (hu1 hr) (pe_fld (pv 0) rfl) (pv 3) (fun _ _ => rfl)) pe_int (fun _ _ => rfl)) (fun _ _ => rfl)) (pv 2) (nomark _))))) (pss_one (ps_ret pe_bl)) pss_nil) <| pss_one (by
        refine ps_ret (pe_callB (cr_all rfl) (by rfl) gA boot_all (pa_cons (by
          exact pe_lc (own := [("path", 6), ("give", 7), ("one", 8), ("kind", 9)]) (g := gTup K 2 (gCons (gTup K 2 (gCons (gName 6) (gCons (gName 7) gNil))) (gCons (gTup K 2 (gCons (gName 8) (gCons (gName 9) gNil))) gNil))) (tt := tYes) (te := tMeth C "source_fits" (spSf K C CK) [] E0 (tVar 0) (tCons (tVar 1) (tCons (tVar 6) (tCons (tVar 7) (tCons (tVar 9) tNil))))) rfl sc_cf.nd (pi_zipM (by rfl) gZ (pa_cons (pv 4) (pa_cons (pv 5) pa_nil))) (blkOk_by (by kernel_rfl))
            (fun _ _ _ _ _ => pg_tup rfl (pgs_cons (pg_tup rfl (pgs_cons (pg_name (i := 6) sc_cf.nd rfl (Or.inl rfl)) (pgs_cons (pg_name (i := 7) sc_cf.nd rfl (Or.inl rfl)) pgs_nil))) (pgs_cons (pg_tup rfl (pgs_cons (pg_name (i := 8) sc_cf.nd rfl (Or.inl rfl)) (pgs_cons (pg_name (i := 9) sc_cf.nd rfl (Or.inl rfl)) pgs_nil))) pgs_nil))) (fun _ _ _ _ _ => pts_nil)
            (fun _ _ _ _ _ => by exact pe_meth (pv 0) pc.cls mS GS hr bS .nil pass0 (pa_cons (pv 1) (pa_cons (pv 6) (pa_cons (pv 7) (pa_cons (pv 9) pa_nil)))))) pa_nil))), ?_⟩
    have sg1 : ∀ {H' : Hp} {σ : L2.St}, Ex H H' → σ[0]? = some (some (.ref x)) → σ[3]? = some (some (.str wc)) → Ev (tDGet (tFld K (tVar 0) "signs") (tVar 3)) σ H' (.ref t) := fun e z0 z3 => ev_dget (k := .inr wc) (ev_fld (ev_var z0) (e _ _ h1) pc.cls pc.signs h5) (ev_var z3) (.inl (e _ _ h6)) hv
    have sgi : ∀ {H' : Hp} {σ : L2.St}, Ex H H' → σ[0]? = some (some (.ref x)) → σ[3]? = some (some (.str wc)) → ∀ {j : Nat} {y : V}, [V.ref l1, .ref l2, .str "x"][j]? = some y → Ev (tOp (rIxT K) (tDGet (tFld K (tVar 0) "signs") (tVar 3)) (tC (.int (j : Nat)))) σ H' y := fun {H' σ} e z0 z3 {j y} hj => ev_ixT (sg1 e z0 z3) ev_c (st_of (e _ _ c1)) (at_of rfl hj)
    refine q_no (et_orF (et_B (ev_is (ev_dnotin (k := .inr wc) (ev_var rfl) (ev_fld (ev_var rfl) h1 pc.cls pc.signs h5) (.inl h6)) (by rw [hv]; rfl))) (et_test (ev_op (x := .str "x") (y := .non) (z := .bl false) (sgi (Ex.refl _) rfl rfl (j := 2) rfl) ev_c fun H3 e3 Q q => ⟨rfl, q H3 (Ex.refl _)⟩))) fun H1 e1 => ?_
    refine q_asg (v := .ref l1) (sgi e1 rfl rfl (j := 0) rfl) fun H2 e2 => ?_
    have e02 := e1.trans e2
    refine q_no (et_orF (et_is (et_ne (ev_lenQ (ev_var rfl) (.inr (ex_t e02 s1))) (ev_lenQ (xs := [.ref p1]) (ev_var rfl) (.inl (sq_of (e02 _ _ c2)))) rfl) (by simp)) (et_nes (x := "leaf") (y := "leaf") (fun H3 e3 Q q => ?_) (ev_var rfl) (by simp))) fun H3 e3 => ?_
    · refine ⟨.ref x, rfl, x, dx, fs, rfl, (e02.trans e3) _ _ h1, h2 _ (by decide +kernel), .str wc, rfl, x, wc, rfl, hP.ex (e02.trans e3), .inr hwc, fun p H4 hp e4 hk => ?_⟩
      exact sgi ((e02.trans e3).trans e4) rfl rfl (j := 2) rfl H4 (Ex.refl _) _ fun H5 e5 => ⟨p, .str "leaf", rfl, .inl ⟨dXY, .inr "x", .inl (e5 _ _ hk), rfl, dXY_x.symm⟩, q H5 (e4.trans e5)⟩
    · have e03 := e02.trans e3
      refine s_ret (v := .bl true) (ev_is (ev_all (bs := [true]) (el_lcZ1 (v := .ref r) (u := .ref p1) (z := .bl true) (ea_cons (ev_var rfl) (ea_cons (ev_var rfl) ea_nil)) (ex_t e03 s1) (sq_of (e03 _ _ c2)) fun T H4 e4 hT Q q => g_nest2 (st_of hT) (ex_t (e03.trans e4) s2) (st_of ((e03.trans e4) _ _ c4)) (q _ rfl ?_))) rfl) fun H4 e4 => k.go (e03.trans e4)
      exact ev_meth (ev_var rfl) (e03 _ _ h1) (h2 _ (by decide +kernel)) (ea_cons (ev_var rfl) (ea_cons (ev_var rfl) (ea_cons (ev_var rfl) (ea_cons (ev_var rfl) ea_nil)))) (RetV.call fun H8 e8 Q E kk => ⟨x, nm, u, false, rfl, hP.ex (e03.trans e8), hn, ex_t (e03.trans e8) s3, kk⟩)
end
end Cp

namespace Cp
open PySem PySem.Spec PyProof.Rows L2 Evl GN GZ
/-- Kinds.__contains__ -/
theorem sc_kc : FnScope ["self", "name"] ["self", "name"] (defScope (mK 4)) := ⟨rfl, rfl, rfl, by decide +kernel, rfl, by decide +kernel, by decide +kernel⟩
def spKc (C : Addr) : Sp := fun vs H Q _ => ∃ x, vs = [.ref x, .str "leaf"] ∧ KindsOk H C x ∧ RetV (.bl true) H Q
section
variable {P : Program} {w : World} {K : PySem.W.Frag} {mg : Str → Option Value} {base : Heap} {f : Addr} {fd : FuncData} {C : Addr}
theorem ok_kc (F : MeP K "__contains__" "Kinds.__contains__" (mK 4) f fd) (kc : KC K C) : FnOk P w K mg base CX0 1 f fd ["self", "name"] (spKc C) := by
  refine F.ok sc_kc (fun vs H Q E h => ?_) (fun cdv A outer s H vs Q E hr h => ?_)
  · obtain ⟨x, rfl, _⟩ := h
    rfl
  · obtain ⟨x, rfl, ⟨dx, a, b, q, p, h1, h2, h3, h4⟩, k⟩ := h
    refine ⟨_, pss_one (by
      exact ps_ret (pe_cmp (pc_din (hu1 hr) (pv 1) (pe_fld (pv 0) rfl)))), ?_⟩
    exact s_ret (ev_is (ev_din (k := .inr "leaf") (ev_var rfl) (ev_fld (ev_var rfl) h1 kc.cls kc.forms rfl) (.inl h2)) rfl) fun H1 e1 => k.go e1
end
/-- x in o, by the class's own __contains__ -/
theorem own_in {M : Model} {A : Around} {E : Value → Shared → Prop} {s : Shared} {K : PySem.W.Frag} {x C f : Addr} {ox : Obj} {od : Option Obj} {v : Value} {Q : Value → Shared → Prop} (X : K.In s.heap) (I : PySem.W.InstAt s.heap x ox C od) (hs : PySem.W.findIn K (.ref C) "__contains__" = some (some (.ref f))) (hf : PySem.W.isFn K (.ref f) = true)
    (h : wpAny M A (call (.ref f) [.ref x, v]) (fun r s' => wpAny M A (truthy r) (fun b => Q (.bool b)) E s') E s) : wpAny M A (compareOp .In v (.ref x)) Q E s := by
  refine wpAny_bind ?_
  unfold contains
  refine wpAny_holding (wpAny_bind (wpAny_bind (I.type.here ((PySem.W.looks_findIn X hs).here ?_))))
  rw [if_neg (by simp)]
  exact wpAny_bind (PySem.W.unlessNone_K X I hs hf (wpAny_mono h (fun _ _ z => wpAny_mono z (fun _ _ z => wpAny_pure z) fun _ _ z => z) fun _ _ z => z))
theorem op_inOwn {X : Cx} {CX : CXT} {k : Nat} {C f : Addr} {fd : FuncData} {ps : List Str} {sp : Sp} {E : XK} (hs : PySem.W.findIn X.K (.ref C) "__contains__" = some (some (.ref f))) (hf : PySem.W.isFn X.K (.ref f) = true) (F : FnOk X.prog X.w X.K X.mg X.base CX k f fd ps sp) (hr : Room k X.A) (hb : Binds X.K fd ps []) (hx : Passes CX X E) :
    OpR X (compareOp .In) (fun x y H Q => ∃ a dx fs, y = .ref a ∧ H a = some (.ins C dx fs) ∧ sp [.ref a, x] H (fun v H2 => ∃ b, v = .bl b ∧ Q (.bl b) H2) E) := by
  intro pins s σ H x y v u Q I rx ry h
  obtain ⟨a, dx, fs, rfl, ha, q⟩ := h
  obtain rfl : u = Value.ref a := ry
  obtain ⟨mA, O, _⟩ := ins_get I.hok ha
  obtain ⟨od, Ia, _⟩ := O.look
  refine own_in I.kIn Ia hs hf (thn (run_fn (dvs := []) (ds := []) (vs := [.ref a, x]) (us := [.ref a, v]) F hr hb .nil hx I (.cons rfl (.cons rx .nil)) q) fun r s2 hh => ?_)
  obtain ⟨v2, H2, I2, r2, b, rfl, q2⟩ := hh
  obtain rfl : r = Value.bool b := r2
  exact wpAny_truthy_bool ⟨.bl b, H2, I2, rfl, q2⟩
end Cp

namespace Cp
open PySem PySem.Spec PyProof.Rows L2 Evl GN GZ
def Nhf : List Str := ["self", "at", "name", "takes", "has", "gives", "words", "one", "kind"]
theorem sc_hf : FnScope Nhf ["self", "at", "name", "takes", "has", "gives"] (defScope (mP 5)) := ⟨rfl, rfl, rfl, by decide +kernel, rfl, by decide +kernel, by decide +kernel⟩
/-- what a procedure's head holds: m: main -/
def HeadOk (K : PySem.W.Frag) (H : Hp) (m : Bool) (tk hs : Addr) (gv : V) : Prop := ∃ p1 p2, SqT K H tk (if m then [] else [.ref p1]) ∧ SqT K H hs (if m then [.ref p1, .ref p2] else [.ref p2]) ∧ SqT K H p1 [.str "x", .str "leaf"] ∧ SqT K H p2 [.str "y", .str "leaf"] ∧ gv = if m then .non else .str "x"
theorem HeadOk.ex {K : PySem.W.Frag} {H H' : Hp} {m : Bool} {tk hs : Addr} {gv : V} (e : Ex H H') : HeadOk K H m tk hs gv → HeadOk K H' m tk hs gv
  | ⟨p1, p2, a, b, c, d, f⟩ => ⟨p1, p2, ex_t e a, ex_t e b, ex_t e c, ex_t e d, f⟩
/-- b: the name is a word -/
def spHf (K : PySem.W.Frag) (C CK : Addr) : Sp := fun vs H Q _ => ∃ x a nm tk hs gv dx fs tb sg sgs, vs = [.ref x, .int (a : Nat), .str nm, .ref tk, .ref hs, gv] ∧ H x = some (.ins C dx fs) ∧ fs.lookup ("table" : Str) = some (V.ref tb) ∧ KindsOk H CK tb ∧ fs.lookup ("signs" : Str) = some (V.ref sg) ∧ H sg = some (.dK sgs) ∧
  HeadOk K H (decide (a = 0)) tk hs gv ∧ 1 ≤ nm.length ∧ nm.length ≤ 6 ∧ (isW nm = true → valV sgs (.inr nm) = none) ∧ RetV (.bl (isW nm)) H Q
section
variable {K : PySem.W.Frag} {σ : L2.St} {H : Hp}
/-- [te for g in a new list] -/
theorem el_lcP {tl te : TE} {g : L2.TG} {vs : List Nat} {xs : List V} (zs : Nat → V) (h : EvL tl σ H xs) (hz : xs.length ≤ 1000)
    (turn : ∀ (n : Nat) x H1, xs[n]? = some x → Ex H H1 → ∀ Q : L2.St → Hp → Prop, (∀ σ2, wipe σ2 vs = wipe σ vs → Ev te σ2 H (zs n) → Q σ2 H1) → g x (wipe σ vs) H1 Q) : EvL (tLc (iList K tl) g tYes te vs) σ H ((List.range xs.length).map zs) := fun H0 e0 Q q =>
  h H0 e0 _ fun a H1 ha e1 hx => ⟨a, rfl, ⟨xs, sq_of hx⟩, fun D hD => lc_it walk_list (fun i H' => Ex H1 H' ∧ H' D = some (.lst ((List.range i).map zs))) ⟨Ex.new hD, upd_same⟩ (fun i H' _ p => sq_of (p.1 a _ hx)) (fun i x H' H2 hi p y => by
    obtain ⟨rfl, hy⟩ := y
    refine turn i x H2 hy ((e0.trans e1).trans p.1) _ fun σ2 hw hv => ⟨hw, ?_⟩
    show te σ2 H2 _
    refine hv H2 ((e0.trans e1).trans p.1) _ fun H3 e3 => ⟨_, e3 D _ p.2, by rw [List.length_map, List.length_range]; exact sz_lt (by omega), Ex.mut (p.1.trans e3) hD, ?_⟩
    rw [upd_same, List.range_succ, List.map_append]
    rfl) fun H' p => q D H' (fresh_back e1 hD) (e1.trans p.1) p.2⟩
end
section
variable {P : Program} {w : World} {K : PySem.W.Frag} {mg : Str → Option Value} {base : Heap} {f : Addr} {fd : FuncData} {C CK : Addr}
theorem ok_hf {fW fC : Addr} {fdW fdC : FuncData} {t : Tok} (F : MeP K "head_fits" "Program.head_fits" (mP 5) f fd) (pc : PC K C) (GW : FnOk P w K mg base CX0 1 fW fdW ["text"] spWord) (gW : mg "is_word" = some (.ref fW)) (kW : PySem.W.keepIn K (.ref fW) = true) (bW : Binds K fdW ["text"] [])
    (hs : PySem.W.findIn K (.ref CK) "__contains__" = some (some (.ref fC))) (hf : PySem.W.isFn K (.ref fC) = true) (GC : FnOk P w K mg base CX0 1 fC fdC ["self", "name"] (spKc CK)) (bC : Binds K fdC ["self", "name"] [])
    (gL : mg "len" = none) (gA : mg "all" = none) (gS : mg "set" = none) (gI : mg "list" = none) (gN : mg "NAMES" = some (.int 4 t)) : FnOk P w K mg base CX0 2 f fd ["self", "at", "name", "takes", "has", "gives"] (spHf K C CK) := by
  refine F.ok sc_hf (fun vs H Q E h => ?_) (fun cdv A outer s H vs Q E hr h => ?_)
  · obtain ⟨x, a, nm, tk, hs, gv, dx, fs, tb, sg, sgs, rfl, _⟩ := h
    rfl
  · obtain ⟨x, a, nm, tk, hs', gv, dx, fs, tb, sg, sgs, rfl, h1, h2, h3, h4, h5, h6, h7, h8, h9, k⟩ := h
    refine ⟨_, pss_cons (by
        refine ps_if (PW.pt (pw_or (pt_not (pt_val (by
          exact pe_call GW hr (by rfl) gW kW bW .nil pass0 (pa_cons (pv 2) pa_nil)) (by intro _; rfl))) (pw_or (pt_cmp (by
          exact pc_din (hu1 hr) (pv 2) (pe_fld (pv 0) rfl))) (pw_or1 (by
          exact pt_cmpR op_gt (pe_op op_add (pe_callB call_len_seq (by rfl) gL PySem.boot_len (pa_cons (pv 3) pa_nil)) (pe_callB call_len_seq (by rfl) gL PySem.boot_len (pa_cons (pv 4) pa_nil))) (pe_glob (v := .int 4) (by rfl) gN ⟨_, rfl⟩) (by rfl)))))) (pss_one (ps_ret pe_bl)) pss_nil) <| pss_cons (by
        exact ps_setLc (i := 6) (own := [("one", 7), ("kind", 8)]) (g := gTup K 2 (gCons (gName 7) (gCons (gName 8) gNil))) (tt := tYes) (te := tVar 7) rfl sc_hf.nd rfl rfl rfl (pi_list (by exact pe_op op_cat (pe_callTy call_list_of (by rfl) gI boot_list (pa_cons (pv 3) pa_nil)) (pe_callTy call_list_of (by rfl) gI boot_list (pa_cons (pv 4) pa_nil)))) (blkOk_by (by kernel_rfl)) (fun _ _ _ _ _ => pg_tup rfl (pgs_cons (pg_name (i := 7) sc_hf.nd rfl (Or.inl rfl)) (pgs_cons (pg_name (i := 8) sc_hf.nd rfl (Or.inl rfl)) pgs_nil))) (fun _ _ _ _ _ => pts_nil) (fun _ _ _ _ _ => by exact pv 7)) <| pss_cons (by
        refine ps_if (PW.pt (pw_or (pt_not (pt_val (pe_callB (cr_all rfl) (by rfl) gA boot_all (pa_cons (by
          exact pe_lc (own := [("one", 7)]) (g := gName 7) (tt := tYes) (te := tAndV (tCall spWord [] E0 (tCons (tVar 7) tNil)) (tOp rNe (tVar 7) (tC (.str "give")))) rfl sc_hf.nd (pi_list (pv 6)) (blkOk_by (by kernel_rfl)) (fun _ _ _ _ _ => pg_name (i := 7) sc_hf.nd rfl (Or.inl rfl)) (fun _ _ _ _ _ => pts_nil) (fun _ _ _ _ _ => by exact pe_and (pe_call GW hr (by rfl) gW kW bW .nil pass0 (pa_cons (pv 7) pa_nil)) (pe_one (pe_cmpR op_ne (pv 7) pe_str (nomark _))))) pa_nil)) (by intro _; rfl))) (pw_or1 (by
          exact pt_cmpR op_lt (pe_lenSetS (by rfl) gL (by rfl) gS (pv 6)) (pe_callB call_len_seq (by rfl) gL PySem.boot_len (pa_cons (pv 6) pa_nil)) (nomark _))))) (pss_one (ps_ret pe_bl)) pss_nil) <| pss_cons (by
        refine ps_if (pt_not (pt_val (pe_callB (cr_all rfl) (by rfl) gA boot_all (pa_cons (by
          exact pe_lc (own := [("one", 7), ("kind", 8)]) (g := gTup K 2 (gCons (gName 7) (gCons (gName 8) gNil))) (tt := tYes) (te := tOp (fun x y H Q => ∃ a dx fs, y = .ref a ∧ H a = some (.ins CK dx fs) ∧ spKc CK [.ref a, x] H (fun v H2 => ∃ b, v = .bl b ∧ Q (.bl b) H2) E0) (tVar 8) (tFld K (tVar 0) "table")) rfl sc_hf.nd (pi_list (by exact pe_op op_cat (pe_callTy call_list_of (by rfl) gI boot_list (pa_cons (pv 3) pa_nil)) (pe_callTy call_list_of (by rfl) gI boot_list (pa_cons (pv 4) pa_nil)))) (blkOk_by (by kernel_rfl)) (fun _ _ _ _ _ => pg_tup rfl (pgs_cons (pg_name (i := 7) sc_hf.nd rfl (Or.inl rfl)) (pgs_cons (pg_name (i := 8) sc_hf.nd rfl (Or.inl rfl)) pgs_nil))) (fun _ _ _ _ _ => pts_nil) (fun _ _ _ _ _ => by exact pe_cmpR (op_inOwn hs hf GC hr bC pass0) (pv 8) (pe_fld (pv 0) rfl) (by rfl))) pa_nil)) (by intro _; rfl))) (pss_one (ps_ret pe_bl)) pss_nil) <| pss_one (by
        exact ps_ret (pe_ifExp (pt_cmpR op_eq (pv 1) pe_int (nomark _)) (pe_and (pe_cmpR op_eq (pe_callB call_len_seq (by rfl) gL PySem.boot_len (pa_cons (pv 3) pa_nil)) pe_int (nomark _)) (pe_one (pe_cmpR op_isN (pv 5) pe_non (nomark _)))) (pe_cmpR op_in_seq (pv 5) (pv 6) (by rfl)))), ?_⟩
    obtain ⟨p1, p2, g1, g2, g3, g4, g5⟩ := h6
    have wd : ∀ {σ : L2.St} {H' : Hp} {te : TE} {z : Str}, Ev te σ H' (.str z) → 1 ≤ z.length → z.length ≤ 6 → Ev (tCall spWord [] E0 (tCons te tNil)) σ H' (.bl (isW z)) := fun h h1 h6 => ev_call (ea_cons h ea_nil) (RetV.call fun H1 e Q E q => ⟨_, rfl, h1, h6, q⟩)
    cases hW : isW nm with
    | false =>
      rw [hW] at k
      refine q_yes (et_orT (et_is (et_not (et_B (ev_is (wd (ev_var rfl) h7 h8) (by rw [hW])))) rfl)) fun H1 e1 => ?_
      exact s_ret ev_c fun H2 e2 => k.go (e1.trans e2)
    | true =>
      rw [hW] at k
      have hcat : (if decide (a = 0) = true then ([] : List V) else [.ref p1]) ++ (if decide (a = 0) = true then [V.ref p1, .ref p2] else [.ref p2]) = [.ref p1, .ref p2] := by cases decide (a = 0) <;> rfl
      have hl2 : ((if decide (a = 0) = true then ([] : List V) else [.ref p1]).length : Int) + ((if decide (a = 0) = true then [V.ref p1, .ref p2] else [.ref p2]).length : Int) = 2 := by cases decide (a = 0) <;> rfl
      refine q_no (et_orF (et_is (et_not (et_B (ev_is (wd (ev_var rfl) h7 h8) (by rw [hW])))) rfl) (et_orF (et_B (ev_is (ev_din (k := .inr nm) (ev_var rfl) (ev_fld (ev_var rfl) h1 pc.cls pc.signs h4) (.inl h5)) (by rw [h9 hW]; rfl))) (et_test (ev_is (ev_op (x := .int 2) (y := .int 4) (ev_is (ev_op (ev_lenQ (ev_var rfl) (.inr g1)) (ev_lenQ (ev_var rfl) (.inr g2)) rv_I0) (by rw [hl2])) ev_c rv_I0) rfl)))) fun H1 e1 => ?_
      have both : ∀ {H' : Hp} {σ : L2.St}, Ex H H' → σ[3]? = some (some (.ref tk)) → σ[4]? = some (some (.ref hs')) → EvL (tOp rCat (tCB (fun xs H Q => ∃ p ys, xs = [.ref p] ∧ (SqL K H p ys ∨ SqT K H p ys) ∧ ∀ l, H l = none → Q (.ref l) (upd H l (.lst ys))) (tCons (tVar 3) tNil)) (tCB (fun xs H Q => ∃ p ys, xs = [.ref p] ∧ (SqL K H p ys ∨ SqT K H p ys) ∧ ∀ l, H l = none → Q (.ref l) (upd H l (.lst ys))) (tCons (tVar 4) tNil))) σ H' [.ref p1, .ref p2] := fun e z3 z4 => by
        have h := el_cat (el_of (ev_var z3) (.inr (ex_t e g1))) (el_of (ev_var z4) (.inr (ex_t e g2))) (by cases decide (a = 0) <;> simp)
        rw [hcat] at h
        exact h
      refine q_asgL (xs := [.str "x", .str "y"]) (el_lcP (fun n => if n = 0 then .str "x" else .str "y") (both e1 rfl rfl) (by simp) fun n y H2 hy e2 Q q => ?_) fun pw H2 hpw e2 hw2 => ?_
      · match n, hy with
        | 0, hy =>
          cases hy
          exact g_two (ex_t (e1.trans e2) g3) (q _ rfl (ev_var rfl))
        | 1, hy =>
          cases hy
          exact g_two (ex_t (e1.trans e2) g4) (q _ rfl (ev_var rfl))
        | n + 2, hy => simp at hy
      have e02 := e1.trans e2
      have two : ∀ (i : Nat) (y : V), i < 2 → [V.str "x", .str "y"][i]? = some y → y = .str "x" ∨ y = .str "y" := fun i y hi hy => by
        match i, hi with
        | 0, _ => exact .inl (Option.some.inj hy).symm
        | 1, _ => exact .inr (Option.some.inj hy).symm
      refine q_no ?_ fun H3 e3 => ?_
      · have el : EvN (tLc (iList K (tVar 6)) (gName 7) tYes (tAndV (tCall spWord [] E0 (tCons (tVar 7) tNil)) (tOp rNe (tVar 7) (tC (.str "give")))) [7]) [some (.ref x), some (.int (a : Nat)), some (.str nm), some (.ref tk), some (.ref hs'), some gv, some (.ref pw), none, none] H2 (ixs 2 fun _ => true) (fun k y _ => y = .bl true) := by
          refine en_lcN (fun _ => true) (ew_list (xs := [.str "x", .str "y"]) (ev_var rfl) (sq_of hw2)) (by decide) (fun i H1 x H2 y => y.1) (fun x => rfl) (fun i x H1 hi e y => et_yes) fun i y H1 hi e yy _ => ?_
          rcases two i y hi yy.2 with rfl | rfl
          · exact evp_v (ev_is (ev_andV (a := true) (b := true) (ev_is (wd (z := "x") (ev_var rfl) (by decide) (by decide)) (by rw [show isW "x" = true by decide +kernel])) fun _ => ev_is (ev_op (x := .str "x") (y := .str "give") (ev_var rfl) ev_c (rv_ne rfl)) (by decide +kernel)) rfl)
          · exact evp_v (ev_is (ev_andV (a := true) (b := true) (ev_is (wd (z := "y") (ev_var rfl) (by decide) (by decide)) (by rw [show isW "y" = true by decide +kernel])) fun _ => ev_is (ev_op (x := .str "y") (y := .str "give") (ev_var rfl) ev_c (rv_ne rfl)) (by decide +kernel)) rfl)
        have h2' := EvN.vals el
        refine et_orF (et_is (et_not (et_B (ev_all (bs := [true, true]) h2'))) rfl) (et_test (ev_is (ev_op (x := .int 2) (y := .int 2) (fun H3 e3 Q q => ⟨.ref pw, rfl, pw, ["x", "y"], rfl, ex_l e3 (sq_of hw2), by decide +kernel, by decide, q H3 (Ex.refl _)⟩) (ev_lenQ (ev_var rfl) (.inl (sq_of hw2))) rv_I0) rfl))
      have e03 := e02.trans e3
      refine q_no (et_is (et_not (et_B (ev_all (bs := [true, true]) (el_lcP (fun _ => .bl true) (both e03 rfl rfl) (by simp) fun n y H4 hy e4 Q q => ?_)))) rfl) fun H4 e4 => ?_
      · have key : ∀ {σ : L2.St}, σ[0]? = some (some (.ref x)) → σ[8]? = some (some (.str "leaf")) → Ev (tOp (fun x y H Q => ∃ a dx fs, y = .ref a ∧ H a = some (.ins CK dx fs) ∧ spKc CK [.ref a, x] H (fun v H2 => ∃ b, v = .bl b ∧ Q (.bl b) H2) E0) (tVar 8) (tFld K (tVar 0) "table")) σ H3 (.bl true) := fun z0 z8 => by
          refine ev_op (x := .str "leaf") (y := .ref tb) (ev_var z8) (ev_fld (ev_var z0) (e03 _ _ h1) pc.cls pc.table h2) fun H5 e5 Q q => ?_
          have hk := h3.ex (e03.trans e5)
          obtain ⟨kdx, ka, kb, kq, kp, k1, k2, k3, k4⟩ := id hk
          exact ⟨tb, kdx, _, rfl, k1, tb, rfl, hk, fun H6 e6 => ⟨true, rfl, q H6 e6⟩⟩
        match n, hy with
        | 0, hy =>
          cases hy
          exact g_two (ex_t (e03.trans e4) g3) (q _ rfl (key rfl rfl))
        | 1, hy =>
          cases hy
          exact g_two (ex_t (e03.trans e4) g4) (q _ rfl (key rfl rfl))
        | n + 2, hy => simp at hy
      · have e04 := e03.trans e4
        refine s_ret (v := .bl true) (ev_if (b := decide (a = 0)) (et_is (et_eq (ev_var rfl) ev_c rfl) (decide_eq_decide.mpr ⟨fun h => by have := V.int.inj h; omega, fun h => by rw [h]; rfl⟩)) (fun hb => ?_) fun hb => ?_) fun H5 e5 => k.go (e04.trans e5)
        · rw [hb] at g1 g5
          have g5 : gv = .non := g5
          subst g5
          exact ev_is (ev_andV (a := true) (b := true) (ev_is (ev_op (x := .int 0) (y := .int 0) (ev_lenQ (xs := []) (ev_var rfl) (.inr (ex_t e04 g1))) ev_c (rv_eq rfl)) (by simp)) fun _ => ev_op (x := .non) (y := .non) (z := .bl true) (ev_var rfl) ev_c fun H5 e5 Q q => ⟨rfl, q H5 (Ex.refl _)⟩) rfl
        · rw [hb] at g5
          have g5 : gv = .str "x" := g5
          subst g5
          exact ev_is (ev_op (ev_var rfl) (ev_var rfl) (rv_isL (xs := [.str "x", .str "y"]) (sq_of ((e3.trans e4) _ _ hw2)) rfl rfl)) (by decide +kernel)
end
end Cp

namespace Cp
open PySem PySem.Spec PyProof.Rows L2 Evl GN GZ
/-! ### plain_body -/
def spPlain (K : PySem.W.Frag) : Sp := fun vs H Q _ => ∃ v s H0, vs = [v] ∧ Ex H0 H ∧ IsS K H0 s v ∧ s.good = true ∧ ∀ v' H2, Ex H H2 → (∀ H3, Kp H0 H H2 H3 → IsS K H3 s v') → Q v' H2
def spBody (K : PySem.W.Frag) : Sp := fun vs H Q _ => ∃ a xs ss H0, vs = [.ref a] ∧ Ex H0 H ∧ Sq K H0 a xs ∧ IsB K H0 ss xs ∧ ss.all Sh.good = true ∧ ss.length ≤ 100 ∧ ∀ p ys H2, H p = none → Ex H H2 → H2 p = some (.tup ys) → (∀ H3, Kp H0 H H2 H3 → IsB K H3 ss ys) → Q (.ref p) H2
theorem sc_body : FnScope ["body", "statement"] ["body"] (defScope (top 48)) := ⟨rfl, rfl, rfl, by decide +kernel, rfl, by decide +kernel, by decide +kernel⟩
/-- return tuple(a new list told by El) -/
theorem s_retTup {K : PySem.W.Frag} {σ : L2.St} {H H0 : Hp} {te : TE} {D : Ends} {ks : List Nat} {El : Nat → V → Hp → Prop} (h : EvN te σ H0 ks El) (e0 : Ex H0 H)
    (k : ∀ l ys H2, H l = none → Ex H H2 → H2 l = some (.tup ys) → (∀ H3, Kp H0 H H2 H3 → Els El ks ys H3) → D.rt (.ref l) H2) :
    tRet (tCB (fun xs H Q => ∃ p ys, xs = [.ref p] ∧ ((SqL K H p ys ∧ ∀ l, H l = none → Q (.ref l) (upd H l (.tup ys))) ∨ (SqT K H p ys ∧ Q (.ref p) H))) (tCons te tNil)) D σ H := h H e0 _ fun p ys H1 hp e1 h1 z =>
  ⟨p, ys, rfl, .inl ⟨sq_of h1, fun l hl => k l ys _ (fresh_back e1 hl) (e1.trans (Ex.new hl)) upd_same fun H3 kk => z H3 ⟨kk.old, fun c o n hc => kk.new c o n (by rw [upd_ne (ne_of_none hc hl)]; exact hc)⟩⟩⟩
section
variable {P : Program} {w : World} {K : PySem.W.Frag} {mg : Str → Option Value} {base : Heap} {f : Addr} {fd : FuncData}
theorem ok_body {fP : Addr} {fdP : FuncData} (F : FnP K "plain_body" (top 48) [] f fd) (GP : FnOk P w K mg base CX0 2 fP fdP ["statement"] (spPlain K)) (gP : mg "plain_statement" = some (.ref fP)) (kP : PySem.W.keepIn K (.ref fP) = true) (bP : Binds K fdP ["statement"] []) (gT : mg "tuple" = none) :
    FnOk P w K mg base CX0 3 f fd ["body"] (spBody K) := by
  refine F.ok sc_body (fun vs H Q E h => ?_) (fun cdv A outer s H vs Q E hr h => ?_)
  · obtain ⟨a, xs, ss, H0, rfl, _⟩ := h
    rfl
  · obtain ⟨a, xs, ss, H0, rfl, e0, hs, hB, hg, hl, k⟩ := h
    refine ⟨_, pss_one (by
      refine ps_ret (pe_callTy call_tuple_of (by rfl) gT boot_tuple (pa_cons (by
        exact pe_lc (own := [("statement", 1)]) (g := gName 1) (tt := tYes) (te := tCall (spPlain K) [] E0 (tCons (tVar 1) tNil)) rfl sc_body.nd (pi_sq 0) (blkOk_by (by kernel_rfl)) (fun _ _ _ _ _ => pg_name (i := 1) sc_body.nd rfl (Or.inl rfl)) (fun _ _ _ _ _ => pts_nil) (fun _ _ _ _ _ => by exact pe_call GP hr (by rfl) gP kP bP .nil pass0 (pa_cons (pv 1) pa_nil))) pa_nil))), ?_⟩
    have hxl := hB.len
    have el : EvN (tLc (iSq K 0) (gName 1) tYes (tCall (spPlain K) [] E0 (tCons (tVar 1) tNil)) [1]) (start ["body", "statement"] [.ref a]) H0 (ixs xs.length fun _ => true) (fun i y H3 => ∀ s, ss[i]? = some s → IsS K H3 s y) := by
      refine en_lcN (fun _ => true) (ew_sq rfl hs) (by omega) (fun i H1 x H2 y => y.1) (fun x => rfl) (fun i x H1 hi e y => et_yes) fun i x H1 hi e y _ => ?_
      obtain ⟨s, hsi, hx⟩ := hB.at y.2
      have hgs : s.good = true := List.all_eq_true.mp hg s (List.mem_of_getElem? hsi)
      intro H2 e2 Q q
      refine ⟨x, rfl, x, s, H0, rfl, e2, hx, hgs, fun v' H3 e3 z => q v' H3 e3 fun H4 kk s' hs' => ?_⟩
      rw [hsi] at hs'
      cases hs'
      exact z H4 kk
    refine s_retTup el e0 fun l ys H2 hl' e2 h2 z => k l ys H2 hl' e2 h2 fun H3 kk => ?_
    obtain ⟨z1, z2⟩ := z H3 kk
    rw [ixs_all] at z1 z2
    rw [List.length_range] at z1
    refine IsB.of (by omega) fun i s y hs' hy => z2 i i y ?_ hy s hs'
    have := (List.getElem?_eq_some_iff.mp hy).1
    rw [List.getElem?_range (by omega)]
end
end Cp

/-! a, *b = a tuple. -/
namespace GN
open PySem PySem.Spec PySem.Calls PyProof.Rows PySem.W
section
variable {prog : Program} {w : World} {A : Around} {E : Value → Shared → Prop} {s : Shared}
theorem unpack_star {l : Addr} {items : Array Value} {x : Value} {rest : List Value} {Q : List Value → Shared → Prop} (hl : IsTup s.heap l items) (hh : A.handled = none) (hx : items.toList = x :: rest) (hz : items.size ≤ 16384)
    (h : ∀ h' tk, (∀ b o, s.heap.get? b = some o → h'.get? b = some o) → wpAny (model prog w) A (newList rest) (fun d => Q [x, d]) E { s with heap := h', toks := tk }) : wpAny (model prog w) A (unpackItems (.ref l) 2 (some 1)) Q E s := by
  have hsz : items.size = rest.length + 1 := by rw [← Array.length_toList, hx, List.length_cons]
  have hlt : l ≠ s.heap.objs.size := by
    obtain ⟨o, ho, _⟩ := hl
    exact Nat.ne_of_lt (Heap.lt_size ho)
  unfold unpackItems
  refine wpAny_bind ?_
  unfold notIterableAtAll
  refine wpAny_bind (wpAny_specialOf hl.typeIs slot_tuple_iter.lookup (wpAny_pure ?_))
  simp only [Bool.false_eq_true, if_false]
  refine wpAny_bind (wpAny_holding (iter_tuple hl ?_))
  refine wpAny_bind (wpAny_holding (draw_tuple hlt 1 0 _ _ ⟨_, Heap.get?_push_size _ rfl, rfl, rfl⟩ (hl.push _) (by omega) fun h₁ hit₁ hs₁ => ?_))
  have hl₁ : IsTup h₁ l items := (hl.push _).extBut hs₁.extBut hlt
  rw [Nat.zero_add] at hit₁
  obtain ⟨oi, hoi, _⟩ := id hit₁
  obtain ⟨ol, hol, _⟩ := id hl₁
  rw [List.drop_zero]
  have h1 : items.toList.take 1 = [x] := by rw [hx]; rfl
  have h2 : items.toList.drop 1 = rest := by rw [hx]; rfl
  rw [h1, if_neg (show ¬ ([x].length < 1) by simp)]
  refine wpAny_bind (wpAny_holding (kun_collect (s := { s with heap := h₁ }) (T := "tuple_iterator") (.inr (.inr (.inr rfl))) (Walks.tuple (A := A.in1) hh s.heap.objs.size l hlt items) (fun j u st => st.1.typeIs) (k := 1) (by omega) ⟨hit₁, hl₁⟩ (Heap.lt_size hoi) (Heap.lt_size hol) (fun h₂ tk hk => ?_) (by rw [sizeLine_eq]; omega)))
  rw [h2]
  show wpAny _ _ (if rest.length < 2 - 1 - 1 then _ else _) _ E _
  rw [if_neg (by omega)]
  show wpAny _ _ (newList (rest.take (rest.length - 0)) >>= fun d => pure ([x] ++ [d] ++ rest.drop (rest.length - 0))) _ E _
  rw [Nat.sub_zero, List.take_length, List.drop_length]
  have he : ∀ b o, s.heap.get? b = some o → h₂.get? b = some o := fun b o e => by
    have hb : b ≠ s.heap.objs.size := Nat.ne_of_lt (Heap.lt_size e)
    exact hk b o hb (hs₁.extBut b o hb (Heap.get?_push_of_some _ e))
  exact wpAny_bind (wpAny_mono (h h₂ tk he) (fun d s' q => wpAny_pure q) fun _ _ z => z)
end
open L2 in
/-- a, *b = t: a in slot i, the rest as a new list in slot j -/
def gStar (K : PySem.W.Frag) (i j : Nat) : L2.TG := fun v σ H Q => ∃ a x xs, v = .ref a ∧ SqT K H a (x :: xs) ∧ xs.length ≤ 1000 ∧ ∀ p, H p = none → Q ((σ.set i (some x)).set j (some (.ref p))) (upd H p (.lst xs))
open L2 in
theorem pg_star {X : Cx} {x1 x2 : Str} {p1 p2 p3 pos : Pos} {kk i j : Nat} (hc : X.calm = true) (hN : X.N.Nodup) (hi : X.N[i]? = some x1) (hj : X.N[j]? = some x2) (l1 : Loc X.env.scope x1) (l2 : Loc X.env.scope x2) (f1 : X.fn x1 = true ∨ X.env.scope.names.lookup x1 = some .local) (f2 : X.fn x2 = true ∨ X.env.scope.names.lookup x2 = some .local)
    (ha : ∀ v1 v2, assignInOrder ((assignEach [.Name x1 p1, .Starred (.Name x2 p2) p3] X.env).map (·.2)) [v1, v2] = assignInOrder ((assignEach [.Name x1 p1, .Name x2 p2] X.env).map (·.2)) [v1, v2] := by intro _ _; rfl)
    (hn : (assignEach [.Name x1 p1, .Starred (.Name x2 p2) p3] X.env).length = 2 := by rfl) (hst : (assignEach [.Name x1 p1, .Starred (.Name x2 p2) p3] X.env).findIdx? (·.1) = some 1 := by rfl) : PG X (.Tuple [.Name x1 p1, .Starred (.Name x2 p2) p3] kk pos) (gStar X.K i j) := by
  refine ⟨fun pins s σ H v u Q I r hw => ?_⟩
  obtain ⟨a, x, xs, rfl, hq, hl, q⟩ := hw
  obtain rfl : u = Value.ref a := r
  obtain ⟨its, rv, p, hz⟩ := I.tuple hq
  cases rv with
  | cons rx rr =>
    rename_i ux ur
    rw [assign_Tuple]
    refine wpAny_bind (wpAny_standAt ?_)
    unfold unpack
    rw [hn, hst]
    have lr := rr.length
    refine wpAny_bind (wpAny_holding (unpack_star (l := a) (items := (ux :: ur).toArray) (x := ux) (rest := ur) p (I.ok.hd hc) rfl (by simp; omega) fun h' tk hk => ?_))
    have I1 : Inv X pins σ H { s with heap := h', toks := tk } := I.kept hk
    have hsz : (ur.length : Nat) ≤ sizeLine := by rw [← lr]; exact Nat.le_trans hl (by decide)
    refine wpAny_newList ?_ hsz
    have hq2 := q h'.objs.size (I1.hok.fresh (Nat.le_refl _))
    have I2 : Inv X pins σ (upd H h'.objs.size (.lst xs)) { s with heap := h'.push { cls := .type "list", data := .seq ur.toArray }, toks := tk } := I1.laid (t' := tk) (fun b o e => Heap.get?_push_of_some _ e) (Nat.le_refl _) ⟨by rw [lr]; exact hsz, ur, 0, rr, Heap.get?_push_size _ rfl⟩
    rw [ha]
    exact (pgs_cons (X := X) (pg_name hN hi l1 f1) (pgs_cons (pg_name hN hj l2 f2) pgs_nil)).run pins _ σ _ [x, .ref h'.objs.size] _ Q I2 (.cons rx (.cons rfl .nil)) ⟨x, _, rfl, .ref h'.objs.size, _, rfl, rfl, hq2⟩
end GN

namespace Cp
open PySem PySem.Spec PyProof.Rows L2 Evl GN GZ
def Nps : List Str := ["statement", "word", "rest", "path", "give", "body"]
theorem sc_ps : FnScope Nps ["statement"] (defScope (top 47)) := ⟨rfl, rfl, rfl, by decide +kernel, rfl, by decide +kernel, by decide +kernel⟩
/-- tuple(x) -/
def rTup (K : PySem.W.Frag) : List V → Hp → VK → Prop := fun xs H Q => ∃ p ys, xs = [.ref p] ∧ ((SqL K H p ys ∧ ∀ l, H l = none → Q (.ref l) (upd H l (.tup ys))) ∨ (SqT K H p ys ∧ Q (.ref p) H))
theorem ev_tupT {K : PySem.W.Frag} {σ : L2.St} {H : Hp} {te : TE} {q : Addr} {xs : List V} (h : Ev te σ H (.ref q)) (hq : SqT K H q xs) : Ev (tCB (rTup K) (tCons te tNil)) σ H (.ref q) := fun H1 e Q k => h H1 e _ fun H2 e2 => ⟨q, xs, rfl, .inr ⟨ex_t (e.trans e2) hq, k H2 e2⟩⟩
theorem tup_tail {K : PySem.W.Frag} {σ : L2.St} {H B : Hp} {te : TE} {Pp : List V → Hp → Prop} {Q : List V → Hp → Prop} (h : EvB te σ B Pp) (e : Ex B H)
    (k : ∀ pl ys H7 l, H pl = none → Ex H H7 → H7 pl = some (.lst ys) → (∀ H3, Kp B H H7 H3 → Pp ys H3) → H7 l = none → Q [.ref l] (upd H7 l (.tup ys))) : tCons (tCB (rTup K) (tCons te tNil)) tNil σ H Q := h H e _ fun pl ys H7 n e7 h7 z => ⟨pl, ys, rfl, .inl ⟨sq_of h7, fun l hl => k pl ys H7 l n e7 h7 z hl⟩⟩
/-- [(a, b) for g in a tuple of one] -/
theorem en_lc1TT {K : PySem.W.Frag} {σ : L2.St} {H : Hp} {tl : TE} {ta : TA} {g : L2.TG} {vs : List Nat} {a : Addr} {v : V} {zs : List V} (hz : zs.length ≤ 1000) (h : Ev tl σ H (.ref a)) (hx : SqT K H a [v])
    (turn : ∀ H1, Ex H H1 → ∀ Q : L2.St → Hp → Prop, (∀ σ2, wipe σ2 vs = wipe σ vs → EvA ta σ2 H zs → Q σ2 H1) → g v (wipe σ vs) H1 Q) : EvB (tLc (iTup K tl) g tYes (tTup ta) vs) σ H (fun ys H3 => ∃ p, ys = [.ref p] ∧ H3 p = some (.tup zs)) := by
  have el : EvN (tLc (iTup K tl) g tYes (tTup ta) vs) σ H (ixs 1 fun _ => true) (fun k y H3 => ∃ p, y = .ref p ∧ H3 p = some (.tup zs)) := by
    refine en_lc (fun _ => true) (ew_tup h hx) (by decide) fun i x H1 H2 hi e y => ?_
    obtain ⟨rfl, hy⟩ := y
    have hi : i = 0 := by simpa using hi
    subst hi
    have ex : v = x := Option.some.inj hy
    subst ex
    refine ⟨Ex.refl _, fun Q q => turn H2 e Q fun σ2 hw hv => q σ2 H2 (Ex.refl _) hw et_yes fun _ H4 e4 Q2 q2 => ?_⟩
    exact hv H4 (e.trans e4) _ fun H5 e5 => ⟨sz_of (by omega), fun p hp => q2 (.ref p) _ (e5.trans (Ex.new hp)) fun H6 k => ⟨p, rfl, k.new p _ (fresh_back (e4.trans e5) hp) upd_same⟩⟩
  intro H1 e Q q
  refine el H1 e Q fun p ys H2 n e2 h2 z => q p ys H2 n e2 h2 fun H3 k => ?_
  obtain ⟨l1, l2⟩ := z H3 k
  match ys, l1 with
  | [y], _ =>
    obtain ⟨p', e1, e2⟩ := l2 0 0 y rfl rfl
    exact ⟨p', by rw [e1], e2⟩
section
variable {P : Program} {w : World} {K : PySem.W.Frag} {mg : Str → Option Value} {base : Heap} {f : Addr} {fd : FuncData}
theorem ok_ps (F : FnP K "plain_statement" (top 47) [] f fd) (gT : mg "tuple" = none) : FnOk P w K mg base CX0 2 f fd ["statement"] (spPlain K) := by
  refine F.ok sc_ps (fun vs H Q E h => ?_) (fun cdv A outer s H vs Q E hr h => ?_)
  · obtain ⟨v, s, H0, rfl, _⟩ := h
    rfl
  · obtain ⟨v, s, H0, rfl, e0, hs, hg, k⟩ := h
    have T : CallR (cxOf CX0 P w K mg base Nps "plain_statement" (defScope (top 47)) f cdv A outer ‹Shared› H E) (.type "tuple") (rTup K) := call_tuple_of
    refine ⟨_, pss_cons (by
        exact ps_asg (pv 0) (pg_star (i := 1) (j := 2) rfl sc_ps.nd rfl rfl (Or.inl rfl) (Or.inl rfl) (Or.inl rfl) (Or.inl rfl))) <| pss_cons (by
        exact ps_if (pt_cmpR op_eq (pv 1) pe_str (nomark _)) (pss_one (ps_ret (pe_tup (pa_cons (pv 1) (pa_cons (pe_callTy T (by rfl) gT boot_tuple (pa_cons (pe_ix ix_list (pv 2) pe_int (fun _ _ => rfl)) pa_nil)) (pa_cons (pe_callTy T (by rfl) gT boot_tuple (pa_cons (pe_ix ix_list (pv 2) pe_int (fun _ _ => rfl)) pa_nil)) (pa_cons (pe_ix ix_list (pv 2) pe_int (fun _ _ => rfl)) pa_nil))))))) pss_nil) <| pss_cons (by
        exact ps_if (pt_cmpR op_in_seq (pv 1) (pe_tup (pa_cons pe_str (pa_cons pe_str (pa_cons pe_str pa_nil)))) (by rfl)) (pss_one (ps_ret (pe_tup (pa_cons (pv 1) (pa_cons (pe_callTy T (by rfl) gT boot_tuple (pa_cons (pe_ix ix_list (pv 2) pe_int (fun _ _ => rfl)) pa_nil)) pa_nil))))) pss_nil) <| pss_cons (by
        refine ps_if (pt_cmpR op_eq (pv 1) pe_str (nomark _)) (pss_one (ps_ret (pe_tup (pa_cons (pv 1) (pa_cons (pe_callTy T (by rfl) gT boot_tuple (pa_cons (pe_ix ix_list (pv 2) pe_int (fun _ _ => rfl)) pa_nil)) (pa_cons (pe_ix ix_list (pv 2) pe_int (fun _ _ => rfl)) (pa_cons (by
          refine pe_callTy T (by rfl) gT boot_tuple (pa_cons (by
            exact pe_lc (own := [("path", 3), ("give", 4)]) (g := gTup K 2 (gCons (gName 3) (gCons (gName 4) gNil))) (tt := tYes) (te := tTup (tCons (tCB (rTup K) (tCons (tVar 3) tNil)) (tCons (tVar 4) tNil))) rfl sc_ps.nd (pi_tup (pe_ix ix_list (pv 2) pe_int (fun _ _ => rfl))) (blkOk_by (by kernel_rfl)) (fun _ _ _ _ _ => pg_tup rfl (pgs_cons (pg_name (i := 3) sc_ps.nd rfl (Or.inl rfl)) (pgs_cons (pg_name (i := 4) sc_ps.nd rfl (Or.inl rfl)) pgs_nil))) (fun _ _ _ _ _ => pts_nil) (fun _ _ _ _ _ => by exact pe_tup (pa_cons (pe_callTy (call_tuple_of (X := _)) (by rfl) gT boot_tuple (pa_cons (pv 3) pa_nil)) (pa_cons (pv 4) pa_nil)))) pa_nil)) pa_nil))))))) pss_nil) <| pss_no, ?_⟩
    cases s with
    | P =>
      obtain ⟨t, q, rfl, s1, s2⟩ := hs
      refine ⟨.ref t, rfl, t, .str "put", [.ref q], rfl, ex_t e0 s1, by simp, fun r hr => ?_⟩
      have er : Ex H (upd H r (.lst [.ref q])) := Ex.new hr
      have hr1 : SqL K (upd H r (.lst [.ref q])) r [.ref q] := sq_of upd_same
      refine q_no (et_eqs (x := "put") (y := "copy") (ev_var rfl) ev_c (by decide)) fun H2 e2 => ?_
      refine q_yes (et_test (ev_is (ev_inU (x := .str "put") (ev_var rfl) (eu_tup (ea_cons ev_c (ea_cons ev_c (ea_cons ev_c ea_nil))) (by simp)) rfl rfl) (by decide +kernel))) fun H3 e3 => ?_
      have e13 := e2.trans e3
      refine s_retU (xs := [.str "put", .ref q]) (eu_tup (ea_cons (ev_var rfl) (ea_cons (ev_tupT (ev_ixL (i := 0) (ev_var rfl) ev_c (ex_l e13 hr1) rfl) (ex_t (e0.trans (er.trans e13)) s2)) ea_nil)) (by simp)) fun p H4 hp e4 h4 => ?_
      exact k (.ref p) H4 ((er.trans e13).trans e4) fun H5 kk => ⟨p, q, rfl, st_of (kk.new p _ (fresh_back (er.trans e13) hp) h4), ex_t kk.old s2⟩
    | M =>
      obtain ⟨t, p, q, rfl, s1, s2, s3⟩ := hs
      refine ⟨.ref t, rfl, t, .str "copy", [.ref p, .ref q, .bl true], rfl, ex_t e0 s1, by simp, fun r hr => ?_⟩
      have er : Ex H (upd H r (.lst [.ref p, .ref q, .bl true])) := Ex.new hr
      have hr1 : SqL K (upd H r (.lst [.ref p, .ref q, .bl true])) r [.ref p, .ref q, .bl true] := sq_of upd_same
      refine q_yes (et_eqs (x := "copy") (y := "copy") (ev_var rfl) ev_c (by decide)) fun H2 e2 => ?_
      have e02 := e0.trans (er.trans e2)
      refine s_retU (xs := [.str "copy", .ref p, .ref q, .bl true]) (eu_tup (ea_cons (ev_var rfl) (ea_cons (ev_tupT (ev_ixL (i := 0) (ev_var rfl) ev_c (ex_l e2 hr1) rfl) (ex_t e02 s2)) (ea_cons (ev_tupT (ev_ixL (i := 1) (ev_var rfl) ev_c (ex_l e2 hr1) rfl) (ex_t e02 s3)) (ea_cons (ev_ixL (i := 2) (ev_var rfl) ev_c (ex_l e2 hr1) rfl) ea_nil)))) (by simp)) fun p' H4 hp e4 h4 => ?_
      exact k (.ref p') H4 ((er.trans e2).trans e4) fun H5 kk => ⟨p', p, q, rfl, st_of (kk.new p' _ (fresh_back (er.trans e2) hp) h4), ex_t kk.old s2, ex_t kk.old s3⟩
    | C wc =>
      obtain ⟨t, p, q, r1, u, rfl, s1, s2, s3, s4, s5⟩ := hs
      refine ⟨.ref t, rfl, t, .str "call", [.ref p, .str wc, .ref q], rfl, ex_t e0 s1, by simp, fun r hr => ?_⟩
      have er : Ex H (upd H r (.lst [.ref p, .str wc, .ref q])) := Ex.new hr
      refine q_no (et_eqs (x := "call") (y := "copy") (ev_var rfl) ev_c (by decide)) fun H2 e2 => ?_
      refine q_no (et_test (ev_is (ev_inU (x := .str "call") (ev_var rfl) (eu_tup (ea_cons ev_c (ea_cons ev_c (ea_cons ev_c ea_nil))) (by simp)) rfl rfl) (by decide +kernel))) fun H3 e3 => ?_
      refine q_yes (et_eqs (x := "call") (y := "call") (ev_var rfl) ev_c (by decide)) fun H4 e4 => ?_
      have e14 := (e2.trans e3).trans e4
      have hr4 : H4 r = some (.lst [.ref p, .str wc, .ref q]) := e14 r _ upd_same
      have eH4 : Ex H H4 := er.trans e14
      have e04 := e0.trans eH4
      have tail : EvB (tLc (iTup K (tOp (rIxL K) (tVar 2) (tC (.int 2)))) (gTup K 2 (gCons (gName 3) (gCons (gName 4) gNil))) tYes (tTup (tCons (tCB (rTup K) (tCons (tVar 3) tNil)) (tCons (tVar 4) tNil))) [3, 4]) [some (.ref t), some (.str "call"), some (.ref r), none, none, none] (glue H0 H H4) (fun ys H3 => ∃ p, ys = [.ref p] ∧ H3 p = some (.tup [.ref u, .bl false])) := by
        refine en_lc1TT (a := q) (v := .ref r1) (by simp) (ev_ixL (i := 2) (ev_var rfl) ev_c (sq_of ((glue_new hr).trans hr4)) rfl) (ex_t (glue_old e0) s3) fun H5 e5 Q qq => g_two (ex_t ((glue_old e0).trans e5) s4) (qq _ rfl (ea_cons (ev_tupT (ev_var rfl) (ex_t (glue_old e0) s5)) (ea_cons (ev_var rfl) ea_nil)))
      refine ⟨.str "call", rfl, ev_tupT (ev_ixL (i := 0) (ev_var rfl) ev_c (sq_of hr4) rfl) (ex_t e04 s2) H4 (Ex.refl _) _ fun H5 e5 => ev_ixL (i := 1) (v := .str wc) (ev_var rfl) ev_c (sq_of (e5 _ _ hr4)) rfl H5 (Ex.refl _) _ fun H6 e6 => ?_⟩
      refine tup_tail tail ((glue_ex e0 eH4).trans (e5.trans e6)) fun pl ys H7 l hpl e7 hl7 z hl => ⟨sz_of (n := 4) (by decide), fun T hT => ?_⟩
      have eH6 : Ex H H6 := eH4.trans (e5.trans e6)
      have e7l : Ex H7 (upd H7 l (.tup ys)) := Ex.new hl
      have e7T := e7l.trans (Ex.new (o := .tup [.str "call", .ref p, .str wc, .ref l]) hT)
      refine k (.ref T) _ ((eH6.trans e7).trans e7T) fun H8 kk => ?_
      obtain ⟨pr, rfl, hpr⟩ := z H8 ⟨fun a o ha => by
        unfold glue at ha
        by_cases hz : H a = none
        · rw [if_pos hz] at ha
          exact kk.new a o hz (e7T a o (e7 a o (e6 a o (e5 a o ha))))
        · rw [if_neg hz] at ha
          exact kk.old a o ha, fun a o na ha => kk.new a o (fresh_back eH6 na) (e7T a o ha)⟩
      have hlT : l ≠ T := fun hz => by rw [← hz, upd_same] at hT; cases hT
      refine ⟨T, p, l, pr, u, rfl, st_of (kk.new T _ (fresh_back ((eH6.trans e7).trans e7l) hT) upd_same), ex_t kk.old s2, st_of (kk.new l _ (fresh_back (eH6.trans e7) hl) (by rw [upd_ne hlT, upd_same])), st_of hpr, ex_t kk.old s5⟩
    | O0 => cases hg
    | O1 => cases hg
    | O2 => cases hg
    | O3 => cases hg
end
end Cp

namespace Cp
open PySem PySem.Spec PyProof.Rows L2 Evl GN GZ
/-! ### BadProgram.__init__ -/
abbrev mBP : Stmt := inClass (top 19) 0
theorem sc_bp : FnScope ["self", "fault"] ["self", "fault"] (defScope mBP) := ⟨rfl, rfl, rfl, by decide +kernel, rfl, by decide +kernel, by decide +kernel⟩
/-- what a BadProgram holds -/
def bpF (v : V) : List (Str × V) := [("tag", .str "BadProgram"), ("fault", v)]
def spBP (C : Addr) : Sp := fun vs H Q _ => ∃ a v, vs = [.ref a, v] ∧ H a = some (exo a C none) ∧ ∀ d H2, H d = none → d ≠ a → H2 a = some (exo a C (some d)) → H2 d = some (exd d (bpF v)) → (∀ b, b ≠ a → b ≠ d → H2 b = H b) → Q .non H2
section
variable {P : Program} {w : World} {K : PySem.W.Frag} {mg : Str → Option Value} {base : Heap} {f : Addr} {fd : FuncData} {C : Addr}
theorem ok_bp (F : MeP K "__init__" "BadProgram.__init__" mBP f fd) (T : OexC K C) (nf : PySem.W.findIn K (.ref C) "fault" = some none) (nt : PySem.W.findIn K (.ref C) "tag" = some none) : FnOk P w K mg base CX0 1 f fd ["self", "fault"] (spBP C) := by
  refine F.ok sc_bp (fun vs H Q E h => ?_) (fun cdv A outer s H vs Q E hr h => ?_)
  · obtain ⟨a, v, rfl, _⟩ := h
    rfl
  · obtain ⟨a, v, rfl, ha, k⟩ := h
    refine ⟨_, pss_cons (by
        exact ps_ost (pv 0) (pv 1)) <| pss_one (by
        exact ps_ost (pv 0) pe_str), ?_⟩
    refine ⟨v, rfl, .ref a, rfl, a, C, rfl, T, nf, .inl ⟨ha, fun d hd hda => ?_⟩⟩
    refine ⟨.ref a, rfl, a, C, rfl, T, nt, .inr ⟨d, [("fault", v)], upd_same, by rw [upd_ne hda, upd_same], by simp, ?_⟩⟩
    refine k d _ hd hda (by rw [upd_ne (Ne.symm hda), upd_same]) upd_same fun b hb hbd => ?_
    rw [upd_ne hbd, upd_ne hb, upd_ne hbd]
end
end Cp

namespace Cp
open PySem PySem.Spec PyProof.Rows L2 Evl GN GZ
/-! ### faults, told by tuples -/
inductive Fault where
  | proc (i : Nat) | long (i : Nat) | stm (i j : Nat) | ends (i : Nat) | mark (i j : Nat)
deriving DecidableEq
def Fault.vs : Fault → List V
  | .proc i => [.str "procedure", .int (i : Nat)]
  | .long i => [.str "long", .int (i : Nat)]
  | .stm i j => [.str "statement", .int (i : Nat), .int (j : Nat)]
  | .ends i => [.str "endless", .int (i : Nat)]
  | .mark i j => [.str "mark", .int (i : Nat), .int (j : Nat), .int 0]
/-- a fault may leave: all but c stands -/
def RzC (CB c : Addr) (H : Hp) (E : XK) (f : Fault) : Prop := ∀ d t H', H' d = some (.xd (bpF (.ref t))) → H' t = some (.tup f.vs) → (∀ a o, a ≠ c → H a = some o → H' a = some o) → E (.ref CB) (some d) H'
theorem tmk_bp {CB : Addr} {σ : L2.St} {H : Hp} {ta : TA} {xs : List V} {W : XK} (h : EvU (tTup ta) σ H xs) (k : ∀ d t H', H' d = some (.xd (bpF (.ref t))) → H' t = some (.tup xs) → Ex H H' → W (.ref CB) (some d) H') : tMkO CB (spBP CB) [] (tCons (tTup ta) tNil) σ H W := by
  unfold tMkO tCons
  refine h H (Ex.refl H) _ fun p H2 hp e2 h2 => ⟨by simp, fun a ha => ⟨a, .ref p, rfl, upd_same, fun d H3 hd hda h3a h3d hold => by
    have hd2 : H2 d = none := by rw [upd_ne hda] at hd; exact hd
    have keep : ∀ b o, H2 b = some o → upd (del H3 a) d (.xd (bpF (.ref p))) b = some o := fun b o hb => by
      have hbd : b ≠ d := fun z => by rw [z, hd2] at hb; cases hb
      have hba : b ≠ a := fun z => by rw [z, ha] at hb; cases hb
      rw [upd_ne hbd, del_ne hba, hold b hba hbd, upd_ne hba]
      exact hb
    exact ⟨rfl, d, bpF (.ref p), h3a, h3d, hd2, k d p _ upd_same (keep p _ h2) (e2.trans keep)⟩⟩⟩
/-- behind each mark stands a put -/
def MP (ss : List Sh) : Prop := ∀ i : Nat, ss[i]? = some .M → ss[i + 1]? = some .P
/-- what check_ends needs of the instance -/
def CeOk (K : PySem.W.Frag) (H : Hp) (C x c : Addr) (es : List Ent) : Prop := ∃ dx fs sg sgs, H x = some (.ins C dx fs) ∧ fs.lookup ("code" : Str) = some (V.ref c) ∧ fs.lookup ("signs" : Str) = some (V.ref sg) ∧ H sg = some (.dK sgs) ∧ sg ≠ c ∧ CodeOf K H c es ∧
  ∀ e ∈ es, MP e.2.2 ∧ ∃ t y1 y2 y3, valV sgs (.inr e.1) = some (.ref t) ∧ SqT K H t [y1, y2, y3]
def spCe (K : PySem.W.Frag) (C CB : Addr) : Sp := fun vs H Q E => ∃ x c es, vs = [.ref x] ∧ CeOk K H C x c es ∧ ∀ F : Str → Bool, Least es F → Closed es F →
  (∀ i e, es[i]? = some e → F e.1 = false → (∀ j e', j < i → es[j]? = some e' → F e'.1 = true) → RzC CB c H E (.ends i)) ∧
  ((∀ e ∈ es, F e.1 = true) → (∀ (i : Nat) e (j : Nat), es[i]? = some e → e.2.2[j]? = some .M → (∀ j' : Nat, j' < j → e.2.2[j']? ≠ some .M) → (∀ (i' : Nat) e', i' < i → es[i']? = some e' → Sh.M ∉ e'.2.2) → RzC CB c H E (.mark i j)) ∧
    ((∀ e ∈ es, Sh.M ∉ e.2.2) → ∀ H2, Ex H H2 → Q .non H2))
section
variable {K : PySem.W.Frag} {σ : L2.St} {H : Hp}
theorem ew_enumK {ta : TA} {c : Addr} {o : Obj} {kvs : List (L2.Key × V)} (h : EvA ta σ H [.ref c]) (hc : H c = some (.frz o (.dK kvs))) : EvW (iEnumS K ta) σ H kvs.length (YPair (fun i => some (.int (i : Nat))) fun i => (kvs[i]?).map fun p => kV p.1) :=
  ⟨Itek c o kvs, fun H1 => H1 c = some (.frz o (.dK kvs)), walk_enumK, fun H1 e => e c _ hc, fun H1 e R q => h H1 e _ fun H2 e2 => ⟨c, rfl, .inr (.inr ⟨o, kvs, (e.trans e2) c _ hc, q H2 e2⟩)⟩⟩
/-- for .. in enumerate(a new list) -/
theorem s_forEB {te : TE} {g : L2.TG} {tu : TS} {D : Ends} {H0 : Hp} {Pp : List V → Hp → Prop} (h : EvB te σ H0 Pp) (e0 : Ex H0 H) (Pv : Addr → List V → Nat → L2.St → Hp → Prop) (h0 : ∀ p ys H1, H p = none → Ex H H1 → H1 p = some (.lst ys) → Pp ys H1 → Pv p ys 0 σ H1)
    (hG : ∀ p ys i σ' H', Pv p ys i σ' H' → H' p = some (.lst ys)) (hs : ∀ p ys i x σ' H' T H2, ys[i]? = some x → Pv p ys i σ' H' → H' T = none → H2 = upd H' T (.tup [.int (i : Nat), x]) → g (.ref T) σ' H2 fun σ2 H3 => tu { D with nx := Pv p ys (i + 1), ct := Pv p ys (i + 1), bk := D.nx } σ2 H3)
    (hd : ∀ p ys σ' H', Pv p ys ys.length σ' H' → D.nx σ' H') : tFor (iEnumS K (tCons te tNil)) g tu D σ H :=
  h H e0 _ fun p ys H1 n e1 h1 z => ⟨p, rfl, .inl ⟨⟨ys, sq_of h1⟩, for_it (G := fun H => SqL K H p ys) walk_enum (Pv p ys) (h0 p ys H1 n e1 h1 (z H1 (Kp.self (e0.trans e1)))) (fun i σ H hi q => sq_of (hG p ys i σ H q)) (fun i x σ H H' hi q y => by
    obtain ⟨T, v5, x6, rfl, hT, rfl, h5, h6⟩ := y
    have h5 : V.int (i : Nat) = v5 := Option.some.inj h5
    subst h5
    exact hs p ys i x6 σ H T _ h6 q hT rfl) (hd p ys)⟩⟩
end
def Nce : List Str := ["self", "known", "at", "name", "number", "row", "index", "path", "give"]
theorem sc_ce : FnScope Nce ["self"] (defScope (mP 1)) := ⟨rfl, rfl, rfl, by decide +kernel, rfl, by decide +kernel, by decide +kernel⟩
section
variable {P : Program} {w : World} {K : PySem.W.Frag} {mg : Str → Option Value} {base : Heap} {f : Addr} {fd : FuncData} {C CB : Addr}
theorem ok_ce {fR fW fS fI : Addr} {fdR fdW fdS fdI : FuncData} (F : MeP K "check_ends" "Program.check_ends" (mP 1) f fd) (pc : PC K C)
    (GR : FnOk P w K mg base CX0 2 fR fdR ["rows_by"] (spRet K)) (gR : mg "returning" = some (.ref fR)) (kR : PySem.W.keepIn K (.ref fR) = true) (bR : Binds K fdR ["rows_by"] [])
    (GW : FnOk P w K mg base CX0 3 fW fdW ["rows", "gives", "number", "done"] (spWay K)) (gW : mg "way_to_reading" = some (.ref fW)) (kW : PySem.W.keepIn K (.ref fW) = true) (bW : Binds K fdW ["rows", "gives", "number", "done"] [])
    (GS : FnOk P w K mg base CX0 1 fS fdS ["statement"] (spSrc K)) (gS : mg "sources_of" = some (.ref fS)) (kS : PySem.W.keepIn K (.ref fS) = true) (bS : Binds K fdS ["statement"] [])
    (T : OexC K CB) (iC : PySem.W.findIn K (.ref CB) "__init__" = some (some (.ref fI))) (tI : PySem.W.typeIn K (.ref fI) = some (.type "function")) (GI : FnOk P w K mg base CX0 1 fI fdI ["self", "fault"] (spBP CB)) (bI : Binds K fdI ["self", "fault"] []) (gB : mg "BadProgram" = some (.ref CB))
    (gE : mg "enumerate" = none) : FnOk P w K mg base (CX P w) 4 f fd ["self"] (spCe K C CB) := by
  refine F.ok sc_ce (fun vs H Q E h => ?_) (fun cdv A outer s H vs Q E hr h => ?_)
  · obtain ⟨x, c, es, rfl, _⟩ := h
    rfl
  · have hrm := fun j (h : j ≤ 3) => hr.mono (j := j) h
    obtain ⟨x, c, es, rfl, ⟨dx, fs, sg, sgs, hx, hco, hsi, hsg, hsc, hCode, hEs⟩, k⟩ := h
    refine ⟨_, pss_cons (by
        exact ps_asg (pe_call GR (hrm 2 (by decide)) (by rfl) gR kR bR .nil pass0 (pa_cons (pe_fld (pv 0) rfl) pa_nil)) (pg_name (i := 1) sc_ce.nd rfl (Or.inl rfl))) <| pss_cons (by
        refine ps_lock (ps_for (passes_of rfl) rfl (pi_enumS (by rfl) gE (pa_cons (pe_fld (pv 0) rfl) pa_nil)) (pg_tup rfl (pgs_cons (pg_name (i := 2) sc_ce.nd rfl (Or.inl rfl)) (pgs_cons (pg_name (i := 3) sc_ce.nd rfl (Or.inl rfl)) pgs_nil))) (pss_one (by
          refine ps_if (pt_cmp (pc_dnotin (hu1 hr) (pv 3) (pv 1))) (pss_one (by
            exact ps_raise rfl (takes_of rfl rfl rfl rfl) (pmk_oex T iC tI GI (hrm 2 (by decide)) bI .nil pass0 (by rfl) gB (pa_cons (pe_tup (pa_cons pe_str (pa_cons (pv 2) pa_nil))) pa_nil)))) pss_nil)))) <| pss_one (by
        refine ps_lock (ps_for (passes_of rfl) rfl (pi_enumS (by rfl) gE (pa_cons (pe_fld (pv 0) rfl) pa_nil)) (pg_tup rfl (pgs_cons (pg_name (i := 2) sc_ce.nd rfl (Or.inl rfl)) (pgs_cons (pg_name (i := 3) sc_ce.nd rfl (Or.inl rfl)) pgs_nil))) (pss_one (by
          refine ps_for (passes_of rfl) rfl (pi_enumS (by rfl) gE (pa_cons (pe_dget (hu1 hr) (pe_fld (pv 0) rfl) (pv 3) (fun _ _ => rfl)) pa_nil)) (pg_tup rfl (pgs_cons (pg_name (i := 4) sc_ce.nd rfl (Or.inl rfl)) (pgs_cons (pg_name (i := 5) sc_ce.nd rfl (Or.inl rfl)) pgs_nil))) (pss_one (by
            refine ps_for (passes_of rfl) rfl (pi_enumS (by rfl) gE (pa_cons (pe_call GS (hrm 1 (by decide)) (by rfl) gS kS bS .nil pass0 (pa_cons (pe_ix ix_tup (pv 5) pe_int (fun _ _ => rfl)) pa_nil)) pa_nil)) (pg_tup rfl (pgs_cons (pg_name (i := 6) sc_ce.nd rfl (Or.inl rfl)) (pgs_cons (pg_tup rfl (pgs_cons (pg_name (i := 7) sc_ce.nd rfl (Or.inl rfl)) (pgs_cons (pg_name (i := 8) sc_ce.nd rfl (Or.inl rfl)) pgs_nil))) pgs_nil))) (pss_one (by
              refine ps_if (PW.pt (pw_and (pt_val (pv 8) (by intro _; rfl)) (pw_and1 (by
                exact pt_cmpR op_notN (pe_call GW hr (by rfl) gW kW bW .nil pass0 (pa_cons (pe_dget (hu1 hr) (pe_fld (pv 0) rfl) (pv 3) (fun _ _ => rfl)) (pa_cons (pe_ix ix_tup (pe_dget (hu1 hr) (pe_fld (pv 0) rfl) (pv 3) (fun _ _ => rfl)) pe_int (fun _ _ => rfl)) (pa_cons (pv 4) (pa_cons (pv 6) pa_nil))))) pe_non (nomark _))))) (pss_one (by
                exact ps_raise rfl (takes_of rfl rfl rfl rfl) (pmk_oex T iC tI GI (hrm 2 (by decide)) bI .nil pass0 (by rfl) gB (pa_cons (pe_tup (pa_cons pe_str (pa_cons (pv 2) (pa_cons (pv 4) (pa_cons (pv 6) pa_nil))))) pa_nil)))) pss_nil)))))))), ?_⟩
    obtain ⟨hc, hnd, hlen, hR⟩ := id hCode
    have hxc : x ≠ c := fun z => by rw [z, hc] at hx; cases hx
    refine ⟨.ref x, rfl, x, C, dx, fs, _, rfl, hx, pc.cls, pc.code, hco, c, es, rfl, hCode, fun p kvs H2 hp e2 hkv hL hC => ?_⟩
    obtain ⟨kA, kB⟩ := k (kn kvs) hL hC
    have hpc : p ≠ c := fun z => by rw [z, hc] at hp; cases hp
    refine ⟨c, _, e2 c _ hc, trivial, fun od => ?_⟩
    have ef : Ex (upd H c (.frz od (.dK (es.map entK)))) (upd H2 c (.frz od (.dK (es.map entK)))) := ex_frz e2
    have fx : ∀ {od : Obj}, (upd H c (.frz od (.dK (es.map entK)))) x = some (.ins C dx fs) := by intro od; rw [upd_ne hxc]; exact hx
    have fc : ∀ {od : Obj}, (upd H c (.frz od (.dK (es.map entK)))) c = some (.frz od (.dK (es.map entK))) := by intro od; exact upd_same
    have fo : ∀ {od : Obj} {H3 : Hp}, Ex (upd H c (.frz od (.dK (es.map entK)))) H3 → ∀ a o, a ≠ c → H a = some o → H3 a = some o := fun e a o ha h => e a o (by rw [upd_ne ha]; exact h)
    refine s_forW (H0 := upd H c (.frz od (.dK (es.map entK)))) (ew_enumK (ea_cons (ev_fld (ev_var rfl) fx pc.cls pc.code hco) ea_nil) fc) ef
      (fun i σ' H' => ∃ p2 p3, σ' = [some (.ref x), some (.ref p), p2, p3, none, none, none, none, none] ∧ Ex (upd H c (.frz od (.dK (es.map entK)))) H' ∧ H' p = some (.dK kvs) ∧ ∀ (j : Nat) e, j < i → es[j]? = some e → kn kvs e.1 = true) ?_ (fun i σ' H' _ z => ?_) ?_ ?_
    · intro H3 e3
      exact ⟨_, _, rfl, ef.trans e3, e3 p _ (by rw [upd_ne hpc]; exact hkv), fun j e hj => absurd hj (Nat.not_lt_zero _)⟩
    · obtain ⟨_, _, _, z, _⟩ := z
      exact z
    · rintro i x1 σ' H3 H4 hi ⟨p2, p3, rfl, e3, hp3, hall⟩ ⟨TT, v5, x6, rfl, hT, rfl, h5, h6⟩
      have h5 : V.int (i : Nat) = v5 := Option.some.inj h5
      subst h5
      obtain ⟨kk, hkk, hk6⟩ := Option.map_eq_some_iff.mp h6
      rw [List.getElem?_map] at hkk
      obtain ⟨en, hen, hee⟩ := Option.map_eq_some_iff.mp hkk
      subst hee
      have h6 : V.str en.1 = x6 := hk6
      subst h6
      have eT : Ex H3 (upd H3 TT (.tup [.int (i : Nat), .str en.1])) := Ex.new hT
      refine g_two (st_of upd_same) ?_
      refine s_when (b := !(kn kvs en.1)) (et_B (ev_dnotin (k := .inr en.1) (ev_var rfl) (ev_var rfl) (.inl (eT p _ hp3)))) (fun hb H5 e5 => ?_) fun hb H5 e5 => ?_
      · refine tmk_bp (xs := Fault.vs (.ends i)) (eu_tup (ea_cons ev_c (ea_cons (ev_var rfl) ea_nil)) (show (2 : Nat) ≤ 100000 by decide)) fun d t H' h1 h2 e6 => ?_
        exact kA i en hen (by simpa using hb) hall d t H' h1 h2 (fo ((e3.trans eT).trans (e5.trans e6)))
      · refine ⟨_, _, rfl, (e3.trans eT).trans e5, e5 p _ (eT p _ hp3), fun j e hj he => ?_⟩
        by_cases hji : j < i
        · exact hall j e hji he
        · have : j = i := by omega
          rw [this, hen] at he
          cases he
          simpa using hb
    · rintro σ' H3 ⟨p2, p3, rfl, e3, hp3, hall⟩
      refine ⟨e3 c _ fc, ?_⟩
      have hallF : ∀ e ∈ es, kn kvs e.1 = true := fun e he => by
        obtain ⟨j, hj⟩ := List.mem_iff_getElem?.mp he
        exact hall j e (by rw [List.length_map]; exact (List.getElem?_eq_some_iff.mp hj).1) hj
      obtain ⟨kM, kN⟩ := kB hallF
      have e4 : Ex H (upd H3 c (.dK (es.map entK))) := ex_thaw hc e3
      refine ⟨c, _, upd_same, trivial, fun od2 => ?_⟩
      have ef2 : Ex (upd H c (.frz od2 (.dK (es.map entK)))) (upd (upd H3 c (.dK (es.map entK))) c (.frz od2 (.dK (es.map entK)))) := ex_frz e4
      refine s_forW (H0 := upd H c (.frz od2 (.dK (es.map entK)))) (ew_enumK (ea_cons (ev_fld (ev_var rfl) fx pc.cls pc.code hco) ea_nil) fc) ef2
        (fun i σ' H' => ∃ p2 p3 p4 p5 p6 p7 p8, σ' = [some (.ref x), some (.ref p), p2, p3, p4, p5, p6, p7, p8] ∧ Ex (upd H c (.frz od2 (.dK (es.map entK)))) H' ∧ ∀ (i' : Nat) e', i' < i → es[i']? = some e' → Sh.M ∉ e'.2.2) ?_ (fun i σ' H' _ z => ?_) ?_ ?_
      · intro H5 e5
        exact ⟨_, _, _, _, _, _, _, rfl, ef2.trans e5, fun j e hj => absurd hj (Nat.not_lt_zero _)⟩
      · obtain ⟨_, _, _, _, _, _, _, _, z, _⟩ := z
        exact z
      · rintro i x1 σ' H5 H6 hi ⟨p2, p3, p4, p5, p6, p7, p8, rfl, e5, hno⟩ ⟨TT, v5, x6, rfl, hT, rfl, h5, h6⟩
        have h5 : V.int (i : Nat) = v5 := Option.some.inj h5
        subst h5
        obtain ⟨kk, hkk, hk6⟩ := Option.map_eq_some_iff.mp h6
        rw [List.getElem?_map] at hkk
        obtain ⟨en, hen, hee⟩ := Option.map_eq_some_iff.mp hkk
        subst hee
        have h6 : V.str en.1 = x6 := hk6
        subst h6
        have eT : Ex H5 (upd H5 TT (.tup [.int (i : Nat), .str en.1])) := Ex.new hT
        refine g_two (st_of upd_same) ?_
        have hmem : en ∈ es := List.mem_of_getElem? hen
        obtain ⟨hMP, t0, y1, y2, y3, hv0, ht0⟩ := hEs en hmem
        have hRf : RowsOf K (upd H c (.frz od2 (.dK (es.map entK)))) en.2.1 en.2.2 := (hR en hmem).rx (rx_frz hc trivial)
        obtain ⟨xs, ys, a1, a2, a3, a4, a5⟩ := id hRf
        have hxl := a3.len
        have hyl := a2.1
        have fsg : (upd H c (.frz od2 (.dK (es.map entK)))) sg = some (.dK sgs) := by rw [upd_ne hsc]; exact hsg
        have ft0 : SqT K (upd H c (.frz od2 (.dK (es.map entK)))) t0 [y1, y2, y3] := (rx_frz hc trivial).t ht0
        have evr : ∀ {σ : L2.St} {H' : Hp}, Ex (upd H c (.frz od2 (.dK (es.map entK)))) H' → σ[0]? = some (some (.ref x)) → σ[3]? = some (some (.str en.1)) → Ev (tDGet (tFld K (tVar 0) "code") (tVar 3)) σ H' (.ref en.2.1) := fun e z0 z3 => ev_dget (k := .inr en.1) (ev_fld (ev_var z0) (e _ _ fx) pc.cls pc.code hco) (ev_var z3) (.inr ⟨od2, e c _ fc⟩) (valV_ent hnd hmem)
        refine s_forW (H0 := upd H c (.frz od2 (.dK (es.map entK)))) (ew_enum (ea_cons (evr (Ex.refl _) rfl rfl) ea_nil) (.inl a1)) (e5.trans eT)
          (fun j σ' H' => ∃ p4 p5 p6 p7 p8, σ' = [some (.ref x), some (.ref p), some (.int (i : Nat)), some (.str en.1), p4, p5, p6, p7, p8] ∧ Ex (upd H c (.frz od2 (.dK (es.map entK)))) H' ∧ ∀ j' : Nat, j' < j → en.2.2[j']? ≠ some .M) ?_ (fun j σ' H' _ z => ?_) ?_ ?_
        · intro H7 e7
          exact ⟨_, _, _, _, _, rfl, (e5.trans eT).trans e7, fun j hj => absurd hj (Nat.not_lt_zero _)⟩
        · obtain ⟨_, _, _, _, _, _, z, _⟩ := z
          exact z
        · rintro j x2 σ' H7 H8 hj ⟨p4, p5, p6, p7, p8, rfl, e7, hnj⟩ ⟨T2, v7, x8, rfl, hT2, rfl, h7, h8⟩
          have h7 : V.int (j : Nat) = v7 := Option.some.inj h7
          subst h7
          have eT2 : Ex H7 (upd H7 T2 (.tup [.int (j : Nat), x8])) := Ex.new hT2
          have hx1 : xs[j]? = some xs[j] := List.getElem?_eq_getElem (by omega)
          obtain ⟨t, ht, row⟩ := a2.2 j _ _ hx1 h8
          subst ht
          obtain ⟨sj, hsj, hisj⟩ := a3.at hx1
          have hgj : sj.good = true := List.all_eq_true.mp a4 sj (List.mem_of_getElem? hsj)
          refine g_two (st_of upd_same) ?_
          have e8 := e7.trans eT2
          generalize upd H7 T2 (.tup [.int (j : Nat), .ref t]) = H8 at eT2 e8 ⊢
          refine s_forEB (H0 := H8) (Pp := SrcL K sj) (eb_call (ea_cons (ev_ixT (i := 0) (ev_var rfl) ev_c (ex_t e8 row) (at_of (j := 0) rfl rfl)) ea_nil) fun H9 e9 Q E kq => ⟨sj, _, H8, rfl, e9, hisj.ex e8, hgj, kq⟩) (Ex.refl _)
            (fun q zs n σ' H' => ∃ p6 p7 p8, σ' = [some (.ref x), some (.ref p), some (.int (i : Nat)), some (.str en.1), some (.int (j : Nat)), some (.ref t), p6, p7, p8] ∧ Ex H8 H' ∧ H' q = some (.lst zs) ∧ SrcL K sj zs H' ∧ (n = 1 → sj ≠ .M)) ?_ (fun q zs n σ' H' z => ?_) ?_ ?_
          · intro q zs H9 hq e9 hq9 hz
            exact ⟨_, _, _, rfl, e9, hq9, hz, fun z => (nomatch z)⟩
          · obtain ⟨_, _, _, _, _, z, _⟩ := z
            exact z
          · rintro q zs n y σ' H9 T3 H10 hy ⟨p6, p7, p8, rfl, e9, hq9, hz, _⟩ hT3 rfl
            have eT3 : Ex H9 (upd H9 T3 (.tup [.int (n : Nat), y])) := Ex.new hT3
            have e10 := (e8.trans e9).trans eT3
            cases hsrc : sj.src with
            | none =>
              have hz : match sj.src with | none => zs = [] | some b => ∃ v, zs = [v] ∧ IsSrc K H9 b v := hz
              rw [hsrc] at hz
              subst hz
              simp at hy
            | some b =>
              have hz' : match sj.src with | none => zs = [] | some b => ∃ v, zs = [v] ∧ IsSrc K H9 b v := hz
              rw [hsrc] at hz'
              obtain ⟨v, rfl, t3, q3, rfl, s1, s2⟩ := hz'
              have hn : n = 0 := by
                have := (List.getElem?_eq_some_iff.mp hy).1
                simpa using this
              subst hn
              have hy : V.ref t3 = y := Option.some.inj hy
              subst hy
              refine g_nest (u := .int ((0 : Nat) : Int)) (st_of upd_same) (ex_t eT3 s1) ?_
              generalize upd H9 T3 (.tup [.int ((0 : Nat) : Int), .ref t3]) = H10 at eT3 e10 ⊢
              cases b with
              | false =>
                refine s_when (b := false) (et_is (et_and (a := false) (b := false) (et_B (ev_var rfl)) (fun z => nomatch z)) rfl) (fun z => nomatch z) fun _ H11 e11 => ?_
                refine ⟨_, _, _, rfl, (e9.trans eT3).trans e11, e11 q _ (eT3 q _ hq9), ?_, fun _ hM => ?_⟩
                · show match sj.src with | none => _ | some b => _
                  rw [hsrc]
                  exact ⟨_, rfl, t3, q3, rfl, ex_t (eT3.trans e11) s1, ex_t (eT3.trans e11) s2⟩
                · subst hM
                  cases hsrc
              | true =>
                have hM : sj = .M := by
                  cases sj <;> first | rfl | cases hsrc
                subst hM
                refine s_when (b := true) (et_is (et_and (a := true) (b := true) (et_B (ev_var rfl)) fun _ => fun H11 e11 Q q => ?_) rfl) (fun _ H11 e11 => ?_) fun z => nomatch z
                · have e011 := e10.trans e11
                  refine evr e011 rfl rfl H11 (Ex.refl _) _ fun H12 e12 => ?_
                  refine ev_ixT (i := 2) (ev_dget (k := .inr en.1) (ev_fld (ev_var rfl) (e011 _ _ fx) pc.cls pc.signs hsi) (ev_var rfl) (.inl (e011 _ _ fsg)) hv0) ev_c (ex_t e011 ft0) (at_of (j := 2) rfl rfl) H12 e12 _ fun H13 e13 => ?_
                  have e013 := (e011.trans e12).trans e13
                  refine ⟨_, rfl, _, rfl, en.2.1, y3, j, en.2.2, rfl, hRf.rx (ex_rx e013), hsj, hMP j hsj, fun pp H14 e14 => ⟨rfl, true, rfl, ?_⟩⟩
                  exact q H14 ((e12.trans e13).trans e14)
                · refine tmk_bp (xs := Fault.vs (.mark i j)) (eu_tup (ea_cons ev_c (ea_cons (ev_var rfl) (ea_cons (ev_var rfl) (ea_cons (ev_var rfl) ea_nil)))) (show (4 : Nat) ≤ 100000 by decide)) fun d t' H' h1 h2 e12 => ?_
                  exact kM i en j hen hsj hnj hno d t' H' h1 h2 (fo ((e10.trans e11).trans e12))
          · rintro q zs σ' H9 ⟨p6, p7, p8, rfl, e9, hq9, hz, hn1⟩
            refine ⟨_, _, _, _, _, rfl, e8.trans e9, fun j' hj' => ?_⟩
            by_cases hjj : j' < j
            · exact hnj j' hjj
            · have : j' = j := by omega
              rw [this, hsj]
              intro hM
              have hM : sj = .M := Option.some.inj hM
              subst hM
              obtain ⟨v, rfl, _⟩ := hz
              exact hn1 rfl rfl
        · rintro σ' H7 ⟨p4, p5, p6, p7, p8, rfl, e7, hnj⟩
          refine ⟨_, _, _, _, _, _, _, rfl, e7, fun i' e' hi' he' => ?_⟩
          by_cases hii : i' < i
          · exact hno i' e' hii he'
          · have : i' = i := by omega
            rw [this, hen] at he'
            cases he'
            intro hm
            obtain ⟨j, hj⟩ := List.mem_iff_getElem?.mp hm
            have := (List.getElem?_eq_some_iff.mp hj).1
            exact hnj j (by omega) hj
      · rintro σ' H5 ⟨p2, p3, p4, p5, p6, p7, p8, rfl, e5, hno⟩
        refine ⟨e5 c _ fc, kN (fun e he => ?_) _ (ex_thaw hc e5)⟩
        obtain ⟨j, hj⟩ := List.mem_iff_getElem?.mp he
        exact hno j e (by rw [List.length_map]; exact (List.getElem?_eq_some_iff.mp hj).1) hj
end
end Cp

namespace Cp
open PySem PySem.Spec PyProof.Rows L2 Evl GN GZ
/-! ### a dict comprehension, its values told by El -/
def zipD (kf : Nat → L2.Key) (ys : List V) (n : Nat) : List (L2.Key × V) := ((List.range n).map kf).zip ys
def EvD (te : TE) (σ : L2.St) (Hw H : Hp) (n : Nat) (kf : Nat → L2.Key) (El : Nat → V → Hp → Prop) : Prop := ∀ H1, Ex Hw H1 → ∀ Q : VK, (∀ p ys H2, H1 p = none → Ex H1 H2 → H2 p = some (.dK (zipD kf ys n)) → (∀ H3, Ex H H3 → (∀ a o, a ≠ p → H1 a = none → H2 a = some o → H3 a = some o) → Els El (List.range n) ys H3) → Q (.ref p) H2) → te σ H1 Q
theorem valV_zip_none {k : L2.Key} : ∀ {ks : List L2.Key} {ys : List V}, k ∉ ks → valV (ks.zip ys) k = none
  | [], _, _ => rfl
  | _ :: _, [], _ => rfl
  | a :: ks, y :: ys, h => by
    rw [List.zip_cons_cons, valV_neg (fun z => h (by rw [← z]; exact List.mem_cons_self))]
    exact valV_zip_none fun z => h (List.mem_cons_of_mem _ z)
theorem putK_new {kvs : List (L2.Key × V)} {k : L2.Key} {v : V} (h : valV kvs k = none) : putK kvs k v = kvs ++ [(k, v)] := by
  unfold putK
  have e := valV_any k kvs
  rw [h] at e
  rw [if_neg (by rw [e]; decide)]
theorem valV_zip {k : L2.Key} {y : V} : ∀ {ks : List L2.Key} {ys : List V} {j : Nat}, ks.Nodup → ks[j]? = some k → ys[j]? = some y → valV (ks.zip ys) k = some y
  | [], _, _, _, h, _ => by simp at h
  | _ :: _, [], _, _, _, h => by simp at h
  | a :: ks, z :: ys, 0, _, h1, h2 => by
    cases h1
    cases h2
    exact valV_pos rfl
  | a :: ks, z :: ys, j + 1, hn, h1, h2 => by
    rw [List.nodup_cons] at hn
    have h1 : ks[j]? = some k := h1
    rw [List.zip_cons_cons, valV_neg (fun q => hn.1 (by rw [show a = k from q]; exact List.mem_of_getElem? h1))]
    exact valV_zip hn.2 h1 h2
section
variable {K : PySem.W.Frag} {σ : L2.St} {H : Hp}
theorem ed_dc {Hw : Hp} {wi : TI} {g : L2.TG} {tk tv : TE} {vs : List Nat} {n : Nat} {Y : Nat → Hp → V → Hp → Prop} {kf : Nat → L2.Key} {El : Nat → V → Hp → Prop} (inj : ∀ i j, i < n → j < n → kf i = kf j → i = j) (eHw : Ex H Hw) (hw : EvW wi σ Hw n Y) (hn : n ≤ 1000)
    (turn : ∀ i x H1 H2, i < n → Ex Hw H1 → Y i H1 x H2 → Ex H1 H2 ∧ ∀ Q : L2.St → Hp → Prop, (∀ σ2 H3, Ex H2 H3 → wipe σ2 vs = wipe σ vs → (∀ H4, Ex H3 H4 → Ev tk σ2 H4 (kV (kf i))) → (∀ H4, Ex H3 H4 → ∀ Q : VK, (∀ v H5, Ex H4 H5 → (∀ H6, Kp H H1 H5 H6 → El i v H6) → Q v H5) → tv σ2 H4 Q) → Q σ2 H3) → g x (wipe σ vs) H2 Q) :
    EvD (tDc wi g tYes tk tv vs) σ Hw H n kf El := fun H0 e0 Q q => by
  obtain ⟨J, G, w, hG, hwi⟩ := hw
  refine hwi H0 e0 _ fun H1 e1 D hD => ?_
  refine ⟨fun i m H' => m = n - i ∧ i ≤ n ∧ Ex H1 H' ∧ ∃ ys, H' D = some (.dK (zipD kf ys i)) ∧ ys.length = i ∧ ∀ H3, Ex H H3 → (∀ a o, a ≠ D → H1 a = none → H' a = some o → H3 a = some o) → Els El (List.range i) ys H3, ⟨n, by simp, Nat.zero_le _, Ex.new hD, [], upd_same, rfl, fun H3 _ _ => ⟨rfl, fun j k y z => by simp at z⟩⟩, ?_⟩
  rintro i m H' ⟨rfl, hin, p1, ys, p2, p4, p3⟩
  have gg := hG H' ((e0.trans e1).trans p1)
  by_cases hlt : i < n
  · refine .inr ⟨w.goes i H' hlt gg, fun H2 => (i + 1 ≤ n ∧ Ex H1 H2 ∧ ∃ ys, H2 D = some (.dK (zipD kf ys (i + 1))) ∧ ys.length = i + 1 ∧ ∀ H3, Ex H H3 → (∀ a o, a ≠ D → H1 a = none → H2 a = some o → H3 a = some o) → Els El (List.range (i + 1)) ys H3), fun H2 z => ⟨n - (i + 1), by omega, rfl, z⟩, fun x H2 y => ?_⟩
    obtain ⟨t1, t2⟩ := turn i x H' H2 hlt ((e0.trans e1).trans p1) (w.yields i H' x H2 hlt gg y)
    refine t2 _ fun σ2 H3 e3 hwp hk hv => ⟨hwp, ?_⟩
    show tk σ2 H3 _
    refine hk H3 (Ex.refl _) H3 (Ex.refl _) _ fun H4 e4 => hv H4 e4 _ fun v H5 e5 hE => ?_
    have e05 : Ex H' H5 := ((t1.trans e3).trans e4).trans e5
    have d5 : H5 D = some (.dK (zipD kf ys i)) := e05 D _ p2
    have hnew : valV (zipD kf ys i) (kf i) = none := valV_zip_none fun z => by
      obtain ⟨j, hj, hjk⟩ := List.mem_map.mp z
      have hj := List.mem_range.mp hj
      have := inj j i (by omega) hlt hjk
      omega
    have hz : zipD kf (ys ++ [v]) (i + 1) = zipD kf ys i ++ [(kf i, v)] := by
      unfold zipD
      rw [List.range_succ, List.map_append, List.zip_append (by rw [List.length_map, List.length_range, p4])]
      rfl
    refine ⟨_, kf i, rfl, d5, ?_, hlt, Ex.mut (p1.trans e05) hD, ys ++ [v], ?_, by rw [List.length_append, p4]; rfl, fun H6 e6 k6 => ?_⟩
    · have : (zipD kf ys i).length ≤ i := by
        unfold zipD
        rw [List.length_zip, List.length_map, List.length_range]
        omega
      exact sz_lt (by omega)
    · rw [upd_same, putK_new hnew, hz]
    · rw [List.range_succ]
      have old := p3 H6 e6 fun a o ha n h => k6 a o ha n (by rw [upd_ne ha]; exact e05 a o h)
      refine Els.more old (hE H6 ⟨e6, fun a o n h => ?_⟩)
      have ha : a ≠ D := fun z => by rw [z, p2] at n; cases n
      exact k6 a o ha (fresh_back p1 n) (by rw [upd_ne ha]; exact h)
  · have e : i = n := by omega
    subst e
    exact .inl ⟨w.stops H' gg, q D ys H' (fresh_back e1 hD) (e1.trans p1) p2 fun H3 k3 kk => p3 H3 k3 fun a o ha n h => kk a o ha (fresh_back e1 n) h⟩
/-- (a, b) for each pair of a tuple of pairs -/
theorem en_prs {tl : TE} {i j : Nat} {vs : List Nat} {a : Addr} {ts : List V} (pr : Nat → V × V) (hij : i ≠ j) (hl : ts.length ≤ 1000) (h : Ev tl σ H (.ref a)) (hx : SqT K H a ts) (hi : i < σ.length) (hj : j < σ.length) (hwp : ∀ x y, wipe (((wipe σ vs).set i (some x)).set j (some y)) vs = wipe σ vs) (hwl : (wipe σ vs).length = σ.length)
    (hp : ∀ (n : Nat) v, ts[n]? = some v → ∃ t, v = .ref t ∧ SqT K H t [(pr n).1, (pr n).2]) : EvN (tLc (iTup K tl) (gTup K 2 (gCons (gName i) (gCons (gName j) gNil))) tYes (tTup (tCons (tVar i) (tCons (tVar j) tNil))) vs) σ H (ixs ts.length fun _ => true) (fun n y H3 => ∃ p, y = .ref p ∧ H3 p = some (.tup [(pr n).1, (pr n).2])) := by
  refine en_lc (fun _ => true) (ew_tup h hx) (by omega) fun n x H1 H2 hn e y => ?_
  obtain ⟨rfl, hy⟩ := y
  obtain ⟨t, rfl, ht⟩ := hp n x hy
  refine ⟨Ex.refl _, fun Q q => g_two (ex_t e ht) (q _ H2 (Ex.refl _) (hwp _ _) et_yes fun _ H4 e4 Q2 q2 => ?_)⟩
  have v1 : (((wipe σ vs).set i (some (pr n).1)).set j (some (pr n).2))[i]? = some (some (pr n).1) := by
    rw [List.getElem?_set_ne (Ne.symm hij), List.getElem?_set_self (by rw [hwl]; exact hi)]
  have v2 : (((wipe σ vs).set i (some (pr n).1)).set j (some (pr n).2))[j]? = some (some (pr n).2) := by
    rw [List.getElem?_set_self (by rw [List.length_set, hwl]; exact hj)]
  exact ⟨_, v1, _, v2, sz_of (n := 2) (by decide), fun p hp' => q2 (.ref p) _ (Ex.new hp') fun H6 k => ⟨p, rfl, k.new p _ (fresh_back e4 hp') upd_same⟩⟩
end
/-! ### procedures, the fault that goes first -/
structure Pr where
  bad : Bool
  ss : List Sh
def wordAt : Nat → Str
  | 0 => "main"
  | 1 => "f"
  | _ => "g"
def nmAt (i : Nat) (p : Pr) : Str := if p.bad then "Big" else wordAt i
def Sh.isC : Sh → Bool
  | .C _ => true
  | _ => false
def Sh.isM : Sh → Bool
  | .M => true
  | _ => false
/-- the first statement of which q holds -/
def fi2 (q : Sh → Bool) (ps : List Pr) : Option (Nat × Nat) := match ps.findIdx? (fun p => p.ss.any q) with
  | none => none
  | some i => match ps[i]? with
    | none => none
    | some p => (p.ss.findIdx? q).map fun j => (i, j)
def hasC (ps : List Pr) (i : Nat) : Bool := match ps[i]? with
  | some p => p.ss.any Sh.isC
  | none => false
def stuck (ps : List Pr) : List Bool := [hasC ps 0 && hasC ps 1, hasC ps 1, hasC ps 2]
def due (ps : List Pr) : Option Fault := match ps.findIdx? (·.bad) with
  | some i => some (.proc i)
  | none => match ps.findIdx? (fun p => decide (14 < p.ss.length)) with
    | some i => some (.long i)
    | none => match fi2 (fun s => !s.good) ps with
      | some (i, j) => some (.stm i j)
      | none => match (stuck ps).findIdx? id with
        | some i => some (.ends i)
        | none => match fi2 Sh.isM ps with
          | some (i, j) => some (.mark i j)
          | none => none
theorem fidx_some {α : Type} {p : α → Bool} {xs : List α} {i : Nat} {x : α} (h : xs[i]? = some x) (hp : p x = true) (hn : ∀ (j : Nat) y, j < i → xs[j]? = some y → p y = false) : xs.findIdx? p = some i := by
  rw [List.findIdx?_eq_some_iff_getElem]
  obtain ⟨hi, e⟩ := List.getElem?_eq_some_iff.mp h
  refine ⟨hi, by rw [e]; exact hp, fun j hj => ?_⟩
  rw [hn j _ hj (List.getElem?_eq_getElem (by omega))]
  decide
theorem fidx_none {α : Type} {p : α → Bool} {xs : List α} (hn : ∀ (j : Nat) y, xs[j]? = some y → p y = false) : xs.findIdx? p = none := by
  rw [List.findIdx?_eq_none_iff]
  intro y hy
  obtain ⟨j, hj⟩ := List.mem_iff_getElem?.mp hy
  exact hn j y hj
theorem fi2_some {q : Sh → Bool} {ps : List Pr} {i j : Nat} {p : Pr} {s : Sh} (hp : ps[i]? = some p) (hs : p.ss[j]? = some s) (hq : q s = true) (h1 : ∀ (j' : Nat) s', j' < j → p.ss[j']? = some s' → q s' = false) (h2 : ∀ (i' : Nat) p', i' < i → ps[i']? = some p' → ∀ s ∈ p'.ss, q s = false) : fi2 q ps = some (i, j) := by
  have e1 : ps.findIdx? (fun p => p.ss.any q) = some i := fidx_some hp (List.any_eq_true.mpr ⟨s, List.mem_of_getElem? hs, hq⟩) fun i' p' hi' hp' => by
    rw [List.any_eq_false]
    intro s hs
    rw [h2 i' p' hi' hp' s hs]
    decide
  have e2 : p.ss.findIdx? q = some j := fidx_some hs hq h1
  unfold fi2
  rw [e1]
  show (match ps[i]? with | none => none | some p => _) = _
  rw [hp]
  show (p.ss.findIdx? q).map _ = _
  rw [e2]
  rfl
theorem fi2_none {q : Sh → Bool} {ps : List Pr} (h : ∀ p ∈ ps, ∀ s ∈ p.ss, q s = false) : fi2 q ps = none := by
  have e1 : ps.findIdx? (fun p => p.ss.any q) = none := fidx_none fun i p hp => by
    rw [List.any_eq_false]
    intro s hs
    rw [h p (List.mem_of_getElem? hp) s hs]
    decide
  unfold fi2
  rw [e1]
/-! ### the fault that goes first, told -/
theorem due_proc {ps : List Pr} {i : Nat} {p : Pr} (hp : ps[i]? = some p) (hb : p.bad = true) (h : ∀ (j : Nat) p, j < i → ps[j]? = some p → p.bad = false) : due ps = some (.proc i) := by
  unfold due
  rw [fidx_some (p := fun p : Pr => p.bad) hp hb fun j y hj hy => h j y hj hy]
theorem no_bad {ps : List Pr} (h : ∀ p ∈ ps, p.bad = false) : ps.findIdx? (fun p : Pr => p.bad) = none := fidx_none fun j y hy => h y (List.mem_of_getElem? hy)
theorem due_long {ps : List Pr} {i : Nat} {p : Pr} (h0 : ∀ p ∈ ps, p.bad = false) (hp : ps[i]? = some p) (hb : 14 < p.ss.length) (h : ∀ (j : Nat) p, j < i → ps[j]? = some p → p.ss.length ≤ 14) : due ps = some (.long i) := by
  unfold due
  rw [no_bad h0]
  show (match ps.findIdx? (fun p => decide (14 < p.ss.length)) with | some i => _ | none => _) = _
  rw [fidx_some (p := fun p : Pr => decide (14 < p.ss.length)) hp (decide_eq_true hb) fun j y hj hy => decide_eq_false (by have := h j y hj hy; omega)]
theorem no_long {ps : List Pr} (h : ∀ p ∈ ps, p.ss.length ≤ 14) : ps.findIdx? (fun p : Pr => decide (14 < p.ss.length)) = none := fidx_none fun j y hy => decide_eq_false (by have := h y (List.mem_of_getElem? hy); omega)
theorem due_stm {ps : List Pr} {i j : Nat} {p : Pr} {s : Sh} (h0 : ∀ p ∈ ps, p.bad = false) (hl : ∀ p ∈ ps, p.ss.length ≤ 14) (hp : ps[i]? = some p) (hs : p.ss[j]? = some s) (hg : s.good = false) (h1 : ∀ (j' : Nat) s', j' < j → p.ss[j']? = some s' → s'.good = true) (h2 : ∀ (i' : Nat) p', i' < i → ps[i']? = some p' → ∀ s ∈ p'.ss, s.good = true) : due ps = some (.stm i j) := by
  unfold due
  rw [no_bad h0]
  show (match ps.findIdx? (fun p => decide (14 < p.ss.length)) with | some i => _ | none => _) = _
  rw [no_long hl]
  show (match fi2 (fun s => !s.good) ps with | some (i, j) => _ | none => _) = _
  rw [fi2_some (q := fun s => !s.good) hp hs (by rw [hg]; rfl) (fun j' s' hj' hs' => by rw [h1 j' s' hj' hs']; rfl) fun i' p' hi' hp' s hs => by rw [h2 i' p' hi' hp' s hs]; rfl]
theorem no_odd {ps : List Pr} (h : ∀ p ∈ ps, p.ss.all Sh.good = true) : fi2 (fun s => !s.good) ps = none := fi2_none fun p hp s hs => by rw [List.all_eq_true.mp (h p hp) s hs]; rfl
theorem due_rest {ps : List Pr} (h0 : ∀ p ∈ ps, p.bad = false) (hl : ∀ p ∈ ps, p.ss.length ≤ 14) (hg : ∀ p ∈ ps, p.ss.all Sh.good = true) : due ps = match (stuck ps).findIdx? id with
    | some i => some (.ends i)
    | none => match fi2 Sh.isM ps with
      | some (i, j) => some (.mark i j)
      | none => none := by
  unfold due
  rw [no_bad h0]
  show (match ps.findIdx? (fun p => decide (14 < p.ss.length)) with | some i => _ | none => _) = _
  rw [no_long hl]
  show (match fi2 (fun s => !s.good) ps with | some (i, j) => _ | none => _) = _
  rw [no_odd hg]
theorem due_ends {ps : List Pr} {i : Nat} (h0 : ∀ p ∈ ps, p.bad = false) (hl : ∀ p ∈ ps, p.ss.length ≤ 14) (hg : ∀ p ∈ ps, p.ss.all Sh.good = true) (hi : (stuck ps)[i]? = some true) (h : ∀ (j : Nat) b, j < i → (stuck ps)[j]? = some b → b = false) : due ps = some (.ends i) := by
  rw [due_rest h0 hl hg, fidx_some (p := id) hi rfl fun j y hj hy => h j y hj hy]
theorem due_mark {ps : List Pr} {i j : Nat} {p : Pr} (h0 : ∀ p ∈ ps, p.bad = false) (hl : ∀ p ∈ ps, p.ss.length ≤ 14) (hg : ∀ p ∈ ps, p.ss.all Sh.good = true) (hS : ∀ (j : Nat) b, (stuck ps)[j]? = some b → b = false) (hp : ps[i]? = some p) (hs : p.ss[j]? = some .M) (h1 : ∀ j' : Nat, j' < j → p.ss[j']? ≠ some .M) (h2 : ∀ (i' : Nat) p', i' < i → ps[i']? = some p' → Sh.M ∉ p'.ss) : due ps = some (.mark i j) := by
  have isM : ∀ s : Sh, s ≠ .M → s.isM = false := fun s hs => by
    cases s <;> first | rfl | exact absurd rfl hs
  rw [due_rest h0 hl hg, fidx_none (p := id) fun j y hy => hS j y hy]
  show (match fi2 Sh.isM ps with | some (i, j) => _ | none => _) = _
  rw [fi2_some (q := Sh.isM) hp hs rfl (fun j' s' hj' hs' => isM s' fun z => h1 j' hj' (by rw [hs', z])) fun i' p' hi' hp' s hs => isM s fun z => h2 i' p' hi' hp' (by rw [← z]; exact hs)]
theorem due_none {ps : List Pr} (h0 : ∀ p ∈ ps, p.bad = false) (hl : ∀ p ∈ ps, p.ss.length ≤ 14) (hg : ∀ p ∈ ps, p.ss.all Sh.good = true) (hS : ∀ (j : Nat) b, (stuck ps)[j]? = some b → b = false) (h2 : ∀ p ∈ ps, Sh.M ∉ p.ss) : due ps = none := by
  have isM : ∀ s : Sh, s ≠ .M → s.isM = false := fun s hs => by
    cases s <;> first | rfl | exact absurd rfl hs
  rw [due_rest h0 hl hg, fidx_none (p := id) fun j y hy => hS j y hy]
  show (match fi2 Sh.isM ps with | some (i, j) => _ | none => _) = _
  rw [fi2_none fun p hp s hs => isM s fun z => h2 p hp (by rw [← z]; exact hs)]
/-! ### which procedures come to their end -/
theorem all_ok {s : List Sh} {G : Str → Bool} (h : s.any Sh.isC = false) : s.all (okS G) = true := by
  rw [List.all_eq_true]
  intro y hy
  rw [List.any_eq_false] at h
  have := h y hy
  cases y <;> first | rfl | exact absurd rfl this
theorem not_ok {s : List Sh} {G : Str → Bool} {w : Str} (h : s.any Sh.isC = true) (hc : ∀ v, Sh.C v ∈ s → v = w) (hG : G w = false) : s.all (okS G) = false := by
  obtain ⟨y, hy, hyc⟩ := List.any_eq_true.mp h
  cases y with
  | C v =>
    have := hc v hy
    subst this
    rw [List.all_eq_false]
    exact ⟨_, hy, by show ¬ G v = true; rw [hG]; decide⟩
  | _ => cases hyc
theorem known3 {r0 r1 r2 : Addr} {s0 s1 s2 : List Sh} {F : Str → Bool} (c0 : ∀ w, Sh.C w ∈ s0 → w = "f") (c1 : ∀ w, Sh.C w ∈ s1 → w = "f") (c2 : ∀ w, Sh.C w ∈ s2 → w = "g")
    (hL : Least [("main", r0, s0), ("f", r1, s1), ("g", r2, s2)] F) (hC : Closed [("main", r0, s0), ("f", r1, s1), ("g", r2, s2)] F) : F "main" = !(s0.any Sh.isC && s1.any Sh.isC) ∧ F "f" = !(s1.any Sh.isC) ∧ F "g" = !(s2.any Sh.isC) := by
  have n1 : (("main" : Str) == "f") = false := by decide +kernel
  have n2 : (("g" : Str) == "f") = false := by decide +kernel
  have n3 : (("main" : Str) == "g") = false := by decide +kernel
  have n4 : (("f" : Str) == "g") = false := by decide +kernel
  have n5 : (("g" : Str) == "main") = false := by decide +kernel
  have m0 : (("main", r0, s0) : Ent) ∈ ([("main", r0, s0), ("f", r1, s1), ("g", r2, s2)] : List Ent) := List.mem_cons_self
  have m1 : (("f", r1, s1) : Ent) ∈ ([("main", r0, s0), ("f", r1, s1), ("g", r2, s2)] : List Ent) := List.mem_cons_of_mem _ List.mem_cons_self
  have m2 : (("g", r2, s2) : Ent) ∈ ([("main", r0, s0), ("f", r1, s1), ("g", r2, s2)] : List Ent) := List.mem_cons_of_mem _ (List.mem_cons_of_mem _ List.mem_cons_self)
  have three : ∀ {G : Str → Bool}, (s0.all (okS G) = true → G "main" = true) → (s1.all (okS G) = true → G "f" = true) → (s2.all (okS G) = true → G "g" = true) → ∀ e ∈ ([("main", r0, s0), ("f", r1, s1), ("g", r2, s2)] : List Ent), e.2.2.all (okS G) = true → G e.1 = true := fun a b c e he => by
    rcases List.mem_cons.mp he with rfl | he
    · exact a
    rcases List.mem_cons.mp he with rfl | he
    · exact b
    rcases List.mem_cons.mp he with rfl | he
    · exact c
    · cases he
  have ff : F "f" = !(s1.any Sh.isC) := by
    cases h : s1.any Sh.isC with
    | false => exact hC _ m1 (all_ok h)
    | true =>
      cases hf : F "f" with
      | false => rfl
      | true =>
        have := hL (fun w => !(w == "f")) (three (fun _ => by show (!(("main" : Str) == "f")) = true; rw [n1]; rfl) (fun z => by
          rw [not_ok h c1 (by show (!(("f" : Str) == "f")) = false; rw [beq_self_eq_true]; rfl)] at z
          cases z) (fun _ => by show (!(("g" : Str) == "f")) = true; rw [n2]; rfl)) "f" hf
        have this : (!(("f" : Str) == "f")) = true := this
        rw [beq_self_eq_true] at this
        cases this
  have fg : F "g" = !(s2.any Sh.isC) := by
    cases h : s2.any Sh.isC with
    | false => exact hC _ m2 (all_ok h)
    | true =>
      cases hf : F "g" with
      | false => rfl
      | true =>
        have := hL (fun w => !(w == "g")) (three (fun _ => by show (!(("main" : Str) == "g")) = true; rw [n3]; rfl) (fun _ => by show (!(("f" : Str) == "g")) = true; rw [n4]; rfl) (fun z => by
          rw [not_ok h c2 (by show (!(("g" : Str) == "g")) = false; rw [beq_self_eq_true]; rfl)] at z
          cases z)) "g" hf
        have this : (!(("g" : Str) == "g")) = true := this
        rw [beq_self_eq_true] at this
        cases this
  refine ⟨?_, ff, fg⟩
  cases h : s0.any Sh.isC with
  | false => exact hC _ m0 (all_ok h)
  | true =>
    cases h1 : s1.any Sh.isC with
    | false =>
      rw [h1] at ff
      refine hC _ m0 (List.all_eq_true.mpr fun y hy => ?_)
      cases y with
      | C v =>
        show F v = true
        rw [c0 v hy]
        exact ff
      | _ => rfl
    | true =>
      cases hf : F "main" with
      | false => rfl
      | true =>
        have := hL (fun w => !(w == "f") && !(w == "main")) (three (fun z => by
          rw [not_ok h c0 (by show (!(("f" : Str) == "f") && _) = false; rw [beq_self_eq_true]; rfl)] at z
          cases z) (fun z => by
          rw [not_ok h1 c1 (by show (!(("f" : Str) == "f") && _) = false; rw [beq_self_eq_true]; rfl)] at z
          cases z) (fun _ => by show (!(("g" : Str) == "f") && !(("g" : Str) == "main")) = true; rw [n2, n5]; rfl)) "main" hf
        have this : (!(("main" : Str) == "f") && !(("main" : Str) == "main")) = true := this
        rw [n1, beq_self_eq_true] at this
        cases this
end Cp

namespace Cp
open PySem PySem.Spec PyProof.Rows L2 Evl GN GZ
/-! ### what stands beside an instance -/
/-- all but instances is still to be read -/
def Ry (H H' : Hp) : Prop := ∀ a u, (∀ C dx fs, u ≠ HO.ins C dx fs) → Rd H a u → Rd H' a u
theorem Ry.l {K : PySem.W.Frag} {H H' : Hp} {a : Addr} {xs : List V} (e : Ry H H') (h : SqL K H a xs) : SqL K H' a xs := h.elim (fun z => .inl (e _ _ (fun _ _ _ q => by cases q) z)) .inr
theorem Ry.t {K : PySem.W.Frag} {H H' : Hp} {a : Addr} {xs : List V} (e : Ry H H') (h : SqT K H a xs) : SqT K H' a xs := h.elim (fun z => .inl (e _ _ (fun _ _ _ q => by cases q) z)) .inr
theorem Ry.q {K : PySem.W.Frag} {H H' : Hp} {a : Addr} {xs : List V} (e : Ry H H') (h : Sq K H a xs) : Sq K H' a xs := h.elim (fun z => .inl (e.l z)) (fun z => .inr (e.t z))
theorem ry_del {H : Hp} {x C dx : Addr} {fs : List (Str × V)} (hx : H x = some (.ins C dx fs)) : Ry H (del H x) := fun a u hu h => by
  have ha : a ≠ x := fun z => by
    subst z
    rcases h with h | ⟨o', h⟩
    · rw [hx] at h
      cases h
      exact hu _ _ _ rfl
    · rw [hx] at h
      cases h
  rcases h with h | ⟨o', h⟩
  · exact .inl (by rw [del_ne ha]; exact h)
  · exact .inr ⟨o', by rw [del_ne ha]; exact h⟩
theorem ex_del {H : Hp} {x : Addr} : Ex (del H x) H := fun a o h => by
  by_cases z : a = x
  · subst z
    rw [del_same] at h
    cases h
  · rw [del_ne z] at h
    exact h
theorem IsS.ry {K : PySem.W.Frag} {H H' : Hp} (e : Ry H H') : ∀ {s : Sh} {v : V}, IsS K H s v → IsS K H' s v
  | .P, _, ⟨t, q, a, b, c⟩ => ⟨t, q, a, e.t b, e.t c⟩
  | .M, _, ⟨t, p, q, a, b, c, d⟩ => ⟨t, p, q, a, e.t b, e.t c, e.t d⟩
  | .C _, _, ⟨t, p, q, r, u, a, b, c, d, f, g⟩ => ⟨t, p, q, r, u, a, e.t b, e.t c, e.t d, e.t f, e.t g⟩
  | .O0, _, ⟨t, q, a, b, c⟩ => ⟨t, q, a, e.t b, e.t c⟩
  | .O1, _, ⟨t, a, b⟩ => ⟨t, a, e.t b⟩
  | .O2, _, ⟨t, q, a, b, c⟩ => ⟨t, q, a, e.t b, e.t c⟩
  | .O3, _, ⟨t, q, a, b, c⟩ => ⟨t, q, a, e.t b, e.t c⟩
theorem IsB.ry {K : PySem.W.Frag} {H H' : Hp} (e : Ry H H') : ∀ {ss : List Sh} {xs : List V}, IsB K H ss xs → IsB K H' ss xs
  | [], _, h => h
  | _ :: _, _, ⟨v, vs, a, b, c⟩ => ⟨v, vs, a, b.ry e, IsB.ry e c⟩
theorem HeadOk.ry {K : PySem.W.Frag} {H H' : Hp} {m : Bool} {tk hs : Addr} {gv : V} (e : Ry H H') : HeadOk K H m tk hs gv → HeadOk K H' m tk hs gv
  | ⟨p1, p2, a, b, c, d, f⟩ => ⟨p1, p2, e.t a, e.t b, e.t c, e.t d, f⟩
theorem KindsOk.del {H : Hp} {C CK x tb dx : Addr} (hx : H x = some (.ins C dx [])) : KindsOk H CK tb → KindsOk (del H x) CK tb
  | ⟨kx, a, b, q, p, h1, h2, h3, h4⟩ => by
    have n1 : tb ≠ x := fun z => by rw [z, hx] at h1; cases h1
    have n2 : a ≠ x := fun z => by rw [z, hx] at h2; cases h2
    have n3 : q ≠ x := fun z => by rw [z, hx] at h3; cases h3
    have n4 : p ≠ x := fun z => by rw [z, hx] at h4; cases h4
    exact ⟨kx, a, b, q, p, by rw [del_ne n1]; exact h1, by rw [del_ne n2]; exact h2, by rw [del_ne n3]; exact h3, by rw [del_ne n4]; exact h4⟩
theorem SgnOk.ex {H H' : Hp} {m : Bool} {t : Addr} (e : Ex H H') : SgnOk H m t → SgnOk H' m t
  | ⟨l1, l2, p1, p2, a, b, c, d, f⟩ => ⟨l1, l2, p1, p2, e _ _ a, e _ _ b, e _ _ c, e _ _ d, e _ _ f⟩
theorem SgnOk.mut {H : Hp} {m : Bool} {t sg : Addr} {o : HO} {kvs : List (L2.Key × V)} (h : H sg = some (.dK kvs)) : SgnOk H m t → SgnOk (upd H sg o) m t
  | ⟨l1, l2, p1, p2, a, b, c, d, f⟩ => by
    have ne : ∀ {y : Addr} {u : HO}, H y = some u → (∀ k, u ≠ .dK k) → y ≠ sg := fun e n z => by
      rw [z, h] at e
      cases e
      exact n _ rfl
    refine ⟨l1, l2, p1, p2, ?_, ?_, ?_, ?_, ?_⟩
    · rw [upd_ne (ne a fun _ q => by cases q)]; exact a
    · rw [upd_ne (ne b fun _ q => by cases q)]; exact b
    · rw [upd_ne (ne c fun _ q => by cases q)]; exact c
    · rw [upd_ne (ne d fun _ q => by cases q)]; exact d
    · rw [upd_ne (ne f fun _ q => by cases q)]; exact f
theorem els0 {El : Nat → V → Hp → Prop} {ys : List V} {H : Hp} (h : Els El (List.range 0) ys H) : ys = [] := List.eq_nil_of_length_eq_zero h.1
theorem els1 {El : Nat → V → Hp → Prop} {ys : List V} {H : Hp} (h : Els El (List.range 1) ys H) : ∃ a, ys = [a] ∧ El 0 a H := by
  obtain ⟨l, k⟩ := h
  match ys, l with
  | [a], _ => exact ⟨a, rfl, k 0 0 a rfl rfl⟩
theorem els2 {El : Nat → V → Hp → Prop} {ys : List V} {H : Hp} (h : Els El (List.range 2) ys H) : ∃ a b, ys = [a, b] ∧ El 0 a H ∧ El 1 b H := by
  obtain ⟨l, k⟩ := h
  match ys, l with
  | [a, b], _ => exact ⟨a, b, rfl, k 0 0 a rfl rfl, k 1 1 b rfl rfl⟩
theorem els3 {El : Nat → V → Hp → Prop} {ys : List V} {H : Hp} (h : Els El (List.range 3) ys H) : ∃ a b c, ys = [a, b, c] ∧ El 0 a H ∧ El 1 b H ∧ El 2 c H := by
  obtain ⟨l, k⟩ := h
  match ys, l with
  | [a, b, c], _ => exact ⟨a, b, c, rfl, k 0 0 a rfl rfl, k 1 1 b rfl rfl, k 2 2 c rfl rfl⟩
/-- a new tuple told by Pp -/
def EvTp (te : TE) (σ : L2.St) (H : Hp) (Pp : Addr → Hp → Prop) : Prop := ∀ H1, Ex H H1 → ∀ Q : VK, (∀ p H2, H1 p = none → Ex H1 H2 → (∀ H3, Kp H H1 H2 H3 → Pp p H3) → Q (.ref p) H2) → te σ H1 Q
section
variable {K : PySem.W.Frag} {σ : L2.St} {H : Hp}
theorem g_five {i a b c d e : Nat} {T t : Addr} {u v1 v2 v3 v4 v5 : V} {Q : L2.St → Hp → Prop} (hT : SqT K H T [u, .ref t]) (ht : SqT K H t [v1, v2, v3, v4, v5]) (k : Q ((((((σ.set i (some u)).set a (some v1)).set b (some v2)).set c (some v3)).set d (some v4)).set e (some v5)) H) :
    gTup K 2 (gCons (gName i) (gCons (gTup K 5 (gCons (gName a) (gCons (gName b) (gCons (gName c) (gCons (gName d) (gCons (gName e) gNil)))))) gNil)) (.ref T) σ H Q :=
  ⟨T, _, rfl, hT, rfl, u, _, rfl, .ref t, _, rfl, t, _, rfl, ht, rfl, v1, _, rfl, v2, _, rfl, v3, _, rfl, v4, _, rfl, v5, _, rfl, rfl, rfl, k⟩
def lcPr (K : PySem.W.Frag) (i : Nat) : TE := tLc (iTup K (tVar i)) (gTup K 2 (gCons (gName 9) (gCons (gName 10) gNil))) tYes (tTup (tCons (tVar 9) (tCons (tVar 10) tNil))) [9, 10]
theorem sig_tup {m : Bool} {tk hs : Addr} {gv : V} (hh : HeadOk K H m tk hs gv) (z5 : σ[5]? = some (some (.ref tk))) (z6 : σ[6]? = some (some (.ref hs))) (z7 : σ[7]? = some (some gv)) (hl : σ.length = 14) (hwp : ∀ x y, wipe (((wipe σ [9, 10]).set 9 (some x)).set 10 (some y)) [9, 10] = wipe σ [9, 10]) (hwl : (wipe σ [9, 10]).length = σ.length) :
    EvTp (tTup (tCons (lcPr K 5) (tCons (lcPr K 6) (tCons (tVar 7) tNil)))) σ H (fun T H3 => SgnOk H3 m T) := by
  obtain ⟨q1, q2, h1, h2, h3, h4, h5⟩ := hh
  subst h5
  have two : ∀ {v : V} {n : Nat}, [V.ref q1, .ref q2][n]? = some v → ∃ t, v = .ref t ∧ SqT K H t [((fun n => if n = 0 then (V.str "x", V.str "leaf") else (V.str "y", V.str "leaf")) n).1, ((fun n => if n = 0 then (V.str "x", V.str "leaf") else (V.str "y", V.str "leaf")) n).2] := fun {v n} hv => by
    match n, hv with
    | 0, hv => exact ⟨q1, (Option.some.inj hv).symm, h3⟩
    | 1, hv => exact ⟨q2, (Option.some.inj hv).symm, h4⟩
    | n + 2, hv => simp at hv
  intro H1 e Q q
  cases m with
  | true =>
    have A := en_prs (K := K) (σ := σ) (H := H) (tl := tVar 5) (i := 9) (j := 10) (vs := [9, 10]) (a := tk) (ts := []) (fun _ => (.non, .non)) (by decide) (by simp) (ev_var z5) h1 (by omega) (by omega) hwp hwl (fun n v hv => by simp at hv)
    have B := en_prs (K := K) (σ := σ) (H := H) (tl := tVar 6) (i := 9) (j := 10) (vs := [9, 10]) (a := hs) (ts := [.ref q1, .ref q2]) (fun n => if n = 0 then (V.str "x", V.str "leaf") else (V.str "y", V.str "leaf")) (by decide) (by simp) (ev_var z6) h2 (by omega) (by omega) hwp hwl (fun n v hv => two hv)
    rw [ixs_all] at A B
    unfold tTup tCons
    refine A H1 e _ fun p1 ys1 H2 n1 e1 d1 z1 => ?_
    refine B H2 (e.trans e1) _ fun p2 ys2 H3 n2 e2 d2 z2 => ⟨_, z7, sz_of (n := 3) (by decide), fun T hT => q T _ (fresh_back (e1.trans e2) hT) ((e1.trans e2).trans (Ex.new hT)) fun H4 k => ?_⟩
    have y1 := els0 (z1 H4 (k.part (Ex.refl _) (e2.trans (Ex.new hT))))
    obtain ⟨a, b, y2, ⟨pa, ea, ha⟩, pb, eb, hb⟩ := els2 (z2 H4 (k.part e1 (Ex.new hT)))
    subst y1 y2 ea eb
    have eT : Ex H3 (upd H3 T (.tup [.ref p1, .ref p2, if true = true then V.non else .str "x"])) := Ex.new hT
    exact ⟨p1, p2, pa, pb, k.new T _ (fresh_back (e1.trans e2) hT) upd_same, k.new p1 _ n1 (eT _ _ (e2 _ _ d1)), k.new p2 _ (fresh_back e1 n2) (eT _ _ d2), ha, hb⟩
  | false =>
    have A := en_prs (K := K) (σ := σ) (H := H) (tl := tVar 5) (i := 9) (j := 10) (vs := [9, 10]) (a := tk) (ts := [.ref q1]) (fun _ => (.str "x", .str "leaf")) (by decide) (by simp) (ev_var z5) h1 (by omega) (by omega) hwp hwl (fun n v hv => by
      match n, hv with
      | 0, hv => exact ⟨q1, (Option.some.inj hv).symm, h3⟩
      | n + 1, hv => simp at hv)
    have B := en_prs (K := K) (σ := σ) (H := H) (tl := tVar 6) (i := 9) (j := 10) (vs := [9, 10]) (a := hs) (ts := [.ref q2]) (fun _ => (.str "y", .str "leaf")) (by decide) (by simp) (ev_var z6) h2 (by omega) (by omega) hwp hwl (fun n v hv => by
      match n, hv with
      | 0, hv => exact ⟨q2, (Option.some.inj hv).symm, h4⟩
      | n + 1, hv => simp at hv)
    rw [ixs_all] at A B
    unfold tTup tCons
    refine A H1 e _ fun p1 ys1 H2 n1 e1 d1 z1 => ?_
    refine B H2 (e.trans e1) _ fun p2 ys2 H3 n2 e2 d2 z2 => ⟨_, z7, sz_of (n := 3) (by decide), fun T hT => q T _ (fresh_back (e1.trans e2) hT) ((e1.trans e2).trans (Ex.new hT)) fun H4 k => ?_⟩
    obtain ⟨a, y1, pa, ea, ha⟩ := els1 (z1 H4 (k.part (Ex.refl _) (e2.trans (Ex.new hT))))
    obtain ⟨b, y2, pb, eb, hb⟩ := els1 (z2 H4 (k.part e1 (Ex.new hT)))
    subst y1 y2 ea eb
    have eT : Ex H3 (upd H3 T (.tup [.ref p1, .ref p2, if false = true then V.non else .str "x"])) := Ex.new hT
    exact ⟨p1, p2, pa, pb, k.new T _ (fresh_back (e1.trans e2) hT) upd_same, k.new p1 _ n1 (eT _ _ (e2 _ _ d1)), k.new p2 _ (fresh_back e1 n2) (eT _ _ d2), ha, hb⟩
end
/-- a procedure of the law -/
def IsPr (K : PySem.W.Frag) (H : Hp) (i : Nat) (p : Pr) (v : V) : Prop := ∃ t tk hs gv b xs, v = .ref t ∧ SqT K H t [.str (nmAt i p), .ref tk, .ref hs, gv, .ref b] ∧ HeadOk K H (decide (i = 0)) tk hs gv ∧ Sq K H b xs ∧ IsB K H p.ss xs ∧ p.ss.length ≤ 60
theorem IsPr.ry {K : PySem.W.Frag} {H H' : Hp} {i : Nat} {p : Pr} {v : V} (e : Ry H H') : IsPr K H i p v → IsPr K H' i p v
  | ⟨t, tk, hs, gv, b, xs, h1, h2, h3, h4, h5, h6⟩ => ⟨t, tk, hs, gv, b, xs, h1, e.t h2, h3.ry e, e.q h4, h5.ry e, h6⟩
theorem IsPr.ex {K : PySem.W.Frag} {H H' : Hp} {i : Nat} {p : Pr} {v : V} (e : Ex H H') : IsPr K H i p v → IsPr K H' i p v
  | ⟨t, tk, hs, gv, b, xs, h1, h2, h3, h4, h5, h6⟩ => ⟨t, tk, hs, gv, b, xs, h1, ex_t e h2, h3.ex e, h4.elim (fun z => .inl (ex_l e z)) (fun z => .inr (ex_t e z)), h5.ex e, h6⟩
/-- three procedures as the law has them -/
structure PsOk (ps : List Pr) : Prop where
  three : ps.length = 3
  calls : ∀ (i : Nat) p w, ps[i]? = some p → Sh.C w ∈ p.ss → w = wordAt (if i = 2 then 2 else 1)
  marks : ∀ p ∈ ps, p.ss.all Sh.good = true → MP p.ss
/-- what len asks of a Program -/
def LenOk (H : Hp) (C x : Addr) (n : Nat) : Prop := ∃ dx fs c rs, H x = some (.ins C dx fs) ∧ fs.lookup ("code" : Str) = some (V.ref c) ∧ (∀ m : Str, m ∉ [("table" : Str), "signs", "texts", "code"] → fs.lookup m = none) ∧ H c = some (.dK rs) ∧ rs.length = 3 ∧ ∃ ls : List (List V), ls.length = 3 ∧ (ls.map List.length).sum = n ∧ n ≤ 200 ∧ ∀ (i : Nat) kv l, rs[i]? = some kv → ls[i]? = some l → ∃ r, kv.2 = .ref r ∧ H r = some (.lst l)
def spPi (K : PySem.W.Frag) (C CK CB : Addr) : Sp := fun vs H Q E => ∃ x dx tb pr ps ys, vs = [.ref x, .ref tb, .ref pr] ∧ H x = some (.ins C dx []) ∧ KindsOk H CK tb ∧ SqL K H pr ys ∧ ys.length = 3 ∧ PsOk ps ∧ (∀ (i : Nat) p y, ps[i]? = some p → ys[i]? = some y → IsPr K H i p y) ∧
  (∀ f, due ps = some f → RzC CB x H E f) ∧ (due ps = none → ∀ H2, (∀ a o, a ≠ x → H a = some o → H2 a = some o) → LenOk H2 C x ((ps.map fun p => p.ss.length).sum) → Q .non H2)
theorem putP1 (v : V) : putF "table" v [] = [(("table" : Str), v)] := rfl
theorem putP2 (v w : V) : putF "signs" w [(("table" : Str), v)] = [(("table" : Str), v), (("signs" : Str), w)] := by
  unfold putF
  rw [if_neg (by decide)]
  rfl
theorem putP3 (v w u : V) : putF "texts" u [(("table" : Str), v), (("signs" : Str), w)] = [(("table" : Str), v), (("signs" : Str), w), (("texts" : Str), u)] := by
  unfold putF
  rw [if_neg (by decide)]
  unfold putF
  rw [if_neg (by decide)]
  rfl
theorem putP4 (v w u y : V) : putF "code" y [(("table" : Str), v), (("signs" : Str), w), (("texts" : Str), u)] = [(("table" : Str), v), (("signs" : Str), w), (("texts" : Str), u), (("code" : Str), y)] := by
  unfold putF
  rw [if_neg (by decide)]
  unfold putF
  rw [if_neg (by decide)]
  unfold putF
  rw [if_neg (by decide)]
  rfl
theorem word_len (i : Nat) (p : Pr) : 1 ≤ (nmAt i p).length ∧ (nmAt i p).length ≤ 6 := by
  have b : 1 ≤ ("Big" : Str).length ∧ ("Big" : Str).length ≤ 6 := by decide
  have m : 1 ≤ ("main" : Str).length ∧ ("main" : Str).length ≤ 6 := by decide
  have f : 1 ≤ ("f" : Str).length ∧ ("f" : Str).length ≤ 6 := by decide
  have g : 1 ≤ ("g" : Str).length ∧ ("g" : Str).length ≤ 6 := by decide
  unfold nmAt
  cases p.bad with
  | true => exact b
  | false => match i with
    | 0 => exact m
    | 1 => exact f
    | n + 2 => exact g
theorem isW_nm (i : Nat) (p : Pr) : isW (nmAt i p) = !p.bad := by
  unfold nmAt
  cases p.bad with
  | true =>
    show isW "Big" = false
    decide +kernel
  | false => match i with
    | 0 => show isW "main" = true; decide +kernel
    | 1 => show isW "f" = true; decide +kernel
    | n + 2 => show isW "g" = true; decide +kernel
theorem word_inj {i j : Nat} (hi : i < 3) (hj : j < 3) (h : wordAt i = wordAt j) : i = j := by
  match i, j, hi, hj, h with
  | 0, 0, _, _, _ => rfl
  | 0, 1, _, _, h => exact absurd h (by decide +kernel)
  | 0, 2, _, _, h => exact absurd h (by decide +kernel)
  | 1, 0, _, _, h => exact absurd h (by decide +kernel)
  | 1, 1, _, _, _ => rfl
  | 1, 2, _, _, h => exact absurd h (by decide +kernel)
  | 2, 0, _, _, h => exact absurd h (by decide +kernel)
  | 2, 1, _, _, h => exact absurd h (by decide +kernel)
  | 2, 2, _, _, _ => rfl
theorem word_name {i : Nat} (hi : i < 3) : isName (wordAt i) := by
  match i, hi with
  | 0, _ => exact .inl rfl
  | 1, _ => exact .inr (.inl rfl)
  | 2, _ => exact .inr (.inr rfl)
/-- the signatures of the first i procedures -/
def SgI (i : Nat) (sgs : List (L2.Key × V)) (H : Hp) : Prop := sgs.length ≤ i ∧ (∀ j : Nat, j < i → ∃ T, valV sgs (.inr (wordAt j)) = some (.ref T) ∧ SgnOk H (decide (j = 0)) T) ∧ ∀ w, (∀ j : Nat, j < i → w ≠ wordAt j) → valV sgs (.inr w) = none
theorem SgI.ok {sgs : List (L2.Key × V)} {H : Hp} {C CK x dx tb sg : Addr} {fs : List (Str × V)} (h : SgI 3 sgs H) (hx : H x = some (.ins C dx fs)) (hn : ∀ m : Str, m ∉ [("table" : Str), "signs", "texts", "code"] → fs.lookup m = none) (h1 : fs.lookup ("table" : Str) = some (V.ref tb)) (hk : KindsOk H CK tb) (h2 : fs.lookup ("signs" : Str) = some (V.ref sg)) (hs : H sg = some (.dK sgs)) : POk H C CK x := by
  obtain ⟨_, h, _⟩ := h
  obtain ⟨T0, a0, b0⟩ := h 0 (by decide)
  obtain ⟨T1, a1, b1⟩ := h 1 (by decide)
  obtain ⟨T2, a2, b2⟩ := h 2 (by decide)
  refine ⟨dx, fs, tb, sg, sgs, hx, hn, h1, hk, h2, hs, fun w hw => ?_⟩
  obtain ⟨m, hw⟩ := hw
  rcases hw with ⟨rfl, _⟩ | ⟨rfl | rfl, _⟩
  · exact ⟨true, T0, ⟨fun _ => rfl, fun _ => rfl⟩, a0, b0⟩
  · exact ⟨false, T1, ⟨fun z => absurd z (by decide +kernel), fun z => nomatch z⟩, a1, b1⟩
  · exact ⟨false, T2, ⟨fun z => absurd z (by decide +kernel), fun z => nomatch z⟩, a2, b2⟩
end Cp

namespace Cp
open PySem PySem.Spec PyProof.Rows L2 Evl GN GZ GF
def Npi : List Str := ["self", "kinds", "procedures", "at", "name", "takes", "has", "gives", "body", "one", "kind", "row", "number", "statement"]
theorem sc_pi : FnScope Npi ["self", "kinds", "procedures"] (defScope (mP 0)) := ⟨rfl, rfl, rfl, by decide +kernel, rfl, by decide +kernel, by decide +kernel⟩
/-- d[k] = a new tuple -/
theorem s_dputT {σ : L2.St} {H G : Hp} {td ty tv : TE} {D : Ends} {Pp : Addr → Hp → Prop} {a : Addr} {k : L2.Key} {kvs : List (L2.Key × V)} (hv : EvTp tv σ G Pp) (e0 : Ex G H) (hd : ∀ H1, Ex H H1 → Ev td σ H1 (.ref a)) (hy : ∀ H1, Ex H H1 → Ev ty σ H1 (kV k)) (h : H a = some (.dK kvs)) (hl : kvs.length < 100000)
    (kk : ∀ p H1, H p = none → Ex H H1 → (∀ H3, Kp G H H1 H3 → Pp p H3) → D.nx σ (upd H1 a (.dK (putK kvs k (.ref p))))) : sDPut td ty tv D σ H := hv H e0 _ fun p H1 n e1 z => hd H1 e1 H1 (Ex.refl H1) _ fun H2 e2 => hy H2 (e1.trans e2) H2 (Ex.refl H2) _ fun H3 e3 =>
  ⟨a, _, rfl, DPut.k (((e1.trans e2).trans e3) a _ h) (sz_lt hl), kk p H3 n ((e1.trans e2).trans e3) fun H4 k4 => z H4 ⟨k4.old, fun c o n hc => k4.new c o n (e3 c o (e2 c o hc))⟩⟩
theorem q_asgW {σ : L2.St} {H : Hp} {te : TE} {g : L2.TG} {tz : TS} {D : Ends} (h : te σ H fun v H1 => g v σ H1 (tz D)) : tSeq (tAsg te g) tz D σ H := h
/-- what calls need -/
structure Cal (P : Program) (w : World) (K : PySem.W.Frag) (mg : Str → Option Value) (base : Heap) (x : Str) (k : Nat) (ps : List Str) (sp : Sp) where
  f : Addr
  fd : FuncData
  G : FnOk P w K mg base CX0 k f fd ps sp
  g : mg x = some (.ref f)
  k : PySem.W.keepIn K (.ref f) = true
  b : Binds K fd ps []
structure Mcal (P : Program) (w : World) (K : PySem.W.Frag) (mg : Str → Option Value) (base : Heap) (C : Addr) (x : Str) (CX : CXT) (k : Nat) (ps : List Str) (sp : Sp) where
  f : Addr
  fd : FuncData
  m : Meth K C x f
  G : FnOk P w K mg base CX k f fd ps sp
  b : Binds K fd ps []
section
variable {P : Program} {w : World} {K : PySem.W.Frag} {mg : Str → Option Value} {base : Heap} {f : Addr} {fd : FuncData} {C CK CB : Addr}
theorem ok_pi {fN fI : Addr} {fdN fdI : FuncData} {tP tS tN : Tok} (F : MeP K "__init__" "Program.__init__" (mP 0) f fd) (pc : PC K C)
    (HF : Mcal P w K mg base C "head_fits" CX0 2 ["self", "at", "name", "takes", "has", "gives"] (spHf K C CK))
    (SF : Mcal P w K mg base C "statement_fits" CX0 7 ["self", "name", "statement"] (spFits K C CK))
    (CE : Mcal P w K mg base C "check_ends" (CX P w) 4 ["self"] (spCe K C CB))
    (CT : Cal P w K mg base "count_in" 2 ["body"] (spCount K)) (NE : Cal P w K mg base "nesting_of" 2 ["body"] (spNest K)) (BO : Cal P w K mg base "bodies_of" 1 ["statement"] (spBodies K))
    (PB : Cal P w K mg base "plain_body" 3 ["body"] (spBody K)) (LA : Cal P w K mg base "laid" 3 ["body", "first", "after"] (spLaid K))
    (FN : FnP K "numbered" sNum [] fN fdN) (gN : mg "numbered" = some (.ref fN)) (bN : Binds K fdN ["body", "first"] [])
    (T : OexC K CB) (iC : PySem.W.findIn K (.ref CB) "__init__" = some (some (.ref fI))) (tI : PySem.W.typeIn K (.ref fI) = some (.type "function")) (GI : FnOk P w K mg base CX0 1 fI fdI ["self", "fault"] (spBP CB)) (bI : Binds K fdI ["self", "fault"] []) (gB : mg "BadProgram" = some (.ref CB))
    (gL : mg "len" = none) (gE : mg "enumerate" = none) (g4 : mg "PROCEDURES" = some (.int 4 tP)) (g14 : mg "STATEMENTS" = some (.int 14 tS)) (g3 : mg "NESTING" = some (.int 3 tN)) : FnOk P w K mg base (CX P w) 8 f fd ["self", "kinds", "procedures"] (spPi K C CK CB) := by
  refine F.ok sc_pi (fun vs H Q E h => ?_) (fun cdv A outer s H vs Q E hr h => ?_)
  · obtain ⟨x, dx, tb, pr, ps, ys, rfl, _⟩ := h
    rfl
  · have hrm := fun j (h : j ≤ 7) => hr.mono (j := j) h
    obtain ⟨x, dx, tb, pr, ps, ys, rfl, hx, hkd, hpr, hyl, hps, hpp, kE, kN⟩ := h
    refine ⟨_, pss_cons (by
        exact ps_asg (pv 1) (pg_fld (pv 0))) <| pss_cons (by
        exact ps_asg pe_dnewK (pg_fld (pv 0))) <| pss_cons (by
        refine ps_if (pt_not (by
          exact pt_chain op_le op_le pe_int (pe_callB call_len_seq (by rfl) gL PySem.boot_len (pa_cons (pv 2) pa_nil)) (pe_glob (v := .int 4) (by rfl) g4 ⟨_, rfl⟩))) pss_no pss_nil) <| pss_cons (by
        refine ps_for (passes_of rfl) rfl (pi_enumS (by rfl) gE (pa_cons (pv 2) pa_nil)) (pg_tup rfl (pgs_cons (pg_name (i := 3) sc_pi.nd rfl (Or.inl rfl)) (pgs_cons (pg_tup rfl (pgs_cons (pg_name (i := 4) sc_pi.nd rfl (Or.inl rfl)) (pgs_cons (pg_name (i := 5) sc_pi.nd rfl (Or.inl rfl)) (pgs_cons (pg_name (i := 6) sc_pi.nd rfl (Or.inl rfl)) (pgs_cons (pg_name (i := 7) sc_pi.nd rfl (Or.inl rfl)) (pgs_cons (pg_name (i := 8) sc_pi.nd rfl (Or.inl rfl)) pgs_nil)))))) pgs_nil))) (pss_cons (by
          refine ps_if (pt_not (pt_val (by
            exact pe_meth (pv 0) pc.cls HF.m HF.G (hrm 2 (by decide)) HF.b .nil pass0 (pa_cons (pv 3) (pa_cons (pv 4) (pa_cons (pv 5) (pa_cons (pv 6) (pa_cons (pv 7) pa_nil)))))) (by intro _; rfl))) (pss_one (by
            exact ps_raise rfl (takes_of rfl rfl rfl rfl) (pmk_oex T iC tI GI (hrm 2 (by decide)) bI .nil pass0 (by rfl) gB (pa_cons (pe_tup (pa_cons pe_str (pa_cons (pv 3) pa_nil))) pa_nil)))) pss_nil) <| pss_one (by
          refine ps_dput (hu1 hr) (pe_fld (pv 0) rfl) (pv 4) (tv := tTup (tCons (lcPr K 5) (tCons (lcPr K 6) (tCons (tVar 7) tNil)))) (pe_tup (pa_cons (by
            exact pe_lc (own := [("one", 9), ("kind", 10)]) (g := gTup K 2 (gCons (gName 9) (gCons (gName 10) gNil))) (tt := tYes) (te := tTup (tCons (tVar 9) (tCons (tVar 10) tNil))) rfl sc_pi.nd (pi_tup (pv 5)) (blkOk_by (by kernel_rfl)) (fun _ _ _ _ _ => pg_tup rfl (pgs_cons (pg_name (i := 9) sc_pi.nd rfl (Or.inl rfl)) (pgs_cons (pg_name (i := 10) sc_pi.nd rfl (Or.inl rfl)) pgs_nil))) (fun _ _ _ _ _ => pts_nil) (fun _ _ _ _ _ => by exact pe_tup (pa_cons (pv 9) (pa_cons (pv 10) pa_nil)))) (pa_cons (by
            exact pe_lc (own := [("one", 9), ("kind", 10)]) (g := gTup K 2 (gCons (gName 9) (gCons (gName 10) gNil))) (tt := tYes) (te := tTup (tCons (tVar 9) (tCons (tVar 10) tNil))) rfl sc_pi.nd (pi_tup (pv 6)) (blkOk_by (by kernel_rfl)) (fun _ _ _ _ _ => pg_tup rfl (pgs_cons (pg_name (i := 9) sc_pi.nd rfl (Or.inl rfl)) (pgs_cons (pg_name (i := 10) sc_pi.nd rfl (Or.inl rfl)) pgs_nil))) (fun _ _ _ _ _ => pts_nil) (fun _ _ _ _ _ => by exact pe_tup (pa_cons (pv 9) (pa_cons (pv 10) pa_nil)))) (pa_cons (pv 7) pa_nil)))) rfl))) <| pss_cons (by
        refine ps_for (passes_of rfl) rfl (pi_enumS (by rfl) gE (pa_cons (pv 2) pa_nil)) (pg_tup rfl (pgs_cons (pg_name (i := 3) sc_pi.nd rfl (Or.inl rfl)) (pgs_cons (pg_name (i := 11) sc_pi.nd rfl (Or.inl rfl)) pgs_nil))) (pss_one (by
          refine ps_if (PW.pt (pw_or (by
            exact pt_cmpR op_gt (pe_call CT.G (hrm 2 (by decide)) (by rfl) CT.g CT.k CT.b .nil pass0 (pa_cons (pe_ix ix_tup (pv 11) pe_int (fun _ _ => rfl)) pa_nil)) (pe_glob (v := .int 14) (by rfl) g14 ⟨_, rfl⟩) (by rfl)) (pw_or1 (by
            exact pt_cmpR op_gt (pe_call NE.G (hrm 2 (by decide)) (by rfl) NE.g NE.k NE.b .nil pass0 (pa_cons (pe_ix ix_tup (pv 11) pe_int (fun _ _ => rfl)) pa_nil)) (pe_glob (v := .int 3) (by rfl) g3 ⟨_, rfl⟩) (by rfl))))) (pss_one (by
            exact ps_raise rfl (takes_of rfl rfl rfl rfl) (pmk_oex T iC tI GI (hrm 2 (by decide)) bI .nil pass0 (by rfl) gB (pa_cons (pe_tup (pa_cons pe_str (pa_cons (pv 3) pa_nil))) pa_nil)))) pss_nil))) <| pss_cons (by
        refine ps_for (passes_of rfl) rfl (pi_enumS (by rfl) gE (pa_cons (pv 2) pa_nil)) (pg_tup rfl (pgs_cons (pg_name (i := 3) sc_pi.nd rfl (Or.inl rfl)) (pgs_cons (pg_name (i := 11) sc_pi.nd rfl (Or.inl rfl)) pgs_nil))) (pss_one (by
          refine ps_forG (k := 2) (passes_of rfl) rfl FN gsc_num gnc_num (by rfl) gN bN (hrm 4 (by decide)) (pa_cons (pe_ix ix_tup (pv 11) pe_int (fun _ _ => rfl)) (pa_cons pe_int pa_nil)) (fun σ H Q h => ?_) (fun cdv gl own S hr => gb_num (k := 0) BO.G BO.g BO.k BO.b cdv gl own S hr) (pg_tup rfl (pgs_cons (pg_name (i := 12) sc_pi.nd rfl (Or.inl rfl)) (pgs_cons (pg_name (i := 13) sc_pi.nd rfl (Or.inl rfl)) pgs_nil))) (takes_of rfl rfl rfl rfl) (fun xe tk => pss_one (by
            refine ps_if (pt_not (pt_val (by
              exact pe_meth (pv 0) pc.cls SF.m SF.G hr SF.b .nil pass0 (pa_cons (pe_ix (r := rIxT K) (by exact ix_tup) (pv 11) pe_int (fun _ _ => rfl)) (pa_cons (pv 13) pa_nil))) (by intro _; rfl))) (pss_one (by
              exact ps_raise rfl tk (pmk_oex T iC tI GI (hrm 2 (by decide)) bI .nil pass0 (by rfl) gB (pa_cons (pe_tup (pa_cons pe_str (pa_cons (pv 3) (pa_cons (pv 12) pa_nil)))) pa_nil)))) pss_nil))
          · obtain ⟨v, hv, p, xs, i, z, e1, e2, h1, h2, q⟩ := h
            exact ⟨v, hv, p, xs, i, z, e1, e2, h1, h2, rfl, q⟩))) <| pss_cons (by
        refine ps_asg (by
          exact pe_dc (own := [("row", 11)]) (g := gName 11) (tt := tYes) (tk := tOp (rIxT K) (tVar 11) (tC (.int 0))) (tv := tCall (spBody K) [] E0 (tCons (tOp (rIxT K) (tVar 11) (tC (.int 4))) tNil)) rfl sc_pi.nd (pi_list (pv 2)) (blkOk_by (by kernel_rfl)) (fun _ _ _ _ _ => pg_name (i := 11) sc_pi.nd rfl (Or.inl rfl)) (fun _ _ _ _ _ => pts_nil) (fun _ _ _ _ _ => by exact pe_ix ix_tup (pv 11) pe_int (fun _ _ => rfl))
            (fun _ _ _ _ _ => by exact pe_call PB.G (hrm 3 (by decide)) (by rfl) PB.g PB.k PB.b .nil pass0 (pa_cons (pe_ix ix_tup (pv 11) pe_int (fun _ _ => rfl)) pa_nil))) (pg_fld (pv 0))) <| pss_cons (by
        refine ps_asg (pe_lock (by
          exact pe_dc (own := [("name", 4), ("body", 8)]) (g := gTup K 2 (gCons (gName 4) (gCons (gName 8) gNil))) (tt := tYes) (tk := tVar 4) (tv := tCall (spLaid K) [] E0 (tCons (tVar 8) (tCons (tC (.int 0)) (tCons (tCall (spCount K) [] E0 (tCons (tVar 8) tNil)) tNil)))) rfl sc_pi.nd (pi_items (pe_fld (pv 0) rfl)) (blkOk_by (by kernel_rfl)) (fun _ _ _ _ _ => pg_tup rfl (pgs_cons (pg_name (i := 4) sc_pi.nd rfl (Or.inl rfl)) (pgs_cons (pg_name (i := 8) sc_pi.nd rfl (Or.inl rfl)) pgs_nil))) (fun _ _ _ _ _ => pts_nil) (fun _ _ _ _ _ => by exact pv 4)
            (fun _ _ _ _ _ => by exact pe_call LA.G (hrm 3 (by decide)) (by rfl) LA.g LA.k LA.b .nil pass0 (pa_cons (pv 8) (pa_cons pe_int (pa_cons (pe_call CT.G (hrm 2 (by decide)) (by rfl) CT.g CT.k CT.b .nil pass0 (pa_cons (pv 8) pa_nil)) pa_nil)))))) (pg_fld (pv 0))) <| pss_one (by
        exact ps_expr (pe_meth0 (pv 0) pc.cls CE.m CE.G (hrm 4 (by decide)) CE.b .nil (passes_call (takes_of rfl rfl rfl rfl) fun _ _ _ _ h => h))), ?_⟩
    have G0 : ∃ G, G = del H x := ⟨_, rfl⟩
    obtain ⟨G, hGe⟩ := G0
    have hG : Ex G H := by rw [hGe]; exact ex_del
    have ry : Ry H G := by rw [hGe]; exact ry_del hx
    have gkd : KindsOk G CK tb := by rw [hGe]; exact hkd.del hx
    have gpr : SqL K G pr ys := ry.l hpr
    have gpp : ∀ (i : Nat) p y, ps[i]? = some p → ys[i]? = some y → IsPr K G i p y := fun i p y a b => (hpp i p y a b).ry ry
    have gx : G x = none := by rw [hGe]; exact del_same
    have gall : ∀ {H' : Hp}, Ex G H' → ∀ a o, a ≠ x → H a = some o → H' a = some o := fun e a o ha h => e a o (by rw [hGe, del_ne ha]; exact h)
    clear hGe
    have hp3 := hps.three
    refine ⟨.ref tb, rfl, .ref x, rfl, x, C, dx, [], rfl, hx, pc.cls, pc.table, (show (0 : Nat) < 1000 by decide), fun sg hsg => ?_⟩
    have hsx : sg ≠ x := fun z => by rw [z, upd_same] at hsg; cases hsg
    have gsg : G sg = none := by
      rw [upd_ne hsx] at hsg
      exact fresh_back hG hsg
    refine ⟨.ref x, rfl, x, C, dx, [("table", .ref tb)], rfl, (by rw [upd_ne (Ne.symm hsx), upd_same, putP1]), pc.cls, pc.signs, (show (1 : Nat) < 1000 by decide), ?_⟩
    rw [putP2]
    have e2 : Ex G (upd (upd (upd H x (.ins C dx (putF "table" (.ref tb) []))) sg (.dK [])) x (.ins C dx [("table", .ref tb), ("signs", .ref sg)])) := Ex.mut (Ex.mut (Ex.mut hG gx) gsg) gx
    have hx2 : (upd (upd (upd H x (.ins C dx (putF "table" (.ref tb) []))) sg (.dK [])) x (.ins C dx [("table", .ref tb), ("signs", .ref sg)])) x = some (.ins C dx [("table", .ref tb), ("signs", .ref sg)]) := upd_same
    have hs2 : (upd (upd (upd H x (.ins C dx (putF "table" (.ref tb) []))) sg (.dK [])) x (.ins C dx [("table", .ref tb), ("signs", .ref sg)])) sg = some (.dK []) := by rw [upd_ne hsx, upd_same]
    generalize upd (upd (upd H x (.ins C dx (putF "table" (.ref tb) []))) sg (.dK [])) x (.ins C dx [("table", .ref tb), ("signs", .ref sg)]) = H2 at e2 hx2 hs2 ⊢
    dsimp only
    refine q_no ?_ fun H3 e3 => ?_
    · exact et_is (et_not (et_test (et_chain (x := 1) (y := 3) (z := 4) ev_c (ev_is (ev_lenQ (ev_var rfl) (.inl (ex_l e2 gpr))) (by rw [hyl]; rfl)) ev_c (by decide) (by decide)))) rfl
    refine s_forW (H0 := G) (n := ys.length) (ew_enum (ea_cons (ev_var rfl) ea_nil) (.inl gpr)) (e2.trans e3) (fun i σ' H' => ∃ p3 p4 p5 p6 p7 p8 p9 p10 p11 p12 p13 sgs, σ' = [some (.ref x), some (.ref tb), some (.ref pr), p3, p4, p5, p6, p7, p8, p9, p10, p11, p12, p13] ∧ Ex G H' ∧ H' x = some (.ins C dx [("table", .ref tb), ("signs", .ref sg)]) ∧ H' sg = some (.dK sgs) ∧ SgI i sgs H' ∧
      ∀ (j : Nat) p, j < i → ps[j]? = some p → p.bad = false) ?_ (fun i σ' H' _ z => ?_) ?_ ?_
    · intro H4 e4
      exact ⟨_, _, _, _, _, _, _, _, _, _, _, [], rfl, (e2.trans e3).trans e4, e4 x _ (e3 x _ hx2), e4 sg _ (e3 sg _ hs2), ⟨Nat.le_refl _, fun j hj => absurd hj (Nat.not_lt_zero _), fun w _ => rfl⟩, fun j p hj => absurd hj (Nat.not_lt_zero _)⟩
    · obtain ⟨_, _, _, _, _, _, _, _, _, _, _, _, _, z, _⟩ := z
      exact z
    · rintro i x1 σ' H4 H5 hi ⟨p3, p4, p5, p6, p7, p8, p9, p10, p11, p12, p13, sgs, rfl, e4, hx4, hs4, hsg4, hb4⟩ ⟨TT, v5, x6, rfl, hT, rfl, h5, h6⟩
      have h5 : V.int (i : Nat) = v5 := Option.some.inj h5
      subst h5
      obtain ⟨pi, hpi⟩ : ∃ p, ps[i]? = some p := ⟨_, List.getElem?_eq_getElem (by omega)⟩
      obtain ⟨t, tk, hs, gv, b, xs, rfl, g1, g2, g3', g4', g5'⟩ := gpp i pi x6 hpi h6
      have eT : Ex H4 (upd H4 TT (.tup [.int (i : Nat), .ref t])) := Ex.new hT
      have e5 := e4.trans eT
      refine g_five (st_of upd_same) (ex_t e5 g1) ?_
      have hx5 := eT x _ hx4
      have hs5 := eT sg _ hs4
      have hsg5 : SgI i sgs (upd H4 TT (.tup [.int (i : Nat), .ref t])) := ⟨hsg4.1, fun j hj => let ⟨T, a, b⟩ := hsg4.2.1 j hj; ⟨T, a, b.ex eT⟩, hsg4.2.2⟩
      clear hsg4
      generalize upd H4 TT (.tup [.int (i : Nat), .ref t]) = H5 at eT e5 hx5 hs5 hsg5 ⊢
      have hnm : pi.bad = false → nmAt i pi = wordAt i := fun hb => by
        unfold nmAt
        rw [hb]
        rfl
      refine q_when (b := pi.bad) (et_is (et_not (et_B (ev_meth (z := .bl (isW (nmAt i pi))) (ev_var rfl) hx5 rfl (ea_cons (ev_var rfl) (ea_cons (ev_var rfl) (ea_cons (ev_var rfl) (ea_cons (ev_var rfl) (ea_cons (ev_var rfl) ea_nil))))) (RetV.call fun H6 e6 Q E q => ⟨x, i, nmAt i pi, tk, hs, gv, dx, _, tb, sg, sgs, rfl, e6 x _ hx5, rfl, gkd.ex (e5.trans e6), rfl, e6 sg _ hs5, g2.ex (e5.trans e6), (word_len i pi).1, (word_len i pi).2, fun hw => ?_, q⟩)))) (by rw [isW_nm, Bool.not_not])) (fun hb H6 e6 => ?_) fun hb H6 e6 => ?_
      · rw [isW_nm] at hw
        have hb : pi.bad = false := by simpa using hw
        rw [hnm hb]
        exact hsg5.2.2 _ fun j hj z => by
          have := word_inj (by omega) (by omega) z
          omega
      · refine tmk_bp (xs := Fault.vs (.proc i)) (eu_tup (ea_cons ev_c (ea_cons (ev_var rfl) ea_nil)) (show (2 : Nat) ≤ 100000 by decide)) fun d t' H' h1 h2 e7 => ?_
        exact kE (.proc i) (due_proc hpi hb hb4) d t' H' h1 h2 (gall ((e5.trans e6).trans e7))
      · refine s_dputT (G := G) (k := .inr (nmAt i pi)) (sig_tup g2 rfl rfl rfl rfl (fun _ _ => rfl) rfl) (e5.trans e6) (fun H7 e7 => ev_fld (ev_var rfl) ((e6.trans e7) x _ hx5) pc.cls pc.signs rfl) (fun H7 e7 => ev_var rfl) (e6 sg _ hs5) (by have := hsg5.1; omega) fun Tg H7 hTg e7 hz => ?_
        have hs7 := e7 sg _ (e6 sg _ hs5)
        have exm : Ex G (upd H7 sg (.dK (putK sgs (.inr (nmAt i pi)) (.ref Tg)))) := Ex.mut ((e5.trans e6).trans e7) gsg
        have hsgn : SgnOk (upd H7 sg (.dK (putK sgs (.inr (nmAt i pi)) (.ref Tg)))) (decide (i = 0)) Tg := hz _ ⟨exm, fun a o na ha => by
          have : a ≠ sg := fun z => by rw [z, e6 sg _ hs5] at na; cases na
          rw [upd_ne this]
          exact ha⟩
        refine ⟨_, _, _, _, _, _, _, _, _, _, _, putK sgs (.inr (nmAt i pi)) (.ref Tg), rfl, exm, ?_, upd_same, ⟨?_, fun j hj => ?_, fun w hw => ?_⟩, fun j p hj hp => ?_⟩
        · rw [upd_ne (Ne.symm hsx)]
          exact e7 x _ (e6 x _ hx5)
        · have := length_putK sgs (Sum.inr (nmAt i pi)) (.ref Tg)
          have := hsg5.1
          omega
        · by_cases hji : j < i
          · obtain ⟨T', a, b'⟩ := hsg5.2.1 j hji
            refine ⟨T', ?_, (b'.ex (e6.trans e7)).mut hs7⟩
            rw [valV_put, if_neg (fun z => ?_)]
            · exact a
            · rw [hnm hb] at z
              have := word_inj (by omega) (by omega) (Sum.inr.inj z)
              omega
          · have : j = i := by omega
            subst this
            refine ⟨Tg, ?_, hsgn⟩
            rw [valV_put, hnm hb, if_pos rfl]
        · rw [valV_put, if_neg (fun z => hw i (by omega) (by rw [← hnm hb]; exact Sum.inr.inj z))]
          exact hsg5.2.2 w fun j hj => hw j (by omega)
        · by_cases hji : j < i
          · exact hb4 j p hji hp
          · have : j = i := by omega
            rw [this, hpi] at hp
            cases hp
            exact hb
    · rintro σ' H4 ⟨p3, p4, p5, p6, p7, p8, p9, p10, p11, p12, p13, sgs, rfl, e4, hx4, hs4, hsg4, hb4⟩
      have n0 : ∀ p ∈ ps, p.bad = false := fun p hp => by
        obtain ⟨j, hj⟩ := List.mem_iff_getElem?.mp hp
        have := (List.getElem?_eq_some_iff.mp hj).1
        exact hb4 j p (by omega) hj
      rw [hyl] at hsg4
      have look : ∀ m : Str, m ∉ [("table" : Str), "signs", "texts", "code"] → ([(("table" : Str), V.ref tb), (("signs" : Str), V.ref sg)]).lookup m = none := fun m hm => by
        simp only [List.mem_cons, not_or] at hm
        obtain ⟨m1, m2, _⟩ := hm
        simp [List.lookup, beq_eq_false_iff_ne.mpr m1, beq_eq_false_iff_ne.mpr m2]
      have hPOk : POk H4 C CK x := hsg4.ok hx4 look rfl (gkd.ex e4) rfl hs4
      have hnm : ∀ (i : Nat) p, ps[i]? = some p → nmAt i p = wordAt i := fun i p hp => by
        unfold nmAt
        rw [n0 p (List.mem_of_getElem? hp)]
        rfl
      have npi : ∀ {i : Nat}, i < ys.length → ∃ p, ps[i]? = some p := fun {i} hi => ⟨_, List.getElem?_eq_getElem (by omega)⟩
      refine s_forW (H0 := H4) (n := ys.length) (ew_enum (ea_cons (ev_var rfl) ea_nil) (.inl (ex_l e4 gpr))) (Ex.refl _) (fun i σ' H' => ∃ p3 p4 p5 p6 p7 p8 p9 p10 p11 p12 p13, σ' = [some (.ref x), some (.ref tb), some (.ref pr), p3, p4, p5, p6, p7, p8, p9, p10, p11, p12, p13] ∧ Ex H4 H' ∧ ∀ (j : Nat) p, j < i → ps[j]? = some p → p.ss.length ≤ 14) ?_ (fun i σ' H' _ z => ?_) ?_ ?_
      · intro H5 e5
        exact ⟨_, _, _, _, _, _, _, _, _, _, _, rfl, e5, fun j p hj => absurd hj (Nat.not_lt_zero _)⟩
      · obtain ⟨_, _, _, _, _, _, _, _, _, _, _, _, z, _⟩ := z
        exact z
      · rintro i x1 σ' H5 H6 hi ⟨p3, p4, p5, p6, p7, p8, p9, p10, p11, p12, p13, rfl, e5, hb5⟩ ⟨TT, v5, x6, rfl, hT, rfl, h5, h6⟩
        have h5 : V.int (i : Nat) = v5 := Option.some.inj h5
        subst h5
        obtain ⟨pi, hpi⟩ := npi hi
        obtain ⟨t, tk, hs, gv, b, xs, rfl, g1, g2, g3', g4', g5'⟩ := (gpp i pi x6 hpi h6).ex e4
        have eT : Ex H5 (upd H5 TT (.tup [.int (i : Nat), .ref t])) := Ex.new hT
        have e6 := e5.trans eT
        refine g_two (st_of upd_same) ?_
        generalize upd H5 TT (.tup [.int (i : Nat), .ref t]) = H6 at eT e6 ⊢
        have hxl : xs.length = pi.ss.length := g4'.len
        have flat : FlatB K H4 b xs := g4'.flat g3' (by omega)
        have row : ∀ {H' : Hp} {σ : L2.St}, Ex H4 H' → σ[11]? = some (some (.ref t)) → Ev (tOp (rIxT K) (tVar 11) (tC (.int 4))) σ H' (.ref b) := fun e z => ev_ixT (i := 4) (ev_var z) ev_c (ex_t e g1) (at_of (j := 4) rfl rfl)
        refine s_when (b := decide (14 < pi.ss.length)) (et_is (et_or (a := decide (14 < pi.ss.length)) (b := false) (et_test (ev_is (ev_op (x := .int (xs.length : Nat)) (y := .int 14) (ev_call (ea_cons (row e6 rfl) ea_nil) (RetV.call fun H7 e7 Q E q => ⟨b, xs, rfl, flat.same (e6.trans e7), q⟩)) ev_c rv_I0) ?_)) fun _ => et_test (ev_is (ev_op (x := .int 1) (y := .int 3) (ev_call (ea_cons (row e6 rfl) ea_nil) (RetV.call fun H7 e7 Q E q => ⟨b, xs, rfl, flat.same (e6.trans e7), q⟩)) ev_c rv_I0) rfl)) (Bool.or_false _)) (fun hb H7 e7 => ?_) fun hb H7 e7 => ?_
        · congr 1
          exact decide_eq_decide.mpr ⟨fun h => by omega, fun h => by omega⟩
        · refine tmk_bp (xs := Fault.vs (.long i)) (eu_tup (ea_cons ev_c (ea_cons (ev_var rfl) ea_nil)) (show (2 : Nat) ≤ 100000 by decide)) fun d t' H' h1 h2 e8 => ?_
          exact kE (.long i) (due_long n0 hpi (of_decide_eq_true hb) hb5) d t' H' h1 h2 (gall (((e4.trans e6).trans e7).trans e8))
        · refine ⟨_, _, _, _, _, _, _, _, _, _, _, rfl, e6.trans e7, fun j p hj hp => ?_⟩
          by_cases hji : j < i
          · exact hb5 j p hji hp
          · have : j = i := by omega
            rw [this, hpi] at hp
            cases hp
            have := of_decide_eq_false hb
            omega
      · rintro σ' H5 ⟨p3, p4, p5, p6, p7, p8, p9, p10, p11, p12, p13, rfl, e5, hb5⟩
        have nl : ∀ p ∈ ps, p.ss.length ≤ 14 := fun p hp => by
          obtain ⟨j, hj⟩ := List.mem_iff_getElem?.mp hp
          have := (List.getElem?_eq_some_iff.mp hj).1
          exact hb5 j p (by omega) hj
        refine s_forW (H0 := H4) (n := ys.length) (ew_enum (ea_cons (ev_var rfl) ea_nil) (.inl (ex_l e4 gpr))) e5 (fun i σ' H' => ∃ p3 p4 p5 p6 p7 p8 p9 p10 p11 p12 p13, σ' = [some (.ref x), some (.ref tb), some (.ref pr), p3, p4, p5, p6, p7, p8, p9, p10, p11, p12, p13] ∧ Ex H4 H' ∧ ∀ (j : Nat) p, j < i → ps[j]? = some p → p.ss.all Sh.good = true) ?_ (fun i σ' H' _ z => ?_) ?_ ?_
        · intro H6 e6
          exact ⟨_, _, _, _, _, _, _, _, _, _, _, rfl, e5.trans e6, fun j p hj => absurd hj (Nat.not_lt_zero _)⟩
        · obtain ⟨_, _, _, _, _, _, _, _, _, _, _, _, z, _⟩ := z
          exact z
        · rintro i x1 σ' H6 H7 hi ⟨p3, p4, p5, p6, p7, p8, p9, p10, p11, p12, p13, rfl, e6, hb6⟩ ⟨TT, v5, x6, rfl, hT, rfl, h5, h6⟩
          have h5 : V.int (i : Nat) = v5 := Option.some.inj h5
          subst h5
          obtain ⟨pi, hpi⟩ := npi hi
          obtain ⟨t, tk, hs, gv, b, xs, rfl, g1, g2, g3', g4', g5'⟩ := (gpp i pi x6 hpi h6).ex e4
          have eT : Ex H6 (upd H6 TT (.tup [.int (i : Nat), .ref t])) := Ex.new hT
          have e7 := e6.trans eT
          refine g_two (st_of upd_same) ?_
          generalize upd H6 TT (.tup [.int (i : Nat), .ref t]) = H7 at eT e7 ⊢
          have hxl : xs.length = pi.ss.length := g4'.len
          have flat : FlatB K H7 b xs := (g4'.flat g3' (by omega)).same e7
          refine s_forNum (a := b) (xs := xs) (ea_cons (ev_ixT (i := 4) (ev_var rfl) ev_c (ex_t e7 g1) (at_of (j := 4) rfl rfl)) (ea_cons ev_c ea_nil)) flat (fun j σ' H' => ∃ p12 p13, σ' = [some (.ref x), some (.ref tb), some (.ref pr), some (.int (i : Nat)), p4, p5, p6, p7, p8, p9, p10, some (.ref t), p12, p13] ∧ Ex H7 H' ∧ ∀ (j' : Nat) s, j' < j → pi.ss[j']? = some s → s.good = true) ?_ (fun j σ' H' z => ?_) ?_ ?_
          · intro H8 e8
            exact ⟨_, _, rfl, e8, fun j s hj => absurd hj (Nat.not_lt_zero _)⟩
          · obtain ⟨_, _, _, z, _⟩ := z
            exact z
          · rintro j y σ' H8 pp H9 N hy ⟨p12, p13, rfl, e8, hall⟩ e9 hpp9 hN
            obtain ⟨sj, hsj, hisj⟩ := g4'.at hy
            refine g_two (st_of hpp9) ?_
            have e79 := e7.trans (e8.trans e9)
            refine s_when (b := !sj.good) (et_is (et_not (et_B (ev_meth (z := .bl sj.good) (ev_var rfl) (e79 x _ hx4) rfl (ea_cons (ev_ixT (i := 0) (ev_var rfl) ev_c (ex_t e79 g1) (at_of (j := 0) rfl rfl)) (ea_cons (ev_var rfl) ea_nil)) (RetV.call fun H10 e10 Q E q => ⟨x, nmAt i pi, y, sj, rfl, hPOk.ex (e79.trans e10), ?_, hisj.ex (e79.trans e10), fun wc hwc => ?_, q⟩)))) rfl) (fun hb H10 e10 => ?_) fun hb H10 e10 => ?_
            · rw [hnm i pi hpi]
              exact word_name (by omega)
            · have := hps.calls i pi wc hpi (by rw [← hwc]; exact List.mem_of_getElem? hsj)
              rw [this]
              by_cases h2 : i = 2
              · rw [if_pos h2]
                exact .inr rfl
              · rw [if_neg h2]
                exact .inl rfl
            · refine tmk_bp (xs := Fault.vs (.stm i j)) (eu_tup (ea_cons ev_c (ea_cons (ev_var rfl) (ea_cons (ev_var rfl) ea_nil))) (show (3 : Nat) ≤ 100000 by decide)) fun d t' H' h1 h2 e11 => ?_
              exact kE (.stm i j) (due_stm n0 nl hpi hsj (by simpa using hb) (fun j' s' hj' hs' => hall j' s' hj' hs') fun i' p' hi' hp' s hs => List.all_eq_true.mp (hb6 i' p' hi' hp') s hs) d t' H' h1 h2 (gall ((e4.trans (e79.trans e10)).trans e11))
            · refine hN _ _ ⟨_, _, rfl, (e8.trans e9).trans e10, fun j' s hj' hs => ?_⟩
              by_cases hjj : j' < j
              · exact hall j' s hjj hs
              · have : j' = j := by omega
                rw [this, hsj] at hs
                cases hs
                simpa using hb
          · rintro σ' H8 H9 ⟨p12, p13, rfl, e8, hall⟩ e9
            refine ⟨_, _, _, _, _, _, _, _, _, _, _, rfl, e7.trans (e8.trans e9), fun j p hj hp => ?_⟩
            by_cases hji : j < i
            · exact hb6 j p hji hp
            · have : j = i := by omega
              rw [this, hpi] at hp
              cases hp
              refine List.all_eq_true.mpr fun s hs => ?_
              obtain ⟨j', hj'⟩ := List.mem_iff_getElem?.mp hs
              have := (List.getElem?_eq_some_iff.mp hj').1
              exact hall j' s (by omega) hj'
        · rintro σ' H6 ⟨p3, p4, p5, p6, p7, p8, p9, p10, p11, p12, p13, rfl, e6, hb6⟩
          have ng : ∀ p ∈ ps, p.ss.all Sh.good = true := fun p hp => by
            obtain ⟨j, hj⟩ := List.mem_iff_getElem?.mp hp
            have := (List.getElem?_eq_some_iff.mp hj).1
            exact hb6 j p (by omega) hj
          have e6G : Ex G H6 := e4.trans e6
          have hx6 := e6 x _ hx4
          have hs6 := e6 sg _ hs4
          have lens : ∀ (i : Nat) p, ps[i]? = some p → p.ss.length ≤ 14 := fun i p hp => nl p (List.mem_of_getElem? hp)
          have W7 : EvW (iList K (tVar 2)) [some (V.ref x), some (.ref tb), some (.ref pr), p3, p4, p5, p6, p7, p8, p9, p10, p11, p12, p13] H6 3 (YAt ys) := by
            have W := ew_list (K := K) (te := tVar 2) (σ := [some (V.ref x), some (.ref tb), some (.ref pr), p3, p4, p5, p6, p7, p8, p9, p10, p11, p12, p13]) (H := H6) (ev_var rfl) (ex_l e6G gpr)
            rw [hyl] at W
            exact W
          have D7 : EvD (tDc (iList K (tVar 2)) (gName 11) tYes (tOp (rIxT K) (tVar 11) (tC (.int 0))) (tCall (spBody K) [] E0 (tCons (tOp (rIxT K) (tVar 11) (tC (.int 4))) tNil)) [11]) [some (V.ref x), some (.ref tb), some (.ref pr), p3, p4, p5, p6, p7, p8, p9, p10, p11, p12, p13] H6 G 3 (fun i => .inr (wordAt i)) (fun i v H' => ∃ b' ys', v = .ref b' ∧ H' b' = some (.tup ys') ∧ ∀ p, ps[i]? = some p → IsB K H' p.ss ys') := by
            refine ed_dc (n := 3) (fun i j hi hj h => word_inj hi hj (Sum.inr.inj h)) e6G W7 (by decide) fun i y H1 H2 hi e yy => ?_
            obtain ⟨rfl, hy⟩ := yy
            obtain ⟨pi, hpi⟩ := npi (i := i) (by omega)
            obtain ⟨t, tk, hs, gv, b, xs, rfl, g1, g2, g3', g4', g5'⟩ := gpp i pi y hpi hy
            refine ⟨Ex.refl _, fun Q q => q _ H2 (Ex.refl _) rfl (fun H8 e8 => ?_) fun H8 e8 Q2 q2 => ?_⟩
            · exact ev_is (ev_ixT (i := 0) (v := .str (nmAt i pi)) (ev_var rfl) ev_c (ex_t (e6G.trans (e.trans e8)) g1) (at_of (j := 0) rfl rfl)) (by rw [hnm i pi hpi]; rfl)
            · refine (ea_cons (ev_ixT (i := 4) (v := .ref b) (ev_var rfl) ev_c (ex_t (e6G.trans (e.trans e8)) g1) (at_of (j := 4) rfl rfl)) ea_nil) H8 (Ex.refl _) _ fun H9 e9 => ⟨b, xs, pi.ss, G, rfl, e6G.trans (e.trans (e8.trans e9)), g3', g4', ng pi (List.mem_of_getElem? hpi), by have := lens i pi hpi; omega, fun p' ys' H10 hp' e10 h10 z => q2 (.ref p') H10 (e9.trans e10) fun H11 k11 => ⟨p', ys', rfl, k11.new p' _ (fresh_back (e8.trans e9) hp') h10, fun p hp => ?_⟩⟩
              rw [hpi] at hp
              cases hp
              exact z H11 (k11.part (e8.trans e9) (Ex.refl _))
          dsimp only
          refine q_asgW ?_
          refine D7 H6 (Ex.refl _) _ fun dT ysT H7 hdT e7 h7 z7 => ?_
          refine ⟨.ref x, rfl, x, C, dx, [("table", .ref tb), ("signs", .ref sg)], rfl, e7 x _ hx6, pc.cls, pc.texts, (show (2 : Nat) < 1000 by decide), ?_⟩
          rw [putP3]
          have hdx : dT ≠ x := fun z => by rw [z, hx6] at hdT; cases hdT
          have hds : sg ≠ dT := fun z => by rw [z, hdT] at hs6; cases hs6
          have GT : ∃ G2, G2 = del (del H7 x) dT := ⟨_, rfl⟩
          obtain ⟨G2, hG2⟩ := GT
          have g2at : ∀ a, a ≠ x → a ≠ dT → G2 a = H7 a := fun a h1 h2 => by rw [hG2, del_ne h2, del_ne h1]
          have g2x : G2 x = none := by rw [hG2, del_ne (Ne.symm hdx), del_same]
          have g2d : G2 dT = none := by rw [hG2, del_same]
          have eG2 : Ex G G2 := fun a o ha => by
            rw [g2at a (fun z => by rw [z, gx] at ha; cases ha) (fun z => by rw [z, fresh_back e6G hdT] at ha; cases ha)]
            exact (e6G.trans e7) a o ha
          have E7 := els3 (z7 G2 eG2 fun a o ha n h => by
            rw [g2at a (fun z => by rw [z, hx6] at n; cases n) ha]
            exact h)
          obtain ⟨v0, v1, v2, hysT, ⟨b0, ys0, hv0, hb0, hB0⟩, ⟨b1, ys1, hv1, hb1, hB1⟩, b2, ys2, hv2, hb2, hB2⟩ := E7
          subst hv0 hv1 hv2 hysT
          clear hG2 z7 D7 W7
          have hps3 : ∃ q0 q1 q2, ps = [q0, q1, q2] := by
            match ps, hp3 with
            | [a, b, c], _ => exact ⟨a, b, c, rfl⟩
          obtain ⟨q0, q1, q2, hpse⟩ := hps3
          subst hpse
          have hB0 := hB0 q0 rfl
          have hB1 := hB1 q1 rfl
          have hB2 := hB2 q2 rfl
          have facts : ∀ i : Nat, i < 3 → ∃ b ys p, ([(b0, ys0), (b1, ys1), (b2, ys2)] : List (Addr × List V))[i]? = some (b, ys) ∧ (zipD (fun i => Sum.inr (wordAt i)) [V.ref b0, .ref b1, .ref b2] 3)[i]? = some (.inr (wordAt i), .ref b) ∧ ([q0, q1, q2] : List Pr)[i]? = some p ∧ G2 b = some (.tup ys) ∧ IsB K G2 p.ss ys := fun i hi => by
            match i, hi with
            | 0, _ => exact ⟨b0, ys0, q0, rfl, rfl, rfl, hb0, hB0⟩
            | 1, _ => exact ⟨b1, ys1, q1, rfl, rfl, rfl, hb1, hB1⟩
            | 2, _ => exact ⟨b2, ys2, q2, rfl, rfl, rfl, hb2, hB2⟩
          have ex8 : Ex G2 (upd H7 x (.ins C dx [("table", .ref tb), ("signs", .ref sg), ("texts", .ref dT)])) := fun a o ha => by
            have h1 : a ≠ x := fun z => by rw [z, g2x] at ha; cases ha
            have h2 : a ≠ dT := fun z => by rw [z, g2d] at ha; cases ha
            rw [upd_ne h1, ← g2at a h1 h2]
            exact ha
          have hx8 : (upd H7 x (.ins C dx [("table", .ref tb), ("signs", .ref sg), ("texts", .ref dT)])) x = some (.ins C dx [("table", .ref tb), ("signs", .ref sg), ("texts", .ref dT)]) := upd_same
          have hd8 : (upd H7 x (.ins C dx [("table", .ref tb), ("signs", .ref sg), ("texts", .ref dT)])) dT = some (.dK (zipD (fun i => .inr (wordAt i)) [.ref b0, .ref b1, .ref b2] 3)) := by
            rw [upd_ne hdx]
            exact h7
          have k8 : ∀ a o, a ≠ x → H4 a = some o → (upd H7 x (.ins C dx [("table", .ref tb), ("signs", .ref sg), ("texts", .ref dT)])) a = some o := fun a o ha h => by
            rw [upd_ne ha]
            exact (e6.trans e7) a o h
          have d4 : H4 dT = none := fresh_back e6 hdT
          clear e7 h7
          generalize upd H7 x (.ins C dx [("table", .ref tb), ("signs", .ref sg), ("texts", .ref dT)]) = H8 at ex8 hx8 hd8 k8 ⊢
          refine q_asgW ⟨dT, _, hd8, trivial, fun od => ?_⟩
          have exw : Ex G2 (upd H8 dT (.frz od (.dK (zipD (fun i => .inr (wordAt i)) [.ref b0, .ref b1, .ref b2] 3)))) := Ex.mut ex8 g2d
          have hxw : (upd H8 dT (.frz od (.dK (zipD (fun i => .inr (wordAt i)) [.ref b0, .ref b1, .ref b2] 3)))) x = some (.ins C dx [("table", .ref tb), ("signs", .ref sg), ("texts", .ref dT)]) := by rw [upd_ne (Ne.symm hdx)]; exact hx8
          have hdw : (upd H8 dT (.frz od (.dK (zipD (fun i => .inr (wordAt i)) [.ref b0, .ref b1, .ref b2] 3)))) dT = some (.frz od (.dK (zipD (fun i => .inr (wordAt i)) [.ref b0, .ref b1, .ref b2] 3))) := upd_same
          have kw : ∀ a o, a ≠ x → H4 a = some o → (upd H8 dT (.frz od (.dK (zipD (fun i => .inr (wordAt i)) [.ref b0, .ref b1, .ref b2] 3)))) a = some o := fun a o ha h => by
            rw [upd_ne (fun z => by rw [z, d4] at h; cases h)]
            exact k8 a o ha h
          clear hd8 hx8 ex8 k8
          generalize upd H8 dT (.frz od (.dK (zipD (fun i => .inr (wordAt i)) [.ref b0, .ref b1, .ref b2] 3))) = Hw at exw hxw hdw kw ⊢
          have D8 : EvD (tDc (iItems (tFld K (tVar 0) "texts")) (gTup K 2 (gCons (gName 4) (gCons (gName 8) gNil))) tYes (tVar 4) (tCall (spLaid K) [] E0 (tCons (tVar 8) (tCons (tC (.int 0)) (tCons (tCall (spCount K) [] E0 (tCons (tVar 8) tNil)) tNil)))) [4, 8]) [some (V.ref x), some (.ref tb), some (.ref pr), p3, p4, p5, p6, p7, p8, p9, p10, p11, p12, p13] Hw G2 3 (fun i => .inr (wordAt i)) (fun i v H' => ∃ r rows, v = .ref r ∧ H' r = some (.lst rows) ∧ ∀ e : Addr × List V, ([(b0, ys0), (b1, ys1), (b2, ys2)] : List (Addr × List V))[i]? = some e → RowsL K e.2 rows H') := by
            refine ed_dc (n := 3) (Y := YPair (fun i => (zipD (fun i => Sum.inr (wordAt i)) [V.ref b0, .ref b1, .ref b2] 3)[i]?.map fun kv => kV kv.1) fun i => (zipD (fun i => Sum.inr (wordAt i)) [V.ref b0, .ref b1, .ref b2] 3)[i]?.map Prod.snd) (fun i j hi hj h => word_inj hi hj (Sum.inr.inj h)) exw ⟨Iti dT od _, fun H1 => H1 dT = _, walk_items, fun H1 e => e dT _ hdw, fun H1 e R q => ev_fld (v := .ref dT) (ev_var rfl) hxw pc.cls pc.texts rfl H1 e _ fun H2 e2 => ⟨dT, od, _, rfl, (e.trans e2) dT _ hdw, q H2 e2⟩⟩ (by decide) fun i y H1 H2 hi e yy => ?_
            obtain ⟨TT, x5, x6, rfl, hT, rfl, y5, y6⟩ := yy
            obtain ⟨b, yb, p, f1, f2, f3, f4, f5⟩ := facts i hi
            have y5 : ((zipD (fun i => Sum.inr (wordAt i)) [V.ref b0, .ref b1, .ref b2] 3)[i]?.map fun kv => kV kv.1) = some x5 := y5
            have y6 : (zipD (fun i => Sum.inr (wordAt i)) [V.ref b0, .ref b1, .ref b2] 3)[i]?.map Prod.snd = some x6 := y6
            rw [f2] at y5 y6
            have y5 : V.str (wordAt i) = x5 := Option.some.inj y5
            have y6 : V.ref b = x6 := Option.some.inj y6
            subst y5 y6
            have eT : Ex H1 (upd H1 TT (.tup [.str (wordAt i), .ref b])) := Ex.new hT
            have flat : FlatB K G2 b yb := f5.flat (.inr (st_of f4)) (by have := lens i p f3; omega)
            refine ⟨eT, fun Q q => g_two (st_of upd_same) (q _ _ (Ex.refl _) rfl (fun H8 e8 => ?_) fun H8 e8 Q2 q2 => ?_)⟩
            · exact ev_var rfl
            · have e08 := exw.trans (e.trans (eT.trans e8))
              refine (ea_cons (ev_var (v := .ref b) rfl) (ea_cons (ev_c (v := .int 0)) (ea_cons (ev_call (z := .int (yb.length : Int)) (ea_cons (ev_var (v := .ref b) rfl) ea_nil) (RetV.call fun H9 e9 Q E q => ⟨b, yb, rfl, flat.same (e08.trans e9), q⟩)) ea_nil))) H8 (Ex.refl _) _ fun H9 e9 => ⟨b, yb, G2, rfl, e08.trans e9, flat, fun p' ys' H10 hp' e10 h10 z => q2 (.ref p') H10 (e9.trans e10) fun H11 k11 => ⟨p', ys', rfl, k11.new p' _ (fresh_back (eT.trans (e8.trans e9)) hp') h10, fun e2 he2 => ?_⟩⟩
              rw [f1] at he2
              cases he2
              exact z H11 (k11.part (eT.trans (e8.trans e9)) (Ex.refl _))
          refine D8 Hw (Ex.refl _) _ fun c ysC H9 hc9 e9 h9 z9 => ⟨e9 dT _ hdw, .ref x, rfl, x, C, dx, [("table", .ref tb), ("signs", .ref sg), ("texts", .ref dT)], rfl, (by rw [upd_ne (Ne.symm hdx)]; exact e9 x _ hxw), pc.cls, pc.code, (show (3 : Nat) < 1000 by decide), ?_⟩
          rw [putP4]
          have hcx : c ≠ x := fun z => by rw [z, hxw] at hc9; cases hc9
          have hcd : c ≠ dT := fun z => by rw [z, hdw] at hc9; cases hc9
          have hx10 : (upd (upd H9 dT (.dK (zipD (fun i => .inr (wordAt i)) [.ref b0, .ref b1, .ref b2] 3))) x (.ins C dx [("table", .ref tb), ("signs", .ref sg), ("texts", .ref dT), ("code", .ref c)])) x = some (.ins C dx [("table", .ref tb), ("signs", .ref sg), ("texts", .ref dT), ("code", .ref c)]) := upd_same
          have k10 : ∀ a o, a ≠ x → a ≠ dT → H9 a = some o → (upd (upd H9 dT (.dK (zipD (fun i => .inr (wordAt i)) [.ref b0, .ref b1, .ref b2] 3))) x (.ins C dx [("table", .ref tb), ("signs", .ref sg), ("texts", .ref dT), ("code", .ref c)])) a = some o := fun a o h1 h2 h => by
            rw [upd_ne h1, upd_ne h2]
            exact h
          generalize upd (upd H9 dT (.dK (zipD (fun i => .inr (wordAt i)) [.ref b0, .ref b1, .ref b2] 3))) x (.ins C dx [("table", .ref tb), ("signs", .ref sg), ("texts", .ref dT), ("code", .ref c)]) = H10 at hx10 k10 ⊢
          have ex10 : Ex G2 H10 := fun a o ha => k10 a o (fun z => by rw [z, g2x] at ha; cases ha) (fun z => by rw [z, g2d] at ha; cases ha) ((exw.trans e9) a o ha)
          have k4 : ∀ a o, a ≠ x → H4 a = some o → H10 a = some o := fun a o ha h => k10 a o ha (fun z => by rw [z, d4] at h; cases h) (e9 a o (kw a o ha h))
          have hc10 := k10 c _ hcx hcd h9
          obtain ⟨w0, w1, w2, hysC, ⟨r0, rows0, hw0, hr0, hR0⟩, ⟨r1, rows1, hw1, hr1, hR1⟩, r2, rows2, hw2, hr2, hR2⟩ := els3 (z9 H10 ex10 fun a o ha n h => k10 a o (fun z => by rw [z, hxw] at n; cases n) (fun z => by rw [z, hdw] at n; cases n) h)
          subst hw0 hw1 hw2 hysC
          have hR0 := hR0 (b0, ys0) rfl
          have hR1 := hR1 (b1, ys1) rfl
          have hR2 := hR2 (b2, ys2) rfl
          have hs10 : H10 sg = some (.dK sgs) := k4 sg _ hsx hs4
          have hsc : sg ≠ c := fun z => by rw [← z, kw sg _ hsx hs4] at hc9; cases hc9
          have L0 := lens 0 q0 rfl
          have L1 := lens 1 q1 rfl
          have L2' := lens 2 q2 rfl
          have m0 : q0 ∈ [q0, q1, q2] := List.mem_cons_self
          have m1 : q1 ∈ [q0, q1, q2] := List.mem_cons_of_mem _ List.mem_cons_self
          have m2 : q2 ∈ [q0, q1, q2] := List.mem_cons_of_mem _ (List.mem_cons_of_mem _ List.mem_cons_self)
          have conv : ∀ a o, a ≠ x → H a = some o → a ≠ c ∧ H10 a = some o := fun a o ha h => by
            have h2 : G2 a = some o := by
              have hg : H4 a = some o := gall e4 a o ha h
              have := d4
              have hd : a ≠ dT := fun z => by rw [z, d4] at hg; cases hg
              have := (exw.trans e9)
              exact eG2 a o (by
                cases hGa : G a with
                | some o' =>
                  have := hG a o' hGa
                  rw [h] at this
                  exact this.symm
                | none => exact absurd (gall (Ex.refl G) a o ha h) (by rw [hGa]; simp))
            exact ⟨(fun z => by rw [← z, exw a o h2] at hc9; cases hc9), ex10 a o h2⟩
          refine ⟨.ref x, rfl, x, dx, _, rfl, hx10, rfl, x, c, [("main", r0, q0.ss), ("f", r1, q1.ss), ("g", r2, q2.ss)], rfl, ⟨dx, _, sg, sgs, hx10, rfl, rfl, hs10, hsc, ⟨hc10, ?_, (show (3 : Nat) ≤ 10 by decide), fun e he => ?_⟩, fun e he => ?_⟩, fun F hL hC => ?_⟩
          · show (["main", "f", "g"] : List Str).Nodup
            decide +kernel
          · rcases List.mem_cons.mp he with rfl | he
            · exact ⟨ys0, rows0, sq_of hr0, hR0, hB0.ex ex10, ng q0 m0, by show q0.ss.length ≤ 100; omega⟩
            rcases List.mem_cons.mp he with rfl | he
            · exact ⟨ys1, rows1, sq_of hr1, hR1, hB1.ex ex10, ng q1 m1, by show q1.ss.length ≤ 100; omega⟩
            rcases List.mem_cons.mp he with rfl | he
            · exact ⟨ys2, rows2, sq_of hr2, hR2, hB2.ex ex10, ng q2 m2, by show q2.ss.length ≤ 100; omega⟩
            · cases he
          · have sgf : ∀ i : Nat, i < 3 → ∃ t y1 y2 y3, valV sgs (.inr (wordAt i)) = some (.ref t) ∧ SqT K H10 t [y1, y2, y3] := fun i hi => by
              obtain ⟨T', a, l1, l2, p1, p2, b, _⟩ := hsg4.2.1 i hi
              exact ⟨T', _, _, _, a, st_of (k4 T' _ (fun z => by rw [z, hx4] at b; cases b) b)⟩
            rcases List.mem_cons.mp he with rfl | he
            · exact ⟨hps.marks q0 m0 (ng q0 m0), sgf 0 (by decide)⟩
            rcases List.mem_cons.mp he with rfl | he
            · exact ⟨hps.marks q1 m1 (ng q1 m1), sgf 1 (by decide)⟩
            rcases List.mem_cons.mp he with rfl | he
            · exact ⟨hps.marks q2 m2 (ng q2 m2), sgf 2 (by decide)⟩
            · cases he
          · obtain ⟨f0, f1, f2⟩ := known3 (fun w hw => hps.calls 0 q0 w rfl hw) (fun w hw => hps.calls 1 q1 w rfl hw) (fun w hw => hps.calls 2 q2 w rfl hw) hL hC
            have hS : ∀ (i : Nat) e, ([("main", r0, q0.ss), ("f", r1, q1.ss), ("g", r2, q2.ss)] : List Ent)[i]? = some e → (stuck [q0, q1, q2])[i]? = some (!F e.1) ∧ ([q0, q1, q2] : List Pr)[i]?.map (fun p => p.ss) = some e.2.2 := fun i e he => by
              match i, he with
              | 0, he =>
                cases he
                refine ⟨?_, rfl⟩
                show some (q0.ss.any Sh.isC && q1.ss.any Sh.isC) = some (!F "main")
                rw [f0, Bool.not_not]
              | 1, he =>
                cases he
                refine ⟨?_, rfl⟩
                show some (q1.ss.any Sh.isC) = some (!F "f")
                rw [f1, Bool.not_not]
              | 2, he =>
                cases he
                refine ⟨?_, rfl⟩
                show some (q2.ss.any Sh.isC) = some (!F "g")
                rw [f2, Bool.not_not]
              | n + 3, he => simp at he
            have back : ∀ (i : Nat) p, ([q0, q1, q2] : List Pr)[i]? = some p → ∃ e, ([("main", r0, q0.ss), ("f", r1, q1.ss), ("g", r2, q2.ss)] : List Ent)[i]? = some e ∧ e.2.2 = p.ss := fun i p hp => by
              match i, hp with
              | 0, hp => cases hp; exact ⟨_, rfl, rfl⟩
              | 1, hp => cases hp; exact ⟨_, rfl, rfl⟩
              | 2, hp => cases hp; exact ⟨_, rfl, rfl⟩
              | n + 3, hp => simp at hp
            have three : ∀ (i : Nat) b, (stuck [q0, q1, q2])[i]? = some b → ∃ e, ([("main", r0, q0.ss), ("f", r1, q1.ss), ("g", r2, q2.ss)] : List Ent)[i]? = some e := fun i b hb => by
              match i, hb with
              | 0, _ => exact ⟨_, rfl⟩
              | 1, _ => exact ⟨_, rfl⟩
              | 2, _ => exact ⟨_, rfl⟩
              | n + 3, hb => exact absurd hb (by unfold stuck; simp)
            refine ⟨fun i e he hF hall d t H' h1 h2 h3 => ?_, fun hall => ?_⟩
            · refine kE (.ends i) (due_ends n0 nl ng (by rw [(hS i e he).1, hF]; rfl) fun j b hj hb => ?_) d t H' h1 h2 fun a o ha h => h3 a o (conv a o ha h).1 (conv a o ha h).2
              obtain ⟨e', he'⟩ := three j b hb
              have := (hS j e' he').1
              rw [hb] at this
              rw [Option.some.inj this, hall j e' hj he']
              rfl
            have hSt : ∀ (j : Nat) b, (stuck [q0, q1, q2])[j]? = some b → b = false := fun j b hb => by
              obtain ⟨e', he'⟩ := three j b hb
              have := (hS j e' he').1
              rw [hb] at this
              rw [Option.some.inj this, hall e' (List.mem_of_getElem? he')]
              rfl
            refine ⟨fun i e j he hj hnj hni d t H' h1 h2 h3 => ?_, fun hno H11 e11 => ?_⟩
            · obtain ⟨p, hp, hpe⟩ := Option.map_eq_some_iff.mp (hS i e he).2
              refine kE (.mark i j) (due_mark n0 nl ng hSt hp (by rw [hpe]; exact hj) (fun j' hj' => by rw [hpe]; exact hnj j' hj') fun i' p' hi' hp' => ?_) d t H' h1 h2 fun a o ha h => h3 a o (conv a o ha h).1 (conv a o ha h).2
              obtain ⟨e', he', hee⟩ := back i' p' hp'
              rw [← hee]
              exact hni i' e' hi' he'
            · refine kN (due_none n0 nl ng hSt fun p hp => ?_) H11 (fun a o ha h => e11 a o (conv a o ha h).2) ⟨dx, _, c, _, e11 x _ hx10, rfl, fun m hm => ?_, e11 c _ hc10, rfl, [rows0, rows1, rows2], rfl, ?_, ?_, fun i kv l hi hl => ?_⟩
              · obtain ⟨i, hi⟩ := List.mem_iff_getElem?.mp hp
                obtain ⟨e', he', hee⟩ := back i p hi
                rw [← hee]
                exact hno e' (List.mem_of_getElem? he')
              · simp only [List.mem_cons, not_or] at hm
                obtain ⟨y1, y2, y3, y4, _⟩ := hm
                simp [List.lookup, beq_eq_false_iff_ne.mpr y1, beq_eq_false_iff_ne.mpr y2, beq_eq_false_iff_ne.mpr y3, beq_eq_false_iff_ne.mpr y4]
              · have a0 := hR0.1.trans hB0.len
                have a1 := hR1.1.trans hB1.len
                have a2 := hR2.1.trans hB2.len
                show rows0.length + (rows1.length + (rows2.length + 0)) = q0.ss.length + (q1.ss.length + (q2.ss.length + 0))
                omega
              · show q0.ss.length + (q1.ss.length + (q2.ss.length + 0)) ≤ 200
                omega
              · match i, hi, hl with
                | 0, hi, hl =>
                  cases hi
                  cases hl
                  exact ⟨r0, rfl, e11 _ _ hr0⟩
                | 1, hi, hl =>
                  cases hi
                  cases hl
                  exact ⟨r1, rfl, e11 _ _ hr1⟩
                | 2, hi, hl =>
                  cases hi
                  cases hl
                  exact ⟨r2, rfl, e11 _ _ hr2⟩
                | n + 3, hi, hl => simp at hl
end
end Cp

/-! Program.__len__; list(d.values()); len by an own __len__. -/
namespace Cp
open PySem PySem.Spec PyProof.Rows L2 Evl GN GZ
section
variable {X : Cx} {e : Expr} {te : TE} {p apos cpos pos : Pos}
/-- list(d.values()) -/
def tListV (te : TE) : TE := fun σ H Q => te σ H fun x H1 => ∃ (d : Addr) (kvs : List (L2.Key × V)), x = .ref d ∧ H1 d = some (.dK kvs) ∧ ∀ p, H1 p = none → Q (.ref p) (upd H1 p (.lst (kvs.map Prod.snd)))
theorem vals_snd {kvs : List (L2.Key × V)} {vs : List (L2.Key × Value)} (kv : KV kvs vs) : Vals (kvs.map Prod.snd) (vs.map Prod.snd) := by
  induction kv with
  | nil => exact .nil
  | cons h t ih => exact .cons h.2 ih
theorem pe_listV (hc : X.calm = true) (he : PE X e te) (hg : Gl X "list") (hm : X.mg "list" = none) (hbase : attributeBase e "values" X.env (eval e X.env) = eval e X.env := by rfl) (hline : (apos.endLine == cpos.line) = true := by rfl)
    (hs : starEach [.Call (.Attribute e "values" apos) [] [] cpos] X.env = (false, eval (.Call (.Attribute e "values" apos) [] [] cpos) X.env) :: starEach [] X.env := by rfl) :
    PE X (.Call (.Name "list" p) [.Call (.Attribute e "values" apos) [] [] cpos] [] pos) (tListV te) := by
  refine ⟨fun pins s σ H Q I hq => wpAny_Call_Name_kw (ld_blt I hg hm boot_list (PyProof.Rows.callWith_type1 ?_ hs rfl))⟩
  rw [hs]
  show wpAny _ _ (spliced ((false, eval (.Call (.Attribute e "values" apos) [] [] cpos) X.env) :: backTo pos (starEach [] X.env))) _ _ s
  refine Calls.spliced_cons (wpAny_Call_method (T := "dict") (id := "dict.values") hbase rfl hline F.plainAttrs_dict F.slot_dict_values F.type_dict_values (thn (he.run pins s σ H _ I hq) fun u s1 ⟨x, H1, I1, rx, d, kvs, ex, hd, q⟩ => ?_))
  subst ex
  obtain rfl : u = Value.ref d := rx
  obtain ⟨hz, hs0, vs, kv, hdo⟩ := I1.hok d _ hd
  obtain ⟨ep, hat⟩ := hdo.dictAt
  have lk : kvs.length = vs.length := Paired.length kv
  have I2 : Inv X pins σ H1 { s1 with heap := s1.heap.push { cls := .type "dict_values", data := .fields #[.ref d] } } := I1.kept (t' := s1.toks) fun b ob q => Heap.get?_push_of_some _ q
  refine ⟨hdo.typeIs, hdo.mapOf.noDict, ?_⟩
  show wpAny _ _ (callWith cpos (.builtin "dict.values") [.ref d] [] []) _ X.xe s1
  refine method_meetsIn F.slot_dict_values F.entry_dict_values rfl (PySem.evalArgs_none ⟨rfl, hdo.typeIs, F.args_dict_values_1 _, _, meets_dict_values (mixKind X.prog X.w) d hs0, ⟨vs, hdo⟩, ?_⟩)
  refine Calls.spliced_nil ?_
  refine PySem.W.kdl_call (PySem.W.kdl_values (r := s1.heap.objs.size) (d := d) (knd := mixKind X.prog X.w) (kvs := vs) (ep := ep)) (I1.ok.hd hc) ⟨⟨_, Heap.get?_push_size _ rfl, rfl, rfl⟩, hat.push _⟩ (by omega) fun h' tk acc c hk hS hacc => ?_
  have ea : acc.toList = vs.map Prod.snd := PySem.W.kdl_vals_eq acc.toList (by rw [Array.length_toList]; exact hacc.1) fun j v hv => hacc.2 j v (by rw [← Array.getElem?_toList]; exact hv)
  have hn := I2.hok.fresh (Nat.le_refl _)
  have I3 := I2.laid (t' := tk) (a := (s1.heap.push { cls := .type "dict_values", data := .fields #[.ref d] }).objs.size) (o := .lst (kvs.map Prod.snd)) (h' := h') hk (Nat.le_refl _) ⟨by rw [List.length_map]; exact hz, vs.map Prod.snd, c, vals_snd kv, by
    rw [← ea, Array.toArray_toList]
    exact hS⟩
  exact ⟨.ref _, _, I3, rfl, q _ hn⟩
end
/-- len(x), by the class's own __len__ -/
theorem own_len {prog : Program} {w : World} {A : Around} {E : Value → Shared → Prop} {s : Shared} {K : PySem.W.Frag} {x C f : Addr} {ox : Obj} {od : Option Obj} {Q : Value → Shared → Prop} (X : K.In s.heap) (I : PySem.W.InstAt s.heap x ox C od) (hs : PySem.W.findIn K (.ref C) "__len__" = some (some (.ref f))) (hf : PySem.W.isFn K (.ref f) = true)
    (h : wpAny (model prog w) A.in1 (call (.ref f) [.ref x]) (PySem.W.LenBack Q) E s) : wpAny (model prog w) A (call (.builtin "len") [.ref x]) Q E s := by
  refine Calls.call_function_entry PySem.kind_len PySem.plain_len PySem.entry_len (PySem.args_len1 _) ?_
  unfold Builtin.«len»
  refine wpAny_bind (wpAny_pure ?_)
  refine wpAny_bind (m := callSpecial? (.ref x) (Str.ofString "__len__")) (PySem.W.special_fn X I hs (beq_iff_eq.mp hf) (wpAny_mono h (fun r s' hr => ?_) fun _ _ y => y))
  cases r <;> first | exact hr.elim | skip
  rename_i n u
  obtain ⟨⟨h0, h1⟩, hq⟩ := hr
  refine wpAny_bind (wpAny_holding (wpAny_pure ?_))
  refine wpAny_bind (wpAny_letGo ?_)
  show wpAny _ _ (if n < 0 then _ else _) _ _ _
  rw [if_neg (by omega)]
  show wpAny _ _ (if n ≥ 2 ^ 63 then _ else _) _ _ _
  rw [if_neg (by omega)]
  exact wpAny_bind (wpAny_mkInt (wpAny_pure ⟨_, rfl, hq⟩))
/-- len(o), its class' __len__ keeping sp -/
theorem call_lenOwn {X : Cx} {CX : CXT} {k : Nat} {C f : Addr} {fd : FuncData} {ps : List Str} {sp : Sp} {E : XK} (hs : PySem.W.findIn X.K (.ref C) "__len__" = some (some (.ref f))) (hf : PySem.W.isFn X.K (.ref f) = true) (F : FnOk X.prog X.w X.K X.mg X.base CX k f fd ps sp) (hr : Room (k + 1) X.A) (hb : Binds X.K fd ps []) (hx : Passes CX X E) :
    CallR X (.builtin "len") (fun xs H Q => ∃ a dx fs, xs = [.ref a] ∧ H a = some (.ins C dx fs) ∧ sp [.ref a] H (fun v H2 => ∃ n : Nat, v = .int (n : Int) ∧ n < 1000000 ∧ Q v H2) E) := by
  intro pins s σ H xs us Q I r h
  obtain ⟨a, dx, fs, rfl, ha, q⟩ := h
  obtain ⟨u, rfl, rx⟩ := vals1 r
  obtain rfl : u = Value.ref a := rx
  obtain ⟨mA, O, _⟩ := ins_get I.hok ha
  obtain ⟨od, Ia, _⟩ := O.look
  have r2 : Vals [V.ref a] [Value.ref a] := .cons rfl .nil
  have hl : ([Value.ref a] ++ ([] : List Value)).length = ps.length := by
    rw [List.append_nil, ← r2.length]
    exact F.len _ _ _ _ q
  refine own_len I.kIn Ia hs hf (wpAny_call (codeAny_mono (F.run X.A.in1 X.stack s H ⟨[.ref a], []⟩ [.ref a] [.ref a] _ E hr.in1 I.env0.in1 (hb s [.ref a] I.kIn hl) r2 q) fun r s' hq => ?_))
  cases r with
  | error e => exact hx pins σ H s e s' I hq
  | ok fl =>
    cases fl with
    | ret u =>
      obtain ⟨v, H', os, bare, un, hok, rv, n, rfl, hn, hQ⟩ := hq
      obtain ⟨t, rfl⟩ := rv
      obtain ⟨v2, H2, I2, _, e2, q2⟩ := I.after (Q := fun v H2 => v = .int (n : Int) ∧ Q (.int (n : Int)) H2) ⟨.int (n : Int), H', os, bare, un, hok, ⟨t, rfl⟩, rfl, hQ⟩
      exact ⟨⟨by omega, by omega⟩, .int (n : Int), H2, I2.tok _, ⟨_, rfl⟩, q2⟩
    | next => exact False.elim hq
    | brk => exact False.elim hq
    | cont => exact False.elim hq
/-! ### Program.__len__ -/
def Nln : List Str := ["self", "row", "rows"]
theorem sc_ln : FnScope Nln ["self"] (defScope (mP 3)) := ⟨rfl, rfl, rfl, by decide +kernel, rfl, by decide +kernel, by decide +kernel⟩
def spLn (C : Addr) : Sp := fun vs H Q _ => ∃ x n, vs = [.ref x] ∧ LenOk H C x n ∧ RetV (.int (n : Nat)) H Q
section
variable {P : Program} {w : World} {K : PySem.W.Frag} {mg : Str → Option Value} {base : Heap} {f : Addr} {fd : FuncData} {C : Addr}
theorem sum_take {ls : List (List V)} {i : Nat} {l : List V} (h : ls[i]? = some l) : ((ls.take (i + 1)).map List.length).sum = ((ls.take i).map List.length).sum + l.length := by
  rw [List.take_add_one, h, List.map_append, List.sum_append]
  rfl
theorem sum_take_le {ls : List (List V)} : ∀ {i : Nat}, ((ls.take i).map List.length).sum ≤ (ls.map List.length).sum := by
  intro i
  have e : (ls.map List.length).sum = ((ls.take i).map List.length).sum + ((ls.drop i).map List.length).sum := by
    rw [← List.sum_append, ← List.map_append, List.take_append_drop]
  omega
theorem ok_ln (F : MeP K "__len__" "Program.__len__" (mP 3) f fd) (pc : PC K C) (gL : mg "len" = none) (gI : mg "list" = none) : FnOk P w K mg base CX0 1 f fd ["self"] (spLn C) := by
  refine F.ok sc_ln (fun vs H Q E h => ?_) (fun cdv A outer s H vs Q E hr h => ?_)
  · obtain ⟨x, n, rfl, _⟩ := h
    rfl
  · obtain ⟨x, n, rfl, ⟨dx, fs, c, rs, hx, hcd, _, hc, hrl, ls, hll, hsum, hn, hat⟩, k⟩ := h
    refine ⟨_, pss_one (by
      refine ps_ret (pe_callB call_len_seq (by rfl) gL PySem.boot_len (pa_cons (by
        exact pe_lc2 (own := [("row", 1), ("rows", 2)]) (vs1 := [1]) (g := gName 2) (g1 := gName 1) (tt := tYes) (tt1 := tYes) (te := tVar 1) (wi1 := iList K (tVar 2)) rfl sc_ln.nd (pi_list (pe_listV rfl (pe_fld (pv 0) rfl) (by rfl) gI)) (blkOk_by (by kernel_rfl)) (by decide) (fun _ _ _ _ _ => pg_name (i := 2) sc_ln.nd rfl (Or.inl rfl)) (fun _ _ _ _ _ => pts_nil)
          (fun _ _ _ _ _ => by exact pi_list (pv 2)) (fun _ _ _ _ _ => pg_name (i := 1) sc_ln.nd rfl (Or.inl rfl)) (fun _ _ _ _ _ => pts_nil) (fun _ _ _ _ _ => by exact pv 1)) pa_nil))), ?_⟩
    refine s_ret (v := .int (n : Nat)) (fun H1 e1 Q q => ?_) fun H1 e1 => k.go e1
    have W1 : ∀ {te : TE} {σ : L2.St} (R : It → Hp → Prop), (∀ p H2, Ex H1 H2 → H1 p = none → H2 p = some (.lst (rs.map Prod.snd)) → R (Itl K p) H2) → te = tListV (tFld K (tVar 0) "code") → σ[0]? = some (some (.ref x)) → iList K te σ H1 R := fun {te σ} R hR het z0 => by
      subst het
      unfold iList tListV
      refine ev_fld (v := .ref c) (ev_var z0) hx pc.cls pc.code hcd H1 e1 _ fun H2 e2 => ⟨c, rs, rfl, (e1.trans e2) c _ hc, fun p hp => ?_⟩
      exact ⟨p, rfl, ⟨_, sq_of upd_same⟩, hR p _ (e2.trans (Ex.new hp)) (fresh_back e2 hp) upd_same⟩
    unfold tCB tCons tLc2
    refine W1 _ ?_ rfl rfl
    intro p H2 e2 hp h2 D hD
    have hrm : (rs.map Prod.snd).length = 3 := by rw [List.length_map]; exact hrl
    refine ⟨fun i m H' => m = 3 - i ∧ i ≤ 3 ∧ Ex H2 H' ∧ ∃ acc, H' D = some (.lst acc) ∧ acc.length = ((ls.take i).map List.length).sum, ⟨3, rfl, by decide, Ex.new hD, [], upd_same, rfl⟩, ?_⟩
    rintro i m H' ⟨rfl, hi3, e3, acc, hacc, hal⟩
    have sqp : SqL K H' p (rs.map Prod.snd) := sq_of (e3 p _ h2)
    by_cases hlt : i < 3
    · refine .inr ⟨walk_list.goes i H' (by omega) sqp, fun H3 => i + 1 ≤ 3 ∧ Ex H2 H3 ∧ ∃ acc, H3 D = some (.lst acc) ∧ acc.length = ((ls.take (i + 1)).map List.length).sum, fun H3 z => ⟨3 - (i + 1), by omega, rfl, z⟩, fun v H3 y => ?_⟩
      obtain ⟨rfl, hv⟩ := walk_list.yields i H' v H3 (by omega) sqp y
      rw [List.getElem?_map] at hv
      obtain ⟨kv, hkv, rfl⟩ := Option.map_eq_some_iff.mp hv
      have hl : ls[i]? = some ls[i] := List.getElem?_eq_getElem (by omega)
      obtain ⟨r, hr, hrl⟩ := hat i kv _ hkv hl
      rw [hr]
      refine ⟨rfl, ?_⟩
      have hr3 : H3 r = some (.lst ls[i]) := ((e1.trans e2).trans e3) r _ hrl
      refine ⟨.ref r, rfl, r, rfl, ⟨_, sq_of hr3⟩, fun j kk H4 => kk = (ls[i]).length - j ∧ j ≤ (ls[i]).length ∧ Ex H2 H4 ∧ ∃ acc', H4 D = some (.lst acc') ∧ acc'.length = ((ls.take i).map List.length).sum + j, ⟨_, rfl, Nat.zero_le _, e3, acc, hacc, hal⟩, ?_⟩
      rintro j kk H4 ⟨rfl, hj, e4, acc', hacc', hal'⟩
      have sqr : SqL K H4 r ls[i] := sq_of (((e1.trans e2).trans e4) r _ hrl)
      by_cases hjl : j < (ls[i]).length
      · refine .inr ⟨walk_list.goes j H4 hjl sqr, fun H5 => j + 1 ≤ (ls[i]).length ∧ Ex H2 H5 ∧ ∃ acc', H5 D = some (.lst acc') ∧ acc'.length = ((ls.take i).map List.length).sum + (j + 1), fun H5 z => ⟨_, by omega, rfl, z⟩, fun v H5 y => ?_⟩
        obtain ⟨rfl, hv⟩ := walk_list.yields j H4 v H5 hjl sqr y
        refine ⟨rfl, ?_⟩
        have hb := sum_take_le (ls := ls) (i := i + 1)
        rw [sum_take hl, hsum] at hb
        exact ⟨v, rfl, acc', hacc', sz_lt (by omega), hjl, Ex.mut e4 hD, acc' ++ [v], upd_same, by rw [List.length_append, hal']; rfl⟩
      · have hjl2 : j = (ls[i]).length := by omega
        have stop := walk_list.stops H4 sqr
        rw [← hjl2] at stop
        exact .inl ⟨stop, hlt, e4, acc', hacc', by rw [hal', sum_take hl, hjl2]⟩
    · have : i = 3 := by omega
      subst this
      refine .inl ⟨by rw [← hrm]; exact walk_list.stops H' sqp, D, acc, rfl, .inl (sq_of hacc), ?_⟩
      have : (acc.length : Int) = (n : Nat) := by rw [hal, List.take_of_length_le (by omega), hsum]
      rw [this]
      exact q H' (e2.trans e3)
end
end Cp

/-! The law's bag: _law_bag, _law_take, _law_pick. -/
namespace Cp
open PySem PySem.Spec PyProof.Rows L2 Evl GN GZ
def BagOk (K : PySem.W.Frag) (H : Hp) (b l : Addr) : Prop := ∃ (ns : List Int) (i : Nat) (big seed cnt : Int), H b = some (.lst [.ref l, .int (i : Nat), .int big, .int seed, .int cnt]) ∧ H l = some (.lst (ns.map V.int)) ∧ l ≠ b
theorem sqL_at {K : PySem.W.Frag} {H H' : Hp} {l b : Addr} {xs : List V} (hl : l ≠ b) (k : ∀ a o, a ≠ b → H a = some o → H' a = some o) (h : SqL K H l xs) : SqL K H' l xs := by
  rcases h with (h | ⟨o, h⟩) | h
  · exact .inl (.inl (k _ _ hl h))
  · exact .inl (.inr ⟨o, k _ _ hl h⟩)
  · exact .inr h
/-- all but b stands -/
def But (b : Addr) (H H' : Hp) : Prop := ∀ a o, a ≠ b → H a = some o → H' a = some o
theorem But.refl {b : Addr} {H : Hp} : But b H H := fun _ _ _ h => h
theorem But.ex {b : Addr} {H H1 H2 : Hp} (x : But b H H1) (e : Ex H1 H2) : But b H H2 := fun a o ha h => e a o (x a o ha h)
theorem But.mut {b : Addr} {H H1 : Hp} {o : HO} (x : But b H H1) : But b H (upd H1 b o) := fun a o' ha h => by
  rw [upd_ne ha]
  exact x a o' ha h
theorem But.trans {b : Addr} {H H1 H2 : Hp} (x : But b H H1) (y : But b H1 H2) : But b H H2 := fun a o ha h => y a o ha (x a o ha h)
theorem ex_but {b : Addr} {H H1 : Hp} (e : Ex H H1) : But b H H1 := fun a o _ h => e a o h
def spTake (K : PySem.W.Frag) : Sp := fun vs H Q _ => ∃ b l m, vs = [.ref b, .int m] ∧ 1 ≤ m ∧ m ≤ 1000 ∧ BagOk K H b l ∧ ∀ r H2, 0 ≤ r → r < m → But b H H2 → BagOk K H2 b l → Q (.int r) H2
abbrev tyTake : List Str := ["_law_bag_here", "_law_many", "_law_entry", "_law_found", "_law_step"]
theorem sc_take : FnScope tyTake ["_law_bag_here", "_law_many"] (defScope (top 52)) := ⟨rfl, rfl, rfl, by decide +kernel, rfl, by decide +kernel, by decide +kernel⟩
section
variable {K : PySem.W.Frag} {σ : L2.St} {H : Hp}
theorem ev_int {te : TE} {z : Int} (h : Ev te σ H (.int z)) : Ev (tCB (fun xs H Q => (∃ i, xs = [V.int i] ∧ Q (V.int i) H) ∨ ∃ k, xs = [V.bl k] ∧ Q (V.int (if k then 1 else 0)) H) (tCons te tNil)) σ H (.int z) := fun H1 e Q q => h H1 e _ fun H2 e2 => .inl ⟨z, rfl, q H2 e2⟩
end
section
variable {P : Program} {w : World} {K : PySem.W.Frag} {mg : Str → Option Value} {base : Heap} {f : Addr} {fd : FuncData}
theorem ok_take (F : FnP K "_law_take" (top 52) [] f fd) (gL : mg "len" = none) (gI : mg "int" = none) : FnOk P w K mg base CX0 1 f fd ["_law_bag_here", "_law_many"] (spTake K) := by
  refine F.ok sc_take (fun vs H Q E h => ?_) (fun cdv A outer s H vs Q E hr h => ?_)
  · obtain ⟨b, l, m, rfl, _⟩ := h
    rfl
  · obtain ⟨b, l, m, rfl, hm1, hm2, ⟨ns, i, big, seed, cnt, hb, hl, hlb⟩, k⟩ := h
    refine ⟨_, pss_cut (by
        exact ps_if (PW.pt (pw_and (pt_cmpR op_eq (pe_ix ix_list (pv 0) pe_int (fun _ _ => rfl)) pe_int (nomark _)) (pw_and1 (by
          exact pt_cmpR op_lt (pe_ix ix_list (pv 0) pe_int (fun _ _ => rfl)) (pe_callB call_len_seq (by rfl) gL PySem.boot_len (pa_cons (pe_ix ix_list (pv 0) pe_int (fun _ _ => rfl)) pa_nil)) (nomark _))))) (pss_cons (by
            exact ps_asg (pe_ix ix_list (pe_ix ix_list (pv 0) pe_int (fun _ _ => rfl)) (pe_ix ix_list (pv 0) pe_int (fun _ _ => rfl)) (fun _ _ => rfl)) (pg_name (i := 2) sc_take.nd rfl (Or.inl rfl))) <| pss_cons (by
            exact ps_asg (pe_op op_add (pe_ix ix_list (pv 0) pe_int (fun _ _ => rfl)) pe_int) (pg_sub (pv 0) pe_int set_list)) <| pss_one (by
            exact ps_if (pt_cmpR op_ge (pv 2) (pe_op op_pow pe_int pe_int) (nomark _)) (pss_one (ps_asg (pv 2) (pg_sub (pv 0) pe_int set_list))) (pss_one (by
              exact ps_asg (pe_op op_mod (pe_op op_add (pe_op op_add (pe_op op_mul (pe_ix ix_list (pv 0) pe_int (fun _ _ => rfl)) pe_int) (pe_op op_mod (pe_callTy call_int1 (by rfl) gI boot_int (pa_cons (pv 2) pa_nil)) pe_int)) pe_int) pe_int) (pg_sub (pv 0) pe_int set_list))))) pss_nil) <| pss_cons (by
        exact ps_if (pt_cmpR op_gt (pe_ix ix_list (pv 0) pe_int (fun _ _ => rfl)) pe_int (nomark _)) (pss_cons (by
            exact ps_asg (pe_op op_mod (pe_callTy call_int1 (by rfl) gI boot_int (pa_cons (pe_ix ix_list (pv 0) pe_int (fun _ _ => rfl)) pa_nil)) (pv 1)) (pg_name (i := 3) sc_take.nd rfl (Or.inl rfl))) <| pss_cons (by
            exact ps_asg (pe_op op_fdiv (pe_ix ix_list (pv 0) pe_int (fun _ _ => rfl)) (pv 1)) (pg_sub (pv 0) pe_int set_list)) <| pss_one (ps_ret (pv 3))) pss_nil) <| pss_cons (by
        exact ps_asg (pe_op op_add (pe_ix ix_list (pv 0) pe_int (fun _ _ => rfl)) pe_int) (pg_sub (pv 0) pe_int set_list)) <| pss_cons (by
        exact ps_asg (pe_op op_mod (pe_op op_add (pe_ix ix_list (pv 0) pe_int (fun _ _ => rfl)) (pe_op op_mul (pe_ix ix_list (pv 0) pe_int (fun _ _ => rfl)) pe_int)) pe_int) (pg_name (i := 4) sc_take.nd rfl (Or.inl rfl))) <| pss_cons (by
        exact ps_asg (pe_op op_mod (pe_op op_add (pe_op op_add (pe_op op_pow (pv 4) pe_int) (pe_op op_mul pe_int (pv 4))) pe_int) pe_int) (pg_sub (pv 0) pe_int set_list)) <| pss_one (by
        exact ps_ret (pe_op op_mod (pe_op op_add (pe_op op_fdiv (pe_ix ix_list (pv 0) pe_int (fun _ _ => rfl)) pe_int) (pe_op op_mul (pe_op op_mod (pe_callTy call_int1 (by rfl) gI boot_int (pa_cons (pe_ix ix_list (pv 0) pe_int (fun _ _ => rfl)) pa_nil)) pe_int) pe_int)) (pv 1))), ?_⟩
    refine q_cut (M := fun σ' H' => ∃ p2, σ' = [some (.ref b), some (.int m), p2, none, none] ∧ But b H H' ∧ BagOk K H' b l) ?_ ?_
    · have hlen : ((ns.map V.int).length : Int) = ns.length := by rw [List.length_map]
      refine s_when (et_and (et_eq (ev_ixL (i := 2) (v := .int big) (ev_var rfl) ev_c (sq_of hb) rfl) ev_c rfl) fun _ => et_test (ev_op (ev_ixL (i := 1) (v := .int (i : Nat)) (ev_var rfl) ev_c (sq_of hb) rfl) (ev_len (ev_ixL (i := 0) (v := .ref l) (ev_var rfl) ev_c (sq_of hb) rfl) (sq_of hl)) rv_I0)) (fun hc H1 e1 => ?_) fun hc H1 e1 => ⟨_, rfl, ex_but e1, ns, i, big, seed, cnt, e1 b _ hb, e1 _ _ hl, hlb⟩
      have hi : i < ns.length := by
        have h2 := of_decide_eq_true (Bool.and_eq_true_iff.mp hc).2
        omega
      have hn : (ns.map V.int)[i]? = some (.int ns[i]) := by
        rw [List.getElem?_map, List.getElem?_eq_getElem hi]
        rfl
      have hb1 := e1 b _ hb
      refine q_asg (v := .int ns[i]) (ev_ixL (i := i) (ev_ixL (i := 0) (v := .ref l) (ev_var rfl) ev_c (sq_of hb1) rfl) (ev_ixL (i := 1) (v := .int (i : Nat)) (ev_var rfl) ev_c (sq_of hb1) rfl) (sq_of (e1 _ _ hl)) hn) fun H2 e2 => ?_
      have hb2 := e2 b _ hb1
      refine q_setL (j := 1) (v := .int ((i : Nat) + 1)) hb2 (ev_op (x := .int (i : Nat)) (y := .int 1) (ev_ixL (i := 1) (v := .int (i : Nat)) (ev_var rfl) ev_c (sq_of hb2) rfl) ev_c rv_I0) (ev_var rfl) ev_c (by simp) fun H3 e3 => ?_
      have but3 : But b H (upd H3 b (.lst ([V.ref l, .int (i : Nat), .int big, .int seed, .int cnt].set 1 (.int ((i : Nat) + 1))))) := ((ex_but (e1.trans e2)).ex e3).mut
      refine s_if (et_test (ev_op (ev_var rfl) (ev_op (x := .int 10) (y := .int 18) ev_c ev_c (rv_I ⟨by decide, by decide, by decide⟩)) rv_I0)) (fun _ H4 e4 => ?_) fun _ H4 e4 => ?_
      · refine s_setL (j := 2) (v := .int ns[i]) (e4 b _ upd_same) (ev_var rfl) (ev_var rfl) ev_c (by simp) fun H5 e5 => ?_
        exact ⟨_, rfl, ((but3.ex e4).ex e5).mut, ns, i + 1, ns[i], seed, cnt, upd_same, ((but3.ex e4).ex e5).mut _ _ hlb hl, hlb⟩
      · have hb4 := e4 b _ upd_same
        refine s_setL (j := 3) (v := .int ((seed * 30011 + ns[i] % 2147483587 + 5) % 2147483647)) hb4 (ev_op (x := .int (seed * 30011 + ns[i] % 2147483587 + 5)) (y := .int 2147483647) (ev_op (x := .int (seed * 30011 + ns[i] % 2147483587)) (y := .int 5) (ev_op (x := .int (seed * 30011)) (y := .int (ns[i] % 2147483587)) (ev_op (x := .int seed) (y := .int 30011) (ev_ixL (i := 3) (v := .int seed) (ev_var rfl) ev_c (sq_of hb4) rfl) ev_c (rv_I (.inr ⟨by decide, by decide⟩))) (ev_op (x := .int ns[i]) (y := .int 2147483587) (ev_int (ev_var rfl)) ev_c (rv_I (by decide))) rv_I0) ev_c rv_I0) ev_c (rv_I (by decide))) (ev_var rfl) ev_c (by simp) fun H5 e5 => ?_
        exact ⟨_, rfl, ((but3.ex e4).ex e5).mut, ns, i + 1, big, _, cnt, upd_same, ((but3.ex e4).ex e5).mut _ _ hlb hl, hlb⟩
    · rintro σ' H1 ⟨p2, rfl, but1, ns, i, big, seed, cnt, hb, hl, hlb⟩
      have m0 : (0 : Int) < m := by omega
      refine q_when (et_test (ev_op (ev_ixL (i := 2) (v := .int big) (ev_var rfl) ev_c (sq_of hb) rfl) ev_c rv_I0)) (fun _ H2 e2 => ?_) fun _ H2 e2 => ?_
      · have hb2 := e2 b _ hb
        refine q_asg (v := .int (big % m)) (ev_op (x := .int big) (y := .int m) (ev_int (ev_ixL (i := 2) (v := .int big) (ev_var rfl) ev_c (sq_of hb2) rfl)) (ev_var rfl) (rv_I m0)) fun H3 e3 => ?_
        have hb3 := e3 b _ hb2
        refine q_setL (j := 2) (v := .int (big / m)) hb3 (ev_op (x := .int big) (y := .int m) (ev_ixL (i := 2) (v := .int big) (ev_var rfl) ev_c (sq_of hb3) rfl) (ev_var rfl) (rv_I ⟨m0, by omega⟩)) (ev_var rfl) ev_c (by simp) fun H4 e4 => ?_
        refine s_ret (v := .int (big % m)) (ev_var rfl) fun H5 e5 => ?_
        have bt : But b H1 (upd H4 b (.lst ([V.ref l, .int (i : Nat), .int big, .int seed, .int cnt].set 2 (.int (big / m))))) := (((ex_but e2).ex e3).ex e4).mut
        exact k _ H5 (Int.emod_nonneg _ (by omega)) (Int.emod_lt_of_pos _ m0) ((but1.trans bt).ex e5) ⟨ns, i, _, seed, cnt, e5 b _ upd_same, (bt.ex e5) _ _ hlb hl, hlb⟩
      · have hb2 := e2 b _ hb
        refine q_setL (j := 4) (v := .int (cnt + 1)) hb2 (ev_op (x := .int cnt) (y := .int 1) (ev_ixL (i := 4) (v := .int cnt) (ev_var rfl) ev_c (sq_of hb2) rfl) ev_c rv_I0) (ev_var rfl) ev_c (by simp) fun H3 e3 => ?_
        have hb3 : (upd H3 b (.lst ([V.ref l, .int (i : Nat), .int big, .int seed, .int cnt].set 4 (.int (cnt + 1))))) b = some (.lst [V.ref l, .int (i : Nat), .int big, .int seed, .int (cnt + 1)]) := upd_same
        have bt3 : But b H1 (upd H3 b (.lst ([V.ref l, .int (i : Nat), .int big, .int seed, .int cnt].set 4 (.int (cnt + 1))))) := ((ex_but e2).ex e3).mut
        generalize upd H3 b (.lst ([V.ref l, .int (i : Nat), .int big, .int seed, .int cnt].set 4 (.int (cnt + 1)))) = H4 at hb3 bt3 ⊢
        refine q_asg (v := .int ((seed + (cnt + 1) * 7331) % 2147483647)) (ev_op (x := .int (seed + (cnt + 1) * 7331)) (y := .int 2147483647) (ev_op (x := .int seed) (y := .int ((cnt + 1) * 7331)) (ev_ixL (i := 3) (v := .int seed) (ev_var rfl) ev_c (sq_of hb3) rfl) (ev_op (x := .int (cnt + 1)) (y := .int 7331) (ev_ixL (i := 4) (v := .int (cnt + 1)) (ev_var rfl) ev_c (sq_of hb3) rfl) ev_c (rv_I (.inr ⟨by decide, by decide⟩))) rv_I0) ev_c (rv_I (by decide))) fun H5 e5 => ?_
        have s0 : 0 ≤ (seed + (cnt + 1) * 7331) % 2147483647 := Int.emod_nonneg _ (by decide)
        have s1 : (seed + (cnt + 1) * 7331) % 2147483647 < 2147483647 := Int.emod_lt_of_pos _ (by decide)
        generalize (seed + (cnt + 1) * 7331) % 2147483647 = st at s0 s1 ⊢
        have hb5 := e5 b _ hb3
        refine q_setL (j := 3) (v := .int ((st ^ (3 : Int).toNat + 60013 * st + 8191) % 2147483647)) hb5 (ev_op (x := .int (st ^ (3 : Int).toNat + 60013 * st + 8191)) (y := .int 2147483647) (ev_op (x := .int (st ^ (3 : Int).toNat + 60013 * st)) (y := .int 8191) (ev_op (x := .int (st ^ (3 : Int).toNat)) (y := .int (60013 * st)) (ev_op (x := .int st) (y := .int 3) (ev_var rfl) ev_c (rv_I ⟨by decide, by decide, by omega⟩)) (ev_op (x := .int 60013) (y := .int st) ev_c (ev_var rfl) (rv_I (.inl ⟨by decide, by decide⟩))) rv_I0) ev_c rv_I0) ev_c (rv_I (by decide))) (ev_var rfl) ev_c (by simp) fun H6 e6 => ?_
        generalize (st ^ (3 : Int).toNat + 60013 * st + 8191) % 2147483647 = sd
        have hb6 : (upd H6 b (.lst ([V.ref l, .int (i : Nat), .int big, .int seed, .int (cnt + 1)].set 3 (.int sd)))) b = some (.lst [V.ref l, .int (i : Nat), .int big, .int sd, .int (cnt + 1)]) := upd_same
        have bt6 : But b H1 (upd H6 b (.lst ([V.ref l, .int (i : Nat), .int big, .int seed, .int (cnt + 1)].set 3 (.int sd)))) := ((bt3.ex e5).ex e6).mut
        generalize upd H6 b (.lst ([V.ref l, .int (i : Nat), .int big, .int seed, .int (cnt + 1)].set 3 (.int sd))) = H7 at hb6 bt6 ⊢
        refine s_ret (v := .int ((sd / 61 + sd % 6607 * 41) % m)) (ev_op (x := .int (sd / 61 + sd % 6607 * 41)) (y := .int m) (ev_op (x := .int (sd / 61)) (y := .int (sd % 6607 * 41)) (ev_op (x := .int sd) (y := .int 61) (ev_ixL (i := 3) (v := .int sd) (ev_var rfl) ev_c (sq_of hb6) rfl) ev_c (rv_I ⟨by decide, by decide⟩)) (ev_op (x := .int (sd % 6607)) (y := .int 41) (ev_op (x := .int sd) (y := .int 6607) (ev_int (ev_ixL (i := 3) (v := .int sd) (ev_var rfl) ev_c (sq_of hb6) rfl)) ev_c (rv_I (by decide))) ev_c (rv_I (.inr ⟨by decide, by decide⟩))) rv_I0) (ev_var rfl) (rv_I m0)) fun H8 e8 => ?_
        exact k _ H8 (Int.emod_nonneg _ (by omega)) (Int.emod_lt_of_pos _ m0) ((but1.trans bt6).ex e8) ⟨ns, i, big, sd, cnt + 1, e8 b _ hb6, (bt6.ex e8) _ _ hlb hl, hlb⟩
end
end Cp

namespace Cp
open PySem PySem.Spec PyProof.Rows L2 Evl GN GZ
def spPick (K : PySem.W.Frag) : Sp := fun vs H Q _ => ∃ b l xs s, vs = [.ref b, .ref l] ∧ SqL K H l xs ∧ l ≠ b ∧ 1 ≤ xs.length ∧ xs.length ≤ 1000 ∧ BagOk K H b s ∧ ∀ (j : Nat) x H2, xs[j]? = some x → But b H H2 → BagOk K H2 b s → Q x H2
theorem sc_pick : FnScope ["_law_bag_here", "_law_some"] ["_law_bag_here", "_law_some"] (defScope (top 53)) := ⟨rfl, rfl, rfl, by decide +kernel, rfl, by decide +kernel, by decide +kernel⟩
def spBag (K : PySem.W.Frag) : Sp := fun vs H Q _ => ∃ (a : Addr) (ns : List Int), vs = [.ref a] ∧ SqL K H a (ns.map V.int) ∧ ns.length ≤ 63 ∧ ∀ b l H2, H b = none → Ex H H2 → BagOk K H2 b l → Q (.ref b) H2
theorem sc_bag : FnScope ["_law_script", "_law_seed", "_law_entry"] ["_law_script"] (defScope (top 51)) := ⟨rfl, rfl, rfl, by decide +kernel, rfl, by decide +kernel, by decide +kernel⟩
section
variable {K : PySem.W.Frag} {σ : L2.St} {H : Hp}
theorem el_slL {te : TE} {tl th : TO} {lo hi : Option Int} {a : Addr} {xs : List V} (h : Ev te σ H (.ref a)) (h1 : EvO tl σ H lo) (h2 : EvO th σ H hi) (hx : SqL K H a xs) : EvL (tSl (rSlL K) te tl th) σ H (cutV xs lo hi) := fun H1 e Q q =>
  h H1 e _ fun H2 e2 => h1 H2 (e.trans e2) _ fun H3 e3 => h2 H3 ((e.trans e2).trans e3) _ fun H4 e4 =>
    ⟨a, xs, rfl, ex_l (((e.trans e2).trans e3).trans e4) hx, fun l hl => q l _ (fresh_back ((e2.trans e3).trans e4) hl) (((e2.trans e3).trans e4).trans (Ex.new hl)) upd_same⟩
theorem cut63 (ns : List Int) : ∃ ms : List Int, cutV (ns.map V.int) none (some 63) = ms.map V.int ∧ ms.length ≤ 63 := by
  have h := HT.sIx_nat (ns.map V.int).length (ns.map V.int).length 63
  rw [show ((63 : Nat) : Int) = 63 from rfl] at h
  refine ⟨ns.take (min 63 ns.length), ?_, by rw [List.length_take]; omega⟩
  unfold cutV
  rw [h, HT.sIx_none, List.drop_zero, Nat.sub_zero, List.map_take, List.length_map]
end
section
variable {P : Program} {w : World} {K : PySem.W.Frag} {mg : Str → Option Value} {base : Heap} {f : Addr} {fd : FuncData}
theorem ok_pick (F : FnP K "_law_pick" (top 53) [] f fd) (TK : Cal P w K mg base "_law_take" 1 ["_law_bag_here", "_law_many"] (spTake K)) (gL : mg "len" = none) : FnOk P w K mg base CX0 2 f fd ["_law_bag_here", "_law_some"] (spPick K) := by
  refine F.ok sc_pick (fun vs H Q E h => ?_) (fun cdv A outer s H vs Q E hr h => ?_)
  · obtain ⟨b, l, xs, s', rfl, _⟩ := h
    rfl
  · obtain ⟨b, l, xs, s', rfl, hl, hlb, h1, h2, hB, k⟩ := h
    refine ⟨_, pss_one (by
      exact ps_ret (pe_ix ix_list (pv 1) (pe_call TK.G hr (by rfl) TK.g TK.k TK.b .nil pass0 (pa_cons (pv 0) (pa_cons (pe_callB call_len_seq (by rfl) gL PySem.boot_len (pa_cons (pv 1) pa_nil)) pa_nil))) (fun _ _ => rfl))), ?_⟩
    refine ⟨.ref l, rfl, .ref b, rfl, .ref l, rfl, l, xs, rfl, .inl hl, b, s', (xs.length : Int), rfl, by omega, by omega, hB, fun r H2 r0 r1 bt hB2 => ?_⟩
    have hj : r.toNat < xs.length := by omega
    have hrn : ((r.toNat : Nat) : Int) = r := by omega
    generalize r.toNat = j at hj hrn
    subst hrn
    exact ⟨l, xs, (j : Int), xs[j], rfl, rfl, sqL_at hlb bt hl, atI_nat (List.getElem?_eq_getElem hj), k j _ H2 (List.getElem?_eq_getElem hj) bt hB2⟩
theorem ok_bag (F : FnP K "_law_bag" (top 51) [] f fd) (gI : mg "int" = none) (gL : mg "list" = none) : FnOk P w K mg base CX0 1 f fd ["_law_script"] (spBag K) := by
  refine F.ok sc_bag (fun vs H Q E h => ?_) (fun cdv A outer s H vs Q E hr h => ?_)
  · obtain ⟨a, ns, rfl, _⟩ := h
    rfl
  · obtain ⟨a, ns, rfl, ha, hn, k⟩ := h
    refine ⟨_, pss_cons (by
        exact ps_asg pe_int (pg_name (i := 1) sc_bag.nd rfl (Or.inl rfl))) <| pss_cons (by
        refine ps_for (passes_of rfl) rfl (pi_list (by exact pe_slice sl_list (pv 0) po_none (po_some pe_int))) (pg_name (i := 2) sc_bag.nd rfl (Or.inl rfl)) (pss_one (by
          exact ps_asg (pe_op op_mod (pe_op op_add (pe_op op_add (pe_op op_mul (pv 1) pe_int) (pe_op op_mod (pe_callTy call_int1 (by rfl) gI boot_int (pa_cons (pv 2) pa_nil)) pe_int)) pe_int) pe_int) (pg_name (i := 1) sc_bag.nd rfl (Or.inl rfl))))) <| pss_one (by
        exact ps_ret (pe_lst (pa_cons (pe_callTy call_list_of (by rfl) gL boot_list (pa_cons (pe_slice sl_list (pv 0) po_none (po_some pe_int)) pa_nil)) (pa_cons pe_int (pa_cons pe_int (pa_cons (pv 1) (pa_cons pe_int pa_nil))))))), ?_⟩
    obtain ⟨ms, hms, hml⟩ := cut63 ns
    refine q_asg (v := .int 5759) ev_c fun H1 e1 => ?_
    refine q_forNL (xs := ms.map V.int) (by
      have z := el_slL (K := K) (σ := [some (.ref a), some (.int 5759), none]) (H := H1) (te := tVar 0) (ev_var rfl) eo_none (eo_some (ev_c (v := .int 63))) (ex_l e1 ha)
      rw [hms] at z
      exact z) (fun p i σ' H' => ∃ sd p2, σ' = [some (.ref a), some (.int sd), p2] ∧ Ex H1 H' ∧ H' p = some (.lst (ms.map V.int))) (fun p H2 hp e2 h2 => ⟨5759, none, rfl, e2, h2⟩) (fun p i σ' H' _ z => ?_) ?_ ?_
    · obtain ⟨_, _, _, _, z⟩ := z
      exact sq_of z
    · rintro p i x σ' H' hx ⟨sd, p2, rfl, e2, h2⟩
      rw [List.getElem?_map] at hx
      obtain ⟨n, _, rfl⟩ := Option.map_eq_some_iff.mp hx
      refine s_asg (v := .int ((sd * 48299 + n % 2147483629 + 11) % 2147483647)) (ev_op (x := .int (sd * 48299 + n % 2147483629 + 11)) (y := .int 2147483647) (ev_op (x := .int (sd * 48299 + n % 2147483629)) (y := .int 11) (ev_op (x := .int (sd * 48299)) (y := .int (n % 2147483629)) (ev_op (x := .int sd) (y := .int 48299) (ev_var rfl) ev_c (rv_I (.inr ⟨by decide, by decide⟩))) (ev_op (x := .int n) (y := .int 2147483629) (ev_int (ev_var rfl)) ev_c (rv_I (by decide))) rv_I0) ev_c rv_I0) ev_c (rv_I (by decide))) fun H3 e3 => ⟨_, _, rfl, e2.trans e3, e3 p _ h2⟩
    · rintro p σ' H' ⟨sd, p2, rfl, e2, h2⟩
      have sl : EvL (tSl (rSlL K) (tVar 0) (fun σ H Q => Q none H) (tPart (tC (.int 63)))) [some (V.ref a), some (.int sd), p2] H' (ms.map V.int) := by
        have z := el_slL (K := K) (σ := [some (.ref a), some (.int sd), p2]) (H := H') (te := tVar 0) (ev_var rfl) eo_none (eo_some (ev_c (v := .int 63))) (ex_l (e1.trans e2) ha)
        rw [hms] at z
        exact z
      refine sl H' (Ex.refl _) _ fun q H2 hq e3 hq2 => ⟨q, _, rfl, .inl (sq_of hq2), fun l hl => ?_⟩
      refine ⟨.int sd, rfl, sz_of (n := 5) (by decide), fun b hb => ?_⟩
      have e04 := (((e1.trans e2).trans e3).trans (Ex.new (o := .lst (ms.map V.int)) hl))
      have hlb : l ≠ b := fun z => by rw [← z, upd_same] at hb; cases hb
      exact k b l _ (fresh_back e04 hb) (e04.trans (Ex.new hb)) ⟨ms, 0, 0, sd, 0, upd_same, by rw [upd_ne hlb, upd_same], hlb⟩
end
end Cp

/-! A caught error of an own class: handed to a def within the suite, asked for its class, its fields read; except with a tuple of classes. -/
namespace GH
open PySem PySem.Spec PyProof.Rows L2
/-- what the class says -/
structure XcC (K : PySem.W.Frag) (C : Addr) : Prop where
  hc : (PySem.W.clsIn K C).isSome = true
  ga : PySem.W.findIn K (.ref C) "__getattribute__" = some (some (.builtin "BaseException.__getattribute__"))
  gg : PySem.W.findIn K (.ref C) "__getattr__" = some none
  sub : PySem.W.subIn K (.ref C) (.type "BaseException") = some true
  hd : PySem.W.hasDictIn K C = true
  ca : PySem.W.findIn K (.ref C) "__class__" = some (some (.builtin "object.__class__"))
  cg : PySem.W.specialIn K (.builtin "object.__class__") "__get__" = some (some (.builtin "getset_descriptor.__get__"))
  ct : PySem.W.takesIn K (.builtin "object.__class__") = some true
  cm : PySem.W.mroIn K C (.type "object") = some true
def xcB (K : PySem.W.Frag) (C : Addr) : Bool := (PySem.W.clsIn K C).isSome && (decide (PySem.W.findIn K (.ref C) "__getattribute__" = some (some (.builtin "BaseException.__getattribute__"))) && (decide (PySem.W.findIn K (.ref C) "__getattr__" = some none) && (decide (PySem.W.subIn K (.ref C) (.type "BaseException") = some true) && (PySem.W.hasDictIn K C &&
  (decide (PySem.W.findIn K (.ref C) "__class__" = some (some (.builtin "object.__class__"))) && (decide (PySem.W.specialIn K (.builtin "object.__class__") "__get__" = some (some (.builtin "getset_descriptor.__get__"))) && (decide (PySem.W.takesIn K (.builtin "object.__class__") = some true) && decide (PySem.W.mroIn K C (.type "object") = some true))))))))
theorem xcB_ok {K : PySem.W.Frag} {C : Addr} (h : xcB K C = true) : XcC K C := by
  unfold xcB at h
  simp only [Bool.and_eq_true, decide_eq_true_eq] at h
  obtain ⟨h1, h2, h3, h4, h5, h6, h7, h8, h9⟩ := h
  exact ⟨h1, h2, h3, h4, h5, h6, h7, h8, h9⟩
/-- a stands in X for an error of the class D, its dict at dd -/
structure Err (X : Cx) (a : Addr) (oe : Obj) (D dd : Addr) : Prop where
  pin : (a, oe) ∈ X.pn
  z : Zc (.ref D) (some dd) oe
  fv : ∃ vs, oe.data = .fields vs
section
variable {X : Cx} {pins : List (Addr × Obj)} {σ : L2.St} {H : Hp} {s : Shared} {a D dd : Addr} {oe : Obj}
theorem err_inst (er : Err X a oe D dd) (I : Inv X pins σ H s) {fs : List (Str × V)} (h : H dd = some (.xd fs)) : ∃ od, PySem.W.InstAt s.heap a oe D (some od) ∧ ∀ {f : Str} {v : V}, fs.lookup f = some v → ∃ u, PySem.W.lookIn f od = some (some u) ∧ RelV v u := by
  obtain ⟨ha, _⟩ := I.pin (a, oe) (List.mem_append_left _ er.pin)
  have hx : ObjOk X.prog X.w H s.heap dd (.xd fs) := I.hok dd _ h
  obtain ⟨mA, hns, hr⟩ := hx
  obtain ⟨od, ho, hl⟩ := lookIn_ns hns
  obtain ⟨vs, hv⟩ := er.fv
  refine ⟨od, ⟨ha, er.z.1, by unfold PySem.W.notCls; rw [hv] <;> rfl, by rw [er.z.2]; exact ho⟩, fun {f v} l => ?_⟩
  obtain ⟨u, hu, ru⟩ := RelO.some_of (v := v) (o := mA f) (by rw [← l]; exact hr f)
  exact ⟨u, by rw [hl, hu], ru⟩
/-- isinstance(e, c) -/
def rIsP (K : PySem.W.Frag) (D a dd : Addr) : List V → Hp → VK → Prop := fun xs H Q => ∃ (c : Addr) (b : Bool) (fs : List (Str × V)), xs = [.ref a, .ref c] ∧ PySem.W.kitOne K (.ref D) (.ref c) = some b ∧ H dd = some (.xd fs) ∧ Q (.bl b) H
theorem call_isP (er : Err X a oe D dd) (C : XcC X.K D) : CallR X (.builtin "isinstance") (rIsP X.K D a dd) := by
  intro pins s σ H xs us Q I r h
  obtain ⟨c, b, fs, rfl, e, hd, q⟩ := h
  cases r with
  | cons rx rr =>
    cases rr with
    | cons rt rr =>
      cases rr
      cases rx
      cases rt
      obtain ⟨od, J, _⟩ := err_inst er I hd
      exact PySem.W.kia_one (PySem.W.kitx_exc (gt := none) C.hc C.ga C.gg C.sub C.ca C.cg C.ct C.cm) I.kIn J e (fun z => nomatch z) fun tk => ⟨.bl b, H, I.kept (t' := tk) fun _ _ z => z, rfl, q⟩
/-- e.f -/
def tXp (a dd : Addr) (f : Str) (te : TE) : TE := fun σ H Q => te σ H fun x H1 => x = .ref a ∧ ∃ (fs : List (Str × V)) (v : V), H1 dd = some (.xd fs) ∧ fs.lookup f = some v ∧ Q v H1
theorem pe_xp {e : Expr} {te : TE} {pos : Pos} {n : Str} (er : Err X a oe D dd) (C : XcC X.K D) (hno : PySem.W.findIn X.K (.ref D) n = some none) (he : PE X e te) (hb : attributeBase e n X.env (eval e X.env) = eval e X.env := by rfl) : PE X (.Attribute e n pos) (tXp a dd n te) := by
  refine ⟨fun pins s σ H Q I h => attr_of hb (thn (he.run pins s σ H _ I h) fun u s1 hh => ?_)⟩
  obtain ⟨x, H1, I1, rx, ex, fs, v, ea, l, q⟩ := hh
  subst ex
  obtain rfl : u = Value.ref a := rx
  obtain ⟨od, J, look⟩ := err_inst er I1 ea
  obtain ⟨u, hu, ru⟩ := look l
  exact HandSPX.exc_get I1.kIn J C.ga C.gg C.sub (PySem.W.findObj_own C.hd hno rfl hu) (handed_of ru) ⟨v, H1, I1.tok _, ru, q⟩
end
/-! ### a def called within the suite -/
structure FnE (P : Program) (w : World) (K : PySem.W.Frag) (mg : Str → Option Value) (base : Heap) (k : Nat) (f : Addr) (fd : FuncData) (ps : List Str) (sp : Addr → Addr → Addr → Hp → VK → Prop) : Prop where
  run : ∀ (A : Around) (outer : List Env) (s : Shared) (H : Hp) (args : Args) (a D dd : Addr) (oe : Obj) (Q : VK), L2H.RoomH k A → L2H.PinOk outer H s (a, oe) → Zc (.ref D) (some dd) oe → (∃ vs, oe.data = .fields vs) → Env0 P w K mg base A outer s H → BindsTo s fd args (ps.zip [.ref a]) → sp a D dd H Q →
    codeAny (model P w) A (.call (.ref f) args) (CR C8.CX0 outer P w H s Q C8.E0) s
theorem fn_ofE {P : Program} {w : World} {K : PySem.W.Frag} {mg : Str → Option Value} {base : Heap} {k : Nat} {f : Addr} {name qual y : Str} {params : Arguments} {body : List Stmt} {scope : Scope} {dV kV doc pm cdv ct oc : Value} {an od : Option Addr}
    {osl : Array (Option Value)} {N : List Str} {sp : Addr → Addr → Addr → Hp → VK → Prop} (lk : K.lookup f = some ⟨oc, od, .func (PySem.W.fnOf name qual params body scope dV kV doc pm an cdv ct), osl⟩) (hcd : PySem.W.codeIn K cdv qual = true) (S : FnScope N [y] scope)
    (hbody : ∀ (A : Around) (outer : List Env) (s : Shared) (H : Hp) (a D dd : Addr) (oe : Obj) (Q : VK), Zc (.ref D) (some dd) oe → (∃ vs, oe.data = .fields vs) → sp a D dd H Q →
      ∃ t, PSs (L2H.cxH C8.CX0 P w K mg base N qual scope f cdv A outer s H C8.E0 (a, oe)) body t ∧ t { nx := fun _ H' => Q .non H', rt := Q } (L2.start N [.ref a]) H) :
    FnE P w K mg base (k + 1) f (PySem.W.fnOf name qual params body scope dV kV doc pm an cdv ct) [y] sp := by
  refine ⟨fun A outer s H args a D dd oe Q hr hpin hz hv e0 hb hsp => ?_⟩
  have r : Vals [V.ref a] [Value.ref a] := .cons rfl .nil
  have KX : K.In s.heap := e0.mod.kin.keeps fun b o e => (e0.bs b o e).1
  have lim : s.heap.NoLimit := e0.mod.nolimit.keeps fun b o e => (e0.bs b o e).1
  have hkind : ∀ z ∈ [y].zip [Value.ref a], scope.names.lookup z.1 = some .local ∨ (scope.names.lookup z.1 = some .cell ∧ ((cellsFrom (s.heap.objs.size + 1) scope.names []).lookup z.1).isSome = true) := fun ⟨n, v⟩ hy => (S.par n (List.of_mem_zip hy).1).elim .inl fun q => .inr ⟨q, PySem.W.cellsFrom_some _ _ _ (.inl q)⟩
  refine codeAny_call_function hr.depth (KX _ _ lk) rfl S.co S.gen rfl (PySem.W.codeRec_of KX hcd) (hb _ _ _ _ (wpAny_newFunctionEnv_cells S.kind hkind fun env he s1 x => ?_))
  subst he
  refine ⟨lim.keeps x.toInCall.keep, codeAny_func ?_⟩
  obtain ⟨t, ht, hq⟩ := hbody A outer s H a D dd oe Q hz hv hsp
  have I : Inv (L2H.cxH C8.CX0 P w K mg base N qual scope f cdv A outer s H C8.E0 (a, oe)) [] (L2.start N [.ref a]) H s1 := L2H.inv_startH S hpin e0 rfl r x
  refine wpAny_mono (ht.run [] s1 (L2.start N [.ref a]) H _ I hq) (fun fl s' hs => ?_) fun e s' hs => hs
  cases fl with
  | ret u =>
    obtain ⟨v, σ', H', J, rv, q⟩ := hs
    exact ⟨v, H', J.os, J.bare, J.base, J.hok, rv, q⟩
  | next =>
    obtain ⟨σ', H', J, q⟩ := hs
    exact ⟨.non, H', J.os, J.bare, J.base, J.hok, rfl, q⟩
  | brk =>
    obtain ⟨_, _, _, q⟩ := hs
    exact False.elim q
  | cont =>
    obtain ⟨_, _, _, q⟩ := hs
    exact False.elim q
section
variable {X : Cx} {k : Nat} {f : Addr} {fd : FuncData} {y x : Str} {sp : Addr → Addr → Addr → Hp → VK → Prop} {q pos : Pos} {e : Expr} {a D dd : Addr} {oe : Obj} {te : TE}
/-- f(e), e the error -/
def tCallE (a D dd : Addr) (sp : Addr → Addr → Addr → Hp → VK → Prop) (t : TA) : TE := fun σ H Q => t σ H fun vs H1 => vs = [.ref a] ∧ sp a D dd H1 Q
theorem pe_callE {t : TA} (er : Err X a oe D dd) (F : FnE X.prog X.w X.K X.mg X.base k f fd [y] sp) (hr : L2H.RoomH k X.A) (hg : Gl X x) (hm : X.mg x = some (.ref f)) (hk : PySem.W.keepIn X.K (.ref f) = true) (hb : Binds X.K fd [y] []) (ha : PA X [e] t)
    (hdb : (x == ("__debug__" : Str)) = false := by decide) (he : starEach [e] X.env = (false, eval e X.env) :: starEach [] X.env := by rfl) (hpl : (backTo pos (starEach [] X.env)).any (·.1) = false := by rfl) : PE X (.Call (.Name x q) [e] [] pos) (tCallE a D dd sp t) := by
  refine ⟨fun pins s σ H Q I h => wpAny_Call_Name_kw (ld_glob I hg hm ?_ hdb)⟩
  refine PySem.W.callWith_K (h₀ := X.base) I.ok.mod.kin hk (thn (ha.run pos pins s σ H _ I h) fun us s1 ⟨vs, H1, I1, r, e1, q1⟩ => ⟨I1.kIn, ?_⟩) he hpl
  subst e1
  obtain ⟨u, rfl, rx⟩ := vals1 r
  obtain rfl : u = Value.ref a := rx
  have bd := hb s1 [.ref a] I1.kIn rfl
  rw [List.append_nil] at bd
  obtain ⟨p1, p2, p3, p4, p5⟩ := I1.pin (a, oe) (List.mem_append_left _ er.pin)
  have hpin : L2H.PinOk X.stack H1 s1 (a, oe) := ⟨p1, p2, fun hm => (List.mem_cons.mp (I1.stkSub a hm)).elim p3 p4, p5⟩
  refine wpAny_call (codeAny_mono (F.run X.A X.stack s1 H1 ⟨[.ref a], []⟩ a D dd oe Q hr hpin er.z er.fv I1.env0 bd q1) fun r s' hq => ?_)
  cases r with
  | error e => exact (show False from hq).elim
  | ok fl =>
    cases fl with
    | ret u => exact I1.after hq
    | next => exact False.elim hq
    | brk => exact False.elim hq
    | cont => exact False.elim hq
end
/-! ### except (A, B, ..) as n -/
inductive NamesT (X : Cx) : List Expr → List Value → Prop
  | nil : NamesT X [] []
  | cons {x : Str} {c : Value} {p : Pos} {es : List Expr} {cs : List Value} (hg : Gl X x) (hm : X.mg x = some c) (hd : (x == ("__debug__" : Str)) = false) (r : NamesT X es cs) : NamesT X (.Name x p :: es) (c :: cs)
theorem names_run {X : Cx} {pins : List (Addr × Obj)} {σ : L2.St} {H : Hp} {s : Shared} {E : Value → Shared → Prop} {pos : Pos} (I : Inv X pins σ H s) : ∀ {es : List Expr} {cs : List Value} {Q : List Value → Shared → Prop}, NamesT X es cs → Q cs s → wpAny (model X.prog X.w) X.A (spliced (backTo pos (starEach es X.env))) Q E s
  | _, _, _, .nil, q => Calls.spliced_nil q
  | _, _, _, .cons hg hm hd r, q => Calls.spliced_cons (ld_glob I hg hm (names_run I r q) hd)
theorem flying_keeps {base h h' : Heap} {l : List Env} {e : Addr} {Z : Obj → Prop} (k : ∀ b o, h.get? b = some o → h'.get? b = some o) (f : HandSPX.FlyingZ base l e Z h) : HandSPX.FlyingZ base l e Z h' := by
  obtain ⟨f1, f2, f3, oe, vs, T, oT, ts, g1, g2, g3, g4, g5, g6, g7, g8, g9⟩ := f
  exact ⟨fun b o hb => k b o (f1 b o hb), f2, f3.of_keeps fun b o hb _ => ⟨o, k b o hb, rfl⟩, oe, vs, T, oT, ts, k _ _ g1, g2, g3, g4, g5, g6, k _ _ g7, g8, g9⟩
theorem exm_tup11 {M : Model} {K : PySem.W.Frag} {c1 c2 c3 c4 c5 c6 c7 c8 c9 c10 c11 cls : Value} {tp e : Addr} {h : Heap} {b3 b4 b5 b6 b7 b8 b9 b10 b11 : Bool} (X : K.In h) (LT : PySem.W.Looks M h (typeOf (.ref e)) cls) (hp : h.get? tp = some { cls := .type "tuple", data := .seq [c1, c2, c3, c4, c5, c6, c7, c8, c9, c10, c11].toArray })
    (x1 : PySem.W.exmOne K cls c1 = some false) (x2 : PySem.W.exmOne K cls c2 = some true) (x3 : PySem.W.exmOne K cls c3 = some b3) (x4 : PySem.W.exmOne K cls c4 = some b4) (x5 : PySem.W.exmOne K cls c5 = some b5) (x6 : PySem.W.exmOne K cls c6 = some b6) (x7 : PySem.W.exmOne K cls c7 = some b7) (x8 : PySem.W.exmOne K cls c8 = some b8) (x9 : PySem.W.exmOne K cls c9 = some b9) (x10 : PySem.W.exmOne K cls c10 = some b10) (x11 : PySem.W.exmOne K cls c11 = some b11) :
    PySem.W.Looks M h (excMatches (.ref e) (.ref tp)) true := by
  intro A Q E s k₀ q
  obtain ⟨hh, g, d, tk, os⟩ := s
  have k : ∀ b o, h.get? b = some o → hh.get? b = some o := k₀
  have LT0 : PySem.W.Looks M h (isInstance (.ref tp) (.type "tuple")) true := ((PySem.W.Looks.ld hp).andThen .now).andThen (PySem.W.Looks.of_pure isSubtype_tuple_tuple)
  obtain ⟨e1, S1⟩ := PySem.W.exm_cls (M := M) X x1
  obtain ⟨e2, S2⟩ := PySem.W.exm_cls (M := M) X x2
  have e3 := (PySem.W.exm_cls (M := M) X x3).1.keeps k
  have e4 := (PySem.W.exm_cls (M := M) X x4).1.keeps k
  have e5 := (PySem.W.exm_cls (M := M) X x5).1.keeps k
  have e6 := (PySem.W.exm_cls (M := M) X x6).1.keeps k
  have e7 := (PySem.W.exm_cls (M := M) X x7).1.keeps k
  have e8 := (PySem.W.exm_cls (M := M) X x8).1.keeps k
  have e9 := (PySem.W.exm_cls (M := M) X x9).1.keeps k
  have e10 := (PySem.W.exm_cls (M := M) X x10).1.keeps k
  have e11 := (PySem.W.exm_cls (M := M) X x11).1.keeps k
  have e1 := e1.keeps k
  have S1 := S1.keeps k
  have e2 := e2.keeps k
  have S2 := S2.keeps k
  have LT := LT.keeps k
  have LT0 := LT0.keeps k
  have hp' := k _ _ hp
  unfold excMatches
  refine wpAny_bind (LT0.at ?_)
  dsimp only
  rw [if_pos rfl]
  first
    | refine wpAny_bind (wpAny_seqItems hp' rfl ?_)
    | refine wpAny_bind (wpAny_bind (wpAny_seqItems hp' rfl (wpAny_pure ?_)))
  dsimp only [Option.getD_some, Option.getD]
  repeat (first | simp only [List.forIn_cons, List.forIn_nil, Bool.not_true, Bool.false_eq_true, if_false, if_true] | lk)
  exact q
end GH

namespace GH
open PySem PySem.Spec PyProof.Rows L2
/-- what is asked of the eleven classes -/
def Ms (K : PySem.W.Frag) (cls : Value) : List Value → Prop
  | [c1, c2, c3, c4, c5, c6, c7, c8, c9, c10, c11] => PySem.W.exmOne K cls c1 = some false ∧ PySem.W.exmOne K cls c2 = some true ∧ (∃ b, PySem.W.exmOne K cls c3 = some b) ∧ (∃ b, PySem.W.exmOne K cls c4 = some b) ∧ (∃ b, PySem.W.exmOne K cls c5 = some b) ∧ (∃ b, PySem.W.exmOne K cls c6 = some b) ∧
    (∃ b, PySem.W.exmOne K cls c7 = some b) ∧ (∃ b, PySem.W.exmOne K cls c8 = some b) ∧ (∃ b, PySem.W.exmOne K cls c9 = some b) ∧ (∃ b, PySem.W.exmOne K cls c10 = some b) ∧ ∃ b, PySem.W.exmOne K cls c11 = some b
  | _ => False
theorem ms_match {M : Model} {K : PySem.W.Frag} {cls : Value} {tp e : Addr} {h : Heap} : ∀ {cs : List Value}, Ms K cls cs → K.In h → PySem.W.Looks M h (typeOf (.ref e)) cls → h.get? tp = some { cls := .type "tuple", data := .seq cs.toArray } → PySem.W.Looks M h (excMatches (.ref e) (.ref tp)) true
  | [c1, c2, c3, c4, c5, c6, c7, c8, c9, c10, c11], ⟨x1, x2, ⟨_, x3⟩, ⟨_, x4⟩, ⟨_, x5⟩, ⟨_, x6⟩, ⟨_, x7⟩, ⟨_, x8⟩, ⟨_, x9⟩, ⟨_, x10⟩, ⟨_, x11⟩⟩, X, LT, hp => exm_tup11 X LT hp x1 x2 x3 x4 x5 x6 x7 x8 x9 x10 x11
theorem ms_len {K : PySem.W.Frag} {cls : Value} : ∀ {cs : List Value}, Ms K cls cs → cs.length = 11
  | [_, _, _, _, _, _, _, _, _, _, _], _ => rfl
def wTup (K : PySem.W.Frag) (cs : List Value) (i m : Nat) (ts : Addr → Value → Option Addr → TS) (D : Ends) : WX := fun cls d σ H => Ms K cls cs ∧ ∀ a, H a = none → σ.length = m → ts a cls d { nx := fun σ' H' => D.nx (σ'.set i none) H', rt := D.rt, bk := fun σ' H' => D.bk (σ'.set i none) H', ct := fun σ' H' => D.ct (σ'.set i none) H' } (σ.set i (some (.ref a))) H
section
variable {X : Cx} {n : Str} {cs : List Value} {i kk : Nat} {body suite : List Stmt} {b₀ : Stmt} {elts : List Expr} {rest : List ExceptHandler} {np pos pos' : Pos} {tb : WX → TS} {ts : Addr → Value → Option Addr → TS}
theorem ps_try_tup (hs : X.stack = X.env :: X.outer) (hf : X.env.frame = some X.env.locals) (hN : X.N.Nodup) (hi : X.N[i]? = some n) (hln : X.env.kindOf n = some .local) (nt : ∀ (a : Addr) (pn : List (Addr × Obj)), NamesT (X.suite a pn) elts cs)
    (hb : ∀ (W : WX) (pn : List (Addr × Obj)) (xe : Value → Shared → Prop), Takes (X.tr pn xe) W → PassesOwn (model X.prog X.w) X.A X.env xe → PSs (X.tr pn xe) body (tb W))
    (hsu : ∀ (a : Addr) (oe : Obj) (cls : Value) (d : Option Addr) (pn : List (Addr × Obj)), Zc cls d oe → (∃ vs, oe.data = .fields vs) → PSs (X.suite a ((a, oe) :: pn)) (b₀ :: suite) (ts a cls d)) :
    PS X (.Try body (.ExceptHandler (some (.Tuple elts kk np)) (some n) (b₀ :: suite) pos' :: rest) [] [] pos) (fun D σ H => tb (wTup X.K cs i X.N.length ts D) D σ H) := by
  refine ⟨fun pins s σ H D I h => ?_⟩
  have ok := I.ok
  have hfr : X.A.frames = some (X.env :: X.outer) := by rw [ok.frames, hs]
  have hloc : Loc X.env.scope n := .inl hln
  refine wpAny_Try_except (wpAny_mono ((hb (wTup X.K cs i X.N.length ts D) (X.pn ++ pins) (fun e s₁ => wpAny (model X.prog X.w) X.A (noteFrame e X.env) (fun _ s₂ => wpAny (model X.prog X.w) X.A (setFlight e none) (fun _ s₃ =>
    wpAny (model X.prog X.w) X.A (handleBy e X.env (.ExceptHandler (some (.Tuple elts kk np)) (some n) (b₀ :: suite) pos' :: rest)) (SP X pins D) X.xe s₃) X.xe s₂) X.xe s₁) (fun u s' xx => ?_) PassesOwn.looking).run [] s σ H D (I.toTry _) h) (fun f s1 hsp => ?_) (fun e s1 he => he))
  · obtain ⟨a, B, sI, pins', σ', H', cls, d, rfl, J', nb, up, sky, na, os, ag, hms, hyes⟩ := xx
    have J : Inv X pins σ' H' sI := J'.ofTry ok
    have sky' : Sky B (X.env :: X.outer) a (Zc cls d) X.env.locals s'.heap := by rw [← hs]; exact sky
    show wpAny (model X.prog X.w) X.A (noteFrame (.ref a) X.env) _ _ _
    refine Sky.land Zc.steady hfr hf sky' fun h3 fl3 up3 => ?_
    have J3 : Inv X pins σ' H' { s' with heap := h3 } := J.landed nb fl3.1 (up.trans up3) os ag
    obtain ⟨oe3, vs3, he3, hz3, hd3⟩ := fl3.there
    have notFr : ∀ {h : Heap} {o : Obj} {vs : Array Value}, h.FunFrames B (X.env :: X.outer) → h.get? a = some o → o.data = .fields vs → a ∉ frs (X.env :: X.outer) := fun {h o vs} ff e dd hm => by
      obtain ⟨_, o', e', hnf⟩ := ff.mem hm
      rw [e] at e'
      cases e'
      exact hnf _ dd
    have nfr := notFr fl3.2.2.1 he3 hd3
    have nL : a ≠ X.env.locals := fun z => nfr (List.mem_filterMap.mpr ⟨X.env, List.mem_cons_self, by rw [hf, z]⟩)
    have nF : a ∉ X.fs := fun hm => by
      obtain ⟨e, he, q⟩ := List.mem_filterMap.mp hm
      exact nfr (List.mem_filterMap.mpr ⟨e, List.mem_cons_of_mem _ he, q⟩)
    have S3 := J3.suite he3 hd3 na nL nF
    refine wpAny_handleBy_cons (codeAny_handlers_test ?_) (by intro q; cases q)
    have kp : ∀ b o, h3.get? b = some o → (h3.push { cls := .type "tuple", data := .seq cs.toArray }).get? b = some o := fun b o e => Heap.get?_push_of_some _ e
    have LT : PySem.W.Looks (model X.prog X.w) (h3.push { cls := .type "tuple", data := .seq cs.toArray }) (typeOf (.ref a)) cls := fun A Q E s k q => wpAny_typeOf_ref (k _ _ (kp _ _ he3)) (by rw [hz3.1]; exact q)
    have LM := ms_match (M := model X.prog X.w) hms (J3.kIn.keeps kp) LT (Heap.get?_push_size h3 rfl)
    refine wpAny_Tuple_spliced (names_run (X := X.suite a ((a, oe3) :: (X.pn ++ pins))) S3 (nt a _) ⟨by rw [ms_len hms]; decide, ?_⟩)
    refine LM.here ?_
    refine codeAny_handlers_suite_as ?_
    refine HandSPX.lands_againZ (flying_keeps kp fl3) fun h4 fl4 up4 => ?_
    have upk : h3.UpToSlots (h3.push { cls := .type "tuple", data := .seq cs.toArray }) := fun b u e _ => ⟨u.slots, kp _ _ e⟩
    have J4 : Inv X pins σ' H' { s' with heap := h4 } := J.landed nb fl4.1 (((up.trans up3).trans upk).trans up4) os ag
    obtain ⟨oe4, vs4, he4, hz4, hd4⟩ := fl4.there
    have S4 := J4.suite he4 hd4 na nL nF
    refine store_ok (X := X.suite a ((a, oe4) :: (X.pn ++ pins))) (v := .ref a) S4 hN hi hloc rfl (fun s5 S5 => ?_) (.inr hln)
    refine wpAny_mono ((hsu a oe4 cls d (X.pn ++ pins) hz4 ⟨_, hd4⟩).run [] s5 _ H' _ S5 (hyes a na J.len)) (fun f s6 hsp => ?_) (fun _ _ z => False.elim z)
    have end_ : ∀ {σ6 : L2.St} {H6 : Hp} {Q : Shared → Prop}, Inv (X.suite a ((a, oe4) :: (X.pn ++ pins))) [] σ6 H6 s6 → (∀ s7, Inv X pins (σ6.set i none) H6 s7 → Q s7) → wpAny (model X.prog X.w) X.A (do bindName X.env n .none; unbindBehindTheSuite X.env n pos') (fun _ s7 => Q s7) X.xe s6 := fun {σ6 H6 Q} S6 hq => gone_ok (S6.unsuite ok) hN hi hln hq
    cases f with
    | next =>
      obtain ⟨σ6, H6, S6, q6⟩ := hsp
      exact end_ S6 fun s7 J7 => ⟨_, _, J7, q6⟩
    | brk =>
      obtain ⟨σ6, H6, S6, q6⟩ := hsp
      exact end_ S6 fun s7 J7 => ⟨_, _, J7, q6⟩
    | cont =>
      obtain ⟨σ6, H6, S6, q6⟩ := hsp
      exact end_ S6 fun s7 J7 => ⟨_, _, J7, q6⟩
    | ret u =>
      obtain ⟨v6, σ6, H6, S6, r6, q6⟩ := hsp
      exact end_ S6 fun s7 J7 => ⟨_, _, _, J7, r6, q6⟩
  · cases f with
    | next =>
      obtain ⟨σ', H', J', q⟩ := hsp
      exact wpAny_execs_nil ⟨σ', H', J'.ofTry ok, q⟩
    | brk =>
      obtain ⟨σ', H', J', q⟩ := hsp
      exact ⟨σ', H', J'.ofTry ok, q⟩
    | cont =>
      obtain ⟨σ', H', J', q⟩ := hsp
      exact ⟨σ', H', J'.ofTry ok, q⟩
    | ret u =>
      obtain ⟨v, σ', H', J', r, q⟩ := hsp
      exact ⟨v, σ', H', J'.ofTry ok, r, q⟩
end
end GH

namespace Cp
open PySem PySem.Spec PyProof.Rows L2 Evl GN GZ GH
/-! ### _law_fields -/
theorem sc_flds : FnScope ["_law_e"] ["_law_e"] (defScope (top 55)) := ⟨rfl, rfl, rfl, by decide +kernel, rfl, by decide +kernel, by decide +kernel⟩
def noV (v : V) : List V := [.str "no", .str "BadProgram", v]
def spFlds (CB : Addr) : Addr → Addr → Addr → Hp → VK → Prop := fun _ D dd H Q => D = CB ∧ ∃ v, H dd = some (.xd (bpF v)) ∧ ∀ T H2, H T = none → Ex H H2 → H2 T = some (.tup (noV v)) → Q (.ref T) H2
section
variable {K : PySem.W.Frag} {σ : L2.St} {H : Hp} {a D dd c : Addr} {b : Bool} {fs : List (Str × V)} {v : V} {g : Str}
theorem et_isP (h0 : σ[0]? = some (some (.ref a))) (hk : PySem.W.kitOne K (.ref D) (.ref c) = some b) (hd : H dd = some (.xd fs)) : EvT (tB (tCB (rIsP K D a dd) (tCons (tVar 0) (tCons (tC (.ref c)) tNil)))) σ H b := fun H1 e Q q => ⟨.ref a, h0, c, b, fs, rfl, hk, e dd _ hd, b, rfl, q H1 (Ex.refl _)⟩
theorem ev_xp (h0 : σ[0]? = some (some (.ref a))) (hd : H dd = some (.xd fs)) (hl : fs.lookup g = some v) : Ev (tXp a dd g (tVar 0)) σ H v := fun H1 e Q q => ⟨.ref a, h0, rfl, fs, v, e dd _ hd, hl, q H1 (Ex.refl _)⟩
end
theorem bp_tag (v : V) : (bpF v).lookup ("tag" : Str) = some (.str "BadProgram") := rfl
theorem bp_fault (v : V) : (bpF v).lookup ("fault" : Str) = some v := by
  have e : (("fault" : Str) == "tag") = false := by decide +kernel
  unfold bpF
  simp [List.lookup, e]
section
variable {P : Program} {w : World} {K : PySem.W.Frag} {mg : Str → Option Value} {base : Heap} {f : Addr} {fd : FuncData}
theorem ok_flds {CB BK : Addr} (F : FnP K "_law_fields" (top 55) [] f fd) (C : XcC K CB) (gI : mg "isinstance" = none) (gBK : mg "BadKind" = some (.ref BK)) (gB : mg "BadProgram" = some (.ref CB)) (k1 : PySem.W.kitOne K (.ref CB) (.ref BK) = some false) (k2 : PySem.W.kitOne K (.ref CB) (.ref CB) = some true)
    (nt : PySem.W.findIn K (.ref CB) "tag" = some none) (nf : PySem.W.findIn K (.ref CB) "fault" = some none) : FnE P w K mg base 1 f fd ["_law_e"] (spFlds CB) := by
  obtain ⟨oc, od, dV, kV, doc, pm, an, cdv, ct, osl, rfl, lk, hcd, _, _⟩ := F.ex
  refine fn_ofE (k := 0) (N := ["_law_e"]) lk hcd sc_flds fun A outer s H a D dd oe Q hz hv h => ?_
  obtain ⟨rfl, v, hdd, k⟩ := h
  have er : Err (L2H.cxH C8.CX0 P w K mg base ["_law_e"] "_law_fields" (defScope (top 55)) f cdv A outer s H C8.E0 (a, oe)) a oe D dd := ⟨List.mem_cons_self, hz, hv⟩
  refine ⟨_, pss_cons (by
      exact ps_if (pt_val (pe_callB (call_isP er C) (by rfl) gI boot_isinstance (pa_cons (pv 0) (pa_cons (pe_glob (v := .ref BK) (by rfl) gBK rfl) pa_nil))) (by intro _; rfl)) pss_no pss_nil) <| pss_cons (by
      exact ps_if (pt_val (pe_callB (call_isP er C) (by rfl) gI boot_isinstance (pa_cons (pv 0) (pa_cons (pe_glob (v := .ref D) (by rfl) gB rfl) pa_nil))) (by intro _; rfl)) (pss_one (ps_ret (pe_tup (pa_cons pe_str (pa_cons (pe_xp er C nt (pv 0)) (pa_cons (pe_xp er C nf (pv 0)) pa_nil)))))) pss_nil) <| pss_no, ?_⟩
  refine q_no (et_isP rfl k1 hdd) fun H1 e1 => ?_
  refine q_yes (et_isP rfl k2 (e1 _ _ hdd)) fun H2 e2 => ?_
  have hd2 := (e1.trans e2) _ _ hdd
  refine s_retU (xs := noV v) (eu_tup (ea_cons ev_c (ea_cons (ev_xp rfl hd2 (bp_tag v)) (ea_cons (ev_xp rfl hd2 (bp_fault v)) ea_nil))) (show (3 : Nat) ≤ 100000 by decide)) fun p H3 hp e3 h3 => ?_
  exact k p H3 (fresh_back (e1.trans e2) hp) ((e1.trans e2).trans e3) h3
end
/-! ### _law_tried -/
def Ntr : List Str := ["_law_ask", "_law_e"]
theorem sc_tr : FnScope Ntr ["_law_ask"] (defScope (top 54)) := ⟨rfl, rfl, rfl, by decide +kernel, rfl, by decide +kernel, by decide +kernel⟩
def Mg11 (mg : Str → Option Value) : List Value → Prop
  | [c1, c2, c3, c4, c5, c6, c7, c8, c9, c10, c11] => mg "BadKind" = some c1 ∧ mg "BadProgram" = some c2 ∧ mg "BadMark" = some c3 ∧ mg "BadText" = some c4 ∧ mg "BadField" = some c5 ∧ mg "BadCell" = some c6 ∧ mg "BadRule" = some c7 ∧ mg "Barren" = some c8 ∧ mg "TooWide" = some c9 ∧ mg "Full" = some c10 ∧ mg "Stopped" = some c11
  | _ => False
/-- what it makes of what the lambda does -/
def TTr (CB : Addr) : (XK → Hp → VK → Prop) → Hp → VK → Prop := fun tl H Q =>
  tl (fun cls d H' => cls = .ref CB ∧ ∃ dd v, d = some dd ∧ H' dd = some (.xd (bpF v)) ∧ ∀ T H2, H' T = none → Ex H' H2 → H2 T = some (.tup (noV v)) → Q (.ref T) H2) H
    (fun v H' => ([V.str "told", v] : List V).length ≤ sizeLine ∧ ∀ p, H' p = none → Q (.ref p) (upd H' p (.tup [.str "told", v])))
def tSu (CB a : Addr) : Value → Option Addr → TS := fun cls d D σ H => cls = .ref CB ∧ ∃ dd, d = some dd ∧ tRet (tCallE a CB dd (spFlds CB) (tCons (tVar 1) tNil)) D σ H
theorem tr_gives {X : Cx} {g CB fF : Addr} {fdF : FuncData} {cdg : Value} {cs : List Value} {q : Str} {k : Nat} (hr : Room (k + 2) X.A) (hm : Mg11 X.mg cs) (hms : Ms X.K (.ref CB) cs)
    (F : FnE X.prog X.w X.K X.mg X.base 1 fF fdF ["_law_e"] (spFlds CB)) (gF : X.mg "_law_fields" = some (.ref fF)) (kF : PySem.W.keepIn X.K (.ref fF) = true) (bF : Binds X.K fdF ["_law_e"] []) : LamX.GivesTo X Ntr "_law_tried" (defScope (top 54)) g cdg (defBody (top 54)) "_law_ask" q (TTr CB) := by
  intro f c' s H Q tl act hc h
  refine ⟨_, pss_one (by
    refine ps_try_tup (X := (cxOf C8.CX0 X.prog X.w X.K X.mg X.base Ntr "_law_tried" (defScope (top 54)) g cdg X.A X.stack s H C8.E0).nox) (cs := cs) (i := 1) (n := "_law_e")
      (tb := fun W D σ H => ∃ Ech : XK, (∀ cls d σ' H', Ech cls d H' → W cls d σ' H') ∧ σ[0]? = some (some (.ref f)) ∧ H c' = some (LamX.CodeO c' q) ∧ tl Ech H (fun v H' => ([V.str "told", v] : List V).length ≤ sizeLine ∧ ∀ p, H' p = none → D.rt (.ref p) (upd H' p (.tup [.str "told", v]))))
      (ts := tSu CB) rfl rfl sc_tr.nd rfl rfl (fun a pn => ?_) (fun W pn xe tk _ => ?_) (fun a oe cls d pn hz hv => ?_)
    · match cs, hm with
      | [c1, c2, c3, c4, c5, c6, c7, c8, c9, c10, c11], ⟨h1, h2, h3, h4, h5, h6, h7, h8, h9, h10, h11⟩ => exact (.cons (by rfl) h1 (by decide) (.cons (by rfl) h2 (by decide) (.cons (by rfl) h3 (by decide) (.cons (by rfl) h4 (by decide) (.cons (by rfl) h5 (by decide) (.cons (by rfl) h6 (by decide) (.cons (by rfl) h7 (by decide) (.cons (by rfl) h8 (by decide) (.cons (by rfl) h9 (by decide) (.cons (by rfl) h10 (by decide) (.cons (by rfl) h11 (by decide) .nil)))))))))))
    · refine ⟨fun pins s' σ H' D I h' => ?_⟩
      obtain ⟨Ech, hW, h1, h2, h3⟩ := h'
      exact (pss_one (ps_ret (pe_tup (pa_cons pe_str (pa_cons (act W pn xe Ech _ _ tk hW) pa_nil))))).run pins s' σ H' D I ⟨h1, h2, h3⟩
    · refine ⟨fun pins s' σ H' D I h' => ?_⟩
      obtain ⟨rfl, dd, rfl, h'⟩ := h'
      have er : Err ((cxOf C8.CX0 X.prog X.w X.K X.mg X.base Ntr "_law_tried" (defScope (top 54)) g cdg X.A X.stack s H C8.E0).nox.suite a ((a, oe) :: pn)) a oe CB dd := ⟨List.mem_cons_self, hz, hv⟩
      have hrd := (hr.mono (j := 2) (by omega)).deeper (envOfC "_law_tried" (defScope (top 54)) s.heap.objs.size g cdg)
      exact (pss_one (ps_ret (pe_callE er F ⟨hrd.dp, hrd.un⟩ (by rfl) gF kF bF (pa_cons (pv 1) pa_nil)))).run pins s' σ H' D I h'), ?_⟩
  refine ⟨_, fun cls d σ' H' hE => ⟨?_, fun a na hlen => ?_⟩, rfl, hc, h⟩
  · obtain ⟨rfl, _⟩ := hE
    exact hms
  · obtain ⟨rfl, dd, v, rfl, hdd, hQ⟩ := hE
    exact ⟨rfl, dd, rfl, .ref a, List.getElem?_set_self (by rw [hlen]; exact (show 1 < 2 by decide)), rfl, rfl, v, hdd, hQ⟩
end Cp

namespace Cp
open PySem PySem.Spec PyProof.Rows L2 Evl GN GZ
/-! ### statements as data -/
def Sh.data : Sh → PyData
  | .P => .tuple [.str "put", .tuple [.str "x", .str "n"]]
  | .M => .tuple [.str "copy", .tuple [.str "y"], .tuple [.str "x"], .bool true]
  | .C w => .tuple [.str "call", .tuple [.str "x"], .str w, .tuple [.tuple [.tuple [.str "x"], .bool false]]]
  | .O0 => .tuple [.str "put", .tuple [.str "x"]]
  | .O1 => .tuple [.str "put"]
  | .O2 => .tuple [.str "sing", .tuple [.str "x"]]
  | .O3 => .tuple [.str "new", .tuple [.str "zz"]]
section
variable {K : PySem.W.Frag} {H : Hp}
theorem dp1 {q : Addr} {z : Str} (h : SqT K H q [.str z]) : Dp K H (.ref q) (.tuple [.str z]) := .tup h (.cons (.str z) .nil)
theorem IsS.dp : ∀ {s : Sh} {v : V}, IsS K H s v → Dp K H v s.data
  | .P, _, ⟨t, q, a, b, c⟩ => by
    subst a
    exact .tup b (.cons (.str _) (.cons (.tup c (.cons (.str _) (.cons (.str _) .nil))) .nil))
  | .M, _, ⟨t, p, q, a, b, c, d⟩ => by
    subst a
    exact .tup b (.cons (.str _) (.cons (dp1 c) (.cons (dp1 d) (.cons (.bl _) .nil))))
  | .C w, _, ⟨t, p, q, r, u, a, b, c, d, f, g⟩ => by
    subst a
    exact .tup b (.cons (.str _) (.cons (dp1 c) (.cons (.str _) (.cons (.tup d (.cons (.tup f (.cons (dp1 g) (.cons (.bl _) .nil))) .nil)) .nil))))
  | .O0, _, ⟨t, q, a, b, c⟩ => by
    subst a
    exact .tup b (.cons (.str _) (.cons (dp1 c) .nil))
  | .O1, _, ⟨t, a, b⟩ => by
    subst a
    exact .tup b (.cons (.str _) .nil)
  | .O2, _, ⟨t, q, a, b, c⟩ => by
    subst a
    exact .tup b (.cons (.str _) (.cons (dp1 c) .nil))
  | .O3, _, ⟨t, q, a, b, c⟩ => by
    subst a
    exact .tup b (.cons (.str _) (.cons (dp1 c) .nil))
theorem IsB.dp : ∀ {ss : List Sh} {xs : List V}, IsB K H ss xs → DpAll K H xs (ss.map Sh.data)
  | [], _, h => by
    rw [h]
    exact .nil
  | s :: ss, _, ⟨v, vs, a, b, c⟩ => by
    subst a
    exact .cons b.dp (IsB.dp c)
end
/-- calls of f and g alone -/
def CallsFG (ss : List Sh) : Prop := ∀ w, Sh.C w ∈ ss → w = "f" ∨ w = "g"
theorem lay_sh (s : Sh) (hw : ∀ w, s = .C w → w = "f" ∨ w = "g") : PyData.canLay0 s.data = true ∧ PyData.depth s.data ≤ 10 := by
  have d : PyData.depth s.data ≤ 10 := by cases s <;> (simp [Sh.data, PyData.depth, PyData.depthAll])
  refine ⟨?_, d⟩
  cases s with
  | C w =>
    rcases hw w rfl with rfl | rfl <;> decide +kernel
  | _ => decide +kernel
theorem shaped_sh (s : Sh) (hw : ∀ w, s = .C w → w = "f" ∨ w = "g") : SeqAt.shaped s.data = true := by
  have h := lay_sh s hw
  show (PyData.canLay0 _ && decide (PyData.depth _ ≤ 64)) = true
  rw [h.1, decide_eq_true (by omega)]
  rfl
theorem lay_all : ∀ (ds : List PyData), (∀ d ∈ ds, PyData.canLay0 d = true ∧ PyData.depth d ≤ 10) → PyData.canLayAll0 ds = true ∧ PyData.depthAll ds ≤ 10
  | [], _ => by simp [PyData.canLayAll0, PyData.depthAll]
  | d :: ds, h => by
    have h1 := h d List.mem_cons_self
    have h2 := lay_all ds fun x hx => h x (List.mem_cons_of_mem _ hx)
    simp only [PyData.canLayAll0, PyData.depthAll]
    rw [h1.1, h2.1]
    exact ⟨rfl, by omega⟩
theorem shaped_list {ds : List PyData} (h : ∀ d ∈ ds, PyData.canLay0 d = true ∧ PyData.depth d ≤ 10) : SeqAt.shaped (.list ds) = true := by
  have h := lay_all ds h
  have h2 : PyData.depth (.list ds) ≤ 64 := by
    simp only [PyData.depth]
    omega
  show (PyData.canLay0 (.list ds) && decide (PyData.depth (.list ds) ≤ 64)) = true
  rw [decide_eq_true h2]
  simp only [PyData.canLay0, h.1]
  rfl
/-- the odd ones, the marks: x in them -/
def isOdd (s : Sh) : Bool := !s.good
theorem odd_any (s : Sh) : (([Sh.O0, .O1, .O2, .O3].map Sh.data).any fun z => PyData.eqv z s.data) = !s.good := by
  cases s <;> (simp only [List.map, Sh.data, List.any, PyData.eqv, PyData.eqvAll, Sh.good]) <;> decide +kernel
theorem mark_any (s : Sh) : (([Sh.M].map Sh.data).any fun z => PyData.eqv z s.data) = s.isM := by
  cases s <;> (simp only [List.map, Sh.data, List.any, PyData.eqv, PyData.eqvAll, Sh.isM]) <;> decide +kernel
/-- the first place, by filter and by findIdx? -/
def hitAt {α : Type} (xs : List α) (q : α → Bool) (i : Nat) : Bool := match xs[i]? with
  | some x => q x
  | none => false
theorem hitAt_some {α : Type} {xs : List α} {q : α → Bool} {i : Nat} {x : α} (h : xs[i]? = some x) : hitAt xs q i = q x := by
  unfold hitAt
  rw [h]
theorem filter_head {α : Type} {xs : List α} {q : α → Bool} : ((List.range xs.length).filter (hitAt xs q)).head? = xs.findIdx? q := by
  rw [List.head?_filter]
  cases h : xs.findIdx? q with
  | none =>
    rw [List.find?_eq_none]
    intro i hi
    rw [List.findIdx?_eq_none_iff] at h
    have hi := List.mem_range.mp hi
    rw [hitAt_some (List.getElem?_eq_getElem hi), h _ (List.getElem_mem hi)]
    decide
  | some j =>
    rw [List.findIdx?_eq_some_iff_getElem] at h
    obtain ⟨hj, h1, h2⟩ := h
    rw [List.find?_range_eq_some]
    refine ⟨?_, List.mem_range.mpr hj, fun m hm => ?_⟩
    · rw [hitAt_some (List.getElem?_eq_getElem hj)]
      exact h1
    · rw [hitAt_some (List.getElem?_eq_getElem (by omega))]
      have := h2 m hm
      simpa using this
end Cp

namespace Cp
open PySem PySem.Spec PyProof.Rows L2 Evl GN GZ
theorem hu2 {k : Nat} {A : Around} (r : Room k A) : A.units + 65 < cLine := by
  have := r.un
  omega
def optV : Option Nat → V
  | some j => .int (j : Nat)
  | none => .non
section
variable {K : PySem.W.Frag} {σ : L2.St} {H : Hp} {te : TE}
theorem dp_all {vs : List V} {ds : List PyData} (h : DpAll K H vs ds) : vs.length = ds.length := by
  induction vs generalizing ds with
  | nil => cases h; rfl
  | cons v vs ih =>
    cases h with
    | cons a b => rw [List.length_cons, List.length_cons, ih b]
/-- xs != [] -/
theorem et_neNil {p : Addr} {vs : List V} {ds : List PyData} (h : Ev te σ H (.ref p)) (hp : SqL K H p vs) (hd : ∀ H1, Ex H H1 → DpAll K H1 vs ds) (hs : SeqAt.shaped (.list ds) = true) : EvT (tTest (tOp (rNeD K) te (tLst tNil))) σ H (!vs.isEmpty) := by
  refine et_test (fun H1 e Q q => h H1 e _ fun H2 e2 => ⟨sz_of (n := 0) (by decide), fun r hr => ?_⟩)
  have e3 : Ex H2 (upd H2 r (.lst [])) := Ex.new hr
  have ee : Ex H (upd H2 r (.lst [])) := (e.trans e2).trans e3
  refine ⟨.list ds, .list [], .lst (ex_l ee hp) (hd _ ee), .lst (sq_of upd_same) .nil, hs, by decide +kernel, ?_⟩
  have eq : (!PyData.eqv (.list ds) (.list [])) = !vs.isEmpty := by
    have := dp_all (hd H (Ex.refl _))
    cases vs with
    | nil =>
      cases ds with
      | nil => rfl
      | cons _ _ => simp at this
    | cons _ _ =>
      cases ds with
      | nil => simp at this
      | cons _ _ => rfl
  rw [eq]
  exact q _ (e2.trans e3)
theorem dp_ints : ∀ {is : List Nat} {H : Hp}, DpAll K H (is.map fun i => V.int (i : Nat)) (is.map fun i => PyData.int (i : Nat))
  | [], _ => .nil
  | i :: is, _ => .cons (.int _) dp_ints
theorem shaped_ints (is : List Nat) : SeqAt.shaped (.list (is.map fun i => PyData.int (i : Nat))) = true := shaped_list fun d hd => by
  obtain ⟨i, _, rfl⟩ := List.mem_map.mp hd
  exact ⟨by simp only [PyData.canLay0], by simp only [PyData.depth]; decide⟩
end
def spFo (K : PySem.W.Frag) : Sp := fun vs H Q _ => ∃ b l xs ss os osh q, vs = [.ref b, .ref l] ∧ SqL K H b xs ∧ IsB K H ss xs ∧ ss.length ≤ 60 ∧ CallsFG ss ∧ SqL K H l os ∧ IsB K H osh os ∧ CallsFG osh ∧ (∀ s, ((osh.map Sh.data).any fun z => PyData.eqv z s.data) = q s) ∧ RetV (optV (ss.findIdx? q)) H Q
def Nfo : List Str := ["_law_body", "_law_some", "_law_found", "_law_k"]
theorem sc_fo : FnScope Nfo ["_law_body", "_law_some"] (defScope (top 56)) := ⟨rfl, rfl, rfl, by decide +kernel, rfl, by decide +kernel, by decide +kernel⟩
section
variable {P : Program} {w : World} {K : PySem.W.Frag} {mg : Str → Option Value} {base : Heap} {f : Addr} {fd : FuncData}
theorem ok_fo (F : FnP K "_law_first_of" (top 56) [] f fd) (gL : mg "len" = none) (gR : mg "range" = none) : FnOk P w K mg base CX0 1 f fd ["_law_body", "_law_some"] (spFo K) := by
  refine F.ok sc_fo (fun vs H Q E h => ?_) (fun cdv A outer s H vs Q E hr h => ?_)
  · obtain ⟨b, l, xs, ss, os, osh, q, rfl, _⟩ := h
    rfl
  · obtain ⟨b, l, xs, ss, os, osh, q, rfl, hb, hB, hn, hc, hl, hO, hco, hq, k⟩ := h
    refine ⟨_, pss_cons (by
        exact ps_setLc (i := 2) (own := [("_law_k", 3)]) (g := gName 3) (tt := tTest (tOp (rInD K) (tOp (rIxL K) (tVar 0) (tVar 3)) (tVar 1))) (te := tVar 3) rfl sc_fo.nd rfl rfl (sw_true rfl rfl rfl (by decide +kernel)) (pi_range1 (by rfl) gR (pa_cons (pe_callB call_len_seq (by rfl) gL PySem.boot_len (pa_cons (pv 0) pa_nil)) pa_nil)) (blkOk_by (by kernel_rfl)) (fun _ _ _ _ _ => pg_name (i := 3) sc_fo.nd rfl (Or.inl rfl))
          (fun _ _ _ _ _ => pts_one (by exact pt_cmpR (op_inD (hu2 hr)) (pe_ix ix_list (pv 0) (pv 3) (fun _ _ => rfl)) (pv 1) (by rfl))) (fun _ _ _ _ _ => by exact pv 3)) <| pss_one (by
        exact ps_ret (pe_ifExp (pt_cmpR (op_neD hr.units) (pv 2) (pe_lst pa_nil) (nomark _)) (pe_ix ix_list (pv 2) pe_int (fun _ _ => rfl)) pe_non)), ?_⟩
    have hxl := hB.len
    refine q_asgL (el_lcR1 (n := (xs.length : Int)) (hitAt ss q) (fun i => .int (i : Nat)) (ea_cons (ev_len (ev_var rfl) hb) ea_nil) ⟨by omega, by omega⟩ (fun _ => rfl) (fun i H1 e1 hi => ?_) fun i H1 e1 hi _ => ev_var rfl) fun p H1 hp e1 h1 => ?_
    · have hi : i < xs.length := by omega
      have hx : xs[i]? = some xs[i] := List.getElem?_eq_getElem hi
      obtain ⟨s, hs, his⟩ := hB.at hx
      rw [hitAt_some hs]
      refine et_test (ev_op (x := xs[i]) (y := .ref l) (ev_ixL (i := i) (ev_var rfl) (ev_var rfl) (ex_l e1 hb) hx) (ev_var rfl) fun H2 e2 Q k2 => ⟨s.data, osh.map Sh.data, (his.ex (e1.trans e2)).dp, .lst (ex_l (e1.trans e2) hl) (IsB.dp (hO.ex (e1.trans e2))), shaped_sh s fun w hw => hc w (by rw [← hw]; exact List.mem_of_getElem? hs), shaped_list fun d hd => ?_, ?_⟩)
      · obtain ⟨o, ho, rfl⟩ := List.mem_map.mp hd
        exact lay_sh o fun w hw => hco w (by rw [← hw]; exact ho)
      · rw [hq s]
        exact k2 H2 (Ex.refl _)
    · have hg : given ((xs.length : Int).toNat) (hitAt ss q) (fun i => V.int (i : Nat)) = ((List.range ss.length).filter (hitAt ss q)).map fun i => V.int (i : Nat) := by
        unfold given
        rw [Int.toNat_natCast, hxl]
      have hh := filter_head (xs := ss) (q := q)
      rw [hg] at h1
      generalize (List.range ss.length).filter (hitAt ss q) = L at h1 hh
      refine s_ret (v := optV (ss.findIdx? q)) (ev_if (b := !(L.map fun i => V.int (i : Nat)).isEmpty) (et_neNil (p := p) (ev_var rfl) (sq_of h1) (fun _ _ => dp_ints) (shaped_ints L)) (fun hb => ?_) fun hb => ?_) fun H2 e2 => k.go (e1.trans e2)
      · rw [← hh]
        cases L with
        | nil => cases hb
        | cons j r => exact ev_ixL (i := 0) (v := .int (j : Nat)) (ev_var rfl) ev_c (sq_of h1) rfl
      · rw [← hh]
        cases L with
        | nil => exact ev_c
        | cons j r => cases hb
end
end Cp

namespace Cp
open PySem PySem.Spec PyProof.Rows L2 Evl GN GZ
def Ndu : List Str := ["_law_bodies", "_law_flags", "_law_odds", "_law_mark", "_law_heads", "_law_long", "_law_wrong", "_law_stuck", "_law_marks", "_law_at", "_law_row"]
theorem sc_du : FnScope Ndu ["_law_bodies", "_law_flags", "_law_odds", "_law_mark"] (defScope (top 57)) := ⟨rfl, rfl, rfl, by decide +kernel, rfl, by decide +kernel, by decide +kernel⟩
/-- the flags of one procedure -/
def IsFl (K : PySem.W.Frag) (H : Hp) (p : Pr) (v : V) : Prop := ∃ f b1 b2 b4, v = .ref f ∧ SqL K H f [.bl p.bad, .bl b1, .bl b2, .bl (p.ss.any Sh.isC), .bl b4]
theorem IsFl.ex {K : PySem.W.Frag} {H H' : Hp} {p : Pr} {v : V} (e : Ex H H') : IsFl K H p v → IsFl K H' p v
  | ⟨f, b1, b2, b4, a, b⟩ => ⟨f, b1, b2, b4, a, ex_l e b⟩
/-- one body, a list -/
def IsBd (K : PySem.W.Frag) (H : Hp) (p : Pr) (v : V) : Prop := ∃ b xs, v = .ref b ∧ SqL K H b xs ∧ IsB K H p.ss xs ∧ p.ss.length ≤ 60 ∧ CallsFG p.ss
theorem IsBd.ex {K : PySem.W.Frag} {H H' : Hp} {p : Pr} {v : V} (e : Ex H H') : IsBd K H p v → IsBd K H' p v
  | ⟨b, xs, a, c, d, f⟩ => ⟨b, xs, a, ex_l e c, d.ex e, f⟩
def spDue (K : PySem.W.Frag) : Sp := fun vs H Q _ => ∃ bd fl od mk bs fs os ps, vs = [.ref bd, .ref fl, .ref od, mk] ∧ SqL K H bd bs ∧ SqL K H fl fs ∧ SqL K H od os ∧ IsB K H [.O0, .O1, .O2, .O3] os ∧ IsS K H .M mk ∧ ps.length = 3 ∧ bs.length = 3 ∧ fs.length = 3 ∧
  (∀ (i : Nat) p v, ps[i]? = some p → bs[i]? = some v → IsBd K H p v) ∧ (∀ (i : Nat) p v, ps[i]? = some p → fs[i]? = some v → IsFl K H p v) ∧
  (∀ f, due ps = some f → ∀ T H2, H T = none → Ex H H2 → H2 T = some (.tup f.vs) → Q (.ref T) H2) ∧ (due ps = none → ∀ H2, Ex H H2 → Q .non H2)
section
variable {K : PySem.W.Frag} {σ : L2.St} {H : Hp}
theorem dp_map {L : List Nat} {v : Nat → V} {d : Nat → PyData} (h : ∀ j ∈ L, Dp K H (v j) (d j)) : DpAll K H (L.map v) (L.map d) := by
  induction L with
  | nil => exact .nil
  | cons j L ih => exact .cons (h j List.mem_cons_self) (ih fun x hx => h x (List.mem_cons_of_mem _ hx))
theorem eu_cat {ta tb : TE} {b : Addr} {xs ys : List V} (ha : EvU ta σ H xs) (hb : Ev tb σ H (.ref b)) (h : SqT K H b ys) (hx : xs ≠ []) (hy : ys ≠ []) (hl : xs.length + ys.length ≤ 1000) : EvU (tOp (rCatT K) ta tb) σ H (xs ++ ys) := fun H1 e Q q =>
  ha H1 e _ fun p H2 np e2 hp => hb H2 (e.trans e2) _ fun H3 e3 => ⟨p, b, xs, ys, rfl, rfl, st_of (e3 p _ hp), ex_t ((e.trans e2).trans e3) h, hx, sz_of (by omega), fun z => absurd z hy, fun _ r hr => q r _ (fresh_back (e2.trans e3) hr) ((e2.trans e3).trans (Ex.new hr)) upd_same⟩
theorem eu_catU {ta tb : TE} {xs ys : List V} (ha : EvU ta σ H xs) (hb : EvU tb σ H ys) (hx : xs ≠ []) (hy : ys ≠ []) (hl : xs.length + ys.length ≤ 1000) : EvU (tOp (rCatT K) ta tb) σ H (xs ++ ys) := fun H1 e Q q =>
  ha H1 e _ fun p H2 np e2 hp => hb H2 (e.trans e2) _ fun b H3 nb e3 h => ⟨p, b, xs, ys, rfl, rfl, st_of (e3 p _ hp), st_of h, hx, sz_of (by omega), fun z => absurd z hy, fun _ r hr => q r _ (fresh_back (e2.trans e3) hr) ((e2.trans e3).trans (Ex.new hr)) upd_same⟩
theorem eu_ifT {t : TT} {ta tb : TE} {xs : List V} (h : EvT t σ H true) (h1 : EvU ta σ H xs) : EvU (tIf t ta tb) σ H xs := fun H1 e Q q => h H1 e _ fun H2 e2 => h1 H2 (e.trans e2) Q fun p H3 n e3 => q p H3 (fresh_back e2 n) (e2.trans e3)
def tNotN (K : PySem.W.Frag) : TT := tTest (tOp (fun x y H Q => y = .non ∧ Q (.bl (!decide (x = .non))) H) (tOp (rIxT K) (tVar 10) (tC (.int 1))) (tC .non))
theorem any_isSome {q : Sh → Bool} {ss : List Sh} : (ss.findIdx? q).isSome = ss.any q := by
  cases h : ss.findIdx? q with
  | none =>
    rw [List.findIdx?_eq_none_iff] at h
    symm
    rw [Option.isSome_none, List.any_eq_false]
    intro x hx
    rw [h x hx]
    decide
  | some j =>
    rw [List.findIdx?_eq_some_iff_getElem] at h
    obtain ⟨hj, h1, _⟩ := h
    symm
    rw [Option.isSome_some, List.any_eq_true]
    exact ⟨_, List.getElem_mem hj, h1⟩
theorem optV_some (o : Option Nat) : (!decide (optV o = .non)) = o.isSome := by
  cases o with
  | none => rfl
  | some j => rfl
/-- the list of (at, first place), then those that have one -/
theorem q_two {i : Nat} {tc : TE} {tz : TS} {D : Ends} {ps : List Pr} (q : Sh → Bool) (hp3 : ps.length = 3) (w9 : ∀ x, wipe ((wipe σ [9]).set 9 (some x)) [9] = wipe σ [9]) (g9 : ∀ x, ((wipe σ [9]).set 9 (some x))[9]? = some (some x)) (si : ∀ x, (σ.set i (some x))[i]? = some (some x))
    (w10 : ∀ y x, wipe ((wipe (σ.set i (some y)) [10]).set 10 (some x)) [10] = wipe (σ.set i (some y)) [10]) (g10 : ∀ y x, ((wipe (σ.set i (some y)) [10]).set 10 (some x))[10]? = some (some x)) (hc : ∀ (j : Nat) p, ps[j]? = some p → Ev tc ((wipe σ [9]).set 9 (some (.int (j : Nat)))) H (optV (p.ss.findIdx? q)))
    (k : ∀ r (L : List Nat) (v : Nat → V) H1, Ex H H1 → L.head? = ps.findIdx? (fun p => p.ss.any q) → (∀ j ∈ L, ∃ p a, ps[j]? = some p ∧ v j = .ref a ∧ H1 a = some (.tup [.int (j : Nat), optV (p.ss.findIdx? q)])) → H1 r = some (.lst (L.map v)) → tz D (σ.set i (some (.ref r))) H1) :
    tSeq (tAsg (tLc (iRng1 (tCons (tC (.int 3)) tNil)) (gName 9) tYes (tTup (tCons (tVar 9) (tCons tc tNil))) [9]) (gName i)) (tSeq (tAsg (tLc (iList K (tVar i)) (gName 10) (tNotN K) (tVar 10) [10]) (gName i)) tz) D σ H := by
  have at_ : ∀ j, j < 3 → ∃ p, ps[j]? = some p := fun j hj => ⟨_, List.getElem?_eq_getElem (by omega)⟩
  have N1 : EvN (tLc (iRng1 (tCons (tC (.int 3)) tNil)) (gName 9) tYes (tTup (tCons (tVar 9) (tCons tc tNil))) [9]) σ H (ixs 3 fun _ => true) (fun j y H3 => ∃ a, y = .ref a ∧ ∀ p, ps[j]? = some p → H3 a = some (.tup [.int (j : Nat), optV (p.ss.findIdx? q)])) := by
    refine en_lc (fun _ => true) (ew_rng1 (n := 3) (ea_cons ev_c ea_nil) ⟨by decide, by decide⟩) (by decide) fun j x H1 H2 hj e y => ?_
    obtain ⟨rfl, rfl⟩ := y
    obtain ⟨p, hp⟩ := at_ j hj
    have z : (0 : Int) + (j : Int) = (j : Int) := Int.zero_add _
    refine ⟨Ex.refl _, fun Q qq => ?_⟩
    show Q ((wipe σ [9]).set 9 (some (.int ((0 : Int) + (j : Int))))) H2
    rw [z]
    refine qq _ H2 (Ex.refl _) (w9 _) et_yes fun _ H4 e4 Q2 q2 => ⟨_, g9 _, ?_⟩
    refine hc j p hp H4 (e.trans e4) _ fun H5 e5 => ⟨sz_of (n := 2) (by decide), fun a ha => q2 (.ref a) _ (e5.trans (Ex.new ha)) fun H6 kk => ⟨a, rfl, fun p' hp' => ?_⟩⟩
    rw [hp] at hp'
    cases hp'
    exact kk.new a _ (fresh_back (e4.trans e5) ha) upd_same
  refine q_asgW ?_
  refine N1 H (Ex.refl _) _ fun r1 ys H1 hr1 e1 h1 z1 => ?_
  have E1 := z1 H1 (Kp.self e1)
  rw [ixs_all] at E1
  have hys := E1.1
  rw [List.length_range] at hys
  have it : ∀ j, j < 3 → ∃ a p, ys[j]? = some (.ref a) ∧ ps[j]? = some p ∧ H1 a = some (.tup [.int (j : Nat), optV (p.ss.findIdx? q)]) := fun j hj => by
    have hy : ys[j]? = some ys[j] := List.getElem?_eq_getElem (by omega)
    obtain ⟨a, ea, ha⟩ := E1.2 j j _ (by rw [List.getElem?_range hj]) hy
    obtain ⟨p, hp⟩ := at_ j hj
    rw [ea] at hy
    exact ⟨a, p, hy, hp, ha p hp⟩
  refine q_asgL (el_lcL (a := r1) (xs := ys) (hitAt ps fun p => p.ss.any q) (fun j => ys.getD j .non) (ev_var (si _)) (sq_of h1) (by omega) (w10 _) (fun j x H2 e2 hx => ?_) fun j x H2 e2 hx _ => ?_) fun r H2 hr e2 h2 => ?_
  · have hj : j < 3 := by
      have := (List.getElem?_eq_some_iff.mp hx).1
      omega
    obtain ⟨a, p, hy, hp, ha⟩ := it j hj
    rw [hy] at hx
    cases hx
    rw [hitAt_some hp, ← any_isSome, ← optV_some]
    exact et_test (ev_op (ev_ixT (i := 1) (ev_var (g10 _ _)) ev_c (st_of (e2 _ _ ha)) (at_of (j := 1) rfl rfl)) ev_c fun H3 e3 Q qq => ⟨rfl, qq H3 (Ex.refl _)⟩)
  · have : ys.getD j .non = x := by
      rw [List.getD_eq_getElem?_getD, hx]
      rfl
    rw [this]
    exact ev_var (g10 _ _)
  · have hg : given ys.length (hitAt ps fun p => p.ss.any q) (fun j => ys.getD j .non) = ((List.range ps.length).filter (hitAt ps fun p => p.ss.any q)).map fun j => ys.getD j .non := by
      unfold given
      rw [hys, hp3]
    rw [hg] at h2
    have kk := k r _ _ H2 (e1.trans e2) filter_head (fun j hj => ?_) h2
    · rw [List.set_set]
      exact kk
    · have hj3 : j < 3 := by
        have := List.mem_range.mp (List.mem_filter.mp hj).1
        omega
      obtain ⟨a, p, hy, hp, ha⟩ := it j hj3
      exact ⟨p, a, hp, by rw [List.getD_eq_getElem?_getD, hy]; rfl, e2 _ _ ha⟩
end
/-- the first of them is the fault's place -/
theorem fi2_of {q : Sh → Bool} {ps : List Pr} {j : Nat} {p : Pr} (h : some j = ps.findIdx? (fun p => p.ss.any q)) (hp : ps[j]? = some p) : ∃ m, p.ss.findIdx? q = some m ∧ fi2 q ps = some (j, m) := by
  have h1 : p.ss.any q = true := by
    have h2 := h.symm
    rw [List.findIdx?_eq_some_iff_getElem] at h2
    obtain ⟨hj, h3, _⟩ := h2
    rw [List.getElem?_eq_getElem hj] at hp
    rw [← Option.some.inj hp]
    exact h3
  rw [← any_isSome] at h1
  obtain ⟨m, hm⟩ := Option.isSome_iff_exists.mp h1
  refine ⟨m, hm, ?_⟩
  unfold fi2
  rw [← h]
  show (match ps[j]? with | none => none | some p => (p.ss.findIdx? q).map fun m => (j, m)) = _
  rw [hp]
  show (p.ss.findIdx? q).map _ = _
  rw [hm]
  rfl
theorem fi2_non {q : Sh → Bool} {ps : List Pr} (h : none = ps.findIdx? (fun p => p.ss.any q)) : fi2 q ps = none := by
  unfold fi2
  rw [← h]
theorem three_in (x y z : Bool) : inV (.bl true) [.bl (x && y), .bl y, .bl z] = ([x && y, y, z].findIdx? id).isSome := by
  cases x <;> cases y <;> cases z <;> rfl
theorem three_ix (x y z : Bool) {j : Nat} (h : [x && y, y, z].findIdx? id = some j) : ([V.bl (x && y), .bl y, .bl z] : List V)[j]? = some (.bl true) ∧ ∀ (m : Nat) (w : V), m < j → ([V.bl (x && y), .bl y, .bl z] : List V)[m]? = some w → eqV w (.bl true) = false := by
  rw [List.findIdx?_eq_some_iff_getElem] at h
  obtain ⟨hj, h1, h2⟩ := h
  have e : ([V.bl (x && y), .bl y, .bl z] : List V) = [x && y, y, z].map V.bl := rfl
  refine ⟨?_, fun m w hm hw => ?_⟩
  · rw [e, List.getElem?_map, List.getElem?_eq_getElem hj]
    have h1 : ([x && y, y, z])[j] = true := h1
    rw [h1]
    rfl
  · rw [e, List.getElem?_map, List.getElem?_eq_getElem (by omega)] at hw
    have := h2 m hm
    have h3 : ([x && y, y, z])[m] = false := by simpa using this
    rw [h3] at hw
    cases hw
    rfl
/-- data of (at, first place) -/
def optD : Option Nat → PyData
  | some j => .int (j : Nat)
  | none => .none
theorem optV_dp {K : PySem.W.Frag} {H : Hp} (o : Option Nat) : Dp K H (optV o) (optD o) := by
  cases o with
  | none => exact .non
  | some j => exact .int _
theorem row_shaped (L : List Nat) (o : Nat → Option Nat) : SeqAt.shaped (.list (L.map fun j => PyData.tuple [.int (j : Nat), optD (o j)])) = true := shaped_list fun d hd => by
  obtain ⟨j, _, rfl⟩ := List.mem_map.mp hd
  cases o j <;> exact ⟨by simp [PyData.canLay0, PyData.canLayAll0, optD], by simp [PyData.depth, PyData.depthAll, optD]⟩
theorem ints_of {α : Type} {ps : List α} {q : α → Bool} {n : Nat} {f : Nat → V} (h : ps.length = n) : given n (hitAt ps q) f = ((List.range ps.length).filter (hitAt ps q)).map f := by
  unfold given
  rw [h]
section
variable {P : Program} {w : World} {K : PySem.W.Frag} {mg : Str → Option Value} {base : Heap} {f : Addr} {fd : FuncData}
theorem ok_due (F : FnP K "_law_due" (top 57) [] f fd) (FO : Cal P w K mg base "_law_first_of" 1 ["_law_body", "_law_some"] (spFo K)) (gL : mg "len" = none) (gR : mg "range" = none) : FnOk P w K mg base CX0 2 f fd ["_law_bodies", "_law_flags", "_law_odds", "_law_mark"] (spDue K) := by
  refine F.ok sc_du (fun vs H Q E h => ?_) (fun cdv A outer s H vs Q E hr h => ?_)
  · obtain ⟨bd, fl, od, mk, bs, fs, os, ps, rfl, _⟩ := h
    rfl
  · obtain ⟨bd, fl, od, mk, bs, fs, os, ps, rfl, hbd, hfl, hod, hos, hmk, hp3, hb3, hf3, hB, hF, kS, kN⟩ := h
    refine ⟨_, pss_cons (by
        exact ps_setLc (i := 4) (own := [("_law_at", 9)]) (g := gName 9) (tt := tB (tOp (rIxL K) (tOp (rIxL K) (tVar 1) (tVar 9)) (tC (.int 0)))) (te := tVar 9) rfl sc_du.nd rfl rfl (sw_true rfl rfl rfl (by decide +kernel)) (pi_range1 (by rfl) gR (pa_cons pe_int pa_nil)) (blkOk_by (by kernel_rfl)) (fun _ _ _ _ _ => pg_name (i := 9) sc_du.nd rfl (Or.inl rfl))
          (fun _ _ _ _ _ => pts_one (by exact pt_val (pe_ix ix_list (pe_ix ix_list (pv 1) (pv 9) (fun _ _ => rfl)) pe_int (fun _ _ => rfl)) (by intro _; rfl))) (fun _ _ _ _ _ => by exact pv 9)) <| pss_cons (by
        exact ps_if (pt_cmpR (op_neD hr.units) (pv 4) (pe_lst pa_nil) (nomark _)) (pss_one (ps_ret (pe_tup (pa_cons pe_str (pa_cons (pe_ix ix_list (pv 4) pe_int (fun _ _ => rfl)) pa_nil))))) pss_nil) <| pss_cons (by
        exact ps_setLc (i := 5) (own := [("_law_at", 9)]) (g := gName 9) (tt := tTest (tOp (rI0 fun i j => .bl (decide (j < i))) (tCB (rLenS K) (tCons (tOp (rIxL K) (tVar 0) (tVar 9)) tNil)) (tC (.int 14)))) (te := tVar 9) rfl sc_du.nd rfl rfl (sw_true rfl rfl rfl (by decide +kernel)) (pi_range1 (by rfl) gR (pa_cons pe_int pa_nil)) (blkOk_by (by kernel_rfl)) (fun _ _ _ _ _ => pg_name (i := 9) sc_du.nd rfl (Or.inl rfl))
          (fun _ _ _ _ _ => pts_one (by exact pt_cmpR op_gt (pe_callB call_len_seq (by rfl) gL PySem.boot_len (pa_cons (pe_ix ix_list (pv 0) (pv 9) (fun _ _ => rfl)) pa_nil)) pe_int (nomark _))) (fun _ _ _ _ _ => by exact pv 9)) <| pss_cons (by
        exact ps_if (pt_cmpR (op_neD hr.units) (pv 5) (pe_lst pa_nil) (nomark _)) (pss_one (ps_ret (pe_tup (pa_cons pe_str (pa_cons (pe_ix ix_list (pv 5) pe_int (fun _ _ => rfl)) pa_nil))))) pss_nil) <| pss_cons (by
        exact ps_setLc (i := 6) (own := [("_law_at", 9)]) (g := gName 9) (tt := tYes) (te := tTup (tCons (tVar 9) (tCons (tCall (spFo K) [] E0 (tCons (tOp (rIxL K) (tVar 0) (tVar 9)) (tCons (tVar 2) tNil))) tNil))) rfl sc_du.nd rfl rfl (sw_true rfl rfl rfl (by decide +kernel)) (pi_range1 (by rfl) gR (pa_cons pe_int pa_nil)) (blkOk_by (by kernel_rfl)) (fun _ _ _ _ _ => pg_name (i := 9) sc_du.nd rfl (Or.inl rfl))
          (fun _ _ _ _ _ => pts_nil) (fun _ _ _ _ _ => by exact pe_tup (pa_cons (pv 9) (pa_cons (pe_call FO.G hr (by rfl) FO.g FO.k FO.b .nil pass0 (pa_cons (pe_ix ix_list (pv 0) (pv 9) (fun _ _ => rfl)) (pa_cons (pv 2) pa_nil))) pa_nil)))) <| pss_cons (by
        exact ps_setLc (i := 6) (own := [("_law_row", 10)]) (g := gName 10) (tt := tNotN K) (te := tVar 10) rfl sc_du.nd rfl rfl (sw_true rfl rfl rfl (by decide +kernel)) (pi_list (pv 6)) (blkOk_by (by kernel_rfl)) (fun _ _ _ _ _ => pg_name (i := 10) sc_du.nd rfl (Or.inl rfl))
          (fun _ _ _ _ _ => pts_one (by exact pt_cmpR op_notN (pe_ix ix_tup (pv 10) pe_int (fun _ _ => rfl)) pe_non (nomark _))) (fun _ _ _ _ _ => by exact pv 10)) <| pss_cons (by
        exact ps_if (pt_cmpR (op_neD hr.units) (pv 6) (pe_lst pa_nil) (nomark _)) (pss_one (ps_ret (pe_op op_catT (pe_tup (pa_cons pe_str pa_nil)) (pe_ix ix_list (pv 6) pe_int (fun _ _ => rfl))))) pss_nil) <| pss_cons (by
        exact ps_asg (pe_lst (pa_cons (pe_and (pe_ix ix_list (pe_ix ix_list (pv 1) pe_int (fun _ _ => rfl)) pe_int (fun _ _ => rfl)) (pe_one (pe_ix ix_list (pe_ix ix_list (pv 1) pe_int (fun _ _ => rfl)) pe_int (fun _ _ => rfl)))) (pa_cons (pe_ix ix_list (pe_ix ix_list (pv 1) pe_int (fun _ _ => rfl)) pe_int (fun _ _ => rfl)) (pa_cons (pe_ix ix_list (pe_ix ix_list (pv 1) pe_int (fun _ _ => rfl)) pe_int (fun _ _ => rfl)) pa_nil)))) (pg_name (i := 7) sc_du.nd rfl (Or.inl rfl))) <| pss_cons (by
        exact ps_if (pt_cmpR op_in_seq pe_bl (pv 7) (by rfl)) (pss_one (ps_ret (pe_tup (pa_cons pe_str (pa_cons (pe_bm PySem.F.plainAttrs_list PySem.F.slot_list_index PySem.F.type_list_index mt_index (pv 7) (pa_cons pe_bl pa_nil)) pa_nil))))) pss_nil) <| pss_cons (by
        exact ps_setLc (i := 8) (own := [("_law_at", 9)]) (g := gName 9) (tt := tYes) (te := tTup (tCons (tVar 9) (tCons (tCall (spFo K) [] E0 (tCons (tOp (rIxL K) (tVar 0) (tVar 9)) (tCons (tLst (tCons (tVar 3) tNil)) tNil))) tNil))) rfl sc_du.nd rfl rfl (sw_true rfl rfl rfl (by decide +kernel)) (pi_range1 (by rfl) gR (pa_cons pe_int pa_nil)) (blkOk_by (by kernel_rfl)) (fun _ _ _ _ _ => pg_name (i := 9) sc_du.nd rfl (Or.inl rfl))
          (fun _ _ _ _ _ => pts_nil) (fun _ _ _ _ _ => by exact pe_tup (pa_cons (pv 9) (pa_cons (pe_call FO.G hr (by rfl) FO.g FO.k FO.b .nil pass0 (pa_cons (pe_ix ix_list (pv 0) (pv 9) (fun _ _ => rfl)) (pa_cons (pe_lst (pa_cons (pv 3) pa_nil)) pa_nil))) pa_nil)))) <| pss_cons (by
        exact ps_setLc (i := 8) (own := [("_law_row", 10)]) (g := gName 10) (tt := tNotN K) (te := tVar 10) rfl sc_du.nd rfl rfl (sw_true rfl rfl rfl (by decide +kernel)) (pi_list (pv 8)) (blkOk_by (by kernel_rfl)) (fun _ _ _ _ _ => pg_name (i := 10) sc_du.nd rfl (Or.inl rfl))
          (fun _ _ _ _ _ => pts_one (by exact pt_cmpR op_notN (pe_ix ix_tup (pv 10) pe_int (fun _ _ => rfl)) pe_non (nomark _))) (fun _ _ _ _ _ => by exact pv 10)) <| pss_one (by
        exact ps_ret (pe_ifExp (pt_cmpR (op_neD hr.units) (pv 8) (pe_lst pa_nil) (nomark _)) (pe_op op_catT (pe_op op_catT (pe_tup (pa_cons pe_str pa_nil)) (pe_ix ix_list (pv 8) pe_int (fun _ _ => rfl))) (pe_tup (pa_cons pe_int pa_nil))) pe_non)), ?_⟩
    have fb : ∀ (j : Nat) p, ps[j]? = some p → ∃ b xs, bs[j]? = some (.ref b) ∧ SqL K H b xs ∧ IsB K H p.ss xs ∧ p.ss.length ≤ 60 ∧ CallsFG p.ss := fun j p hp => by
      have hj := (List.getElem?_eq_some_iff.mp hp).1
      have hv : bs[j]? = some bs[j] := List.getElem?_eq_getElem (by omega)
      obtain ⟨b, xs, e, h1, h2, h3, h4⟩ := hB j p _ hp hv
      exact ⟨b, xs, by rw [hv, e], h1, h2, h3, h4⟩
    have ff : ∀ (j : Nat) p, ps[j]? = some p → ∃ f b1 b2 b4, fs[j]? = some (.ref f) ∧ SqL K H f [.bl p.bad, .bl b1, .bl b2, .bl (p.ss.any Sh.isC), .bl b4] := fun j p hp => by
      have hj := (List.getElem?_eq_some_iff.mp hp).1
      have hv : fs[j]? = some fs[j] := List.getElem?_eq_getElem (by omega)
      obtain ⟨f, b1, b2, b4, e, h1⟩ := hF j p _ hp hv
      exact ⟨f, b1, b2, b4, by rw [hv, e], h1⟩
    have at3 : ∀ j, j < 3 → ∃ p, ps[j]? = some p := fun j hj => ⟨_, List.getElem?_eq_getElem (by omega)⟩
    have leave : ∀ f, due ps = some f → ∀ p H1, H p = none → Ex H H1 → H1 p = some (.tup f.vs) → Q (.ref p) H1 := fun f hf p H1 n e h => kS f hf p H1 n e h
    refine q_asgL (el_lcR1 (n := 3) (hitAt ps (·.bad)) (fun i => .int (i : Nat)) (ea_cons ev_c ea_nil) ⟨by decide, by decide⟩ (fun _ => rfl) (fun i H1 e1 hi => ?_) fun i H1 e1 hi _ => ev_var rfl) fun p4 H1 hp4 e1 h4 => ?_
    · obtain ⟨p, hp⟩ := at3 i (by omega)
      obtain ⟨f, b1, b2, b4, hf, h⟩ := ff i p hp
      rw [hitAt_some hp]
      exact et_B (ev_ixL (i := 0) (ev_ixL (i := i) (ev_var rfl) (ev_var rfl) (ex_l e1 hfl) hf) ev_c (ex_l e1 h) rfl)
    rw [show (3 : Int).toNat = 3 from rfl, ints_of hp3] at h4
    have hh := filter_head (xs := ps) (q := fun p : Pr => p.bad)
    generalize (List.range ps.length).filter (hitAt ps fun p : Pr => p.bad) = L4 at h4 hh
    cases L4 with
    | cons j r =>
      have hd : due ps = some (.proc j) := by
        unfold due
        rw [← hh]
        rfl
      refine q_yes (et_is (et_neNil (p := p4) (ev_var rfl) (sq_of h4) (fun _ _ => dp_ints) (shaped_ints _)) rfl) fun H2 e2 => ?_
      exact s_retU (xs := Fault.vs (.proc j)) (eu_tup (ea_cons ev_c (ea_cons (ev_ixL (i := 0) (v := .int (j : Nat)) (ev_var rfl) ev_c (sq_of (e2 _ _ h4)) rfl) ea_nil)) (show (2 : Nat) ≤ 100000 by decide)) fun p H3 hp e3 h3 => leave _ hd p H3 (fresh_back (e1.trans e2) hp) ((e1.trans e2).trans e3) h3
    | nil =>
      have h0 : ps.findIdx? (fun p : Pr => p.bad) = none := by rw [← hh]; rfl
      refine q_no (et_is (et_neNil (p := p4) (ev_var rfl) (sq_of h4) (fun _ _ => dp_ints) (shaped_ints _)) rfl) fun H2 e2 => ?_
      have e02 := e1.trans e2
      refine q_asgL (el_lcR1 (n := 3) (hitAt ps fun p => decide (14 < p.ss.length)) (fun i => .int (i : Nat)) (ea_cons ev_c ea_nil) ⟨by decide, by decide⟩ (fun _ => rfl) (fun i H3 e3 hi => ?_) fun i H3 e3 hi _ => ev_var rfl) fun p5 H3 hp5 e3 h5 => ?_
      · obtain ⟨p, hp⟩ := at3 i (by omega)
        obtain ⟨b, xs, hb, h, hB1, _⟩ := fb i p hp
        rw [hitAt_some hp]
        refine et_test (ev_is (ev_op (ev_len (ev_ixL (i := i) (ev_var rfl) (ev_var rfl) (ex_l (e02.trans e3) hbd) hb) (ex_l (e02.trans e3) h)) ev_c (fun H4 e4 Q q => ⟨_, _, rfl, rfl, q H4 (Ex.refl _)⟩)) ?_)
        rw [hB1.len]
        exact congrArg V.bl (decide_eq_decide.mpr ⟨fun z => by omega, fun z => by omega⟩)
      rw [show (3 : Int).toNat = 3 from rfl, ints_of hp3] at h5
      have hh5 := filter_head (xs := ps) (q := fun p : Pr => decide (14 < p.ss.length))
      generalize (List.range ps.length).filter (hitAt ps fun p : Pr => decide (14 < p.ss.length)) = L5 at h5 hh5
      have e03 := e02.trans e3
      cases L5 with
      | cons j r =>
        have hd : due ps = some (.long j) := by
          unfold due
          rw [h0]
          show (match ps.findIdx? (fun p => decide (14 < p.ss.length)) with | some i => _ | none => _) = _
          rw [← hh5]
          rfl
        refine q_yes (et_is (et_neNil (p := p5) (ev_var rfl) (sq_of h5) (fun _ _ => dp_ints) (shaped_ints _)) rfl) fun H4 e4 => ?_
        exact s_retU (xs := Fault.vs (.long j)) (eu_tup (ea_cons ev_c (ea_cons (ev_ixL (i := 0) (v := .int (j : Nat)) (ev_var rfl) ev_c (sq_of (e4 _ _ h5)) rfl) ea_nil)) (show (2 : Nat) ≤ 100000 by decide)) fun p H5 hp e5 h6 => leave _ hd p H5 (fresh_back (e03.trans e4) hp) ((e03.trans e4).trans e5) h6
      | nil =>
        have h1 : ps.findIdx? (fun p => decide (14 < p.ss.length)) = none := by rw [← hh5]; rfl
        refine q_no (et_is (et_neNil (p := p5) (ev_var rfl) (sq_of h5) (fun _ _ => dp_ints) (shaped_ints _)) rfl) fun H4 e4 => ?_
        have e04 := e03.trans e4
        refine q_two (i := 6) (fun s => !s.good) hp3 (fun _ => rfl) (fun _ => rfl) (fun _ => rfl) (fun _ _ => rfl) (fun _ _ => rfl) (fun j p hp => ?_) fun r L v H5 e5 hL hall h6 => ?_
        · obtain ⟨b, xs, hb, h, hB1, hn, hc⟩ := fb j p hp
          exact ev_call (ea_cons (ev_ixL (i := j) (ev_var rfl) (ev_var rfl) (ex_l e04 hbd) hb) (ea_cons (ev_var rfl) ea_nil)) (RetV.call fun H6 e6 Q E kk => ⟨b, od, xs, p.ss, os, [.O0, .O1, .O2, .O3], fun s => !s.good, rfl, ex_l (e04.trans e6) h, hB1.ex (e04.trans e6), hn, hc, ex_l (e04.trans e6) hod, hos.ex (e04.trans e6), (fun w hw => by simp at hw), odd_any, kk⟩)
        have e05 := e04.trans e5
        have hD : ∀ H6, Ex H5 H6 → DpAll K H6 (L.map v) (L.map fun j => PyData.tuple [.int (j : Nat), optD ((ps[j]?).elim none fun p => p.ss.findIdx? fun s => !s.good)]) := fun H6 e6 => dp_map fun j hj => by
          obtain ⟨p, a, hp, hv, ha⟩ := hall j hj
          rw [hv, hp]
          exact .tup (st_of (e6 _ _ ha)) (.cons (.int _) (.cons (optV_dp _) .nil))
        cases L with
        | cons j l =>
          obtain ⟨p, a, hp, hv, ha⟩ := hall j List.mem_cons_self
          obtain ⟨m, hm, hfi⟩ := fi2_of hL hp
          have hd : due ps = some (.stm j m) := by
            unfold due
            rw [h0]
            show (match ps.findIdx? (fun p => decide (14 < p.ss.length)) with | some i => _ | none => _) = _
            rw [h1]
            show (match fi2 (fun s => !s.good) ps with | some (i, j) => _ | none => _) = _
            rw [hfi]
          rw [hm] at ha
          refine q_yes (et_is (et_neNil (p := r) (ev_var rfl) (sq_of h6) hD (row_shaped _ _)) rfl) fun H6 e6 => ?_
          exact s_retU (xs := Fault.vs (.stm j m)) (eu_cat (xs := [.str "statement"]) (ys := [.int (j : Nat), .int (m : Nat)]) (eu_tup (ea_cons ev_c ea_nil) (show (1 : Nat) ≤ 100000 by decide)) (ev_ixL (i := 0) (v := .ref a) (ev_var rfl) ev_c (sq_of (e6 _ _ h6)) (by rw [← hv]; rfl)) (st_of (e6 _ _ ha)) (by simp) (by simp) (show (1 + 2 : Nat) ≤ 1000 by decide)) fun p H7 hp e7 h7 => leave _ hd p H7 (fresh_back (e05.trans e6) hp) ((e05.trans e6).trans e7) h7
        | nil =>
          have h2 : fi2 (fun s => !s.good) ps = none := fi2_non hL
          refine q_no (et_is (et_neNil (p := r) (ev_var rfl) (sq_of h6) hD (row_shaped _ _)) rfl) fun H6 e6 => ?_
          have e06 := e05.trans e6
          have hlen : ps.length = 3 := hp3
          obtain ⟨q0, hq0⟩ := at3 0 (by decide)
          obtain ⟨q1, hq1⟩ := at3 1 (by decide)
          obtain ⟨q2, hq2⟩ := at3 2 (by decide)
          obtain ⟨f0, b01, b02, b04, hf0, g0⟩ := ff 0 q0 hq0
          obtain ⟨f1, b11, b12, b14, hf1, g1⟩ := ff 1 q1 hq1
          obtain ⟨f2, b21, b22, b24, hf2, g2⟩ := ff 2 q2 hq2
          have hst : stuck ps = [q0.ss.any Sh.isC && q1.ss.any Sh.isC, q1.ss.any Sh.isC, q2.ss.any Sh.isC] := by
            unfold stuck hasC
            rw [hq0, hq1, hq2]
          refine q_asgL (xs := [.bl (q0.ss.any Sh.isC && q1.ss.any Sh.isC), .bl (q1.ss.any Sh.isC), .bl (q2.ss.any Sh.isC)]) (el_lst (ea_cons (ev_andV (ev_ixL (i := 3) (ev_ixL (i := 0) (ev_var rfl) ev_c (ex_l e06 hfl) hf0) ev_c (ex_l e06 g0) rfl) fun _ => ev_ixL (i := 3) (ev_ixL (i := 1) (ev_var rfl) ev_c (ex_l e06 hfl) hf1) ev_c (ex_l e06 g1) rfl) (ea_cons (ev_ixL (i := 3) (ev_ixL (i := 1) (ev_var rfl) ev_c (ex_l e06 hfl) hf1) ev_c (ex_l e06 g1) rfl) (ea_cons (ev_ixL (i := 3) (ev_ixL (i := 2) (ev_var rfl) ev_c (ex_l e06 hfl) hf2) ev_c (ex_l e06 g2) rfl) ea_nil))) (show (3 : Nat) ≤ 100000 by decide)) fun p7 H7 hp7 e7 h7 => ?_
          have e07 := e06.trans e7
          cases h8 : (stuck ps).findIdx? id with
          | some j =>
            have hd : due ps = some (.ends j) := by
              unfold due
              rw [h0]
              show (match ps.findIdx? (fun p => decide (14 < p.ss.length)) with | some i => _ | none => _) = _
              rw [h1]
              show (match fi2 (fun s => !s.good) ps with | some (i, j) => _ | none => _) = _
              rw [h2]
              show (match (stuck ps).findIdx? id with | some i => _ | none => _) = _
              rw [h8]
            rw [hst] at h8
            obtain ⟨k1, k2⟩ := three_ix _ _ _ h8
            refine q_yes (et_test (ev_is (ev_op ev_c (ev_var rfl) (rv_isL (sq_of h7) rfl rfl)) (by rw [three_in, h8]; rfl))) fun H8 e8 => ?_
            exact s_retU (xs := Fault.vs (.ends j)) (eu_tup (ea_cons ev_c (ea_cons (fun H9 e9 Q q => ⟨.ref p7, rfl, .inl ⟨rfl, _, sq_of (e9 _ _ (e8 _ _ h7))⟩, p7, _, .bl true, j, .bl true, rfl, rfl, sq_of (e9 _ _ (e8 _ _ h7)), rfl, rfl, k1, rfl, fun m z hm hz => k2 m z hm hz, q H9 (Ex.refl _)⟩) ea_nil)) (show (2 : Nat) ≤ 100000 by decide)) fun p H9 hp e9 h9 => leave _ hd p H9 (fresh_back (e07.trans e8) hp) ((e07.trans e8).trans e9) h9
          | none =>
            refine q_no (et_test (ev_is (ev_op ev_c (ev_var rfl) (rv_isL (sq_of h7) rfl rfl)) (by rw [three_in, ← hst, h8]; rfl))) fun H8 e8 => ?_
            have e08 := e07.trans e8
            refine q_two (i := 8) Sh.isM hp3 (fun _ => rfl) (fun _ => rfl) (fun _ => rfl) (fun _ _ => rfl) (fun _ _ => rfl) (fun j p hp => ?_) fun r9 L9 v9 H9 e9 hL9 hall9 h9 => ?_
            · obtain ⟨b, xs, hb, h, hB1, hn, hc⟩ := fb j p hp
              intro H10 e10 Q q
              unfold tCall tCons
              refine ev_ixL (i := j) (v := .ref b) (ev_var rfl) (ev_var rfl) (ex_l e08 hbd) hb H10 e10 _ fun H11 e11 => ⟨_, rfl, show (1 : Nat) ≤ sizeLine by decide, fun c hc' => ?_⟩
              have en : Ex H (upd H11 c (.lst [mk])) := ((e08.trans e10).trans e11).trans (Ex.new hc')
              refine ⟨b, c, xs, p.ss, [mk], [.M], Sh.isM, rfl, ex_l en h, hB1.ex en, hn, hc, sq_of upd_same, ⟨mk, [], rfl, hmk.ex en, rfl⟩, (fun w hw => by simp at hw), mark_any, fun H12 e12 => q H12 ((e11.trans (Ex.new hc')).trans e12)⟩
            have e09 := e08.trans e9
            have hD : ∀ H6, Ex H9 H6 → DpAll K H6 (L9.map v9) (L9.map fun j => PyData.tuple [.int (j : Nat), optD ((ps[j]?).elim none fun p => p.ss.findIdx? Sh.isM)]) := fun H6 e6 => dp_map fun j hj => by
              obtain ⟨p, a, hp, hv, ha⟩ := hall9 j hj
              rw [hv, hp]
              exact .tup (st_of (e6 _ _ ha)) (.cons (.int _) (.cons (optV_dp _) .nil))
            have hrest : due ps = match fi2 Sh.isM ps with
                | some (i, j) => some (.mark i j)
                | none => none := by
              unfold due
              rw [h0]
              show (match ps.findIdx? (fun p => decide (14 < p.ss.length)) with | some i => _ | none => _) = _
              rw [h1]
              show (match fi2 (fun s => !s.good) ps with | some (i, j) => _ | none => _) = _
              rw [h2]
              show (match (stuck ps).findIdx? id with | some i => _ | none => _) = _
              rw [h8]
              all_goals rfl
            cases L9 with
            | cons j l =>
              obtain ⟨p, a, hp, hv, ha⟩ := hall9 j List.mem_cons_self
              obtain ⟨m, hm, hfi⟩ := fi2_of hL9 hp
              rw [hm] at ha
              have hd : due ps = some (.mark j m) := by
                rw [hrest, hfi]
              refine s_retU (xs := Fault.vs (.mark j m)) (eu_ifT (et_is (et_neNil (p := r9) (ev_var rfl) (sq_of h9) hD (row_shaped _ _)) rfl) (eu_catU (xs := [.str "mark", .int (j : Nat), .int (m : Nat)]) (ys := [.int 0]) (eu_cat (xs := [.str "mark"]) (ys := [.int (j : Nat), .int (m : Nat)]) (eu_tup (ea_cons ev_c ea_nil) (show (1 : Nat) ≤ 100000 by decide)) (ev_ixL (i := 0) (v := .ref a) (ev_var rfl) ev_c (sq_of h9) (by rw [← hv]; rfl)) (st_of ha) (by simp) (by simp) (show (1 + 2 : Nat) ≤ 1000 by decide)) (eu_tup (ea_cons ev_c ea_nil) (show (1 : Nat) ≤ 100000 by decide)) (by simp) (by simp) (show (3 + 1 : Nat) ≤ 1000 by decide))) fun p H10 hp e10 h10 => leave _ hd p H10 (fresh_back e09 hp) (e09.trans e10) h10
            | nil =>
              have hd : due ps = none := by
                rw [hrest, fi2_non hL9]
              exact s_ret (v := .non) (ev_if (b := false) (et_is (et_neNil (p := r9) (ev_var rfl) (sq_of h9) hD (row_shaped _ _)) rfl) (fun z => (nomatch z)) fun _ => ev_c) fun H10 e10 => kN hd H10 (e09.trans e10)
end
end Cp

namespace Cp
open PySem PySem.Spec PyProof.Rows L2 Evl GN GZ GF GH
/-! ### what stands while the law builds its procedures -/
theorem But.mutN {b p : Addr} {H H1 : Hp} {o : HO} (x : But b H H1) (n : H p = none) : But b H (upd H1 p o) := fun a o' ha h => by
  have hp : a ≠ p := fun z => by rw [z, n] at h; cases h
  rw [upd_ne hp]
  exact x a o' ha h
/-- all but lists stand -/
def Nl (H H' : Hp) : Prop := ∀ a o, (∀ xs, o ≠ HO.lst xs) → (∀ ps, o ≠ HO.tbl ps) → H a = some o → H' a = some o
theorem Nl.trans {H H1 H2 : Hp} (x : Nl H H1) (y : Nl H1 H2) : Nl H H2 := fun a o n m h => y a o n m (x a o n m h)
theorem Nl.ex {H H1 : Hp} (e : Ex H H1) : Nl H H1 := fun a o _ _ h => e a o h
theorem Nl.but {b : Addr} {xs : List V} {H H1 : Hp} (hb : H b = some (.lst xs)) (x : But b H H1) : Nl H H1 := fun a o n _ h => x a o (fun z => by rw [z, hb] at h; cases h; exact n _ rfl) h
theorem Nl.upd {p : Addr} {H : Hp} {o : HO} (hp : H p = none ∨ ∃ xs, H p = some (.lst xs)) : Nl H (upd H p o) := fun a o' n _ h => by
  have ha : a ≠ p := fun z => by
    rw [z] at h
    rcases hp with hp | ⟨xs, hp⟩
    · rw [hp] at h; cases h
    · rw [hp] at h; cases h; exact n _ rfl
  rw [upd_ne ha]
  exact h
theorem Nl.t {K : PySem.W.Frag} {H H' : Hp} {a : Addr} {xs : List V} (e : Nl H H') (h : SqT K H a xs) : SqT K H' a xs := by
  rcases h with (h | ⟨o, h⟩) | h
  · exact .inl (.inl (e _ _ (fun _ q => by cases q) (fun _ q => by cases q) h))
  · exact .inl (.inr ⟨o, e _ _ (fun _ q => by cases q) (fun _ q => by cases q) h⟩)
  · exact .inr h
theorem IsS.nl {K : PySem.W.Frag} {H H' : Hp} (e : Nl H H') : ∀ {s : Sh} {v : V}, IsS K H s v → IsS K H' s v
  | .P, _, ⟨t, q, a, b, c⟩ => ⟨t, q, a, e.t b, e.t c⟩
  | .M, _, ⟨t, p, q, a, b, c, d⟩ => ⟨t, p, q, a, e.t b, e.t c, e.t d⟩
  | .C _, _, ⟨t, p, q, r, u, a, b, c, d, f, g⟩ => ⟨t, p, q, r, u, a, e.t b, e.t c, e.t d, e.t f, e.t g⟩
  | .O0, _, ⟨t, q, a, b, c⟩ => ⟨t, q, a, e.t b, e.t c⟩
  | .O1, _, ⟨t, a, b⟩ => ⟨t, a, e.t b⟩
  | .O2, _, ⟨t, q, a, b, c⟩ => ⟨t, q, a, e.t b, e.t c⟩
  | .O3, _, ⟨t, q, a, b, c⟩ => ⟨t, q, a, e.t b, e.t c⟩
theorem IsB.nl {K : PySem.W.Frag} {H H' : Hp} (e : Nl H H') : ∀ {ss : List Sh} {xs : List V}, IsB K H ss xs → IsB K H' ss xs
  | [], _, h => h
  | _ :: _, _, ⟨v, vs, a, b, c⟩ => ⟨v, vs, a, b.nl e, IsB.nl e c⟩
theorem HeadOk.nl {K : PySem.W.Frag} {H H' : Hp} {m : Bool} {tk hs : Addr} {gv : V} (e : Nl H H') : HeadOk K H m tk hs gv → HeadOk K H' m tk hs gv
  | ⟨p1, p2, a, b, c, d, f⟩ => ⟨p1, p2, e.t a, e.t b, e.t c, e.t d, f⟩
theorem BagOk.ex {K : PySem.W.Frag} {H H' : Hp} {b l : Addr} (e : Ex H H') : BagOk K H b l → BagOk K H' b l
  | ⟨ns, i, big, seed, cnt, hb, hl, ne⟩ => ⟨ns, i, big, seed, cnt, e _ _ hb, e _ _ hl, ne⟩
theorem BagOk.lst {K : PySem.W.Frag} {H : Hp} {b l : Addr} : BagOk K H b l → ∃ xs, H b = some (.lst xs) ∧ xs.length = 5
  | ⟨_, _, _, _, _, hb, _, _⟩ => ⟨_, hb, rfl⟩
theorem BagOk.has {K : PySem.W.Frag} {H : Hp} {b l : Addr} : BagOk K H b l → H b ≠ none ∧ H l ≠ none
  | ⟨_, _, _, _, _, hb, hl, _⟩ => ⟨fun z => (by rw [hb] at z; cases z), fun z => (by rw [hl] at z; cases z)⟩
/-- another list written, one that is new -/
theorem BagOk.upd {K : PySem.W.Frag} {H0 H : Hp} {b l p : Addr} {o : HO} (h0 : BagOk K H0 b l) (n : H0 p = none) : BagOk K H b l → BagOk K (upd H p o) b l
  | ⟨ns, i, big, seed, cnt, hb, hl, ne⟩ => by
    have nb : b ≠ p := fun z => h0.has.1 (by rw [z]; exact n)
    have nl : l ≠ p := fun z => h0.has.2 (by rw [z]; exact n)
    exact ⟨ns, i, big, seed, cnt, by rw [upd_ne nb]; exact hb, by rw [upd_ne nl]; exact hl, ne⟩
/-- what all turns share -/
structure Wd (K : PySem.W.Frag) (CK : Addr) (H : Hp) (b l lf wl pt mk ol : Addr) : Prop where
  bag : BagOk K H b l
  kd : KindsOk H CK lf
  wd : H wl = some (.lst [.str "main", .str "f", .str "g"])
  pu : IsS K H .P (.ref pt)
  ma : IsS K H .M (.ref mk)
  od : ∃ os, H ol = some (.lst os) ∧ IsB K H [.O0, .O1, .O2, .O3] os
theorem Wd.but {K : PySem.W.Frag} {CK : Addr} {H H' : Hp} {b l lf wl pt mk ol : Addr} (x : Wd K CK H b l lf wl pt mk ol) (y : But b H H') (z : BagOk K H' b l) : Wd K CK H' b l lf wl pt mk ol := by
  obtain ⟨xs, hb, hx5⟩ := x.bag.lst
  have nl := Nl.but hb y
  obtain ⟨dx, a, c, q, p, h1, h2, h3, h4⟩ := x.kd
  obtain ⟨os, hos, hO⟩ := x.od
  have nq : q ≠ b := fun z => by rw [z, hb] at h3; cases h3; simp at hx5
  have nw : wl ≠ b := fun z => by have := x.wd; rw [z, hb] at this; cases this; simp at hx5
  have no : ol ≠ b := fun z => by
    rw [z, hb] at hos
    cases hos
    have := hO.len
    simp at this
    omega
  exact ⟨z, ⟨dx, a, c, q, p, nl _ _ (fun _ q => by cases q) (fun _ q => by cases q) h1, nl _ _ (fun _ q => by cases q) (fun _ q => by cases q) h2, y _ _ nq h3, nl _ _ (fun _ q => by cases q) (fun _ q => by cases q) h4⟩, y _ _ nw x.wd, x.pu.nl nl, x.ma.nl nl, os, y _ _ no hos, hO.nl nl⟩
theorem Wd.extN {K : PySem.W.Frag} {CK : Addr} {H H' : Hp} {b l lf wl pt mk ol : Addr} (x : Wd K CK H b l lf wl pt mk ol) (e : LamX.ExtN H H') : Wd K CK H' b l lf wl pt mk ol := by
  have nl : Nl H H' := fun a o _ m h => e a o h m
  obtain ⟨ns, i, big, seed, cnt, hb, hl, ne⟩ := x.bag
  obtain ⟨dx, a, c, q, p, h1, h2, h3, h4⟩ := x.kd
  obtain ⟨os, hos, hO⟩ := x.od
  exact ⟨⟨ns, i, big, seed, cnt, e _ _ hb (fun _ q => by cases q), e _ _ hl (fun _ q => by cases q), ne⟩, ⟨dx, a, c, q, p, e _ _ h1 (fun _ q => by cases q), e _ _ h2 (fun _ q => by cases q), e _ _ h3 (fun _ q => by cases q), e _ _ h4 (fun _ q => by cases q)⟩, e _ _ x.wd (fun _ q => by cases q), x.pu.nl nl, x.ma.nl nl, os, e _ _ hos (fun _ q => by cases q), hO.nl nl⟩
theorem Wd.olb {K : PySem.W.Frag} {CK : Addr} {H : Hp} {b l lf wl pt mk ol : Addr} (x : Wd K CK H b l lf wl pt mk ol) : ol ≠ b := fun z => by
  obtain ⟨xs, hb, hx5⟩ := x.bag.lst
  obtain ⟨os, hos, hO⟩ := x.od
  rw [z, hb] at hos
  cases hos
  have := hO.len
  simp at this
  omega
/-- one procedure under way: f its flags, bd its body; H0 is the heap before it -/
structure Bs (K : PySem.W.Frag) (H0 : Hp) (b l f : Addr) (fs : List Bool) (H : Hp) (bd : Addr) (ss : List Sh) : Prop where
  b0 : BagOk K H0 b l
  bt : But b H0 H
  bag : BagOk K H b l
  fl : H f = some (.lst (fs.map V.bl))
  fn : H0 f = none
  bn : H0 bd = none
  ne : f ≠ bd
  bd : ∃ xs, H bd = some (.lst xs) ∧ IsB K H ss xs
theorem Bs.ex {K : PySem.W.Frag} {H0 H H' : Hp} {b l f bd : Addr} {fs : List Bool} {ss : List Sh} (x : Bs K H0 b l f fs H bd ss) (e : Ex H H') : Bs K H0 b l f fs H' bd ss :=
  ⟨x.b0, x.bt.ex e, x.bag.ex e, e _ _ x.fl, x.fn, x.bn, x.ne, let ⟨xs, a, c⟩ := x.bd; ⟨xs, e _ _ a, c.ex e⟩⟩
/-- the bag alone is touched -/
theorem Bs.but {K : PySem.W.Frag} {H0 H H' : Hp} {b l f bd : Addr} {fs : List Bool} {ss : List Sh} (x : Bs K H0 b l f fs H bd ss) (y : But b H H') (z : BagOk K H' b l) : Bs K H0 b l f fs H' bd ss := by
  obtain ⟨xs, hb, hx5⟩ := x.bag.lst
  obtain ⟨xs, a, c⟩ := x.bd
  exact ⟨x.b0, x.bt.trans y, z, y _ _ (fun z => x.b0.has.1 (by rw [← z]; exact x.fn)) x.fl, x.fn, x.bn, x.ne, xs, y _ _ (fun z => x.b0.has.1 (by rw [← z]; exact x.bn)) a, c.nl (Nl.but hb y)⟩
/-- a new body -/
theorem Bs.new {K : PySem.W.Frag} {H0 H : Hp} {b l f bd : Addr} {fs : List Bool} {ss ss' : List Sh} {p : Addr} {ys : List V} (x : Bs K H0 b l f fs H bd ss) (hp : H p = some (.lst ys)) (hn : H0 p = none) (hf : f ≠ p) (hy : IsB K H ss' ys) : Bs K H0 b l f fs H p ss' :=
  ⟨x.b0, x.bt, x.bag, x.fl, x.fn, hn, hf, ys, hp, hy⟩
/-- the body is changed -/
theorem Bs.mut {K : PySem.W.Frag} {H0 H : Hp} {b l f bd : Addr} {fs : List Bool} {ss ss' : List Sh} {ys : List V} (x : Bs K H0 b l f fs H bd ss) (hy : IsB K H ss' ys) : Bs K H0 b l f fs (upd H bd (.lst ys)) bd ss' := by
  obtain ⟨xs, a, c⟩ := x.bd
  exact ⟨x.b0, x.bt.mutN x.bn, BagOk.upd x.b0 x.bn x.bag, by rw [upd_ne x.ne]; exact x.fl, x.fn, x.bn, x.ne, ys, upd_same, hy.nl (Nl.upd (.inr ⟨xs, a⟩))⟩
theorem Bs.back {K : PySem.W.Frag} {H0 H : Hp} {b l f bd : Addr} {fs : List Bool} {ss : List Sh} {p : Addr} (x : Bs K H0 b l f fs H bd ss) (hp : H p = none) : H0 p = none ∧ f ≠ p := by
  refine ⟨?_, fun z => by have := x.fl; rw [z, hp] at this; cases this⟩
  by_cases z : p = b
  · rw [z] at hp
    exact absurd hp x.bag.has.1
  · cases h : H0 p with
    | none => rfl
    | some o =>
      have := x.bt _ _ z h
      rw [hp] at this
      cases this
/-! ### the flags, the first puts -/
section
variable {K : PySem.W.Frag} {σ : L2.St} {H : Hp}
theorem rep_flat (n : Nat) (v : V) : (List.replicate n [v]).flatten = List.replicate n v := by
  induction n with
  | zero => rfl
  | succ n ih => rw [List.replicate_succ, List.flatten_cons, ih]; rfl
theorem isB_rep {v : V} (h : IsS K H .P v) : ∀ n : Nat, IsB K H (List.replicate n .P) (List.replicate n v)
  | 0 => rfl
  | n + 1 => ⟨v, _, rfl, h, isB_rep h n⟩
theorem isB_app : ∀ {ss rr : List Sh} {xs ys : List V}, IsB K H ss xs → IsB K H rr ys → IsB K H (ss ++ rr) (xs ++ ys)
  | [], _, _, _, a, b => by rw [show _ = [] from a]; exact b
  | _ :: _, _, _, _, ⟨v, vs, a, b, c⟩, d => ⟨v, vs ++ _, by rw [a]; rfl, b, isB_app c d⟩
theorem isB_take : ∀ {ss : List Sh} {xs : List V} (n : Nat), IsB K H ss xs → IsB K H (ss.take n) (xs.take n) ∧ IsB K H (ss.drop n) (xs.drop n)
  | [], xs, n, h => by rw [show xs = [] from h]; cases n <;> exact ⟨rfl, rfl⟩
  | _ :: _, _, 0, h => ⟨rfl, h⟩
  | _ :: _, _, n + 1, ⟨v, vs, a, b, c⟩ => by
    rw [a]
    have := isB_take n c
    exact ⟨⟨v, vs.take n, rfl, b, this.1⟩, this.2⟩
theorem q_flags {D : Ends} {tz : TS} {b l pt : Addr} (hB : BagOk K H b l) (hP : IsS K H .P (.ref pt)) (h1 : σ[1]? = some (some (.ref b))) (h4 : σ[4]? = some (some (.ref pt))) (w14 : ∀ x, wipe ((wipe σ [14]).set 14 (some x)) [14] = wipe σ [14]) (g1 : ∀ x, ((wipe σ [14]).set 14 (some x))[1]? = some (some (.ref b)))
    (k : ∀ f bd H' (f0 f1 f2 f3 f4 : Bool) (n : Nat), Bs K H b l f [f0, f1, f2, f3, f4] H' bd (List.replicate n .P) → n ≤ 2 → tz D ((σ.set 12 (some (.ref f))).set 13 (some (.ref bd))) H') :
    tSeq (tPar 12 13 (tCons (tLc (iRng1 (tCons (tC (.int 5)) tNil)) (gName 14) tYes (tOp rEq (tCall (spTake K) [] E0 (tCons (tVar 1) (tCons (tC (.int 6)) tNil))) (tC (.int 0))) [14]) (tCons (tOp rRep (tLst (tCons (tVar 4) tNil)) (tCall (spTake K) [] E0 (tCons (tVar 1) (tCons (tC (.int 3)) tNil)))) tNil))) tz D σ H := by
  obtain ⟨xs0, hb0, _⟩ := hB.lst
  unfold tSeq tPar tCons tLc iRng1
  refine ⟨5, rfl, by decide, by decide, fun f hf => lc_range (lo := 0) (n := 5) (fun i H' => ∃ bs : List Bool, bs.length = i ∧ H' f = some (.lst (bs.map V.bl)) ∧ But b H H' ∧ BagOk K H' b l) ⟨[], rfl, upd_same, But.refl.mutN hf, hB.ex (Ex.new hf)⟩ ?_ ?_⟩
  · rintro i H' hi ⟨bs, hl, hbs, bt, bg⟩
    refine ⟨w14 _, ?_⟩
    show tOp rEq (tCall (spTake K) [] E0 (tCons (tVar 1) (tCons (tC (.int 6)) tNil))) (tC (.int 0)) _ H' _
    have hfb : f ≠ b := fun z => by rw [z, hb0] at hf; cases hf
    exact ⟨_, g1 _, b, l, 6, rfl, by decide, by decide, bg, fun r H3 r0 r1 bt3 bg3 => ⟨rfl, bs.map V.bl, bt3 _ _ hfb hbs, sz_lt (by rw [List.length_map]; omega), bs ++ [decide (V.int r = V.int 0)], by rw [List.length_append, hl]; rfl, by rw [upd_same, List.map_append]; rfl, (bt.trans bt3).mutN hf, BagOk.upd hB hf bg3⟩⟩
  · rintro H' ⟨bs, hl, hbs, bt, bg⟩
    obtain ⟨f0, f1, f2, f3, f4, rfl⟩ : ∃ f0 f1 f2 f3 f4, bs = [f0, f1, f2, f3, f4] := by
      match bs, hl with
      | [f0, f1, f2, f3, f4], _ => exact ⟨f0, f1, f2, f3, f4, rfl⟩
    have hfb : f ≠ b := fun z => by rw [z, hb0] at hf; cases hf
    refine ⟨.ref pt, h4, sz_of (n := 1) (by decide), fun q hq => ⟨.ref b, h1, b, l, 3, rfl, by decide, by decide, bg.ex (Ex.new hq), fun r H3 r0 r1 bt3 bg3 => ?_⟩⟩
    have bx : But b H (upd H' q (.lst [.ref pt])) := bt.ex (Ex.new hq)
    obtain ⟨xs1, hb1, _⟩ := (bg.ex (Ex.new (o := .lst [.ref pt]) hq)).lst
    have hqb : q ≠ b := fun z => by rw [z] at hq; exact bg.has.1 hq
    have hqf : f ≠ q := fun z => by rw [z, hq] at hbs; cases hbs
    refine ⟨q, r, [.ref pt], rfl, rfl, bt3 _ _ hqb upd_same, by omega, by omega, sz_of (by simp; omega), fun p hp => ⟨_, _, rfl, ?_⟩⟩
    have b3 := bx.trans bt3
    have e4 : Ex H3 (upd H3 p (.lst (List.replicate r.toNat [V.ref pt]).flatten)) := Ex.new hp
    have hpb : p ≠ b := fun z => by rw [z] at hp; exact bg3.has.1 hp
    have hf3 : H3 f = some (.lst ([f0, f1, f2, f3, f4].map V.bl)) := bt3 _ _ hfb (by rw [upd_ne hqf]; exact hbs)
    have hH : H p = none := by
      cases h : H p with
      | none => rfl
      | some o =>
        have := b3 _ _ hpb h
        rw [hp] at this
        cases this
    refine k f p _ f0 f1 f2 f3 f4 r.toNat ⟨hB, b3.ex e4, bg3.ex e4, e4 _ _ hf3, hf, hH, fun z => (by rw [z, hp] at hf3; cases hf3), _, upd_same, ?_⟩ (by omega)
    have z := isB_rep ((hP.nl (Nl.but hb0 b3)).ex e4) r.toNat
    rwa [← rep_flat r.toNat (V.ref pt)] at z
/-! ### if flag: body = body + [..] -/
/-- a new list, a body -/
def EvBd (K : PySem.W.Frag) (te : TE) (σ : L2.St) (H : Hp) (ss : List Sh) : Prop := ∀ H1, Ex H H1 → ∀ Q : VK, (∀ p ys H2, Ex H1 H2 → H2 p = some (.lst ys) → IsB K H2 ss ys → Q (.ref p) H2) → te σ H1 Q
theorem s_addB {D : Ends} {te : TE} {H0 : Hp} {b l f bd : Addr} {fs : List Bool} {ss s1 : List Sh} (B : Bs K H0 b l f fs H bd ss) (h13 : σ[13]? = some (some (.ref bd))) (h : EvBd K te σ H s1) (hl : ss.length + s1.length ≤ 1000) (k : ∀ bd' H1, Bs K H0 b l f fs H1 bd' (ss ++ s1) → D.nx (σ.set 13 (some (.ref bd'))) H1) :
    tAsg (tOp rCat (tVar 13) te) (gName 13) D σ H := by
  obtain ⟨xs, hxs, hX⟩ := B.bd
  refine ⟨_, h13, h H (Ex.refl H) _ fun p ys H2 e2 hp hy => ⟨bd, p, xs, ys, rfl, rfl, e2 _ _ hxs, hp, sz_of (by rw [hX.len, hy.len]; omega), fun q hq => ?_⟩⟩
  have B2 := B.ex e2
  obtain ⟨n1, n2⟩ := B2.back hq
  exact k q _ ((B2.ex (Ex.new hq)).new upd_same n1 n2 (isB_app ((hX.ex e2).ex (Ex.new hq)) (hy.ex (Ex.new hq))))
theorem q_addB {D : Ends} {tz : TS} {te : TE} {i : Int} {c : Bool} {H0 : Hp} {b l f bd : Addr} {fs : List Bool} {ss s1 : List Sh} (B : Bs K H0 b l f fs H bd ss) (h12 : σ[12]? = some (some (.ref f))) (h13 : σ[13]? = some (some (.ref bd))) (hs : σ.set 13 (some (.ref bd)) = σ) (hi : atI (fs.map V.bl) i = some (.bl c))
    (h : ∀ H1, Ex H H1 → EvBd K te σ H1 s1) (hl : ss.length + s1.length ≤ 1000) (k : ∀ bd' H1, Bs K H0 b l f fs H1 bd' (ss ++ if c then s1 else []) → tz D (σ.set 13 (some (.ref bd'))) H1) :
    tSeq (tIfS (tB (tOp (rIxL K) (tVar 12) (tC (.int i)))) (tAsg (tOp rCat (tVar 13) te) (gName 13)) tNext) tz D σ H := by
  refine s_if (D := { D with nx := tz D }) (b := c) (et_B (fun H1 e1 Q q => ⟨_, h12, f, _, i, .bl c, rfl, rfl, sq_of (e1 _ _ B.fl), hi, q H1 (Ex.refl _)⟩)) (fun hc H1 e1 => ?_) fun hc H1 e1 => ?_
  · subst hc
    exact s_addB (B.ex e1) h13 (h H1 e1) hl fun bd' H2 B2 => k bd' H2 B2
  · subst hc
    have := k bd H1 (by rw [if_neg (by decide), List.append_nil]; exact B.ex e1)
    rw [hs] at this
    exact this
/-! ### the tail: body + [put] * (15 if flag else 0) -/
theorem q_tail {D : Ends} {tz : TS} {c : Bool} {H0 : Hp} {b l f bd pt : Addr} {fs : List Bool} {ss : List Sh} (B : Bs K H0 b l f fs H bd ss) (hP : IsS K H .P (.ref pt)) (h4 : σ[4]? = some (some (.ref pt))) (h12 : σ[12]? = some (some (.ref f))) (h13 : σ[13]? = some (some (.ref bd))) (hi : atI (fs.map V.bl) 1 = some (.bl c)) (hl : ss.length ≤ 100)
    (k : ∀ bd' H1, Bs K H0 b l f fs H1 bd' (ss ++ List.replicate (if c then 15 else 0) .P) → tz D (σ.set 13 (some (.ref bd'))) H1) :
    tSeq (tAsg (tOp rCat (tVar 13) (tOp rRep (tLst (tCons (tVar 4) tNil)) (tIf (tB (tOp (rIxL K) (tVar 12) (tC (.int 1)))) (tC (.int 15)) (tC (.int 0))))) (gName 13)) tz D σ H := by
  refine s_addB (D := { D with nx := tz D }) B h13 (fun H1 e1 Q q => ?_) (by rw [List.length_replicate]; split <;> omega) fun bd' H2 B2 => k bd' H2 B2
  refine ⟨_, h4, sz_of (n := 1) (by decide), fun p hp => ?_⟩
  have e2 : Ex H1 (upd H1 p (.lst [.ref pt])) := Ex.new hp
  refine ev_if (σ := σ) (H := upd H1 p (.lst [.ref pt])) (b := c) (v := .int ((if c then 15 else 0 : Nat) : Int)) (et_B (fun H3 e3 Q q => ⟨_, h12, f, _, 1, .bl c, rfl, rfl, sq_of (e3 _ _ (e2 _ _ (e1 _ _ B.fl))), hi, q H3 (Ex.refl _)⟩)) (fun hc => by subst hc; exact ev_c) (fun hc => by subst hc; exact ev_c) _ (Ex.refl _) _ fun H3 e3 => ?_
  refine ⟨p, _, [.ref pt], rfl, rfl, e3 _ _ upd_same, by split <;> omega, by split <;> omega, sz_of (by rw [Int.toNat_natCast]; simp; split <;> omega), fun r hr => ?_⟩
  have e4 : Ex H1 (upd H3 r (.lst (List.replicate ((if c then 15 else 0 : Nat) : Int).toNat [V.ref pt]).flatten)) := (e2.trans e3).trans (Ex.new hr)
  refine q r _ _ e4 upd_same ?_
  have z := isB_rep ((hP.ex e1).ex e4) ((if c then 15 else 0 : Nat) : Int).toNat
  rw [← rep_flat _ (V.ref pt)] at z
  exact z
end
end Cp

namespace Cp
open PySem PySem.Spec PyProof.Rows L2 Evl GN GZ GF GH
/-! ### the odd ones, put in -/
abbrev rIns : V → List V → Hp → VK → Prop := fun x vs H Q => ∃ (l : Addr) (xs : List V) (i : Int) (y : V), x = .ref l ∧ vs = [.int i, y] ∧ H l = some (.lst xs) ∧ xs.length < sizeLine ∧ 0 ≤ i ∧ i < 2 ^ 63 ∧ Q .non (upd H l (.lst (xs.take i.toNat ++ [y] ++ xs.drop i.toNat)))
abbrev rLenQ (K : PySem.W.Frag) : List V → Hp → VK → Prop := fun xs H Q => ∃ p ys, xs = [.ref p] ∧ (SqL K H p ys ∨ SqT K H p ys) ∧ Q (.int ys.length) H
/-- ss' is ss with odd ones put in -/
structure InsR (ss ss' : List Sh) : Prop where
  calls : ∀ w, Sh.C w ∈ ss' → Sh.C w ∈ ss
  any : ss'.any Sh.isC = ss.any Sh.isC
theorem odds_at {j : Nat} {o : Sh} (h : [Sh.O0, .O1, .O2, .O3][j]? = some o) : o.good = false ∧ o.isC = false ∧ ∀ w, o ≠ .C w := by
  match j, h with
  | 0, h => cases h; exact ⟨rfl, rfl, fun w z => by cases z⟩
  | 1, h => cases h; exact ⟨rfl, rfl, fun w z => by cases z⟩
  | 2, h => cases h; exact ⟨rfl, rfl, fun w z => by cases z⟩
  | 3, h => cases h; exact ⟨rfl, rfl, fun w z => by cases z⟩
theorem InsR.put {ss ss' : List Sh} {o : Sh} (n : Nat) (h : InsR ss ss') (hc : o.isC = false) (hw : ∀ w, o ≠ .C w) : InsR ss (ss'.take n ++ [o] ++ ss'.drop n) := by
  refine ⟨fun w hm => h.calls w ?_, ?_⟩
  · rw [List.mem_append, List.mem_append] at hm
    rcases hm with (hm | hm) | hm
    · exact List.mem_of_mem_take hm
    · exact absurd (List.mem_singleton.mp hm).symm (hw w)
    · exact List.mem_of_mem_drop hm
  · rw [← h.any, List.any_append, List.any_append, List.any_cons, hc, List.any_nil, Bool.false_or, Bool.or_false]
    rw [← List.any_append, List.take_append_drop]
theorem bad_put {ss : List Sh} {o : Sh} (n : Nat) (hg : o.good = false) : (ss.take n ++ [o] ++ ss.drop n).all Sh.good = false := by
  rw [List.all_append, List.all_append, List.all_cons, hg, Bool.false_and, Bool.and_false, Bool.false_and]
section
variable {K : PySem.W.Frag} {H : Hp}
theorem q_ins {D : Ends} {tz : TS} {c : Bool} {CK : Addr} {H0 : Hp} {b l f bd lf wl pt mk ol : Addr} {fs : List Bool} {ss : List Sh} (g : Option V → L2.St) (p0 : Option V) (W : Wd K CK H0 b l lf wl pt mk ol) (B : Bs K H0 b l f fs H bd ss) (h1 : ∀ p, (g p)[1]? = some (some (.ref b))) (h6 : ∀ p, (g p)[6]? = some (some (.ref ol)))
    (h12 : ∀ p, (g p)[12]? = some (some (.ref f))) (h13 : ∀ p, (g p)[13]? = some (some (.ref bd))) (hg : ∀ p q, (g p).set 14 q = g q) (hi : atI (fs.map V.bl) 2 = some (.bl c)) (hl : ss.length ≤ 100)
    (k : ∀ p H' ss', Bs K H0 b l f fs H' bd ss' → InsR ss ss' → ss'.length ≤ ss.length + 2 → (c = false → ss' = ss) → (c = true → ss'.all Sh.good = false) → tz D (g p) H') :
    tSeq (tFor (iRng1 (tCons (tIf (tB (tOp (rIxL K) (tVar 12) (tC (.int 2)))) (tOp (rI0 fun i j => .int (i + j)) (tC (.int 1)) (tCall (spTake K) [] E0 (tCons (tVar 1) (tCons (tC (.int 2)) tNil)))) (tC (.int 0))) tNil)) (gName 14)
      (tDrop (tBM K "list" rIns (tVar 13) (tCons (tCall (spTake K) [] E0 (tCons (tVar 1) (tCons (tOp (rI0 fun i j => .int (i + j)) (tCB (rLenQ K) (tCons (tVar 13) tNil)) (tC (.int 1))) tNil))) (tCons (tCall (spPick K) [] E0 (tCons (tVar 1) (tCons (tVar 6) tNil))) tNil))))) tz D (g p0) H := by
  have main : ∀ (m : Nat) H1, m ≤ 2 → (c = true ↔ 0 < m) → Bs K H0 b l f fs H1 bd ss → ∀ Q : Nat → Prop, Q m → ∃ W : Nat → Nat → L2.St → Hp → Prop, (∃ m, W 0 m (g p0) H1) ∧ ∀ i m' σ H, W i m' σ H →
      ((Itr 0 m).stop i H ∧ tz D σ H) ∨ ((Itr 0 m).go i H ∧ ∃ N : L2.St → Hp → Prop, (∀ σ' H', N σ' H' → ∃ m'', m'' < m' ∧ W (i + 1) m'' σ' H') ∧ ∀ x H', (Itr 0 m).yld i H x H' → gName 14 x σ H' fun σ2 H2 => tDrop (tBM K "list" rIns (tVar 13) (tCons (tCall (spTake K) [] E0 (tCons (tVar 1) (tCons (tOp (rI0 fun i j => .int (i + j)) (tCB (rLenQ K) (tCons (tVar 13) tNil)) (tC (.int 1))) tNil))) (tCons (tCall (spPick K) [] E0 (tCons (tVar 1) (tCons (tVar 6) tNil))) tNil))) { D with nx := N, ct := N, bk := tz D } σ2 H2) := by
    intro m H1 hm hcm B1 _ _
    refine for_range (D := { D with nx := tz D }) (lo := 0) (n := m) (fun i σ' H' => ∃ p ss', σ' = g p ∧ Bs K H0 b l f fs H' bd ss' ∧ InsR ss ss' ∧ ss'.length = ss.length + i ∧ (i = 0 → ss' = ss) ∧ (0 < i → ss'.all Sh.good = false)) ⟨p0, ss, rfl, B1, ⟨fun _ h => h, rfl⟩, rfl, fun _ => rfl, fun h => absurd h (by decide)⟩ ?_ ?_
    · rintro i σ' H' hi' ⟨p, ss', rfl, B2, R, hlen, _, _⟩
      show tDrop _ _ ((g p).set 14 _) H'
      rw [hg]
      generalize (some (V.int (0 + (i : Int)))) = p2
      obtain ⟨xs, hxs, hX⟩ := B2.bd
      have hxl := hX.len
      unfold tDrop tBM tCons
      refine ⟨_, h13 _, .inl ⟨rfl, xs, sq_of hxs⟩, _, h1 _, _, h13 _, bd, xs, rfl, .inl (sq_of hxs), _, _, rfl, rfl, ?_⟩
      refine ⟨b, l, (xs.length : Int) + 1, rfl, by omega, by omega, B2.bag, fun r H3 r0 r1 bt3 bg3 => ?_⟩
      have B3 := B2.but bt3 bg3
      have W3 := W.but B3.bt B3.bag
      obtain ⟨os, hos, hO⟩ := W3.od
      have hol := hO.len
      refine ⟨_, h1 _, _, h6 _, b, ol, os, l, rfl, sq_of hos, W3.olb, by rw [hol]; decide, by rw [hol]; decide, bg3, fun j x H4 hx bt4 bg4 => ?_⟩
      have B4 := B3.but bt4 bg4
      have W4 := W.but B4.bt B4.bag
      obtain ⟨xs0, hb0, _⟩ := B3.bag.lst
      obtain ⟨o, ho, hso⟩ := hO.at hx
      obtain ⟨og, oc, ow⟩ := odds_at ho
      have hbb : bd ≠ b := fun z => B2.b0.has.1 (by rw [← z]; exact B2.bn)
      have hx4 : H4 bd = some (.lst xs) := bt4 _ _ hbb (bt3 _ _ hbb hxs)
      obtain ⟨xs4, hxs4, hX4⟩ := B4.bd
      rw [hx4] at hxs4
      cases hxs4
      refine ⟨bd, xs, r, x, rfl, rfl, hx4, sz_lt (by rw [hxl]; omega), r0, by omega, _, ss'.take r.toNat ++ [o] ++ ss'.drop r.toNat, rfl, ?_, R.put _ oc ow, ?_, fun h => absurd h (by omega), fun _ => bad_put _ og⟩
      · exact B4.mut (isB_app (isB_app (isB_take _ hX4).1 ⟨x, [], rfl, hso.nl (Nl.but hb0 bt4), rfl⟩) (isB_take _ hX4).2)
      · rw [List.length_append, List.length_append, List.length_take, List.length_drop, List.length_singleton]
        omega
    · rintro σ' H' ⟨p, ss', rfl, B2, R, hlen, h0, hb⟩
      refine k p H' ss' B2 R (by omega) (fun hc => h0 ?_) fun hc => hb (hcm.mp hc)
      by_cases z : 0 < m
      · rw [hcm.mpr z] at hc
        cases hc
      · omega
  cases c with
  | true =>
    unfold tSeq tFor iRng1 tCons tIf
    refine ⟨_, h12 _, f, _, 2, .bl true, rfl, rfl, sq_of B.fl, hi, true, rfl, ?_⟩
    refine ⟨_, h1 _, b, l, 2, rfl, by decide, by decide, B.bag, fun r H3 r0 r1 bt3 bg3 => ⟨1, r, rfl, rfl, 1 + r, rfl, by omega, by omega, ?_⟩⟩
    exact main (1 + r).toNat H3 (by omega) ⟨fun _ => by omega, fun _ => rfl⟩ (B.but bt3 bg3) (fun _ => True) trivial
  | false =>
    unfold tSeq tFor iRng1 tCons tIf
    refine ⟨_, h12 _, f, _, 2, .bl false, rfl, rfl, sq_of B.fl, hi, false, rfl, ?_⟩
    exact ⟨0, rfl, by decide, by decide, main 0 H (by omega) ⟨fun z => (nomatch z), fun z => absurd z (by decide)⟩ B (fun _ => True) trivial⟩
end
end Cp

namespace Cp
open PySem PySem.Spec PyProof.Rows L2 Evl GN GZ GF GH
/-! ### the head of a procedure, the three lists -/
section
variable {K : PySem.W.Frag} {σ : L2.St} {H : Hp}
def tHd : TE := tIf (tTest (tOp rEq (tVar 11) (tC (.int 0)))) (tTup (tCons (tTup tNil) (tCons (tTup (tCons (tVar 15) (tCons (tVar 16) tNil))) (tCons (tC .non) tNil)))) (tTup (tCons (tTup (tCons (tVar 15) tNil)) (tCons (tTup (tCons (tVar 16) tNil)) (tCons (tC (.str "x")) tNil))))
theorem hd_new {i : Nat} {p1 p2 : Addr} (h11 : σ[11]? = some (some (.int (i : Nat)))) (h15 : σ[15]? = some (some (.ref p1))) (h16 : σ[16]? = some (some (.ref p2))) (q1 : H p1 = some (.tup [.str "x", .str "leaf"])) (q2 : H p2 = some (.tup [.str "y", .str "leaf"])) :
    ∀ H1, Ex H H1 → ∀ Q : VK, (∀ T tk hs gv H2, Ex H1 H2 → H2 T = some (.tup [.ref tk, .ref hs, gv]) → HeadOk K H2 (decide (i = 0)) tk hs gv → Q (.ref T) H2) → tHd σ H1 Q := fun H1 e1 Q q => by
  by_cases hi : i = 0
  · subst hi
    unfold tHd tIf
    refine et_is (et_eq (ev_var h11) ev_c rfl) (b := true) (decide_eq_true rfl) H1 e1 _ fun H2 e2 => ?_
    rw [if_pos rfl]
    unfold tTup tCons
    refine ⟨Nat.zero_le _, fun tk htk => ⟨_, h15, _, h16, sz_of (n := 2) (by decide), fun hs hhs => ⟨sz_of (n := 3) (by decide), fun T hT => ?_⟩⟩⟩
    have a1 : Ex H2 (upd H2 tk (.tup [])) := Ex.new htk
    have a2 := Ex.new (o := .tup [V.ref p1, .ref p2]) hhs
    have a3 := Ex.new (o := .tup [V.ref tk, .ref hs, .non]) hT
    refine q T tk hs .non _ (((e2.trans a1).trans a2).trans a3) upd_same ⟨p1, p2, st_of (a3 _ _ (a2 _ _ upd_same)), st_of (a3 _ _ upd_same), st_of (((((e1.trans e2).trans a1).trans a2).trans a3) _ _ q1), st_of (((((e1.trans e2).trans a1).trans a2).trans a3) _ _ q2), rfl⟩
  · have hd : decide (i = 0) = false := decide_eq_false hi
    unfold tHd tIf
    refine et_is (et_eq (ev_var h11) ev_c rfl) (b := false) (decide_eq_false fun z => hi (by
      have := V.int.inj z
      omega)) H1 e1 _ fun H2 e2 => ?_
    rw [if_neg (by decide)]
    unfold tTup tCons
    refine ⟨_, h15, sz_of (n := 1) (by decide), fun tk htk => ⟨_, h16, sz_of (n := 1) (by decide), fun hs hhs => ⟨sz_of (n := 3) (by decide), fun T hT => ?_⟩⟩⟩
    have a1 : Ex H2 (upd H2 tk (.tup [V.ref p1])) := Ex.new htk
    have a2 := Ex.new (o := .tup [V.ref p2]) hhs
    have a3 := Ex.new (o := .tup [V.ref tk, .ref hs, .str "x"]) hT
    refine q T tk hs (.str "x") _ (((e2.trans a1).trans a2).trans a3) upd_same ?_
    rw [hd]
    exact ⟨p1, p2, st_of (a3 _ _ (a2 _ _ upd_same)), st_of (a3 _ _ upd_same), st_of (((((e1.trans e2).trans a1).trans a2).trans a3) _ _ q1), st_of (((((e1.trans e2).trans a1).trans a2).trans a3) _ _ q2), rfl⟩
/-- l.append(..): one list grows -/
abbrev tApp (K : PySem.W.Frag) (i : Nat) (te : TE) : TS := tDrop (tBM K "list" rAppend (tVar i) (tCons te tNil))
abbrev rLstQ (K : PySem.W.Frag) : List V → Hp → VK → Prop := fun xs H Q => ∃ p ys, xs = [.ref p] ∧ (SqL K H p ys ∨ SqT K H p ys) ∧ ∀ l : Addr, H l = none → Q (.ref l) (upd H l (.lst ys))
end
/-- all but four stand -/
def Bt (b p q r : Addr) (H H' : Hp) : Prop := ∀ a o, a ≠ b → a ≠ p → a ≠ q → a ≠ r → (∀ ps, o ≠ HO.tbl ps) → H a = some o → H' a = some o
structure PAt (j : Nat) (p : Pr) : Prop where
  calls : ∀ w, Sh.C w ∈ p.ss → w = wordAt (if j = 2 then 2 else 1)
  marks : p.ss.all Sh.good = true → MP p.ss
/-- what is known when i procedures are done -/
structure Mid (K : PySem.W.Frag) (H0 : Hp) (b l pl bl fl : Addr) (i : Nat) (ps : List Pr) (vs ws us : List V) (H : Hp) : Prop where
  b0 : BagOk K H0 b l
  np : H0 pl = none
  nb : H0 bl = none
  nf : H0 fl = none
  dpb : pl ≠ bl
  dpf : pl ≠ fl
  dbf : bl ≠ fl
  bt : But b H0 H
  bag : BagOk K H b l
  hp : H pl = some (.lst vs)
  hb : H bl = some (.lst ws)
  hf : H fl = some (.lst us)
  lp : ps.length = i
  lv : vs.length = i
  lw : ws.length = i
  lu : us.length = i
  at_ : ∀ (j : Nat) p v w u, ps[j]? = some p → vs[j]? = some v → ws[j]? = some w → us[j]? = some u → PAt j p ∧ ∀ H2, Bt b pl bl fl H H2 → IsPr K H2 j p v ∧ IsBd K H2 p w ∧ IsFl K H2 p u
def tEnd3 (K : PySem.W.Frag) : TS := tSeq (tApp K 9 (tCB (rLstQ K) (tCons (tVar 13) tNil))) (tApp K 10 (tVar 12))
def tEnd2 (K : PySem.W.Frag) : TS := tSeq (tApp K 8 (tOp (rCatT K) (tOp (rCatT K) (tTup (tCons (tVar 17) tNil)) (tVar 18)) (tTup (tCons (tVar 13) tNil)))) (tEnd3 K)
def tEnd1 (K : PySem.W.Frag) : TS := tSeq (tAsg tHd (gName 18)) (tEnd2 K)
def tEnd (K : PySem.W.Frag) : TS := tSeq (tPar3 15 16 17 (tCons (tTup (tCons (tC (.str "x")) (tCons (tC (.str "leaf")) tNil))) (tCons (tTup (tCons (tC (.str "y")) (tCons (tC (.str "leaf")) tNil))) (tCons (tIf (tB (tOp (rIxL K) (tVar 12) (tC (.int 0)))) (tC (.str "Big")) (tOp (rIxL K) (tVar 3) (tVar 11))) tNil))))
  (tSeq (tAsg tHd (gName 18)) (tSeq (tApp K 8 (tOp (rCatT K) (tOp (rCatT K) (tTup (tCons (tVar 17) tNil)) (tVar 18)) (tTup (tCons (tVar 13) tNil)))) (tSeq (tApp K 9 (tCB (rLstQ K) (tCons (tVar 13) tNil))) (tApp K 10 (tVar 12)))))
section
variable {K : PySem.W.Frag}
theorem s_end {D : Ends} {CK : Addr} {H0 H H2 : Hp} {a b l lf wl pt mk ol pl bl fl f bd : Addr} {i : Nat} {f0 f1 f2 f3 f4 : Bool} {p7 p14 p15 p16 p17 p18 p19 p20 p21 : Option V} {ps : List Pr} {vs ws us : List V} {ss : List Sh} (hi : i < 3) (W : Wd K CK H b l lf wl pt mk ol) (M : Mid K H0 b l pl bl fl i ps vs ws us H)
    (B : Bs K H b l f [f0, f1, f2, f3, f4] H2 bd ss) (PA : PAt i ⟨f0, ss⟩) (hC : ss.any Sh.isC = f3) (hl : ss.length ≤ 60)
    (k : ∀ q11 q12 q13 q14 q15 q16 q17 q18 H' v w u, Mid K H0 b l pl bl fl (i + 1) (ps ++ [⟨f0, ss⟩]) (vs ++ [v]) (ws ++ [w]) (us ++ [u]) H' → D.nx [some (.ref a), some (.ref b), some (.ref lf), some (.ref wl), some (.ref pt), some (.ref mk), some (.ref ol), p7, some (.ref pl), some (.ref bl), some (.ref fl), q11, q12, q13, q14, q15, q16, q17, q18, p19, p20, p21] H') :
    tEnd K D [some (.ref a), some (.ref b), some (.ref lf), some (.ref wl), some (.ref pt), some (.ref mk), some (.ref ol), p7, some (.ref pl), some (.ref bl), some (.ref fl), some (.int (i : Nat)), some (.ref f), some (.ref bd), p14, p15, p16, p17, p18, p19, p20, p21] H2 := by
  have W2 := W.but B.bt B.bag
  unfold tEnd tSeq tPar3 tCons
  refine eu_tup (vs := [.str "x", .str "leaf"]) (ea_cons ev_c (ea_cons ev_c ea_nil)) (show (2 : Nat) ≤ 100000 by decide) H2 (Ex.refl _) _ fun p1 H3 n1 e3 q1 => ?_
  refine eu_tup (vs := [.str "y", .str "leaf"]) (ea_cons ev_c (ea_cons ev_c ea_nil)) (show (2 : Nat) ≤ 100000 by decide) H3 (Ex.refl _) _ fun p2 H4 n2 e4 q2 => ?_
  have e24 := e3.trans e4
  refine ev_if (b := f0) (v := .str (nmAt i ⟨f0, ss⟩)) (et_B (ev_ixL (i := 0) (v := .bl f0) (ev_var rfl) ev_c (sq_of (e24 _ _ B.fl)) rfl)) (fun h => by subst h; exact ev_c) (fun h => by
    subst h
    refine ev_ixL (i := i) (v := .str (wordAt i)) (ev_var rfl) (ev_var rfl) (sq_of (e24 _ _ W2.wd)) ?_
    match i, hi with
    | 0, _ => rfl
    | 1, _ => rfl
    | 2, _ => rfl) H4 (Ex.refl _) _ fun H5 e5 => ?_
  refine ⟨_, _, _, rfl, ?_⟩
  dsimp only [List.set]
  show tSeq (tAsg tHd (gName 18)) (tEnd2 K) D _ H5
  have e35 := e4.trans e5
  refine q_asgW ?_
  refine hd_new (K := K) (i := i) rfl rfl rfl (e35 _ _ q1) (e5 _ _ q2) H5 (Ex.refl _) _ fun T tk hs gv H6 e6 hT hH => ?_
  have e26 : Ex H2 H6 := (e3.trans e35).trans e6
  have hpb : pl ≠ b := fun z => M.b0.has.1 (by rw [← z]; exact M.np)
  have hbb : bl ≠ b := fun z => M.b0.has.1 (by rw [← z]; exact M.nb)
  have hfb : fl ≠ b := fun z => M.b0.has.1 (by rw [← z]; exact M.nf)
  have B6 := B.ex e26
  obtain ⟨xs, hxs, hX⟩ := B6.bd
  show tSeq (tApp K 8 (tOp (rCatT K) (tOp (rCatT K) (tTup (tCons (tVar 17) tNil)) (tVar 18)) (tTup (tCons (tVar 13) tNil)))) (tEnd3 K) D _ H6
  show tBM K "list" rAppend (tVar 8) _ _ H6 _
  unfold tBM
  have hpl6 := B6.bt _ _ hpb M.hp
  refine ⟨.ref pl, rfl, .inl ⟨rfl, _, sq_of hpl6⟩, ?_⟩
  unfold tCons
  refine eu_catU (xs := [.str (nmAt i ⟨f0, ss⟩), .ref tk, .ref hs, gv]) (ys := [.ref bd]) (eu_cat (xs := [.str (nmAt i ⟨f0, ss⟩)]) (ys := [.ref tk, .ref hs, gv]) (eu_tup (ea_cons (ev_var rfl) ea_nil) (show (1 : Nat) ≤ 100000 by decide)) (ev_var rfl) (st_of hT) (by simp) (by simp) (show (1 + 3 : Nat) ≤ 1000 by decide)) (eu_tup (ea_cons (ev_var rfl) ea_nil) (show (1 : Nat) ≤ 100000 by decide)) (by simp) (by simp) (show (4 + 1 : Nat) ≤ 1000 by decide) H6 (Ex.refl _) _ fun t H7 nt e7 ht => ?_
  have B7 := B6.ex e7
  have hpl7 := e7 _ _ hpl6
  refine ⟨pl, vs, .ref t, rfl, rfl, hpl7, sz_lt (by rw [M.lv]; omega), ?_⟩
  show tSeq (tApp K 9 (tCB (rLstQ K) (tCons (tVar 13) tNil))) (tApp K 10 (tVar 12)) D _ _
  have hbl7 := B7.bt _ _ hbb M.hb
  have hfl7 := B7.bt _ _ hfb M.hf
  have hxs7 := e7 _ _ hxs
  have hf7 := B7.fl
  have ne : ∀ {x y : Addr}, H x = none → (∃ o, H y = some o) → x ≠ y := fun {x y} hx hy z => by
    obtain ⟨o, hy⟩ := hy
    rw [z, hy] at hx
    cases hx
  have dp := ne B.bn ⟨_, M.hp⟩
  have db := ne B.bn ⟨_, M.hb⟩
  have df := ne B.bn ⟨_, M.hf⟩
  have gp := ne B.fn ⟨_, M.hp⟩
  have gb := ne B.fn ⟨_, M.hb⟩
  have gf := ne B.fn ⟨_, M.hf⟩
  have d0 : bd ≠ b := fun z => B.b0.has.1 (by rw [← z]; exact B.bn)
  have g0 : f ≠ b := fun z => B.b0.has.1 (by rw [← z]; exact B.fn)
  have n8 : Nl H7 (upd H7 pl (.lst (vs ++ [.ref t]))) := Nl.upd (.inr ⟨_, hpl7⟩)
  have hbl8 : (upd H7 pl (.lst (vs ++ [.ref t]))) bl = some (.lst ws) := by rw [upd_ne (Ne.symm M.dpb)]; exact hbl7
  have hfl8 : (upd H7 pl (.lst (vs ++ [.ref t]))) fl = some (.lst us) := by rw [upd_ne (Ne.symm M.dpf)]; exact hfl7
  have hpl8 : (upd H7 pl (.lst (vs ++ [.ref t]))) pl = some (.lst (vs ++ [.ref t])) := upd_same
  have k8 : ∀ x o, x ≠ pl → H7 x = some o → (upd H7 pl (.lst (vs ++ [.ref t]))) x = some o := fun x o hx h => by rw [upd_ne hx]; exact h
  have b8 : But b H0 (upd H7 pl (.lst (vs ++ [.ref t]))) := (M.bt.trans B7.bt).mutN M.np
  have g8 : BagOk K (upd H7 pl (.lst (vs ++ [.ref t]))) b l := BagOk.upd M.b0 M.np B7.bag
  generalize upd H7 pl (.lst (vs ++ [.ref t])) = H8 at n8 hbl8 hfl8 hpl8 k8 b8 g8 ⊢
  show tBM K "list" rAppend (tVar 9) _ _ H8 _
  unfold tBM
  refine ⟨.ref bl, rfl, .inl ⟨rfl, _, sq_of hbl8⟩, ?_⟩
  unfold tCons
  refine ⟨.ref bd, rfl, bd, xs, rfl, .inl (sq_of (k8 _ _ dp hxs7)), fun c hc => ⟨bl, ws, .ref c, rfl, rfl, Ex.new hc _ _ hbl8, sz_lt (by rw [M.lw]; omega), ?_⟩⟩
  have e9 : Ex H8 (upd H8 c (.lst xs)) := Ex.new hc
  have hc9 : (upd H8 c (.lst xs)) c = some (.lst xs) := upd_same
  have c1 : c ≠ pl := fun z => by rw [z, hpl8] at hc; cases hc
  have c2 : c ≠ bl := fun z => by rw [z, hbl8] at hc; cases hc
  have c3 : c ≠ fl := fun z => by rw [z, hfl8] at hc; cases hc
  have c0 : c ≠ b := fun z => by rw [z] at hc; exact g8.has.1 hc
  generalize upd H8 c (.lst xs) = H9 at e9 hc9 ⊢
  have n10 : Nl H9 (upd H9 bl (.lst (ws ++ [.ref c]))) := Nl.upd (.inr ⟨_, e9 _ _ hbl8⟩)
  have hfl10 : (upd H9 bl (.lst (ws ++ [.ref c]))) fl = some (.lst us) := by rw [upd_ne (Ne.symm M.dbf)]; exact e9 _ _ hfl8
  have hpl10 : (upd H9 bl (.lst (ws ++ [.ref c]))) pl = some (.lst (vs ++ [.ref t])) := by rw [upd_ne M.dpb]; exact e9 _ _ hpl8
  have hbl10 : (upd H9 bl (.lst (ws ++ [.ref c]))) bl = some (.lst (ws ++ [.ref c])) := upd_same
  have k10 : ∀ x o, x ≠ bl → H9 x = some o → (upd H9 bl (.lst (ws ++ [.ref c]))) x = some o := fun x o hx h => by rw [upd_ne hx]; exact h
  have b10 : But b H0 (upd H9 bl (.lst (ws ++ [.ref c]))) := (b8.ex e9).mutN M.nb
  have g10 : BagOk K (upd H9 bl (.lst (ws ++ [.ref c]))) b l := BagOk.upd M.b0 M.nb (g8.ex e9)
  show tApp K 10 (tVar 12) D _ (upd H9 bl (.lst (ws ++ [.ref c])))
  generalize upd H9 bl (.lst (ws ++ [.ref c])) = H10 at n10 hfl10 hpl10 hbl10 k10 b10 g10 ⊢
  show tBM K "list" rAppend (tVar 10) _ _ H10 _
  unfold tBM
  refine ⟨.ref fl, rfl, .inl ⟨rfl, _, sq_of hfl10⟩, ?_⟩
  unfold tCons
  refine ⟨.ref f, rfl, fl, us, .ref f, rfl, rfl, hfl10, sz_lt (by rw [M.lu]; omega), ?_⟩
  have n11 : Nl H10 (upd H10 fl (.lst (us ++ [.ref f]))) := Nl.upd (.inr ⟨_, hfl10⟩)
  have k11 : ∀ x o, x ≠ fl → H10 x = some o → (upd H10 fl (.lst (us ++ [.ref f]))) x = some o := fun x o hx h => by rw [upd_ne hx]; exact h
  have hfl11 : (upd H10 fl (.lst (us ++ [.ref f]))) fl = some (.lst (us ++ [.ref f])) := upd_same
  have b11 : But b H0 (upd H10 fl (.lst (us ++ [.ref f]))) := b10.mutN M.nf
  have g11 : BagOk K (upd H10 fl (.lst (us ++ [.ref f]))) b l := BagOk.upd M.b0 M.nf g10
  have kk : ∀ x o, x ≠ pl → x ≠ bl → x ≠ fl → H7 x = some o → (upd H10 fl (.lst (us ++ [.ref f]))) x = some o := fun x o z1 z2 z3 h => k11 _ _ z3 (k10 _ _ z2 (e9 _ _ (k8 _ _ z1 h)))
  have nn : Nl H7 (upd H10 fl (.lst (us ++ [.ref f]))) := ((n8.trans (Nl.ex e9)).trans n10).trans n11
  have hpl11 := k11 _ _ M.dpf hpl10
  have hbl11 := k11 _ _ M.dbf hbl10
  have hc11 := k11 _ _ c3 (k10 _ _ c2 hc9)
  refine k _ _ _ _ _ _ _ _ _ (.ref t) (.ref c) (.ref f) ?_
  generalize upd H10 fl (.lst (us ++ [.ref f])) = H11 at b11 g11 kk nn hpl11 hbl11 hfl11 hc11 ⊢
  obtain ⟨x11, hb11, _⟩ := g11.lst
  refine ⟨M.b0, M.np, M.nb, M.nf, M.dpb, M.dpf, M.dbf, b11, g11, hpl11, hbl11, hfl11, by rw [List.length_append, M.lp]; rfl, by rw [List.length_append, M.lv]; rfl, by rw [List.length_append, M.lw]; rfl, by rw [List.length_append, M.lu]; rfl, fun j p v w u hp hv hw hu => ?_⟩
  by_cases hj : j < i
  · rw [List.getElem?_append_left (by rw [M.lp]; exact hj)] at hp
    rw [List.getElem?_append_left (by rw [M.lv]; exact hj)] at hv
    rw [List.getElem?_append_left (by rw [M.lw]; exact hj)] at hw
    rw [List.getElem?_append_left (by rw [M.lu]; exact hj)] at hu
    obtain ⟨a1, a2⟩ := M.at_ j p v w u hp hv hw hu
    exact ⟨a1, fun H12 h12 => a2 H12 fun x o z0 z1 z2 z3 z4 h => h12 x o z0 z1 z2 z3 z4 (kk x o z1 z2 z3 (B7.bt x o z0 h))⟩
  · have hji : j = i := by
      have := (List.getElem?_eq_some_iff.mp hp).1
      rw [List.length_append, M.lp] at this
      simp at this
      omega
    subst hji
    rw [List.getElem?_append_right (by rw [M.lp]; exact Nat.le_refl _), M.lp, Nat.sub_self] at hp
    rw [List.getElem?_append_right (by rw [M.lv]; exact Nat.le_refl _), M.lv, Nat.sub_self] at hv
    rw [List.getElem?_append_right (by rw [M.lw]; exact Nat.le_refl _), M.lw, Nat.sub_self] at hw
    rw [List.getElem?_append_right (by rw [M.lu]; exact Nat.le_refl _), M.lu, Nat.sub_self] at hu
    cases hp
    cases hv
    cases hw
    cases hu
    refine ⟨PA, fun H12 h12 => ?_⟩
    have nl12 : Nl H11 H12 := fun x o nx nt h => h12 x o (fun z => by rw [z, hb11] at h; cases h; exact nx _ rfl) (fun z => by rw [z, hpl11] at h; cases h; exact nx _ rfl) (fun z => by rw [z, hbl11] at h; cases h; exact nx _ rfl) (fun z => by rw [z, hfl11] at h; cases h; exact nx _ rfl) nt h
    have n12 := nn.trans nl12
    have hbd12 := h12 _ _ d0 dp db df (fun _ q => by cases q) (kk _ _ dp db df hxs7)
    have hf12 := h12 _ _ g0 gp gb gf (fun _ q => by cases q) (kk _ _ gp gb gf hf7)
    have hc12 := h12 _ _ c0 c1 c2 c3 (fun _ q => by cases q) hc11
    have X12 := (hX.ex e7).nl n12
    refine ⟨⟨t, tk, hs, gv, bd, xs, rfl, n12.t (st_of ht), (hH.ex e7).nl n12, .inl (sq_of hbd12), X12, hl⟩, ⟨c, xs, rfl, sq_of hc12, X12, hl, fun w hw => ?_⟩, f, f1, f2, f4, rfl, ?_⟩
    · have := PA.calls w hw
      rw [this]
      by_cases z : j = 2
      · rw [if_pos z]
        exact .inr rfl
      · rw [if_neg z]
        exact .inl rfl
    · rw [hC]
      exact sq_of hf12
end
end Cp

namespace Cp
open PySem PySem.Spec PyProof.Rows L2 Evl GN GZ GF GH
/-! ### marks and puts -/
theorem MP.cat {a b : List Sh} (ha : MP a) (hb : MP b) : MP (a ++ b) := fun i h => by
  by_cases hi : i < a.length
  · rw [List.getElem?_append_left hi] at h
    have h2 := ha i h
    have h3 := (List.getElem?_eq_some_iff.mp h2).1
    rw [List.getElem?_append_left h3]
    exact h2
  · rw [List.getElem?_append_right (by omega)] at h
    have h2 := hb _ h
    rw [List.getElem?_append_right (by omega)]
    rw [show i + 1 - a.length = i - a.length + 1 by omega]
    exact h2
theorem MP.no {a : List Sh} (h : Sh.M ∉ a) : MP a := fun i hi => absurd (List.mem_of_getElem? hi) h
theorem MP.one : MP [.M, .P] := fun i h => by
  match i, h with
  | 0, _ => rfl
  | 1, h => cases h
def bodyOf (n : Nat) (w : Str) (f3 f4 : Bool) : List Sh := List.replicate n .P ++ (if f3 then [.C w] else []) ++ (if f4 then [.M, .P] else [])
theorem body_mp (n : Nat) (w : Str) (f3 f4 : Bool) : MP (bodyOf n w f3 f4) := by
  unfold bodyOf
  refine MP.cat (MP.cat (MP.no fun h => ?_) ?_) ?_
  · rw [List.mem_replicate] at h
    cases h.2
  · cases f3
    · exact MP.no fun h => by cases h
    · refine MP.no fun h => ?_
      rw [if_pos rfl] at h
      cases List.mem_singleton.mp h
  · cases f4
    · exact MP.no fun h => by cases h
    · exact MP.one
theorem body_calls {n : Nat} {w w' : Str} {f3 f4 : Bool} (h : Sh.C w' ∈ bodyOf n w f3 f4) : w' = w := by
  unfold bodyOf at h
  rw [List.mem_append, List.mem_append] at h
  rcases h with (h | h) | h
  · rw [List.mem_replicate] at h
    cases h.2
  · cases f3
    · cases h
    · rw [if_pos rfl] at h
      cases List.mem_singleton.mp h
      rfl
  · cases f4
    · cases h
    · rw [if_pos rfl] at h
      rcases List.mem_cons.mp h with h | h
      · cases h
      · cases List.mem_singleton.mp h
theorem body_any (n : Nat) (w : Str) (f3 f4 : Bool) : (bodyOf n w f3 f4).any Sh.isC = f3 := by
  unfold bodyOf
  rw [List.any_append, List.any_append]
  have : (List.replicate n Sh.P).any Sh.isC = false := by
    rw [List.any_eq_false]
    intro x hx
    rw [List.mem_replicate] at hx
    rw [hx.2]
    decide
  rw [this]
  cases f3 <;> cases f4 <;> rfl
theorem body_len (n : Nat) (w : Str) (f3 f4 : Bool) : (bodyOf n w f3 f4).length ≤ n + 3 := by
  unfold bodyOf
  rw [List.length_append, List.length_append, List.length_replicate]
  cases f3 <;> cases f4 <;> simp
theorem body_at {i n : Nat} {f0 f1 f2 f3 f4 : Bool} {ss : List Sh} (R : InsR (bodyOf n (wordAt (if i = 2 then 2 else 1)) f3 f4) ss) (h0 : f2 = false → ss = bodyOf n (wordAt (if i = 2 then 2 else 1)) f3 f4) (h1 : f2 = true → ss.all Sh.good = false) :
    PAt i ⟨f0, ss ++ List.replicate (if f1 then 15 else 0) .P⟩ ∧ (ss ++ List.replicate (if f1 then 15 else 0) Sh.P).any Sh.isC = f3 := by
  have hr : (List.replicate (if f1 then 15 else 0) Sh.P).any Sh.isC = false := by
    rw [List.any_eq_false]
    intro x hx
    rw [List.mem_replicate] at hx
    rw [hx.2]
    decide
  refine ⟨⟨fun w hw => ?_, fun hg => ?_⟩, ?_⟩
  · rcases List.mem_append.mp hw with hw | hw
    · exact body_calls (R.calls w hw)
    · rw [List.mem_replicate] at hw
      cases hw.2
  · have hg : (ss ++ List.replicate (if f1 then 15 else 0) Sh.P).all Sh.good = true := hg
    rw [List.all_append] at hg
    cases f2 with
    | true =>
      rw [h1 rfl, Bool.false_and] at hg
      cases hg
    | false =>
      show MP (ss ++ _)
      rw [h0 rfl]
      refine MP.cat (body_mp _ _ _ _) (MP.no fun h => ?_)
      rw [List.mem_replicate] at h
      cases h.2
  · rw [List.any_append, hr, R.any, body_any, Bool.or_false]
/-! ### one procedure -/
abbrev rMax2 : List V → Hp → VK → Prop := fun xs H Q => ∃ i j : Int, xs = [.int i, .int j] ∧ Q (.int (if j > i then j else i)) H
def tCallL (K : PySem.W.Frag) : TE := tLst (tCons (tTup (tCons (tC (.str "call")) (tCons (tTup (tCons (tC (.str "x")) tNil)) (tCons (tOp (rIxL K) (tVar 3) (tCB rMax2 (tCons (tC (.int 1)) (tCons (tVar 11) tNil)))) (tCons (tTup (tCons (tTup (tCons (tTup (tCons (tC (.str "x")) tNil)) (tCons (tC (.bl false)) tNil))) tNil)) tNil))))) tNil)
section
variable {K : PySem.W.Frag} {σ : L2.St} {H : Hp}
theorem bd_call {i : Nat} {wl : Addr} (hi : i < 3) (h3 : σ[3]? = some (some (.ref wl))) (h11 : σ[11]? = some (some (.int (i : Nat)))) (hw : H wl = some (.lst [.str "main", .str "f", .str "g"])) : EvBd K (tCallL K) σ H [.C (wordAt (if i = 2 then 2 else 1))] := fun H1 e1 Q q => by
  have hm : (if (i : Int) > 1 then (i : Int) else 1) = ((if i = 2 then 2 else 1 : Nat) : Int) := by
    match i, hi with
    | 0, _ => rfl
    | 1, _ => rfl
    | 2, _ => rfl
  unfold tCallL tLst tCons
  show tTup _ σ H1 _
  unfold tTup
  refine ⟨sz_of (n := 1) (by decide), fun p hp => ⟨_, h3, _, h11, 1, (i : Int), rfl, ?_⟩⟩
  rw [hm]
  have a1 : Ex H1 (upd H1 p (.tup [.str "x"])) := Ex.new hp
  refine ⟨wl, [.str "main", .str "f", .str "g"], _, .str (wordAt (if i = 2 then 2 else 1)), rfl, rfl, sq_of (a1 _ _ (e1 _ _ hw)), ?_, ?_⟩
  · match i, hi with
    | 0, _ => rfl
    | 1, _ => rfl
    | 2, _ => rfl
  refine ⟨sz_of (n := 1) (by decide), fun u hu => ⟨sz_of (n := 2) (by decide), fun r hr => ⟨sz_of (n := 1) (by decide), fun s hs => ⟨sz_of (n := 4) (by decide), fun t ht => ⟨sz_of (n := 1) (by decide), fun l hl => ?_⟩⟩⟩⟩⟩
  have a2 := Ex.new (o := .tup [V.str "x"]) hu
  have a3 := Ex.new (o := .tup [V.ref u, .bl false]) hr
  have a4 := Ex.new (o := .tup [V.ref r]) hs
  have a5 := Ex.new (o := .tup [V.str "call", .ref p, .str (wordAt (if i = 2 then 2 else 1)), .ref s]) ht
  have a6 := Ex.new (o := .lst [V.ref t]) hl
  refine q l [.ref t] _ (((((a1.trans a2).trans a3).trans a4).trans a5).trans a6) upd_same ⟨.ref t, [], rfl, ⟨t, p, s, r, u, rfl, st_of (a6 _ _ upd_same), st_of ((((a2.trans a3).trans a4).trans a5).trans a6 _ _ upd_same), st_of ((a5.trans a6) _ _ upd_same), st_of (((a4.trans a5).trans a6) _ _ upd_same), st_of ((((a3.trans a4).trans a5).trans a6) _ _ upd_same)⟩, rfl⟩
theorem bd_mark {mk pt : Addr} (h4 : σ[4]? = some (some (.ref pt))) (h5 : σ[5]? = some (some (.ref mk))) (hm : IsS K H .M (.ref mk)) (hp : IsS K H .P (.ref pt)) : EvBd K (tLst (tCons (tVar 5) (tCons (tVar 4) tNil))) σ H [.M, .P] := fun H1 e1 Q q => by
  refine ⟨_, h5, _, h4, sz_of (n := 2) (by decide), fun l hl => ?_⟩
  have a := e1.trans (Ex.new (o := .lst [V.ref mk, .ref pt]) hl)
  exact q l _ _ (Ex.new hl) upd_same ⟨_, _, rfl, hm.ex a, _, _, rfl, hp.ex a, rfl⟩
def tT5 (K : PySem.W.Frag) : TS := tSeq (tAsg (tOp rCat (tVar 13) (tOp rRep (tLst (tCons (tVar 4) tNil)) (tIf (tB (tOp (rIxL K) (tVar 12) (tC (.int 1)))) (tC (.int 15)) (tC (.int 0))))) (gName 13)) (tEnd K)
def tT4 (K : PySem.W.Frag) : TS := tSeq (tFor (iRng1 (tCons (tIf (tB (tOp (rIxL K) (tVar 12) (tC (.int 2)))) (tOp (rI0 fun i j => .int (i + j)) (tC (.int 1)) (tCall (spTake K) [] E0 (tCons (tVar 1) (tCons (tC (.int 2)) tNil)))) (tC (.int 0))) tNil)) (gName 14)
      (tDrop (tBM K "list" rIns (tVar 13) (tCons (tCall (spTake K) [] E0 (tCons (tVar 1) (tCons (tOp (rI0 fun i j => .int (i + j)) (tCB (rLenQ K) (tCons (tVar 13) tNil)) (tC (.int 1))) tNil))) (tCons (tCall (spPick K) [] E0 (tCons (tVar 1) (tCons (tVar 6) tNil))) tNil))))) (tT5 K)
def tT3 (K : PySem.W.Frag) : TS := tSeq (tIfS (tB (tOp (rIxL K) (tVar 12) (tC (.int 4)))) (tAsg (tOp rCat (tVar 13) (tLst (tCons (tVar 5) (tCons (tVar 4) tNil)))) (gName 13)) tNext) (tT4 K)
def tT2 (K : PySem.W.Frag) : TS := tSeq (tIfS (tB (tOp (rIxL K) (tVar 12) (tC (.int 3)))) (tAsg (tOp rCat (tVar 13) (tCallL K)) (gName 13)) tNext) (tT3 K)
def tT1 (K : PySem.W.Frag) : TS := tSeq (tPar 12 13 (tCons (tLc (iRng1 (tCons (tC (.int 5)) tNil)) (gName 14) tYes (tOp rEq (tCall (spTake K) [] E0 (tCons (tVar 1) (tCons (tC (.int 6)) tNil))) (tC (.int 0))) [14]) (tCons (tOp rRep (tLst (tCons (tVar 4) tNil)) (tCall (spTake K) [] E0 (tCons (tVar 1) (tCons (tC (.int 3)) tNil)))) tNil))) (tT2 K)
theorem s_turn {D : Ends} {CK : Addr} {H0 H : Hp} {a b l lf wl pt mk ol pl bl fl : Addr} {i : Nat} {p7 p12 p13 p14 p15 p16 p17 p18 p19 p20 p21 : Option V} {ps : List Pr} {vs ws us : List V} (hi : i < 3) (W : Wd K CK H b l lf wl pt mk ol) (M : Mid K H0 b l pl bl fl i ps vs ws us H)
    (k : ∀ q11 q12 q13 q14 q15 q16 q17 q18 H' p v w u, Mid K H0 b l pl bl fl (i + 1) (ps ++ [p]) (vs ++ [v]) (ws ++ [w]) (us ++ [u]) H' → D.nx [some (.ref a), some (.ref b), some (.ref lf), some (.ref wl), some (.ref pt), some (.ref mk), some (.ref ol), p7, some (.ref pl), some (.ref bl), some (.ref fl), q11, q12, q13, q14, q15, q16, q17, q18, p19, p20, p21] H') :
    tT1 K D [some (.ref a), some (.ref b), some (.ref lf), some (.ref wl), some (.ref pt), some (.ref mk), some (.ref ol), p7, some (.ref pl), some (.ref bl), some (.ref fl), some (.int (i : Nat)), p12, p13, p14, p15, p16, p17, p18, p19, p20, p21] H := by
  refine q_flags W.bag W.pu rfl rfl (fun _ => rfl) (fun _ => rfl) fun f bd H1 f0 f1 f2 f3 f4 n B1 hn => ?_
  have W1 := W.but B1.bt B1.bag
  refine q_addB (c := f3) (s1 := [.C (wordAt (if i = 2 then 2 else 1))]) B1 rfl rfl rfl rfl (fun H2 e2 => bd_call hi rfl rfl (e2 _ _ W1.wd)) (by rw [List.length_replicate, List.length_singleton]; omega) fun bd2 H2 B2 => ?_
  have W2 := W.but B2.bt B2.bag
  refine q_addB (c := f4) (s1 := [.M, .P]) B2 rfl rfl rfl rfl (fun H3 e3 => bd_mark rfl rfl (W2.ma.ex e3) (W2.pu.ex e3)) (by
    rw [List.length_append, List.length_replicate]
    show n + _ + 2 ≤ _
    split
    · show n + 1 + 2 ≤ _
      omega
    · show n + 0 + 2 ≤ _
      omega) fun bd3 H3 B3 => ?_
  have W3 := W.but B3.bt B3.bag
  have B3 : Bs K H b l f [f0, f1, f2, f3, f4] H3 bd3 (bodyOf n (wordAt (if i = 2 then 2 else 1)) f3 f4) := B3
  have hl := body_len n (wordAt (if i = 2 then 2 else 1)) f3 f4
  refine q_ins (c := f2) (fun p => [some (.ref a), some (.ref b), some (.ref lf), some (.ref wl), some (.ref pt), some (.ref mk), some (.ref ol), p7, some (.ref pl), some (.ref bl), some (.ref fl), some (.int (i : Nat)), some (.ref f), some (.ref bd3), p, p15, p16, p17, p18, p19, p20, p21]) p14 W B3 (fun _ => rfl) (fun _ => rfl) (fun _ => rfl) (fun _ => rfl) (fun _ _ => rfl) rfl (by omega) fun q14 H4 ss4 B4 R4 hl4 h0 h1 => ?_
  have W4 := W.but B4.bt B4.bag
  refine q_tail (c := f1) B4 W4.pu rfl rfl rfl rfl (by omega) fun bd5 H5 B5 => ?_
  obtain ⟨hPA, hC⟩ := body_at (f0 := f0) (f1 := f1) R4 h0 h1
  exact s_end hi W M B5 hPA hC (by rw [List.length_append, List.length_replicate]; split <;> omega) fun q11 q12 q13 q14 q15 q16 q17 q18 H' v w u M' => k q11 q12 q13 q14 q15 q16 q17 q18 H' _ v w u M'
end
end Cp

namespace Cp
open PySem PySem.Spec PyProof.Rows L2 Evl GN GZ GF GH
/-! ### the fault's data -/
def Fault.ds : Fault → List PyData
  | .proc i => [.str "procedure", .int (i : Nat)]
  | .long i => [.str "long", .int (i : Nat)]
  | .stm i j => [.str "statement", .int (i : Nat), .int (j : Nat)]
  | .ends i => [.str "endless", .int (i : Nat)]
  | .mark i j => [.str "mark", .int (i : Nat), .int (j : Nat), .int 0]
theorem Fault.dp {K : PySem.W.Frag} {H : Hp} (f : Fault) : DpAll K H f.vs f.ds := by
  cases f with
  | proc i => exact .cons (.str _) (.cons (.int _) .nil)
  | long i => exact .cons (.str _) (.cons (.int _) .nil)
  | stm i j => exact .cons (.str _) (.cons (.int _) (.cons (.int _) .nil))
  | ends i => exact .cons (.str _) (.cons (.int _) .nil)
  | mark i j => exact .cons (.str _) (.cons (.int _) (.cons (.int _) (.cons (.int _) .nil)))
def noD (f : Fault) : PyData := .tuple [.str "no", .str "BadProgram", .tuple f.ds]
theorem noD_dp {K : PySem.W.Frag} {H : Hp} {T t : Addr} {f : Fault} (h : H T = some (.tup (noV (.ref t)))) (ht : H t = some (.tup f.vs)) : Dp K H (.ref T) (noD f) := .tup (st_of h) (.cons (.str _) (.cons (.str _) (.cons (.tup (st_of ht) f.dp) .nil)))
theorem noD_shaped (f : Fault) : SeqAt.shaped (noD f) = true := by
  have h1 : PyData.canLay0 (noD f) = true := by
    cases f <;> simp [noD, Fault.ds, PyData.canLay0, PyData.canLayAll0] <;> decide +kernel
  have h2 : PyData.depth (noD f) ≤ 64 := by
    cases f <;> simp [noD, Fault.ds, PyData.depth, PyData.depthAll]
  show (PyData.canLay0 _ && decide (PyData.depth _ ≤ 64)) = true
  rw [h1, decide_eq_true h2]
  rfl
theorem noD_eqv (f : Fault) : PyData.eqv (noD f) (noD f) = true := by
  cases f <;> simp [noD, Fault.ds, PyData.eqv, PyData.eqvAll]
theorem LenOk.ex {H H' : Hp} {C x : Addr} {n : Nat} (e : Ex H H') : LenOk H C x n → LenOk H' C x n
  | ⟨dx, fs, c, rs, h1, h2, h3, h4, h5, ls, h6, h7, h8, h9⟩ => ⟨dx, fs, c, rs, e _ _ h1, h2, h3, e _ _ h4, h5, ls, h6, h7, h8, fun i kv l a b => let ⟨r, p, q⟩ := h9 i kv l a b; ⟨r, p, e _ _ q⟩⟩
def lawQ : Str := ("law.<locals>." : Str) ++ "<lambda>"
/-! ### the judgement -/
abbrev rLenO (C : Addr) : List V → Hp → VK → Prop := fun xs H Q => ∃ a dx fs, xs = [.ref a] ∧ H a = some (.ins C dx fs) ∧ spLn C [.ref a] H (fun v H2 => ∃ n : Nat, v = .int (n : Int) ∧ n < 1000000 ∧ Q v H2) E0
def tJ5 (K : PySem.W.Frag) : TS := tIfS (tAnd (tTest (tOp (fun x y H Q => y = .non ∧ Q (.bl (!decide (x = .non))) H) (tVar 19) (tC .non))) (tTest (tOp (rNeD K) (tVar 20) (tTup (tCons (tC (.str "no")) (tCons (tC (.str "BadProgram")) (tCons (tVar 19) tNil))))))) (tRet (tC (.bl false))) tNext
def tJ4 (K : PySem.W.Frag) (C : Addr) : TS := tSeq (tIfS (tAnd (tTest (tOp (fun x y H Q => y = .non ∧ Q (.bl (decide (x = .non))) H) (tVar 19) (tC .non))) (tOr (tTest (tOp rNe (tOp (rIxT K) (tVar 20) (tC (.int 0))) (tC (.str "told")))) (tTest (tOp rNe (tCB (rLenO C) (tCons (tOp (rIxT K) (tVar 20) (tC (.int 1))) tNil)) (tVar 21))))) (tRet (tC (.bl false))) tNext) (tJ5 K)
def tJ3 (K : PySem.W.Frag) (C : Addr) : TS := tSeq (tAsg (tCB (rSum K) (tCons (tLc (iList K (tVar 9)) (gName 13) tYes (tCB (rLenS K) (tCons (tVar 13) tNil)) [13]) tNil)) (gName 21)) (tJ4 K C)
def tJ2 (K : PySem.W.Frag) (C CK CB PA : Addr) : TS := tSeq (tAsg (LamX.tLam [(PA, lawQ)] (TTr CB) fun E' => tMake C (spPi K C CK CB) [] E' (tCons (tVar 2) (tCons (tVar 8) tNil))) (gName 20)) (tJ3 K C)
def tJ1 (K : PySem.W.Frag) (C CK CB PA : Addr) : TS := tSeq (tAsg (tCall (spDue K) [] E0 (tCons (tVar 9) (tCons (tVar 10) (tCons (tVar 6) (tCons (tVar 5) tNil))))) (gName 19)) (tJ2 K C CK CB PA)
section
variable {K : PySem.W.Frag}
/-- what is known when the procedures are judged -/
structure Fin3 (K : PySem.W.Frag) (H : Hp) (b pl bl fl : Addr) (ps : List Pr) (vs ws us : List V) : Prop where
  hp : H pl = some (.lst vs)
  hb : H bl = some (.lst ws)
  hf : H fl = some (.lst us)
  lp : ps.length = 3
  lv : vs.length = 3
  lw : ws.length = 3
  lu : us.length = 3
  ok : PsOk ps
  pr : ∀ H2, LamX.ExtN H H2 → ∀ (j : Nat) p v, ps[j]? = some p → vs[j]? = some v → IsPr K H2 j p v
  bd : ∀ H2, LamX.ExtN H H2 → ∀ (j : Nat) p w, ps[j]? = some p → ws[j]? = some w → IsBd K H2 p w
  fl : ∀ H2, LamX.ExtN H H2 → ∀ (j : Nat) p u, ps[j]? = some p → us[j]? = some u → IsFl K H2 p u
theorem Mid.fin {H0 H : Hp} {b l pl bl fl : Addr} {ps : List Pr} {vs ws us : List V} (M : Mid K H0 b l pl bl fl 3 ps vs ws us H) : Fin3 K H b pl bl fl ps vs ws us := by
  have some3 : ∀ {α : Type} {xs : List α} {j : Nat}, xs.length = 3 → j < 3 → ∃ x, xs[j]? = some x := fun h hj => ⟨_, List.getElem?_eq_getElem (by omega)⟩
  have hj : ∀ {j p}, ps[j]? = some p → j < 3 := fun {j p} hp => by
    have := (List.getElem?_eq_some_iff.mp hp).1
    rw [M.lp] at this
    exact this
  have bt : ∀ {H2}, LamX.ExtN H H2 → Bt b pl bl fl H H2 := fun e x o _ _ _ _ m h => e x o h m
  have all : ∀ {j p}, ps[j]? = some p → PAt j p := fun {j p} hp => by
    obtain ⟨v, hv⟩ := some3 M.lv (hj hp)
    obtain ⟨w, hw⟩ := some3 M.lw (hj hp)
    obtain ⟨u, hu⟩ := some3 M.lu (hj hp)
    exact (M.at_ j p v w u hp hv hw hu).1
  refine ⟨M.hp, M.hb, M.hf, M.lp, M.lv, M.lw, M.lu, ⟨M.lp, fun i p w hp hw => (all hp).calls w hw, fun p hm hg => ?_⟩, fun H2 e j p v hp hv => ?_, fun H2 e j p w hp hw => ?_, fun H2 e j p u hp hu => ?_⟩
  · obtain ⟨j, hj'⟩ := List.mem_iff_getElem?.mp hm
    exact (all hj').marks hg
  · obtain ⟨w, hw⟩ := some3 M.lw (hj hp)
    obtain ⟨u, hu⟩ := some3 M.lu (hj hp)
    exact ((M.at_ j p v w u hp hv hw hu).2 H2 (bt e)).1
  · obtain ⟨v, hv⟩ := some3 M.lv (hj hp)
    obtain ⟨u, hu⟩ := some3 M.lu (hj hp)
    exact ((M.at_ j p v w u hp hv hw hu).2 H2 (bt e)).2.1
  · obtain ⟨v, hv⟩ := some3 M.lv (hj hp)
    obtain ⟨w, hw⟩ := some3 M.lw (hj hp)
    exact ((M.at_ j p v w u hp hv hw hu).2 H2 (bt e)).2.2
theorem s_judge {D : Ends} {C CK CB PA : Addr} {H : Hp} {a b l lf wl pt mk ol pl bl fl : Addr} {p7 p11 p12 p13 p14 p15 p16 p17 p18 p19 p20 p21 : Option V} {ps : List Pr} {vs ws us : List V} (W : Wd K CK H b l lf wl pt mk ol) (F : Fin3 K H b pl bl fl ps vs ws us) (T0 : LamX.Tabs [(PA, lawQ)] H)
    (k : ∀ q19 q20 q21 H', Wd K CK H' b l lf wl pt mk ol → LamX.Tabs [(PA, lawQ)] H' → D.nx [some (.ref a), some (.ref b), some (.ref lf), some (.ref wl), some (.ref pt), some (.ref mk), some (.ref ol), p7, some (.ref pl), some (.ref bl), some (.ref fl), p11, p12, p13, p14, p15, p16, p17, p18, q19, q20, q21] H') :
    tJ1 K C CK CB PA D [some (.ref a), some (.ref b), some (.ref lf), some (.ref wl), some (.ref pt), some (.ref mk), some (.ref ol), p7, some (.ref pl), some (.ref bl), some (.ref fl), p11, p12, p13, p14, p15, p16, p17, p18, p19, p20, p21] H := by
  obtain ⟨os, hos, hO⟩ := W.od
  have rest : ∀ dv H2, Ex H H2 → ((∃ f T, due ps = some f ∧ dv = .ref T ∧ H2 T = some (.tup f.vs)) ∨ (due ps = none ∧ dv = .non)) → tJ2 K C CK CB PA D [some (.ref a), some (.ref b), some (.ref lf), some (.ref wl), some (.ref pt), some (.ref mk), some (.ref ol), p7, some (.ref pl), some (.ref bl), some (.ref fl), p11, p12, p13, p14, p15, p16, p17, p18, some dv, p20, p21] H2 := by
    intro dv H2 e2 hdv
    have fin : ∀ fv H5, LamX.ExtN H H5 → LamX.Tabs [(PA, lawQ)] H5 → ((∃ f T t T4, due ps = some f ∧ dv = .ref T ∧ H5 T = some (.tup f.vs) ∧ fv = .ref T4 ∧ H5 T4 = some (.tup (noV (.ref t))) ∧ H5 t = some (.tup f.vs)) ∨ (due ps = none ∧ dv = .non ∧ ∃ p x, fv = .ref p ∧ H5 p = some (.tup [.str "told", .ref x]) ∧ LenOk H5 C x ((ps.map fun p => p.ss.length).sum))) →
        tJ3 K C D [some (.ref a), some (.ref b), some (.ref lf), some (.ref wl), some (.ref pt), some (.ref mk), some (.ref ol), p7, some (.ref pl), some (.ref bl), some (.ref fl), p11, p12, p13, p14, p15, p16, p17, p18, some dv, some fv, p21] H5 := by
      intro fv H5 x5 T5 hfv
      have hb5 := x5 _ _ F.hb (fun _ q => by cases q)
      obtain ⟨p0, p1, p2, rfl⟩ : ∃ p0 p1 p2, ps = [p0, p1, p2] := by
        match ps, F.lp with
        | [p0, p1, p2], _ => exact ⟨p0, p1, p2, rfl⟩
      have hsum : V.int ([(p0.ss.length : Int), (p1.ss.length : Int), (p2.ss.length : Int)] : List Int).sum = .int (([p0, p1, p2].map fun p => p.ss.length).sum : Nat) := by
        refine congrArg V.int ?_
        show (p0.ss.length : Int) + ((p1.ss.length : Int) + ((p2.ss.length : Int) + 0)) = ((p0.ss.length + (p1.ss.length + (p2.ss.length + 0)) : Nat) : Int)
        omega
      refine q_asg (v := .int (([p0, p1, p2].map fun p => p.ss.length).sum : Nat)) (by
        rw [← hsum]
        refine ev_sum ?_
        have z := el_lcL (K := K) (σ := [some (V.ref a), some (.ref b), some (.ref lf), some (.ref wl), some (.ref pt), some (.ref mk), some (.ref ol), p7, some (.ref pl), some (.ref bl), some (.ref fl), p11, p12, p13, p14, p15, p16, p17, p18, some dv, some fv, p21]) (H := H5) (a := bl) (xs := ws) (tl := tVar 9) (j := 13) (vs := [13]) (t := tYes) (te := tCB (rLenS K) (tCons (tVar 13) tNil)) (fun _ => true) (fun j => .int ((([p0, p1, p2][j]?).elim 0 fun p : Pr => p.ss.length : Nat) : Int)) (ev_var rfl) (sq_of hb5) (by rw [F.lw]; decide) (fun _ => rfl) (fun _ _ _ _ _ => et_yes) fun j x H1 e hx _ => ?_
        · rw [F.lw] at z
          exact z
        · have hj : j < 3 := by
            have := (List.getElem?_eq_some_iff.mp hx).1
            rw [F.lw] at this
            exact this
          obtain ⟨p, hp⟩ : ∃ p, ([p0, p1, p2] : List Pr)[j]? = some p := ⟨_, List.getElem?_eq_getElem hj⟩
          obtain ⟨bd, xs, rfl, hbd, hX, _⟩ := F.bd H5 x5 j p x hp hx
          rw [hp, show ((some p).elim 0 fun p : Pr => p.ss.length : Nat) = p.ss.length from rfl, ← hX.len]
          exact ev_len (ev_var rfl) (ex_l e hbd)) fun H6 e6 => ?_
      have x6 : LamX.ExtN H H6 := x5.trans (LamX.ExtN.of e6)
      rcases hfv with ⟨f, T, t, T4, hdue, rfl, hT, rfl, hT4, ht⟩ | ⟨hdue, rfl, p, x, rfl, hp, hL⟩
      · refine q_no (et_is (et_and (a := false) (b := false) (et_test (ev_op (x := .ref T) (y := .non) (z := .bl false) (ev_var rfl) ev_c fun H7 e7 Q q => ⟨rfl, q H7 (Ex.refl _)⟩)) (fun z => (nomatch z))) rfl) fun H7 e7 => ?_
        have e57 := e6.trans e7
        refine s_when (b := false) (et_is (et_and (a := true) (b := false) (et_test (ev_op (x := .ref T) (y := .non) (z := .bl true) (ev_var rfl) ev_c fun H8 e8 Q q => ⟨rfl, q H8 (Ex.refl _)⟩)) (fun _ => et_test (fun H8 e8 Q q => ?_))) rfl) (fun z => (nomatch z)) fun _ H8 e8 => ?_
        · refine ⟨_, rfl, _, rfl, sz_of (n := 3) (by decide), fun r hr => ⟨noD f, noD f, ?_, ?_, noD_shaped f, noD_shaped f, ?_⟩⟩
          · have e58 := (e57.trans e8).trans (Ex.new (o := .tup [V.str "no", .str "BadProgram", .ref T]) hr)
            exact noD_dp (e58 _ _ hT4) (e58 _ _ ht)
          · have e58 := (e57.trans e8).trans (Ex.new (o := .tup [V.str "no", .str "BadProgram", .ref T]) hr)
            exact noD_dp upd_same (e58 _ _ hT)
          · rw [noD_eqv]
            exact q _ (Ex.new hr)
        · have e58 := e57.trans e8
          exact k _ _ _ H8 (W.extN (x5.trans (LamX.ExtN.of e58))) (T5.ext e58)
      · have hp6 := e6 _ _ hp
        refine q_no (et_is (et_and (a := true) (b := false) (et_test (ev_op (x := .non) (y := .non) (z := .bl true) (ev_var rfl) ev_c fun H7 e7 Q q => ⟨rfl, q H7 (Ex.refl _)⟩)) (fun _ => et_orF (et_nes (x := "told") (y := "told") (ev_ixT (i := 0) (ev_var rfl) ev_c (st_of hp6) rfl) ev_c (by decide)) (et_is (et_ne (a := .int (([p0, p1, p2].map fun p => p.ss.length).sum : Nat)) (b := .int (([p0, p1, p2].map fun p => p.ss.length).sum : Nat)) (fun H7 e7 Q q => ?_) (ev_var rfl) rfl) (by simp)))) rfl) fun H7 e7 => ?_
        · refine ev_ixT (i := 1) (v := .ref x) (ev_var rfl) ev_c (st_of hp6) (at_of (j := 1) rfl rfl) H7 e7 _ fun H8 e8 => ?_
          have L8 := ((hL.ex e6).ex e7).ex e8
          obtain ⟨dx, fs, c, rs, h1, h2, h3, h4, h5, ls, h6, h7, h8, h9⟩ := L8
          exact ⟨x, dx, fs, rfl, h1, x, _, rfl, ⟨dx, fs, c, rs, h1, h2, h3, h4, h5, ls, h6, h7, h8, h9⟩, fun H9 e9 => ⟨_, rfl, by omega, q H9 (e8.trans e9)⟩⟩
        · have e57 := e6.trans e7
          refine s_when (b := false) (et_is (et_and (a := false) (b := false) (et_test (ev_op (x := .non) (y := .non) (z := .bl false) (ev_var rfl) ev_c fun H8 e8 Q q => ⟨rfl, q H8 (Ex.refl _)⟩)) (fun z => (nomatch z))) rfl) (fun z => (nomatch z)) fun _ H8 e8 => ?_
          have e58 := e57.trans e8
          exact k _ _ _ H8 (W.extN (x5.trans (LamX.ExtN.of e58))) (T5.ext e58)
    have x2 : LamX.ExtN H H2 := LamX.ExtN.of e2
    show tSeq (tAsg (LamX.tLam [(PA, lawQ)] (TTr CB) fun E' => tMake C (spPi K C CK CB) [] E' (tCons (tVar 2) (tCons (tVar 8) tNil))) (gName 20)) (tJ3 K C) D _ H2
    refine q_asgW ?_
    unfold LamX.tLam
    refine ⟨T0.ext e2, fun H3 x3 T3 => ?_⟩
    have x03 := x2.trans x3
    unfold TTr tMake tCons
    refine ⟨.ref lf, rfl, .ref pl, rfl, fun x dx hx hdx hne => ?_⟩
    have em : Ex H3 (upd (upd H3 dx (.own x)) x (.ins C dx [])) := (Ex.new hdx).trans (Ex.new (by rw [upd_ne (Ne.symm hne)]; exact hx))
    have xm : LamX.ExtN H (upd (upd H3 dx (.own x)) x (.ins C dx [])) := x03.trans (LamX.ExtN.of em)
    have em' : ∀ H', (∀ a o, a ≠ x → (upd (upd H3 dx (.own x)) x (.ins C dx [])) a = some o → H' a = some o) → Ex H3 H' := fun H' hk a o h => hk a o (fun z => by rw [z, hx] at h; cases h) (em a o h)
    refine ⟨x, dx, lf, pl, ps, vs, rfl, upd_same, (W.extN xm).kd, sq_of (xm _ _ F.hp (fun _ q => by cases q)), F.lv, F.ok, F.pr _ xm, fun f hf d t H' hd ht hk => ?_, fun hn H4 hk hL => ?_⟩
    · refine ⟨rfl, d, .ref t, rfl, hd, fun T4 H4 n e h => ?_⟩
      have e34 := (em' H' hk).trans e
      refine fin (.ref T4) H4 (x03.trans (LamX.ExtN.of e34)) (T3.ext e34) (.inl ?_)
      rcases hdv with ⟨f', T, h1, rfl, h2⟩ | ⟨h1, _⟩
      · rw [hf] at h1
        cases h1
        exact ⟨f, T, t, T4, hf, rfl, e34 _ _ (x3 _ _ h2 (fun _ q => by cases q)), rfl, h, e _ _ ht⟩
      · rw [hf] at h1
        cases h1
    · refine ⟨rfl, show (2 : Nat) ≤ sizeLine by decide, fun p hp => ?_⟩
      have e34 := (em' H4 hk).trans (Ex.new (o := .tup [V.str "told", .ref x]) hp)
      refine fin (.ref p) _ (x03.trans (LamX.ExtN.of e34)) (T3.ext e34) (.inr ?_)
      rcases hdv with ⟨f', T, h1, rfl, h2⟩ | ⟨_, h1⟩
      · rw [hn] at h1
        cases h1
      · exact ⟨hn, h1, p, x, rfl, upd_same, hL.ex (Ex.new hp)⟩
  show tCall (spDue K) [] E0 _ _ H _
  unfold tCall tCons
  refine ⟨_, rfl, _, rfl, _, rfl, _, rfl, bl, fl, ol, .ref mk, ws, us, os, ps, rfl, sq_of F.hb, sq_of F.hf, sq_of hos, hO, W.ma, F.lp, F.lw, F.lu, F.bd H (LamX.ExtN.refl H), F.fl H (LamX.ExtN.refl H), fun f hf T H2 n e h => ?_, fun hn H2 e => ?_⟩
  · exact rest (.ref T) H2 e (.inl ⟨f, T, hf, rfl, h⟩)
  · exact rest .non H2 e (.inr ⟨hn, rfl⟩)
end
end Cp

namespace Cp
open PySem PySem.Spec PyProof.Rows L2 Evl GN GZ GF GH
def Nlw : List Str := ["_law_script", "_law_bag_here", "_law_leaf", "_law_words", "_law_put", "_law_mark", "_law_odds", "_law_turn", "_law_procs", "_law_bodies", "_law_flags", "_law_at", "_law_flag", "_law_body", "_law_k", "_law_x", "_law_y", "_law_word", "_law_head", "_law_due_here", "_law_found", "_law_many"]
theorem sc_lw : FnScope Nlw ["_law_script"] (defScope (top 58)) := ⟨rfl, rfl, rfl, by decide +kernel, rfl, by decide +kernel, by decide +kernel⟩
def spLaw (K : PySem.W.Frag) (PA : Addr) : Sp := fun vs H Q _ => ∃ (a : Addr) (ns : List Int), vs = [.ref a] ∧ SqL K H a (ns.map V.int) ∧ ns.length ≤ 63 ∧ H PA = some (.tbl #[]) ∧ ∀ H2, Q (.bl true) H2
theorem Tabs_but {T : List (Addr × Str)} {H H' : Hp} {b : Addr} {xs : List V} (t : LamX.Tabs T H) (hb : H b = some (.lst xs)) (x : But b H H') : LamX.Tabs T H' := fun p hp => by
  obtain ⟨ps, h1, h2, h3⟩ := t p hp
  refine ⟨ps, x _ _ (fun z => by rw [z, hb] at h1; cases h1) h1, h2, fun pos cv hc => ?_⟩
  obtain ⟨c, e1, e2⟩ := h3 pos cv hc
  exact ⟨c, e1, x _ _ (fun z => by rw [z, hb] at e2; cases e2) e2⟩
/-- what the law needs -/
structure LawP (P : Program) (w : World) (K : PySem.W.Frag) (mg : Str → Option Value) (base : Heap) (C CK CB cA PA : Addr) where
  TB : LamX.TabB base mg cA PA
  BAG : Cal P w K mg base "_law_bag" 1 ["_law_script"] (spBag K)
  TK : Cal P w K mg base "_law_take" 1 ["_law_bag_here", "_law_many"] (spTake K)
  PK : Cal P w K mg base "_law_pick" 2 ["_law_bag_here", "_law_some"] (spPick K)
  DU : Cal P w K mg base "_law_due" 2 ["_law_bodies", "_law_flags", "_law_odds", "_law_mark"] (spDue K)
  fT : Addr
  ocT : Value
  odT : Option Addr
  oslT : Array (Option Value)
  dVT : Value
  kVT : Value
  docT : Value
  pmT : Value
  anT : Option Addr
  cdT : Value
  ctT : Value
  lkT : K.lookup fT = some ⟨ocT, odT, .func (PySem.W.fnOf "_law_tried" "_law_tried" (defArgs (top 54)) (defBody (top 54)) (defScope (top 54)) dVT kVT docT pmT anT cdT ctT), oslT⟩
  hcT : PySem.W.codeIn K cdT "_law_tried" = true
  gT : mg "_law_tried" = some (.ref fT)
  kT : PySem.W.keepIn K (.ref fT) = true
  bT : Binds K (PySem.W.fnOf "_law_tried" "_law_tried" (defArgs (top 54)) (defBody (top 54)) (defScope (top 54)) dVT kVT docT pmT anT cdT ctT) ["_law_ask"] []
  cs : List Value
  m11 : Mg11 mg cs
  ms : Ms K (.ref CB) cs
  fF : Addr
  fdF : FuncData
  FF : FnE P w K mg base 1 fF fdF ["_law_e"] (spFlds CB)
  gF : mg "_law_fields" = some (.ref fF)
  kF : PySem.W.keepIn K (.ref fF) = true
  bF : Binds K fdF ["_law_e"] []
  fK : Addr
  fdK : FuncData
  MK : Mk K CK fK
  KI : FnOk P w K mg base CX0 3 fK fdK ["self", "rows"] (spKi K CK)
  bK : Binds K fdK ["self", "rows"] []
  gK : mg "Kinds" = some (.ref CK)
  fP : Addr
  fdP : FuncData
  MP : Mk K C fP
  PI : FnOk P w K mg base (CX P w) 8 fP fdP ["self", "kinds", "procedures"] (spPi K C CK CB)
  bP : Binds K fdP ["self", "kinds", "procedures"] []
  gP : mg "Program" = some (.ref C)
  fL : Addr
  fdL : FuncData
  LS : PySem.W.findIn K (.ref C) "__len__" = some (some (.ref fL))
  LF : PySem.W.isFn K (.ref fL) = true
  LN : FnOk P w K mg base CX0 1 fL fdL ["self"] (spLn C)
  bL : Binds K fdL ["self"] []
  gL : mg "len" = none
  gR : mg "range" = none
  gM : mg "max" = none
  gS : mg "sum" = none
  gI : mg "list" = none
section
variable {P : Program} {w : World} {K : PySem.W.Frag} {mg : Str → Option Value} {base : Heap} {f : Addr} {C CK CB cA PA : Addr} {oc dV kV doc pm ct : Value} {od an : Option Addr} {osl : Array (Option Value)}
theorem ok_law (lk : K.lookup f = some ⟨oc, od, .func (PySem.W.fnOf "law" "law" (defArgs (top 58)) (defBody (top 58)) (defScope (top 58)) dV kV doc pm an (.ref cA) ct), osl⟩) (hcd : PySem.W.codeIn K (.ref cA) "law" = true) (L : LawP P w K mg base C CK CB cA PA) :
    FnOk P w K mg base CX0 12 f (PySem.W.fnOf "law" "law" (defArgs (top 58)) (defBody (top 58)) (defScope (top 58)) dV kV doc pm an (.ref cA) ct) ["_law_script"] (spLaw K PA) := by
  refine fn_of (k := 11) (N := Nlw) lk hcd sc_lw (fun vs H Q E h => ?_) (fun A outer s H vs Q E hr h => ?_)
  · obtain ⟨a, ns, rfl, _⟩ := h
    rfl
  · have hrm := fun j (h : j ≤ 11) => hr.mono (j := j) h
    obtain ⟨a, ns, rfl, ha, hn, hPA, k⟩ := h
    refine ⟨_, pss_cons (by
        exact ps_asg (pe_call L.BAG.G (hrm 1 (by decide)) (by rfl) L.BAG.g L.BAG.k L.BAG.b .nil pass0 (pa_cons (pv 0) pa_nil)) (pg_name (i := 1) sc_lw.nd rfl (Or.inr rfl))) <| pss_cons (by
        exact ps_asg (pe_tup (pa_cons (pe_make L.MK L.KI (hrm 4 (by decide)) (by rfl) L.gK L.bK .nil pass0 (pa_cons (pe_lst (pa_cons (pe_tup (pa_cons pe_str (pa_cons (pe_lst (pa_cons (pe_tup (pa_cons pe_str (pa_cons pe_non pa_nil))) pa_nil)) pa_nil))) pa_nil)) pa_nil)) (pa_cons (pe_lst (pa_cons pe_str (pa_cons pe_str (pa_cons pe_str pa_nil)))) pa_nil))) (pg_tup rfl (pgs_cons (pg_name (i := 2) sc_lw.nd rfl (Or.inr rfl)) (pgs_cons (pg_name (i := 3) sc_lw.nd rfl (Or.inl rfl)) pgs_nil)))) <| pss_cons (by
        exact ps_asg (pe_tup (pa_cons (pe_tup (pa_cons pe_str (pa_cons (pe_tup (pa_cons pe_str (pa_cons pe_str pa_nil))) pa_nil))) (pa_cons (pe_tup (pa_cons pe_str (pa_cons (pe_tup (pa_cons pe_str pa_nil)) (pa_cons (pe_tup (pa_cons pe_str pa_nil)) (pa_cons pe_bl pa_nil))))) pa_nil))) (pg_tup rfl (pgs_cons (pg_name (i := 4) sc_lw.nd rfl (Or.inl rfl)) (pgs_cons (pg_name (i := 5) sc_lw.nd rfl (Or.inl rfl)) pgs_nil)))) <| pss_cons (by
        exact ps_asg (pe_lst (pa_cons (pe_tup (pa_cons pe_str (pa_cons (pe_tup (pa_cons pe_str pa_nil)) pa_nil))) (pa_cons (pe_tup (pa_cons pe_str pa_nil)) (pa_cons (pe_tup (pa_cons pe_str (pa_cons (pe_tup (pa_cons pe_str pa_nil)) pa_nil))) (pa_cons (pe_tup (pa_cons pe_str (pa_cons (pe_tup (pa_cons pe_str pa_nil)) pa_nil))) pa_nil))))) (pg_name (i := 6) sc_lw.nd rfl (Or.inl rfl))) <| pss_cons (by
        refine ps_for (passes_of rfl) rfl (pi_range1 (by rfl) L.gR (pa_cons pe_int pa_nil)) (pg_name (i := 7) sc_lw.nd rfl (Or.inl rfl)) (pss_cons (by
          exact ps_asg (pe_tup (pa_cons (pe_lst pa_nil) (pa_cons (pe_lst pa_nil) (pa_cons (pe_lst pa_nil) pa_nil)))) (pg_tup rfl (pgs_cons (pg_name (i := 8) sc_lw.nd rfl (Or.inr rfl)) (pgs_cons (pg_name (i := 9) sc_lw.nd rfl (Or.inl rfl)) (pgs_cons (pg_name (i := 10) sc_lw.nd rfl (Or.inl rfl)) pgs_nil))))) <| pss_cons (by
          refine ps_for (passes_of rfl) rfl (pi_range1 (by rfl) L.gR (pa_cons pe_int pa_nil)) (pg_name (i := 11) sc_lw.nd rfl (Or.inl rfl)) (pss_cons (by
            exact ps_par (i := 12) (j := 13) rfl sc_lw.nd rfl rfl (by decide) rfl rfl (pa_cons (by
              exact pe_lc (own := [("_law_k", 14)]) (g := gName 14) (tt := tYes) (te := tOp (rEq) (tCall (spTake K) [] E0 (tCons (tVar 1) (tCons (tC (.int 6)) tNil))) (tC (.int 0))) rfl sc_lw.nd (pi_range1 (by rfl) L.gR (pa_cons pe_int pa_nil)) (blkOk_by (by kernel_rfl)) (fun _ _ _ _ _ => pg_name (i := 14) sc_lw.nd rfl (Or.inl rfl)) (fun _ _ _ _ _ => pts_nil) (fun _ _ _ _ _ => by exact pe_cmpR op_eq (pe_call L.TK.G (hrm 1 (by decide)) (by rfl) L.TK.g L.TK.k L.TK.b .nil pass0 (pa_cons (pv 1) (pa_cons pe_int pa_nil))) pe_int (nomark _))) (pa_cons (by
              exact pe_op op_rep (pe_lst (pa_cons (pv 4) pa_nil)) (pe_call L.TK.G (hrm 1 (by decide)) (by rfl) L.TK.g L.TK.k L.TK.b .nil pass0 (pa_cons (pv 1) (pa_cons pe_int pa_nil)))) pa_nil)) rfl) <| pss_cons (by
            exact ps_if (pt_val (pe_ix ix_list (pv 12) pe_int (fun _ _ => rfl)) (by intro _; rfl)) (pss_one (by
              exact ps_asg (pe_op op_cat (pv 13) (pe_lst (pa_cons (pe_tup (pa_cons pe_str (pa_cons (pe_tup (pa_cons pe_str pa_nil)) (pa_cons (pe_ix ix_list (pv 3) (pe_callB (call_max2 rfl) (by rfl) L.gM boot_max (pa_cons pe_int (pa_cons (pv 11) pa_nil))) (fun _ _ => rfl)) (pa_cons (pe_tup (pa_cons (pe_tup (pa_cons (pe_tup (pa_cons pe_str pa_nil)) (pa_cons pe_bl pa_nil))) pa_nil)) pa_nil))))) pa_nil))) (pg_name (i := 13) sc_lw.nd rfl (Or.inl rfl)))) pss_nil) <| pss_cons (by
            exact ps_if (pt_val (pe_ix ix_list (pv 12) pe_int (fun _ _ => rfl)) (by intro _; rfl)) (pss_one (by
              exact ps_asg (pe_op op_cat (pv 13) (pe_lst (pa_cons (pv 5) (pa_cons (pv 4) pa_nil)))) (pg_name (i := 13) sc_lw.nd rfl (Or.inl rfl)))) pss_nil) <| pss_cons (by
            refine ps_for (passes_of rfl) rfl (pi_range1 (by rfl) L.gR (pa_cons (by
              exact pe_ifExp (pt_val (pe_ix ix_list (pv 12) pe_int (fun _ _ => rfl)) (by intro _; rfl)) (pe_op op_add pe_int (pe_call L.TK.G (hrm 1 (by decide)) (by rfl) L.TK.g L.TK.k L.TK.b .nil pass0 (pa_cons (pv 1) (pa_cons pe_int pa_nil)))) pe_int) pa_nil)) (pg_name (i := 14) sc_lw.nd rfl (Or.inl rfl)) (pss_one (by
              exact ps_expr (pe_bm PySem.F.plainAttrs_list PySem.F.slot_list_insert PySem.F.type_list_insert mt_insert (pv 13) (pa_cons (pe_call L.TK.G (hrm 1 (by decide)) (by rfl) L.TK.g L.TK.k L.TK.b .nil pass0 (pa_cons (pv 1) (pa_cons (pe_op op_add (pe_callB call_len_seq (by rfl) L.gL PySem.boot_len (pa_cons (pv 13) pa_nil)) pe_int) pa_nil))) (pa_cons (pe_call L.PK.G (hrm 2 (by decide)) (by rfl) L.PK.g L.PK.k L.PK.b .nil pass0 (pa_cons (pv 1) (pa_cons (pv 6) pa_nil))) pa_nil)))))) <| pss_cons (by
            exact ps_asg (pe_op op_cat (pv 13) (pe_op op_rep (pe_lst (pa_cons (pv 4) pa_nil)) (pe_ifExp (pt_val (pe_ix ix_list (pv 12) pe_int (fun _ _ => rfl)) (by intro _; rfl)) pe_int pe_int))) (pg_name (i := 13) sc_lw.nd rfl (Or.inl rfl))) <| pss_cons (by
            exact ps_par3 (i := 15) (j := 16) (l := 17) rfl sc_lw.nd rfl rfl rfl (by decide) (by decide) (by decide) rfl rfl rfl (pa_cons (pe_tup (pa_cons pe_str (pa_cons pe_str pa_nil))) (pa_cons (pe_tup (pa_cons pe_str (pa_cons pe_str pa_nil))) (pa_cons (pe_ifExp (pt_val (pe_ix ix_list (pv 12) pe_int (fun _ _ => rfl)) (by intro _; rfl)) pe_str (pe_ix ix_list (pv 3) (pv 11) (fun _ _ => rfl))) pa_nil))) rfl) <| pss_cons (by
            exact ps_asg (pe_ifExp (pt_cmpR op_eq (pv 11) pe_int (nomark _)) (pe_tup (pa_cons (pe_tup pa_nil) (pa_cons (pe_tup (pa_cons (pv 15) (pa_cons (pv 16) pa_nil))) (pa_cons pe_non pa_nil)))) (pe_tup (pa_cons (pe_tup (pa_cons (pv 15) pa_nil)) (pa_cons (pe_tup (pa_cons (pv 16) pa_nil)) (pa_cons pe_str pa_nil))))) (pg_name (i := 18) sc_lw.nd rfl (Or.inl rfl))) <| pss_cons (by
            exact ps_expr (pe_bm PySem.F.plainAttrs_list PySem.F.slot_list_append PySem.F.type_list_append mt_append (pv 8) (pa_cons (pe_op op_catT (pe_op op_catT (pe_tup (pa_cons (pv 17) pa_nil)) (pv 18)) (pe_tup (pa_cons (pv 13) pa_nil))) pa_nil))) <| pss_cons (by
            exact ps_expr (pe_bm PySem.F.plainAttrs_list PySem.F.slot_list_append PySem.F.type_list_append mt_append (pv 9) (pa_cons (pe_callTy call_list_of (by rfl) L.gI boot_list (pa_cons (pv 13) pa_nil)) pa_nil))) <| pss_one (by
            exact ps_expr (pe_bm PySem.F.plainAttrs_list PySem.F.slot_list_append PySem.F.type_list_append mt_append (pv 10) (pa_cons (pv 12) pa_nil))))) <| pss_cons (by
          exact ps_asg (pe_call L.DU.G (hrm 2 (by decide)) (by rfl) L.DU.g L.DU.k L.DU.b .nil pass0 (pa_cons (pv 9) (pa_cons (pv 10) (pa_cons (pv 6) (pa_cons (pv 5) pa_nil))))) (pg_name (i := 19) sc_lw.nd rfl (Or.inl rfl))) <| pss_cons (by
          exact ps_asg (LamX.pe_lamcall (T := [(PA, lawQ)]) (TT := TTr CB) (k := 9) (t := fun E' => tMake C (spPi K C CK CB) [] E' (tCons (tVar 2) (tCons (tVar 8) tNil))) (by rfl) L.gT L.kT L.lkT L.hcT L.bT sc_tr rfl (Or.inl rfl) (tr_gives hr L.m11 L.ms L.FF L.gF L.kF L.bF) L.TB rfl List.mem_cons_self (fun p hp _ => by
            obtain rfl := List.mem_singleton.mp hp
            rfl) hr (LamX.lamS_by (by kernel_rfl)) rfl (fun _ _ _ _ _ => rfl) (fun A' outer' s' H' E' f' c' hr' => by
              exact pe_make L.MP L.PI hr' (by rfl) L.gP L.bP .nil (passes_call (takes_of rfl rfl rfl rfl) fun _ _ _ _ h => h) (pa_cons (pv 2) (pa_cons (pv 8) pa_nil)))) (pg_name (i := 20) sc_lw.nd rfl (Or.inl rfl))) <| pss_cons (by
          exact ps_asg (pe_callB (cr_sum rfl) (by rfl) L.gS boot_sum (pa_cons (by
            exact pe_lc (own := [("_law_body", 13)]) (g := gName 13) (tt := tYes) (te := tCB (rLenS K) (tCons (tVar 13) tNil)) rfl sc_lw.nd (pi_list (pv 9)) (blkOk_by (by kernel_rfl)) (fun _ _ _ _ _ => pg_name (i := 13) sc_lw.nd rfl (Or.inl rfl)) (fun _ _ _ _ _ => pts_nil) (fun _ _ _ _ _ => by exact pe_callB call_len_seq (by rfl) L.gL PySem.boot_len (pa_cons (pv 13) pa_nil))) pa_nil)) (pg_name (i := 21) sc_lw.nd rfl (Or.inl rfl))) <| pss_cons (by
          exact ps_if (PW.pt (pw_and (pt_cmpR op_isN (pv 19) pe_non (nomark _)) (pw_and1 (PW.pt (pw_or (by
            exact pt_cmpR op_ne (pe_ix ix_tup (pv 20) pe_int (fun _ _ => rfl)) pe_str (nomark _)) (pw_or1 (by
            exact pt_cmpR op_ne (pe_callB (call_lenOwn L.LS L.LF L.LN (hrm 2 (by decide)) L.bL pass0) (by rfl) L.gL PySem.boot_len (pa_cons (pe_ix ix_tup (pv 20) pe_int (fun _ _ => rfl)) pa_nil)) (pv 21) (by rfl)))))))) (pss_one (ps_ret pe_bl)) pss_nil) <| pss_one (by
          exact ps_if (PW.pt (pw_and (pt_cmpR op_notN (pv 19) pe_non (nomark _)) (pw_and1 (by
            exact pt_cmpR (op_neD (hrm 0 (by decide)).units) (pv 20) (pe_tup (pa_cons pe_str (pa_cons pe_str (pa_cons (pv 19) pa_nil)))) (nomark _))))) (pss_one (ps_ret pe_bl)) pss_nil))) <| pss_one (by
        exact ps_ret pe_bl), ?_⟩
    refine q_asgW ?_
    refine ⟨_, rfl, a, ns, rfl, ha, hn, fun b l H1 nb e1 bag1 => ?_⟩
    have hPA1 := e1 _ _ hPA
    refine q_asgW ?_
    refine ⟨sz_of (n := 2) (by decide), fun p hp => ⟨sz_of (n := 1) (by decide), fun fl hfl => ⟨sz_of (n := 2) (by decide), fun t ht => ⟨sz_of (n := 1) (by decide), fun r hr' x dx hx hdx hne => ?_⟩⟩⟩⟩
    have a1 := Ex.new (o := .tup [V.str "n", .non]) hp
    have a2 := Ex.new (o := .lst [V.ref p]) hfl
    have a3 := Ex.new (o := .tup [V.str "leaf", .ref fl]) ht
    have a4 := Ex.new (o := .lst [V.ref t]) hr'
    have a5 := (Ex.new (o := .own x) hdx).trans (Ex.new (o := .ins CK dx []) (by rw [upd_ne (Ne.symm hne)]; exact hx))
    refine ⟨x, dx, r, t, fl, p, rfl, upd_same, sq_of (a5 _ _ upd_same), st_of ((a4.trans a5) _ _ upd_same), sq_of (((a3.trans a4).trans a5) _ _ upd_same), st_of ((((a2.trans a3).trans a4).trans a5) _ _ upd_same), fun H2 hK hk => ?_⟩
    have e12 : Ex H1 H2 := fun y o h => by
      have h4 := (((a1.trans a2).trans a3).trans a4) _ _ h
      exact hk y o (fun z => by rw [z, hx] at h4; cases h4) (a5 _ _ h4)
    refine ⟨rfl, sz_of (n := 3) (by decide), fun wl hwl => ⟨sz_of (n := 2) (by decide), fun T hT => ?_⟩⟩
    have a6 := Ex.new (o := .lst [V.str "main", .str "f", .str "g"]) hwl
    have a7 := Ex.new (o := .tup [V.ref x, .ref wl]) hT
    have hwl3 := a7 _ _ (upd_same (H := H2) (a := wl) (o := .lst [V.str "main", .str "f", .str "g"]))
    refine g_two (K := K) (st_of upd_same) ?_
    have e13 := (e12.trans a6).trans a7
    have hK3 := hK.ex (a6.trans a7)
    generalize upd (upd H2 wl (.lst [V.str "main", .str "f", .str "g"])) T (.tup [V.ref x, .ref wl]) = H3 at e13 hK3 hwl3 ⊢
    refine q_asgW ?_
    refine ⟨sz_of (n := 2) (by decide), fun q hq => ⟨sz_of (n := 2) (by decide), fun pt hpt => ⟨sz_of (n := 1) (by decide), fun yy hyy => ⟨sz_of (n := 1) (by decide), fun xx hxx => ⟨sz_of (n := 4) (by decide), fun mk hmk => ⟨sz_of (n := 2) (by decide), fun T2 hT2 => ?_⟩⟩⟩⟩⟩⟩
    have c1 := Ex.new (o := .tup [V.str "x", .str "n"]) hq
    have c2 := Ex.new (o := .tup [V.str "put", .ref q]) hpt
    have c3 := Ex.new (o := .tup [V.str "y"]) hyy
    have c4 := Ex.new (o := .tup [V.str "x"]) hxx
    have c5 := Ex.new (o := .tup [V.str "copy", .ref yy, .ref xx, .bl true]) hmk
    have c6 := Ex.new (o := .tup [V.ref pt, .ref mk]) hT2
    refine g_two (K := K) (st_of upd_same) ?_
    have pu : IsS K (upd (upd (upd (upd (upd (upd H3 q (.tup [V.str "x", .str "n"])) pt (.tup [V.str "put", .ref q])) yy (.tup [V.str "y"])) xx (.tup [V.str "x"])) mk (.tup [V.str "copy", .ref yy, .ref xx, .bl true])) T2 (.tup [V.ref pt, .ref mk])) .P (.ref pt) := ⟨pt, q, rfl, st_of ((((c3.trans c4).trans c5).trans c6) _ _ upd_same), st_of (((((c2.trans c3).trans c4).trans c5).trans c6) _ _ upd_same)⟩
    have ma : IsS K (upd (upd (upd (upd (upd (upd H3 q (.tup [V.str "x", .str "n"])) pt (.tup [V.str "put", .ref q])) yy (.tup [V.str "y"])) xx (.tup [V.str "x"])) mk (.tup [V.str "copy", .ref yy, .ref xx, .bl true])) T2 (.tup [V.ref pt, .ref mk])) .M (.ref mk) := ⟨mk, yy, xx, rfl, st_of (c6 _ _ upd_same), st_of (((c4.trans c5).trans c6) _ _ upd_same), st_of ((c5.trans c6) _ _ upd_same)⟩
    have e34 := ((((c1.trans c2).trans c3).trans c4).trans c5).trans c6
    generalize upd (upd (upd (upd (upd (upd H3 q (.tup [V.str "x", .str "n"])) pt (.tup [V.str "put", .ref q])) yy (.tup [V.str "y"])) xx (.tup [V.str "x"])) mk (.tup [V.str "copy", .ref yy, .ref xx, .bl true])) T2 (.tup [V.ref pt, .ref mk]) = H4 at pu ma e34 ⊢
    refine q_asgW ?_
    refine ⟨sz_of (n := 1) (by decide), fun u0 hu0 => ⟨sz_of (n := 2) (by decide), fun o0 ho0 => ⟨sz_of (n := 1) (by decide), fun o1 ho1 => ⟨sz_of (n := 1) (by decide), fun u2 hu2 => ⟨sz_of (n := 2) (by decide), fun o2 ho2 => ⟨sz_of (n := 1) (by decide), fun u3 hu3 => ⟨sz_of (n := 2) (by decide), fun o3 ho3 => ⟨sz_of (n := 4) (by decide), fun ol hol => ?_⟩⟩⟩⟩⟩⟩⟩⟩
    have d1 := Ex.new (o := .tup [V.str "x"]) hu0
    have d2 := Ex.new (o := .tup [V.str "put", .ref u0]) ho0
    have d3 := Ex.new (o := .tup [V.str "put"]) ho1
    have d4 := Ex.new (o := .tup [V.str "x"]) hu2
    have d5 := Ex.new (o := .tup [V.str "sing", .ref u2]) ho2
    have d6 := Ex.new (o := .tup [V.str "zz"]) hu3
    have d7 := Ex.new (o := .tup [V.str "new", .ref u3]) ho3
    have d8 := Ex.new (o := .lst [V.ref o0, .ref o1, .ref o2, .ref o3]) hol
    have e45 := ((((((d1.trans d2).trans d3).trans d4).trans d5).trans d6).trans d7).trans d8
    have od : IsB K (upd (upd (upd (upd (upd (upd (upd (upd H4 u0 (.tup [V.str "x"])) o0 (.tup [V.str "put", .ref u0])) o1 (.tup [V.str "put"])) u2 (.tup [V.str "x"])) o2 (.tup [V.str "sing", .ref u2])) u3 (.tup [V.str "zz"])) o3 (.tup [V.str "new", .ref u3])) ol (.lst [V.ref o0, .ref o1, .ref o2, .ref o3])) [.O0, .O1, .O2, .O3] [V.ref o0, .ref o1, .ref o2, .ref o3] :=
      ⟨_, _, rfl, ⟨o0, u0, rfl, st_of ((((((d3.trans d4).trans d5).trans d6).trans d7).trans d8) _ _ upd_same), st_of (((((((d2.trans d3).trans d4).trans d5).trans d6).trans d7).trans d8) _ _ upd_same)⟩,
        _, _, rfl, ⟨o1, rfl, st_of (((((d4.trans d5).trans d6).trans d7).trans d8) _ _ upd_same)⟩,
        _, _, rfl, ⟨o2, u2, rfl, st_of (((d6.trans d7).trans d8) _ _ upd_same), st_of ((((d5.trans d6).trans d7).trans d8) _ _ upd_same)⟩,
        _, _, rfl, ⟨o3, u3, rfl, st_of (d8 _ _ upd_same), st_of ((d7.trans d8) _ _ upd_same)⟩, rfl⟩
    have hol5 : (upd (upd (upd (upd (upd (upd (upd (upd H4 u0 (.tup [V.str "x"])) o0 (.tup [V.str "put", .ref u0])) o1 (.tup [V.str "put"])) u2 (.tup [V.str "x"])) o2 (.tup [V.str "sing", .ref u2])) u3 (.tup [V.str "zz"])) o3 (.tup [V.str "new", .ref u3])) ol (.lst [V.ref o0, .ref o1, .ref o2, .ref o3])) ol = some (.lst [V.ref o0, .ref o1, .ref o2, .ref o3]) := upd_same
    generalize upd (upd (upd (upd (upd (upd (upd (upd H4 u0 (.tup [V.str "x"])) o0 (.tup [V.str "put", .ref u0])) o1 (.tup [V.str "put"])) u2 (.tup [V.str "x"])) o2 (.tup [V.str "sing", .ref u2])) u3 (.tup [V.str "zz"])) o3 (.tup [V.str "new", .ref u3])) ol (.lst [V.ref o0, .ref o1, .ref o2, .ref o3]) = H5 at e45 od hol5 ⊢
    have e15 := (e13.trans e34).trans e45
    have W5 : Wd K CK H5 b l x wl pt mk ol := ⟨bag1.ex e15, hK3.ex (e34.trans e45), (e34.trans e45) _ _ hwl3, pu.ex e45, ma.ex e45, _, hol5, od⟩
    have T5 : LamX.Tabs [(PA, lawQ)] H5 := fun pr hpr => by
      obtain rfl := List.mem_singleton.mp hpr
      exact LamX.TabS.nil (e15 _ _ hPA1)
    refine q_forR1 (n := 6) (ea_cons ev_c ea_nil) ⟨by decide, by decide⟩ (fun _ σ' H' => ∃ p7 p8 p9 p10 p11 p12 p13 p14 p15 p16 p17 p18 p19 p20 p21, σ' = [some (V.ref a), some (.ref b), some (.ref x), some (.ref wl), some (.ref pt), some (.ref mk), some (.ref ol), p7, p8, p9, p10, p11, p12, p13, p14, p15, p16, p17, p18, p19, p20, p21] ∧ Wd K CK H' b l x wl pt mk ol ∧ LamX.Tabs [(PA, lawQ)] H')
      (fun H6 e6 => ⟨_, _, _, _, _, _, _, _, _, _, _, _, _, _, _, rfl, W5.but (ex_but e6) (W5.bag.ex e6), T5.ext e6⟩) ?_ fun σ' H' _ => s_ret (v := .bl true) ev_c fun H6 _ => k H6
    rintro i σ' H0 hi ⟨p7, p8, p9, p10, p11, p12, p13, p14, p15, p16, p17, p18, p19, p20, p21, rfl, W, T0⟩
    refine q_asgW ?_
    refine ⟨sz_of (n := 0) (by decide), fun pl hpl => ⟨sz_of (n := 0) (by decide), fun bl hbl => ⟨sz_of (n := 0) (by decide), fun fl hfl => ⟨sz_of (n := 3) (by decide), fun T hT => ?_⟩⟩⟩⟩
    have g1 := Ex.new (o := .lst []) hpl
    have g2 := Ex.new (o := .lst []) hbl
    have g3 := Ex.new (o := .lst []) hfl
    have g4 := Ex.new (o := .tup [V.ref pl, .ref bl, .ref fl]) hT
    have nbl : H0 bl = none := fresh_back g1 hbl
    have nfl : H0 fl = none := fresh_back (g1.trans g2) hfl
    have dpb : pl ≠ bl := fun z => by rw [← z, upd_same] at hbl; cases hbl
    have dbf : bl ≠ fl := fun z => by rw [← z, upd_same] at hfl; cases hfl
    have dpf : pl ≠ fl := fun z => by rw [← z, g2 _ _ upd_same] at hfl; cases hfl
    have e04 := ((g1.trans g2).trans g3).trans g4
    have M0 : Mid K H0 b l pl bl fl 0 [] [] [] [] (upd (upd (upd (upd H0 pl (.lst [])) bl (.lst [])) fl (.lst [])) T (.tup [V.ref pl, .ref bl, .ref fl])) := ⟨W.bag, hpl, nbl, nfl, dpb, dpf, dbf, ex_but e04, W.bag.ex e04, ((g2.trans g3).trans g4) _ _ upd_same, (g3.trans g4) _ _ upd_same, g4 _ _ upd_same, rfl, rfl, rfl, rfl, fun j p v w u h => by simp at h⟩
    refine ⟨T, _, rfl, st_of upd_same, rfl, .ref pl, _, rfl, .ref bl, _, rfl, .ref fl, _, rfl, rfl, ?_⟩
    generalize upd (upd (upd (upd H0 pl (.lst [])) bl (.lst [])) fl (.lst [])) T (.tup [V.ref pl, .ref bl, .ref fl]) = H6 at M0 ⊢
    obtain ⟨xb, hbx, _⟩ := W.bag.lst
    refine q_forR1 (n := 3) (ea_cons ev_c ea_nil) ⟨by decide, by decide⟩ (fun j σ' H' => ∃ q11 q12 q13 q14 q15 q16 q17 q18 ps vs ws us, σ' = [some (V.ref a), some (.ref b), some (.ref x), some (.ref wl), some (.ref pt), some (.ref mk), some (.ref ol), some (.int (i : Nat)), some (.ref pl), some (.ref bl), some (.ref fl), q11, q12, q13, q14, q15, q16, q17, q18, p19, p20, p21] ∧ Mid K H0 b l pl bl fl j ps vs ws us H')
      (fun H7 e7 => ⟨p11, p12, p13, p14, p15, p16, p17, p18, [], [], [], [], rfl, M0.b0, M0.np, M0.nb, M0.nf, M0.dpb, M0.dpf, M0.dbf, M0.bt.ex e7, M0.bag.ex e7, e7 _ _ M0.hp, e7 _ _ M0.hb, e7 _ _ M0.hf, rfl, rfl, rfl, rfl, fun j p v w u h => by simp at h⟩) ?_ ?_
    · rintro j σ' H' hj ⟨q11, q12, q13, q14, q15, q16, q17, q18, ps, vs, ws, us, rfl, M⟩
      show tT1 K _ _ H'
      exact s_turn (by omega) (W.but M.bt M.bag) M fun r11 r12 r13 r14 r15 r16 r17 r18 H8 p v w u M8 => ⟨r11, r12, r13, r14, r15, r16, r17, r18, _, _, _, _, rfl, M8⟩
    · rintro σ' H' ⟨q11, q12, q13, q14, q15, q16, q17, q18, ps, vs, ws, us, rfl, M⟩
      show tJ1 K C CK CB PA _ _ H'
      exact s_judge (W.but M.bt M.bag) M.fin (Tabs_but T0 hbx M.bt) fun r19 r20 r21 H8 W8 T8 => ⟨_, _, _, _, _, _, _, _, _, _, _, _, _, _, _, rfl, W8, T8⟩
end
end Cp

/-! What the head gives; the law's contract from it. -/
namespace Cp
open PySem PySem.Spec PyProof.Rows L2 He GH
abbrev dT (x : Str) (i : Nat) : DefD := ⟨(x, none), x, x, defArgs (top i), defBody (top i), defScope (top i), [], []⟩
abbrev dM (c m q : Str) (i j : Nat) : DefD := ⟨(c, some m), m, q, defArgs (inClass (top i) j), defBody (inClass (top i) j), defScope (inClass (top i) j), [], []⟩
def fnL : List DefD := [dT "bodies_of" 3, dT "count_in" 4, dT "nesting_of" 5, dT "numbered" 6, dT "laid" 7, dT "rows_of" 8, dT "sources_of" 9, ⟨("uses_of", none), "uses_of", "uses_of", defArgs (top 10), defBody (top 10), defScope (top 10), [.int (-1)], []⟩, dT "first_use" 11, dT "way_to_reading" 12, dT "comes_to_end" 13, dT "returning" 14, dT "is_word" 38, dT "plain_statement" 47, dT "plain_body" 48, dT "_law_bag" 51, dT "_law_take" 52, dT "_law_pick" 53, dT "_law_tried" 54, dT "_law_fields" 55, dT "_law_first_of" 56, dT "_law_due" 57, dT "law" 58, dM "BadProgram" "__init__" "BadProgram.__init__" 19 0, dM "Kinds" "__init__" "Kinds.__init__" 39 0, dM "Kinds" "__contains__" "Kinds.__contains__" 39 4, dM "Kinds" "may_follow" "Kinds.may_follow" 39 5, dM "Kinds" "place_of" "Kinds.place_of" 39 9, dM "Kinds" "kind_at" "Kinds.kind_at" 39 10, dM "Program" "__init__" "Program.__init__" 49 0, dM "Program" "check_ends" "Program.check_ends" 49 1, dM "Program" "__len__" "Program.__len__" 49 3, dM "Program" "head_fits" "Program.head_fits" 49 5, dM "Program" "kinds_in" "Program.kinds_in" 49 6, dM "Program" "path_kind" "Program.path_kind" 49 7, dM "Program" "statement_fits" "Program.statement_fits" 49 8, dM "Program" "source_fits" "Program.source_fits" 49 9, dM "Program" "call_fits" "Program.call_fits" 49 10]
def faL : List Fa := [.free "len", .free "range", .free "max", .free "sum", .free "list", .free "all", .free "set", .free "tuple", .free "zip", .free "enumerate", .free "isinstance", .free "dict", .free "int", .int "KINDS" 4, .int "FIELDS" 3, .int "SIZE" 8, .int "PROCEDURES" 4, .int "NAMES" 4, .int "STATEMENTS" 14, .int "NESTING" 3, .str "LETTERS" lowL, .str "NUMBER" "#", .glo "bodies_of", .glo "count_in", .glo "nesting_of", .glo "numbered", .glo "laid", .glo "rows_of", .glo "sources_of", .glo "uses_of", .glo "first_use", .glo "way_to_reading", .glo "comes_to_end", .glo "returning", .glo "is_word", .glo "plain_statement", .glo "plain_body", .glo "_law_bag", .glo "_law_take", .glo "_law_pick", .glo "_law_tried", .glo "_law_fields", .glo "_law_first_of", .glo "_law_due", .glo "law", .glo "FORMS", .glo "Kinds", .glo "Program", .glo "BadKind", .glo "BadProgram", .glo "BadMark", .glo "BadText", .glo "BadField", .glo "BadCell", .glo "BadRule", .glo "Barren", .glo "TooWide", .glo "Full", .glo "Stopped", .cls "Kinds", .cls "Program", .noat "Kinds" "forms", .noat "Kinds" "sizes", .noat "Program" "table", .noat "Program" "signs", .noat "Program" "texts", .noat "Program" "code", .noat "BadProgram" "fault", .noat "BadProgram" "tag", .meth "BadProgram" "__init__", .meth "Kinds" "may_follow", .meth "Kinds" "place_of", .meth "Kinds" "kind_at", .meth "Kinds" "__contains__", .meth "Program" "head_fits", .meth "Program" "statement_fits", .meth "Program" "check_ends", .meth "Program" "kinds_in", .meth "Program" "path_kind", .meth "Program" "source_fits", .meth "Program" "call_fits", .meth "Program" "__len__", .mkr "Kinds", .mkr "Program", .exm "BadProgram" "BadKind" false, .exm "BadProgram" "BadProgram" true]
def tsL : List Tab := [(fun K => ga K "FORMS", ["copy", "new", "put", "show", "if", "while", "call"])]
def tfL : List Defn := [("law", none)]
def oexB (K : PySem.W.Frag) (C : Addr) : Bool := match K.lookup C with
  | some ⟨.type t, _, .cls cd, sl⟩ => decide (t = "type") && (match cd.mro, sl.toList with
    | .ref C' :: bm, [_, _, _, _, some (.builtin n), _] => C' == C && n == "ValueError.__new__" && !cd.hasDel && cd.hasDict && PySem.HandSPX.refsVE bm
    | _, _ => false)
  | _ => false
theorem oexB_ok {K : PySem.W.Frag} {C : Addr} (h : oexB K C = true) : ∃ nm q N bs bm sn sub ab col dd k0 k1 k2 k3 k5, K.lookup C = some (excClassObj nm q C N bs bm true sn sub ab col dd k0 k1 k2 k3 k5 "ValueError.__new__") ∧ PySem.HandSPX.refsVE bm = true := by
  unfold oexB at h
  split at h
  · rename_i t dd cd sl ho
    rw [Bool.and_eq_true] at h
    obtain ⟨ht, h⟩ := h
    have ht := of_decide_eq_true ht
    subst ht
    split at h
    · rename_i C' bm k0 k1 k2 k3 n k5 hm hs
      simp only [Bool.and_eq_true, beq_iff_eq, Bool.not_eq_true'] at h
      obtain ⟨⟨⟨⟨rfl, rfl⟩, hdel⟩, hdict⟩, hv⟩ := h
      obtain ⟨nm, bs, mro, ns, qn, hd, sn, sub, ab, col, del⟩ := cd
      dsimp only at hm hdel hdict
      subst hm hdel hdict
      have hsl : sl = #[k0, k1, k2, k3, some (.builtin "ValueError.__new__"), k5] := by
        obtain ⟨l⟩ := sl
        simp only at hs
        rw [hs]
      subst hsl
      exact ⟨nm, qn, ns, bs, bm, sn, sub, ab, col, dd, k0, k1, k2, k3, k5, ho, hv⟩
    · cases h
  · cases h
def fmB (K : PySem.W.Frag) (d : Addr) (z : Str) : Bool := match PySem.W.nsIn K d z with
  | some (some u) => relB (.int (formN z)) u
  | some none => decide (formN z = 0)
  | none => false
theorem fmB_ok {K : PySem.W.Frag} {d : Addr} {z : Str} (h : fmB K d z = true) : ∃ r, PySem.W.nsIn K d z = some r ∧ (∀ u, r = some u → RelV (.int (formN z)) u) ∧ (r = none → formN z = 0) := by
  unfold fmB at h
  cases e : PySem.W.nsIn K d z with
  | none => rw [e] at h; cases h
  | some r =>
    rw [e] at h
    refine ⟨r, rfl, fun u hu => ?_, fun hn => ?_⟩
    · subst hu
      exact relB_ok h
    · subst hn
      exact of_decide_eq_true h
def exL (K : PySem.W.Frag) : Bool := decide (PySem.W.specialIn K (.ref (ma K (ga K "Kinds") "kind_at")) "__get__" = some (some (.builtin "function.__get__"))) &&
  (decide (PySem.W.takesIn K (.ref (ma K (ga K "Kinds") "kind_at")) = some false) &&
  (PySem.W.fnIn K (ma K (ga K "Kinds") "kind_at") &&
  (oexB K (ga K "BadProgram") &&
  (decide (PySem.W.findIn K (.ref (ga K "BadProgram")) "__setattr__" = some (some (.builtin "object.__setattr__"))) &&
  (decide (PySem.W.subIn K (.ref (ga K "BadProgram")) (.type "BaseException") = some true) &&
  (decide (PySem.W.typeIn K (.ref (ga K "BadProgram")) = some (.type "type")) &&
  (PySem.W.keepIn K (.ref (ga K "BadProgram")) &&
  (xcB K (ga K "BadProgram") &&
  (decide (PySem.W.typeIn K (.ref (ma K (ga K "BadProgram") "__init__")) = some (.type "function")) &&
  (decide (PySem.W.kitOne K (.ref (ga K "BadProgram")) (.ref (ga K "BadKind")) = some false) &&
  (decide (PySem.W.kitOne K (.ref (ga K "BadProgram")) (.ref (ga K "BadProgram")) = some true) &&
  ((PySem.W.exmOne K (.ref (ga K "BadProgram")) (.ref (ga K "BadMark"))).isSome &&
  ((PySem.W.exmOne K (.ref (ga K "BadProgram")) (.ref (ga K "BadText"))).isSome &&
  ((PySem.W.exmOne K (.ref (ga K "BadProgram")) (.ref (ga K "BadField"))).isSome &&
  ((PySem.W.exmOne K (.ref (ga K "BadProgram")) (.ref (ga K "BadCell"))).isSome &&
  ((PySem.W.exmOne K (.ref (ga K "BadProgram")) (.ref (ga K "BadRule"))).isSome &&
  ((PySem.W.exmOne K (.ref (ga K "BadProgram")) (.ref (ga K "Barren"))).isSome &&
  ((PySem.W.exmOne K (.ref (ga K "BadProgram")) (.ref (ga K "TooWide"))).isSome &&
  ((PySem.W.exmOne K (.ref (ga K "BadProgram")) (.ref (ga K "Full"))).isSome &&
  ((PySem.W.exmOne K (.ref (ga K "BadProgram")) (.ref (ga K "Stopped"))).isSome &&
  (fmB K (ga K "FORMS") "put" &&
  (fmB K (ga K "FORMS") "copy" &&
  (fmB K (ga K "FORMS") "call" &&
  (fmB K (ga K "FORMS") "sing" &&
  (fmB K (ga K "FORMS") "new")))))))))))))))))))))))))
structure ExL (K : PySem.W.Frag) : Prop where
  x0 : (decide (PySem.W.specialIn K (.ref (ma K (ga K "Kinds") "kind_at")) "__get__" = some (some (.builtin "function.__get__")))) = true
  x1 : (decide (PySem.W.takesIn K (.ref (ma K (ga K "Kinds") "kind_at")) = some false)) = true
  x2 : (PySem.W.fnIn K (ma K (ga K "Kinds") "kind_at")) = true
  x3 : (oexB K (ga K "BadProgram")) = true
  x4 : (decide (PySem.W.findIn K (.ref (ga K "BadProgram")) "__setattr__" = some (some (.builtin "object.__setattr__")))) = true
  x5 : (decide (PySem.W.subIn K (.ref (ga K "BadProgram")) (.type "BaseException") = some true)) = true
  x6 : (decide (PySem.W.typeIn K (.ref (ga K "BadProgram")) = some (.type "type"))) = true
  x7 : (PySem.W.keepIn K (.ref (ga K "BadProgram"))) = true
  x8 : (xcB K (ga K "BadProgram")) = true
  x9 : (decide (PySem.W.typeIn K (.ref (ma K (ga K "BadProgram") "__init__")) = some (.type "function"))) = true
  x10 : (decide (PySem.W.kitOne K (.ref (ga K "BadProgram")) (.ref (ga K "BadKind")) = some false)) = true
  x11 : (decide (PySem.W.kitOne K (.ref (ga K "BadProgram")) (.ref (ga K "BadProgram")) = some true)) = true
  x12 : ((PySem.W.exmOne K (.ref (ga K "BadProgram")) (.ref (ga K "BadMark"))).isSome) = true
  x13 : ((PySem.W.exmOne K (.ref (ga K "BadProgram")) (.ref (ga K "BadText"))).isSome) = true
  x14 : ((PySem.W.exmOne K (.ref (ga K "BadProgram")) (.ref (ga K "BadField"))).isSome) = true
  x15 : ((PySem.W.exmOne K (.ref (ga K "BadProgram")) (.ref (ga K "BadCell"))).isSome) = true
  x16 : ((PySem.W.exmOne K (.ref (ga K "BadProgram")) (.ref (ga K "BadRule"))).isSome) = true
  x17 : ((PySem.W.exmOne K (.ref (ga K "BadProgram")) (.ref (ga K "Barren"))).isSome) = true
  x18 : ((PySem.W.exmOne K (.ref (ga K "BadProgram")) (.ref (ga K "TooWide"))).isSome) = true
  x19 : ((PySem.W.exmOne K (.ref (ga K "BadProgram")) (.ref (ga K "Full"))).isSome) = true
  x20 : ((PySem.W.exmOne K (.ref (ga K "BadProgram")) (.ref (ga K "Stopped"))).isSome) = true
  x21 : (fmB K (ga K "FORMS") "put") = true
  x22 : (fmB K (ga K "FORMS") "copy") = true
  x23 : (fmB K (ga K "FORMS") "call") = true
  x24 : (fmB K (ga K "FORMS") "sing") = true
  x25 : (fmB K (ga K "FORMS") "new") = true
theorem exL_ok {K : PySem.W.Frag} (h : exL K = true) : ExL K := by
  unfold exL at h
  obtain ⟨x0, h⟩ := ba h
  obtain ⟨x1, h⟩ := ba h
  obtain ⟨x2, h⟩ := ba h
  obtain ⟨x3, h⟩ := ba h
  obtain ⟨x4, h⟩ := ba h
  obtain ⟨x5, h⟩ := ba h
  obtain ⟨x6, h⟩ := ba h
  obtain ⟨x7, h⟩ := ba h
  obtain ⟨x8, h⟩ := ba h
  obtain ⟨x9, h⟩ := ba h
  obtain ⟨x10, h⟩ := ba h
  obtain ⟨x11, h⟩ := ba h
  obtain ⟨x12, h⟩ := ba h
  obtain ⟨x13, h⟩ := ba h
  obtain ⟨x14, h⟩ := ba h
  obtain ⟨x15, h⟩ := ba h
  obtain ⟨x16, h⟩ := ba h
  obtain ⟨x17, h⟩ := ba h
  obtain ⟨x18, h⟩ := ba h
  obtain ⟨x19, h⟩ := ba h
  obtain ⟨x20, h⟩ := ba h
  obtain ⟨x21, h⟩ := ba h
  obtain ⟨x22, h⟩ := ba h
  obtain ⟨x23, h⟩ := ba h
  obtain ⟨x24, h⟩ := ba h
  exact ⟨x0, x1, x2, x3, x4, x5, x6, x7, x8, x9, x10, x11, x12, x13, x14, x15, x16, x17, x18, x19, x20, x21, x22, x23, x24, h⟩
section
variable {P : Program} {w : World} {K : PySem.W.Frag} {mg : Str → Option Value} {base h : Heap} {cA PA : Addr} {oc dV kV doc pm ct : Value} {od an : Option Addr} {osl : Array (Option Value)}
theorem law_ok (c : SaysX faL fnL tsL tfL exL w h K) (X : K.In base) (G : base.Ns mainGlobals mg) (lk : K.lookup (ga K "law") = some ⟨oc, od, .func (PySem.W.fnOf "law" "law" (defArgs (top 58)) (defBody (top 58)) (defScope (top 58)) dV kV doc pm an (.ref cA) ct), osl⟩)
    (hcd : PySem.W.codeIn K (.ref cA) "law" = true) (TB : LamX.TabB base mg cA PA) : FnOk P w K mg base CX0 12 (ga K "law") (PySem.W.fnOf "law" "law" (defArgs (top 58)) (defBody (top 58)) (defScope (top 58)) dV kV doc pm an (.ref cA) ct) ["_law_script"] (spLaw K PA) := by
  have e := exL_ok c.more
  obtain ⟨d_bodies_of, F_bodies_of⟩ : ∃ fd, FnP K "bodies_of" (top 3) [] (ga K "bodies_of") fd := c.t.d.def_ 0 rfl
  obtain ⟨d_count_in, F_count_in⟩ : ∃ fd, FnP K "count_in" (top 4) [] (ga K "count_in") fd := c.t.d.def_ 1 rfl
  obtain ⟨d_nesting_of, F_nesting_of⟩ : ∃ fd, FnP K "nesting_of" (top 5) [] (ga K "nesting_of") fd := c.t.d.def_ 2 rfl
  obtain ⟨d_numbered, F_numbered⟩ : ∃ fd, FnP K "numbered" (top 6) [] (ga K "numbered") fd := c.t.d.def_ 3 rfl
  obtain ⟨d_laid, F_laid⟩ : ∃ fd, FnP K "laid" (top 7) [] (ga K "laid") fd := c.t.d.def_ 4 rfl
  obtain ⟨d_rows_of, F_rows_of⟩ : ∃ fd, FnP K "rows_of" (top 8) [] (ga K "rows_of") fd := c.t.d.def_ 5 rfl
  obtain ⟨d_sources_of, F_sources_of⟩ : ∃ fd, FnP K "sources_of" (top 9) [] (ga K "sources_of") fd := c.t.d.def_ 6 rfl
  obtain ⟨d_uses_of, F_uses_of⟩ : ∃ fd, FnP K "uses_of" (top 10) [.int (-1)] (ga K "uses_of") fd := c.t.d.def_ 7 rfl
  obtain ⟨d_first_use, F_first_use⟩ : ∃ fd, FnP K "first_use" (top 11) [] (ga K "first_use") fd := c.t.d.def_ 8 rfl
  obtain ⟨d_way_to_reading, F_way_to_reading⟩ : ∃ fd, FnP K "way_to_reading" (top 12) [] (ga K "way_to_reading") fd := c.t.d.def_ 9 rfl
  obtain ⟨d_comes_to_end, F_comes_to_end⟩ : ∃ fd, FnP K "comes_to_end" (top 13) [] (ga K "comes_to_end") fd := c.t.d.def_ 10 rfl
  obtain ⟨d_returning, F_returning⟩ : ∃ fd, FnP K "returning" (top 14) [] (ga K "returning") fd := c.t.d.def_ 11 rfl
  obtain ⟨d_is_word, F_is_word⟩ : ∃ fd, FnP K "is_word" (top 38) [] (ga K "is_word") fd := c.t.d.def_ 12 rfl
  obtain ⟨d_plain_statement, F_plain_statement⟩ : ∃ fd, FnP K "plain_statement" (top 47) [] (ga K "plain_statement") fd := c.t.d.def_ 13 rfl
  obtain ⟨d_plain_body, F_plain_body⟩ : ∃ fd, FnP K "plain_body" (top 48) [] (ga K "plain_body") fd := c.t.d.def_ 14 rfl
  obtain ⟨d__law_bag, F__law_bag⟩ : ∃ fd, FnP K "_law_bag" (top 51) [] (ga K "_law_bag") fd := c.t.d.def_ 15 rfl
  obtain ⟨d__law_take, F__law_take⟩ : ∃ fd, FnP K "_law_take" (top 52) [] (ga K "_law_take") fd := c.t.d.def_ 16 rfl
  obtain ⟨d__law_pick, F__law_pick⟩ : ∃ fd, FnP K "_law_pick" (top 53) [] (ga K "_law_pick") fd := c.t.d.def_ 17 rfl
  obtain ⟨d__law_tried, F__law_tried⟩ : ∃ fd, FnP K "_law_tried" (top 54) [] (ga K "_law_tried") fd := c.t.d.def_ 18 rfl
  obtain ⟨d__law_fields, F__law_fields⟩ : ∃ fd, FnP K "_law_fields" (top 55) [] (ga K "_law_fields") fd := c.t.d.def_ 19 rfl
  obtain ⟨d__law_first_of, F__law_first_of⟩ : ∃ fd, FnP K "_law_first_of" (top 56) [] (ga K "_law_first_of") fd := c.t.d.def_ 20 rfl
  obtain ⟨d__law_due, F__law_due⟩ : ∃ fd, FnP K "_law_due" (top 57) [] (ga K "_law_due") fd := c.t.d.def_ 21 rfl
  obtain ⟨d_BadProgram___init__, F_BadProgram___init__⟩ : ∃ fd, MeP K "__init__" "BadProgram.__init__" (inClass (top 19) 0) (ma K (ga K "BadProgram") "__init__") fd := c.t.d.def_ 23 rfl
  obtain ⟨d_Kinds___init__, F_Kinds___init__⟩ : ∃ fd, MeP K "__init__" "Kinds.__init__" (inClass (top 39) 0) (ma K (ga K "Kinds") "__init__") fd := c.t.d.def_ 24 rfl
  obtain ⟨d_Kinds___contains__, F_Kinds___contains__⟩ : ∃ fd, MeP K "__contains__" "Kinds.__contains__" (inClass (top 39) 4) (ma K (ga K "Kinds") "__contains__") fd := c.t.d.def_ 25 rfl
  obtain ⟨d_Kinds_may_follow, F_Kinds_may_follow⟩ : ∃ fd, MeP K "may_follow" "Kinds.may_follow" (inClass (top 39) 5) (ma K (ga K "Kinds") "may_follow") fd := c.t.d.def_ 26 rfl
  obtain ⟨d_Kinds_place_of, F_Kinds_place_of⟩ : ∃ fd, MeP K "place_of" "Kinds.place_of" (inClass (top 39) 9) (ma K (ga K "Kinds") "place_of") fd := c.t.d.def_ 27 rfl
  obtain ⟨d_Kinds_kind_at, F_Kinds_kind_at⟩ : ∃ fd, MeP K "kind_at" "Kinds.kind_at" (inClass (top 39) 10) (ma K (ga K "Kinds") "kind_at") fd := c.t.d.def_ 28 rfl
  obtain ⟨d_Program___init__, F_Program___init__⟩ : ∃ fd, MeP K "__init__" "Program.__init__" (inClass (top 49) 0) (ma K (ga K "Program") "__init__") fd := c.t.d.def_ 29 rfl
  obtain ⟨d_Program_check_ends, F_Program_check_ends⟩ : ∃ fd, MeP K "check_ends" "Program.check_ends" (inClass (top 49) 1) (ma K (ga K "Program") "check_ends") fd := c.t.d.def_ 30 rfl
  obtain ⟨d_Program___len__, F_Program___len__⟩ : ∃ fd, MeP K "__len__" "Program.__len__" (inClass (top 49) 3) (ma K (ga K "Program") "__len__") fd := c.t.d.def_ 31 rfl
  obtain ⟨d_Program_head_fits, F_Program_head_fits⟩ : ∃ fd, MeP K "head_fits" "Program.head_fits" (inClass (top 49) 5) (ma K (ga K "Program") "head_fits") fd := c.t.d.def_ 32 rfl
  obtain ⟨d_Program_kinds_in, F_Program_kinds_in⟩ : ∃ fd, MeP K "kinds_in" "Program.kinds_in" (inClass (top 49) 6) (ma K (ga K "Program") "kinds_in") fd := c.t.d.def_ 33 rfl
  obtain ⟨d_Program_path_kind, F_Program_path_kind⟩ : ∃ fd, MeP K "path_kind" "Program.path_kind" (inClass (top 49) 7) (ma K (ga K "Program") "path_kind") fd := c.t.d.def_ 34 rfl
  obtain ⟨d_Program_statement_fits, F_Program_statement_fits⟩ : ∃ fd, MeP K "statement_fits" "Program.statement_fits" (inClass (top 49) 8) (ma K (ga K "Program") "statement_fits") fd := c.t.d.def_ 35 rfl
  obtain ⟨d_Program_source_fits, F_Program_source_fits⟩ : ∃ fd, MeP K "source_fits" "Program.source_fits" (inClass (top 49) 9) (ma K (ga K "Program") "source_fits") fd := c.t.d.def_ 36 rfl
  obtain ⟨d_Program_call_fits, F_Program_call_fits⟩ : ∃ fd, MeP K "call_fits" "Program.call_fits" (inClass (top 49) 10) (ma K (ga K "Program") "call_fits") fd := c.t.d.def_ 37 rfl
  have b_bodies_of := F_bodies_of.bindsN (ps := ["statement"]) fun _ _ _ _ _ _ us hl => match us, hl with | [_], _ => rfl
  have b_count_in := F_count_in.bindsN (ps := ["body"]) fun _ _ _ _ _ _ us hl => match us, hl with | [_], _ => rfl
  have b_nesting_of := F_nesting_of.bindsN (ps := ["body"]) fun _ _ _ _ _ _ us hl => match us, hl with | [_], _ => rfl
  have b_numbered := F_numbered.bindsN (ps := ["body", "first"]) fun _ _ _ _ _ _ us hl => match us, hl with | [_, _], _ => rfl
  have b_laid := F_laid.bindsN (ps := ["body", "first", "after"]) fun _ _ _ _ _ _ us hl => match us, hl with | [_, _, _], _ => rfl
  have b_rows_of := F_rows_of.bindsN (ps := ["statement", "at", "follow"]) fun _ _ _ _ _ _ us hl => match us, hl with | [_, _, _], _ => rfl
  have b_sources_of := F_sources_of.bindsN (ps := ["statement"]) fun _ _ _ _ _ _ us hl => match us, hl with | [_], _ => rfl
  have b_first_use := F_first_use.bindsN (ps := ["uses", "name"]) fun _ _ _ _ _ _ us hl => match us, hl with | [_, _], _ => rfl
  have b_way_to_reading := F_way_to_reading.bindsN (ps := ["rows", "gives", "number", "done"]) fun _ _ _ _ _ _ us hl => match us, hl with | [_, _, _, _], _ => rfl
  have b_comes_to_end := F_comes_to_end.bindsN (ps := ["rows", "known"]) fun _ _ _ _ _ _ us hl => match us, hl with | [_, _], _ => rfl
  have b_returning := F_returning.bindsN (ps := ["rows_by"]) fun _ _ _ _ _ _ us hl => match us, hl with | [_], _ => rfl
  have b_is_word := F_is_word.bindsN (ps := ["text"]) fun _ _ _ _ _ _ us hl => match us, hl with | [_], _ => rfl
  have b_plain_statement := F_plain_statement.bindsN (ps := ["statement"]) fun _ _ _ _ _ _ us hl => match us, hl with | [_], _ => rfl
  have b_plain_body := F_plain_body.bindsN (ps := ["body"]) fun _ _ _ _ _ _ us hl => match us, hl with | [_], _ => rfl
  have b__law_bag := F__law_bag.bindsN (ps := ["_law_script"]) fun _ _ _ _ _ _ us hl => match us, hl with | [_], _ => rfl
  have b__law_take := F__law_take.bindsN (ps := ["_law_bag_here", "_law_many"]) fun _ _ _ _ _ _ us hl => match us, hl with | [_, _], _ => rfl
  have b__law_pick := F__law_pick.bindsN (ps := ["_law_bag_here", "_law_some"]) fun _ _ _ _ _ _ us hl => match us, hl with | [_, _], _ => rfl
  have b__law_tried := F__law_tried.bindsN (ps := ["_law_ask"]) fun _ _ _ _ _ _ us hl => match us, hl with | [_], _ => rfl
  have b__law_fields := F__law_fields.bindsN (ps := ["_law_e"]) fun _ _ _ _ _ _ us hl => match us, hl with | [_], _ => rfl
  have b__law_first_of := F__law_first_of.bindsN (ps := ["_law_body", "_law_some"]) fun _ _ _ _ _ _ us hl => match us, hl with | [_, _], _ => rfl
  have b__law_due := F__law_due.bindsN (ps := ["_law_bodies", "_law_flags", "_law_odds", "_law_mark"]) fun _ _ _ _ _ _ us hl => match us, hl with | [_, _, _, _], _ => rfl
  obtain ⟨ds0, rs0, b0_uses_of⟩ := F_uses_of.binds1 (ps := ["statement", "done"]) 2 1 (List.cons_ne_nil _ _) rfl fun T kV doc pm an cdv ct us its hl hi => match us, hl, its, hi with | [_, _], _, [_], _ => ⟨_, rfl, rfl⟩
  obtain ⟨ds1, rs1, b1_uses_of⟩ := F_uses_of.binds1 (ps := ["statement", "done"]) 1 0 (List.cons_ne_nil _ _) rfl fun T kV doc pm an cdv ct us its hl hi => match us, hl, its, hi with | [_], _, [_], _ => ⟨_, rfl, rfl⟩
  have b_uses_of : Binds K d_uses_of ["statement", "done"] [] := by
    cases rs0
    exact b0_uses_of
  have b_BadProgram___init__ := F_BadProgram___init__.bindsN (ps := ["self", "fault"]) fun _ _ _ _ _ _ us hl => match us, hl with | [_, _], _ => rfl
  have b_Kinds___init__ := F_Kinds___init__.bindsN (ps := ["self", "rows"]) fun _ _ _ _ _ _ us hl => match us, hl with | [_, _], _ => rfl
  have b_Kinds___contains__ := F_Kinds___contains__.bindsN (ps := ["self", "name"]) fun _ _ _ _ _ _ us hl => match us, hl with | [_, _], _ => rfl
  have b_Kinds_may_follow := F_Kinds_may_follow.bindsN (ps := ["self", "name", "fields"]) fun _ _ _ _ _ _ us hl => match us, hl with | [_, _, _], _ => rfl
  have b_Kinds_place_of := F_Kinds_place_of.bindsN (ps := ["self", "name", "field"]) fun _ _ _ _ _ _ us hl => match us, hl with | [_, _, _], _ => rfl
  have b_Program___init__ := F_Program___init__.bindsN (ps := ["self", "kinds", "procedures"]) fun _ _ _ _ _ _ us hl => match us, hl with | [_, _, _], _ => rfl
  have b_Program_check_ends := F_Program_check_ends.bindsN (ps := ["self"]) fun _ _ _ _ _ _ us hl => match us, hl with | [_], _ => rfl
  have b_Program___len__ := F_Program___len__.bindsN (ps := ["self"]) fun _ _ _ _ _ _ us hl => match us, hl with | [_], _ => rfl
  have b_Program_head_fits := F_Program_head_fits.bindsN (ps := ["self", "at", "name", "takes", "has", "gives"]) fun _ _ _ _ _ _ us hl => match us, hl with | [_, _, _, _, _, _], _ => rfl
  have b_Program_kinds_in := F_Program_kinds_in.bindsN (ps := ["self", "name"]) fun _ _ _ _ _ _ us hl => match us, hl with | [_, _], _ => rfl
  have b_Program_path_kind := F_Program_path_kind.bindsN (ps := ["self", "name", "path"]) fun _ _ _ _ _ _ us hl => match us, hl with | [_, _, _], _ => rfl
  have b_Program_statement_fits := F_Program_statement_fits.bindsN (ps := ["self", "name", "statement"]) fun _ _ _ _ _ _ us hl => match us, hl with | [_, _, _], _ => rfl
  have b_Program_source_fits := F_Program_source_fits.bindsN (ps := Nsf) fun _ _ _ _ _ _ us hl => match us, hl with | [_, _, _, _, _], _ => rfl
  have b_Program_call_fits := F_Program_call_fits.bindsN (ps := ["self", "name", "target", "called", "sources"]) fun _ _ _ _ _ _ us hl => match us, hl with | [_, _, _, _, _], _ => rfl
  have f_len := free_ok X G (c.t.d.fact 0 (f := Fa.free "len") rfl)
  have f_range := free_ok X G (c.t.d.fact 1 (f := Fa.free "range") rfl)
  have f_max := free_ok X G (c.t.d.fact 2 (f := Fa.free "max") rfl)
  have f_sum := free_ok X G (c.t.d.fact 3 (f := Fa.free "sum") rfl)
  have f_list := free_ok X G (c.t.d.fact 4 (f := Fa.free "list") rfl)
  have f_all := free_ok X G (c.t.d.fact 5 (f := Fa.free "all") rfl)
  have f_set := free_ok X G (c.t.d.fact 6 (f := Fa.free "set") rfl)
  have f_tuple := free_ok X G (c.t.d.fact 7 (f := Fa.free "tuple") rfl)
  have f_zip := free_ok X G (c.t.d.fact 8 (f := Fa.free "zip") rfl)
  have f_enumerate := free_ok X G (c.t.d.fact 9 (f := Fa.free "enumerate") rfl)
  have f_isinstance := free_ok X G (c.t.d.fact 10 (f := Fa.free "isinstance") rfl)
  have f_dict := free_ok X G (c.t.d.fact 11 (f := Fa.free "dict") rfl)
  have f_int := free_ok X G (c.t.d.fact 12 (f := Fa.free "int") rfl)
  obtain ⟨t_KINDS, i_KINDS⟩ := int_ok X G (c.t.d.fact 13 (f := Fa.int "KINDS" 4) rfl)
  obtain ⟨t_FIELDS, i_FIELDS⟩ := int_ok X G (c.t.d.fact 14 (f := Fa.int "FIELDS" 3) rfl)
  obtain ⟨t_SIZE, i_SIZE⟩ := int_ok X G (c.t.d.fact 15 (f := Fa.int "SIZE" 8) rfl)
  obtain ⟨t_PROCEDURES, i_PROCEDURES⟩ := int_ok X G (c.t.d.fact 16 (f := Fa.int "PROCEDURES" 4) rfl)
  obtain ⟨t_NAMES, i_NAMES⟩ := int_ok X G (c.t.d.fact 17 (f := Fa.int "NAMES" 4) rfl)
  obtain ⟨t_STATEMENTS, i_STATEMENTS⟩ := int_ok X G (c.t.d.fact 18 (f := Fa.int "STATEMENTS" 14) rfl)
  obtain ⟨t_NESTING, i_NESTING⟩ := int_ok X G (c.t.d.fact 19 (f := Fa.int "NESTING" 3) rfl)
  obtain ⟨t_LETTERS, i_LETTERS⟩ := str_ok X G (c.t.d.fact 20 (f := Fa.str "LETTERS" lowL) rfl)
  obtain ⟨t_NUMBER, i_NUMBER⟩ := str_ok X G (c.t.d.fact 21 (f := Fa.str "NUMBER" "#") rfl)
  have g_bodies_of := glo_ok X G (c.t.d.fact 22 (f := Fa.glo "bodies_of") rfl)
  have g_count_in := glo_ok X G (c.t.d.fact 23 (f := Fa.glo "count_in") rfl)
  have g_nesting_of := glo_ok X G (c.t.d.fact 24 (f := Fa.glo "nesting_of") rfl)
  have g_numbered := glo_ok X G (c.t.d.fact 25 (f := Fa.glo "numbered") rfl)
  have g_laid := glo_ok X G (c.t.d.fact 26 (f := Fa.glo "laid") rfl)
  have g_rows_of := glo_ok X G (c.t.d.fact 27 (f := Fa.glo "rows_of") rfl)
  have g_sources_of := glo_ok X G (c.t.d.fact 28 (f := Fa.glo "sources_of") rfl)
  have g_uses_of := glo_ok X G (c.t.d.fact 29 (f := Fa.glo "uses_of") rfl)
  have g_first_use := glo_ok X G (c.t.d.fact 30 (f := Fa.glo "first_use") rfl)
  have g_way_to_reading := glo_ok X G (c.t.d.fact 31 (f := Fa.glo "way_to_reading") rfl)
  have g_comes_to_end := glo_ok X G (c.t.d.fact 32 (f := Fa.glo "comes_to_end") rfl)
  have g_returning := glo_ok X G (c.t.d.fact 33 (f := Fa.glo "returning") rfl)
  have g_is_word := glo_ok X G (c.t.d.fact 34 (f := Fa.glo "is_word") rfl)
  have g_plain_statement := glo_ok X G (c.t.d.fact 35 (f := Fa.glo "plain_statement") rfl)
  have g_plain_body := glo_ok X G (c.t.d.fact 36 (f := Fa.glo "plain_body") rfl)
  have g__law_bag := glo_ok X G (c.t.d.fact 37 (f := Fa.glo "_law_bag") rfl)
  have g__law_take := glo_ok X G (c.t.d.fact 38 (f := Fa.glo "_law_take") rfl)
  have g__law_pick := glo_ok X G (c.t.d.fact 39 (f := Fa.glo "_law_pick") rfl)
  have g__law_tried := glo_ok X G (c.t.d.fact 40 (f := Fa.glo "_law_tried") rfl)
  have g__law_fields := glo_ok X G (c.t.d.fact 41 (f := Fa.glo "_law_fields") rfl)
  have g__law_first_of := glo_ok X G (c.t.d.fact 42 (f := Fa.glo "_law_first_of") rfl)
  have g__law_due := glo_ok X G (c.t.d.fact 43 (f := Fa.glo "_law_due") rfl)
  have g_FORMS := glo_ok X G (c.t.d.fact 45 (f := Fa.glo "FORMS") rfl)
  have g_Kinds := glo_ok X G (c.t.d.fact 46 (f := Fa.glo "Kinds") rfl)
  have g_Program := glo_ok X G (c.t.d.fact 47 (f := Fa.glo "Program") rfl)
  have g_BadKind := glo_ok X G (c.t.d.fact 48 (f := Fa.glo "BadKind") rfl)
  have g_BadProgram := glo_ok X G (c.t.d.fact 49 (f := Fa.glo "BadProgram") rfl)
  have g_BadMark := glo_ok X G (c.t.d.fact 50 (f := Fa.glo "BadMark") rfl)
  have g_BadText := glo_ok X G (c.t.d.fact 51 (f := Fa.glo "BadText") rfl)
  have g_BadField := glo_ok X G (c.t.d.fact 52 (f := Fa.glo "BadField") rfl)
  have g_BadCell := glo_ok X G (c.t.d.fact 53 (f := Fa.glo "BadCell") rfl)
  have g_BadRule := glo_ok X G (c.t.d.fact 54 (f := Fa.glo "BadRule") rfl)
  have g_Barren := glo_ok X G (c.t.d.fact 55 (f := Fa.glo "Barren") rfl)
  have g_TooWide := glo_ok X G (c.t.d.fact 56 (f := Fa.glo "TooWide") rfl)
  have g_Full := glo_ok X G (c.t.d.fact 57 (f := Fa.glo "Full") rfl)
  have g_Stopped := glo_ok X G (c.t.d.fact 58 (f := Fa.glo "Stopped") rfl)
  have c_Kinds := cls_ok (c.t.d.fact 59 (f := Fa.cls "Kinds") rfl)
  have mk_Kinds := mkr_ok (c.t.d.fact 82 (f := Fa.mkr "Kinds") rfl)
  have c_Program := cls_ok (c.t.d.fact 60 (f := Fa.cls "Program") rfl)
  have mk_Program := mkr_ok (c.t.d.fact 83 (f := Fa.mkr "Program") rfl)
  have n_Kinds_forms := noat_ok (c.t.d.fact 61 (f := Fa.noat "Kinds" "forms") rfl)
  have n_Kinds_sizes := noat_ok (c.t.d.fact 62 (f := Fa.noat "Kinds" "sizes") rfl)
  have n_Program_table := noat_ok (c.t.d.fact 63 (f := Fa.noat "Program" "table") rfl)
  have n_Program_signs := noat_ok (c.t.d.fact 64 (f := Fa.noat "Program" "signs") rfl)
  have n_Program_texts := noat_ok (c.t.d.fact 65 (f := Fa.noat "Program" "texts") rfl)
  have n_Program_code := noat_ok (c.t.d.fact 66 (f := Fa.noat "Program" "code") rfl)
  have n_BadProgram_fault := noat_ok (c.t.d.fact 67 (f := Fa.noat "BadProgram" "fault") rfl)
  have n_BadProgram_tag := noat_ok (c.t.d.fact 68 (f := Fa.noat "BadProgram" "tag") rfl)
  have m_BadProgram___init__ := meth_ok (c.t.d.fact 69 (f := Fa.meth "BadProgram" "__init__") rfl)
  have m_Kinds_may_follow := meth_ok (c.t.d.fact 70 (f := Fa.meth "Kinds" "may_follow") rfl)
  have m_Kinds_place_of := meth_ok (c.t.d.fact 71 (f := Fa.meth "Kinds" "place_of") rfl)
  have m_Kinds_kind_at := meth_ok (c.t.d.fact 72 (f := Fa.meth "Kinds" "kind_at") rfl)
  have m_Kinds___contains__ := meth_ok (c.t.d.fact 73 (f := Fa.meth "Kinds" "__contains__") rfl)
  have m_Program_head_fits := meth_ok (c.t.d.fact 74 (f := Fa.meth "Program" "head_fits") rfl)
  have m_Program_statement_fits := meth_ok (c.t.d.fact 75 (f := Fa.meth "Program" "statement_fits") rfl)
  have m_Program_check_ends := meth_ok (c.t.d.fact 76 (f := Fa.meth "Program" "check_ends") rfl)
  have m_Program_kinds_in := meth_ok (c.t.d.fact 77 (f := Fa.meth "Program" "kinds_in") rfl)
  have m_Program_path_kind := meth_ok (c.t.d.fact 78 (f := Fa.meth "Program" "path_kind") rfl)
  have m_Program_source_fits := meth_ok (c.t.d.fact 79 (f := Fa.meth "Program" "source_fits") rfl)
  have m_Program_call_fits := meth_ok (c.t.d.fact 80 (f := Fa.meth "Program" "call_fits") rfl)
  have m_Program___len__ := meth_ok (c.t.d.fact 81 (f := Fa.meth "Program" "__len__") rfl)
  obtain ⟨es, nE, KD⟩ := c.t.tab 0 (t := (fun K => ga K "FORMS", ["copy", "new", "put", "show", "if", "while", "call"])) rfl
  have pc : PC K (ga K "Program") := ⟨c_Program, n_Program_table, n_Program_signs, n_Program_texts, n_Program_code⟩
  have kc : KC K (ga K "Kinds") := ⟨c_Kinds, n_Kinds_forms, n_Kinds_sizes⟩
  have oe : OexC K (ga K "BadProgram") := ⟨oexB_ok e.x3, of_decide_eq_true e.x4, of_decide_eq_true e.x5, of_decide_eq_true e.x6, e.x7⟩
  have xc := xcB_ok e.x8
  have tI := of_decide_eq_true e.x9
  have hF : Forms K (ga K "FORMS") := fun z hz => by
    simp only [List.mem_cons, List.not_mem_nil, or_false] at hz
    rcases hz with rfl | rfl | rfl | rfl | rfl
    · exact fmB_ok e.x21
    · exact fmB_ok e.x22
    · exact fmB_ok e.x23
    · exact fmB_ok e.x24
    · exact fmB_ok e.x25
  have bm : BMeth K (ga K "Kinds") "kind_at" (ma K (ga K "Kinds") "kind_at") := ⟨m_Kinds_kind_at, of_decide_eq_true e.x0, of_decide_eq_true e.x1, by decide +kernel, e.x2⟩
  have G_bodies := ok_bodies (P := P) (w := w) (base := base) F_bodies_of f_len
  have G_count := ok_count F_count_in G_bodies g_bodies_of F_bodies_of.kp b_bodies_of f_sum
  have G_nest := ok_nest F_nesting_of G_bodies g_bodies_of F_bodies_of.kp b_bodies_of f_max
  have G_src := ok_src (P := P) (w := w) (base := base) F_sources_of f_list
  have G_uses := ok_uses F_uses_of G_src g_sources_of F_sources_of.kp b_sources_of f_len
  have G_first := ok_first (P := P) (w := w) (mg := mg) (base := base) F_first_use
  have G_row := ok_row F_rows_of G_bodies g_bodies_of F_bodies_of.kp b_bodies_of f_len
  have G_laid := ok_laid F_laid G_count g_count_in F_count_in.kp b_count_in G_row g_rows_of F_rows_of.kp b_rows_of f_len f_enumerate
  have G_ends := ok_ends (P := P) (w := w) (base := base) F_comes_to_end f_len
  have G_ret := ok_ret F_returning G_ends g_comes_to_end F_comes_to_end.kp b_comes_to_end
  have G_way := ok_way F_way_to_reading G_src g_sources_of F_sources_of.kp b_sources_of G_uses g_uses_of F_uses_of.kp b_uses_of b1_uses_of rs1 G_first g_first_use F_first_use.kp b_first_use f_len
  have G_word := ok_word (P := P) (w := w) (base := base) F_is_word f_len f_all i_LETTERS
  have G_may := ok_may F_Kinds_may_follow kc G_word g_is_word F_is_word.kp b_is_word f_len f_all f_set i_FIELDS
  have G_ki := ok_ki F_Kinds___init__ kc m_Kinds_may_follow G_may b_Kinds_may_follow f_len f_enumerate f_sum i_KINDS i_SIZE
  have G_pl := ok_pl (P := P) (w := w) (mg := mg) (base := base) F_Kinds_place_of kc
  have G_ka := ok_ka F_Kinds_kind_at kc m_Kinds_place_of G_pl b_Kinds_place_of
  have G_kin := ok_kin (P := P) (w := w) (base := base) (CK := ga K "Kinds") F_Program_kinds_in pc f_dict
  have G_pk := ok_pk F_Program_path_kind pc kc m_Program_kinds_in G_kin b_Program_kinds_in bm G_ka f_len i_NUMBER g_BadField
  have G_sf := ok_sf F_Program_source_fits pc m_Program_path_kind G_pk b_Program_path_kind f_len
  have G_cf := ok_cf F_Program_call_fits pc m_Program_kinds_in G_kin b_Program_kinds_in m_Program_source_fits G_sf b_Program_source_fits f_len f_all f_zip
  have G_fit := ok_fit F_Program_statement_fits pc G_bodies g_bodies_of F_bodies_of.kp b_bodies_of m_Program_path_kind G_pk b_Program_path_kind m_Program_source_fits G_sf b_Program_source_fits m_Program_call_fits G_cf b_Program_call_fits f_len i_NUMBER g_FORMS KD hF
  have G_kc := ok_kc (P := P) (w := w) (mg := mg) (base := base) F_Kinds___contains__ kc
  have G_hf := ok_hf F_Program_head_fits pc G_word g_is_word F_is_word.kp b_is_word m_Kinds___contains__.1 m_Kinds___contains__.2 G_kc b_Kinds___contains__ f_len f_all f_set f_list i_NAMES
  have G_ps := ok_ps (P := P) (w := w) (base := base) F_plain_statement f_tuple
  have G_body := ok_body F_plain_body G_ps g_plain_statement F_plain_statement.kp b_plain_statement f_tuple
  have G_bp := ok_bp (P := P) (w := w) (mg := mg) (base := base) F_BadProgram___init__ oe n_BadProgram_fault n_BadProgram_tag
  have G_ce := ok_ce F_Program_check_ends pc G_ret g_returning F_returning.kp b_returning G_way g_way_to_reading F_way_to_reading.kp b_way_to_reading G_src g_sources_of F_sources_of.kp b_sources_of oe m_BadProgram___init__.1 tI G_bp b_BadProgram___init__ g_BadProgram f_enumerate
  have G_pi := ok_pi F_Program___init__ pc ⟨_, _, m_Program_head_fits, G_hf, b_Program_head_fits⟩ ⟨_, _, m_Program_statement_fits, G_fit, b_Program_statement_fits⟩ ⟨_, _, m_Program_check_ends, G_ce, b_Program_check_ends⟩ ⟨_, _, G_count, g_count_in, F_count_in.kp, b_count_in⟩ ⟨_, _, G_nest, g_nesting_of, F_nesting_of.kp, b_nesting_of⟩ ⟨_, _, G_bodies, g_bodies_of, F_bodies_of.kp, b_bodies_of⟩ ⟨_, _, G_body, g_plain_body, F_plain_body.kp, b_plain_body⟩ ⟨_, _, G_laid, g_laid, F_laid.kp, b_laid⟩ F_numbered g_numbered b_numbered oe m_BadProgram___init__.1 tI G_bp b_BadProgram___init__ g_BadProgram f_len f_enumerate i_PROCEDURES i_STATEMENTS i_NESTING
  have G_ln := ok_ln (P := P) (w := w) (base := base) F_Program___len__ pc f_len f_list
  have G_take := ok_take (P := P) (w := w) (base := base) F__law_take f_len f_int
  have G_pick := ok_pick F__law_pick ⟨_, _, G_take, g__law_take, F__law_take.kp, b__law_take⟩ f_len
  have G_bag := ok_bag (P := P) (w := w) (base := base) F__law_bag f_int f_list
  have G_flds := ok_flds (P := P) (w := w) (base := base) F__law_fields xc f_isinstance g_BadKind g_BadProgram (of_decide_eq_true e.x10) (of_decide_eq_true e.x11) n_BadProgram_tag n_BadProgram_fault
  have G_fo := ok_fo (P := P) (w := w) (base := base) F__law_first_of f_len f_range
  have G_due := ok_due F__law_due ⟨_, _, G_fo, g__law_first_of, F__law_first_of.kp, b__law_first_of⟩ f_len f_range
  obtain ⟨ocT, odT, dVT, kVT, docT, pmT, anT, cdT, ctT, oslT, rfl, lkT, hcT, _, _⟩ := F__law_tried.ex
  have is := fun {x : Option Bool} (h : x.isSome = true) => Option.isSome_iff_exists.mp h
  exact ok_law lk hcd ⟨TB, ⟨_, _, G_bag, g__law_bag, F__law_bag.kp, b__law_bag⟩, ⟨_, _, G_take, g__law_take, F__law_take.kp, b__law_take⟩, ⟨_, _, G_pick, g__law_pick, F__law_pick.kp, b__law_pick⟩, ⟨_, _, G_due, g__law_due, F__law_due.kp, b__law_due⟩,
    _, _, _, _, _, _, _, _, _, _, _, lkT, hcT, g__law_tried, F__law_tried.kp, b__law_tried, [.ref (ga K "BadKind"), .ref (ga K "BadProgram"), .ref (ga K "BadMark"), .ref (ga K "BadText"), .ref (ga K "BadField"), .ref (ga K "BadCell"), .ref (ga K "BadRule"), .ref (ga K "Barren"), .ref (ga K "TooWide"), .ref (ga K "Full"), .ref (ga K "Stopped")], ⟨g_BadKind, g_BadProgram, g_BadMark, g_BadText, g_BadField, g_BadCell, g_BadRule, g_Barren, g_TooWide, g_Full, g_Stopped⟩, ⟨exm_ok (c.t.d.fact 84 (f := Fa.exm "BadProgram" "BadKind" false) rfl), exm_ok (c.t.d.fact 85 (f := Fa.exm "BadProgram" "BadProgram" true) rfl), is e.x12, is e.x13, is e.x14, is e.x15, is e.x16, is e.x17, is e.x18, is e.x19, is e.x20⟩,
    _, _, G_flds, g__law_fields, F__law_fields.kp, b__law_fields, _, _, mk_Kinds, G_ki, b_Kinds___init__, g_Kinds, _, _, mk_Program, G_pi, b_Program___init__, g_Program, _, _, m_Program___len__.1, m_Program___len__.2, G_ln, b_Program___len__, f_len, f_range, f_max, f_sum, f_list⟩
end
end Cp

/-! A Hook that looks at few objects: what the named defs and classes reach; the part of the heap is made once. -/
namespace Hq
open PySem PySem.Spec PyProof.Rows L2 He
def partK {α : Type} (g : Addr → Option Obj) : List Addr → (PySem.W.Frag → α) → α
  | [], k => k []
  | a :: r, k => (match g a with
    | none => partK g r k
    | some o => (match emptyTab o with
      | true => partK g r k
      | false => HandSHeadRun.frNat a fun b => partK g r fun l => k ((b, o) :: l)))
theorem frT_cons (g : Addr → Option Obj) (a : Addr) (r : List Addr) : frT g (a :: r) = (match g a with
    | none => frT g r
    | some o => (match emptyTab o with
      | true => frT g r
      | false => (a, o) :: frT g r)) := by
  unfold frT frG
  cases e : g a with
  | none => simp [List.filterMap_cons, e]
  | some o => cases t : emptyTab o <;> simp [List.filterMap_cons, List.filter_cons, e, t]
theorem partK_eq {α : Type} {g : Addr → Option Obj} : ∀ {l : List Addr} {k : PySem.W.Frag → α}, partK g l k = k (frT g l)
  | [], k => rfl
  | a :: r, k => by
    rw [frT_cons]
    unfold partK
    cases e : g a with
    | none => exact partK_eq
    | some o =>
      show (match emptyTab o with | true => partK g r k | false => _) = k (match emptyTab o with | true => frT g r | false => _)
      cases t : emptyTab o with
      | true => exact partK_eq
      | false =>
        show HandSHeadRun.frNat a (fun b => partK g r fun l => k ((b, o) :: l)) = _
        rw [HandSHeadRun.frNat_eq]
        exact partK_eq
/-- a list of addresses, made -/
def madeL {α : Type} : List Addr → (List Addr → α) → α
  | [], k => k []
  | a :: r, k => HandSHeadRun.frNat a fun b => madeL r fun l => k (b :: l)
theorem madeL_eq {α : Type} : ∀ {l : List Addr} {k : List Addr → α}, madeL l k = k l
  | [], _ => rfl
  | a :: r, k => by
    unfold madeL
    rw [HandSHeadRun.frNat_eq]
    exact madeL_eq
/-- a class's dict and line -/
def lineOf (g : Addr → Option Obj) (C : Addr) : List Addr := match g C with
  | some ⟨_, _, .cls cd, _⟩ => cd.ns :: cd.mro.flatMap refV
  | _ => []
/-- a def's code, its defaults -/
def codeAd (g : Addr → Option Obj) (f : Addr) : List Addr := match g f with
  | some ⟨_, _, .func fd, _⟩ => refV fd.code ++ refV fd.defaults
  | _ => []
/-- what is looked at: names, classes, methods -/
def seenAt (fs cs : List Str) (ms : List (Str × Str)) (g : Addr → Option Obj) : List Addr :=
  partK g [mainGlobals] fun K1 => madeL (fs.map (ga K1)) fun as => madeL (cs.map (ga K1)) fun bs => madeL (bs.flatMap (lineOf g)) fun b1 => madeL (b1.flatMap (lineOf g)) fun b2 =>
    partK g (mainGlobals :: (bs ++ b1 ++ b2)) fun K2 => madeL (ms.map fun p => ma K2 (ga K1 p.1) p.2) fun us =>
      mainGlobals :: (as ++ us ++ (as ++ us).flatMap (codeAd g) ++ bs ++ b1 ++ b2)
def obsK (fa : List Fa) (fn : List DefD) (ts : List Tab) (tf : List Defn) (ex : PySem.W.Frag → Bool) (g : Addr → Option Obj) (K : PySem.W.Frag) : AlX := (obsT fa fn ts K, ex K && tabsB g tf K)
def obsP (A : (Addr → Option Obj) → List Addr) (fa : List Fa) (fn : List DefD) (ts : List Tab) (tf : List Defn) (ex : PySem.W.Frag → Bool) (g : Addr → Option Obj) : AlX := madeL (A g) fun l => partK g l fun K => obsK fa fn ts tf ex g K
theorem obsP_eq {A : (Addr → Option Obj) → List Addr} {fa : List Fa} {fn : List DefD} {ts : List Tab} {tf : List Defn} {ex : PySem.W.Frag → Bool} {g : Addr → Option Obj} : obsP A fa fn ts tf ex g = obsK fa fn ts tf ex g (frT g (A g)) := by
  unfold obsP
  rw [madeL_eq, partK_eq]
theorem says_of {fa : List Fa} {fn : List DefD} {ts : List Tab} {tf : List Defn} {ex : PySem.W.Frag → Bool} {w : World} {h : Heap} {l : List Addr} (e : obsK fa fn ts tf ex h.get? (frT h.get? l) = valX fn ts w) : SaysX fa fn ts tf ex w h (frT h.get? l) := by
  have e1 := congrArg Prod.fst e
  have e2 := ba (congrArg Prod.snd e)
  have key : ∀ p ∈ tf, PySem.W.codeHdIn (frT h.get? l) (cT (frT h.get? l) p).1 (cT (frT h.get? l) p).2 = true ∧ ∃ o, h.get? (cT (frT h.get? l) p).2 = some o ∧ emptyTab o = true := fun p hp => by
    have h5 := ba (List.all_eq_true.mp e2.2 p hp)
    refine ⟨h5.1, ?_⟩
    have h4 := h5.2
    revert h4
    cases h.get? (cT (frT h.get? l) p).2 with
    | none => exact fun z => (nomatch z)
    | some o => exact fun z => ⟨o, rfl, z⟩
  refine ⟨e1, e2.1, fun p hp => (key p hp).1, fun p hp => ?_, fun p hp => ?_⟩
  · exact let ⟨_, o, q, z⟩ := key p hp; frT_none q z
  · exact let ⟨_, o, q, z⟩ := key p hp; q.trans (congrArg some (emptyTab_eq z))
/-- the Hook -/
def hookP (A : (Addr → Option Obj) → List Addr) (fa : List Fa) (fn : List DefD) (ts : List Tab) (tf : List Defn) (ex : PySem.W.Frag → Bool) : PySem.W.Hook :=
  { α := AlX, obs := fun s => obsP A fa fn ts tf ex s.heap.get?, val := fun w => valX fn ts w, says := fun w h => ∃ K : PySem.W.Frag, K.In h ∧ SaysX fa fn ts tf ex w h K,
    of := fun _ _ e => ⟨_, frT_in, says_of (obsP_eq.symm.trans e)⟩,
    keeps := fun _ _ _ z k => let ⟨K, hK, c⟩ := z; ⟨K, PySem.W.Frag.In.keeps hK k, ⟨c.t, c.more, c.hd, c.out, fun p hp => k _ _ (c.empty p hp)⟩⟩ }
theorem obsP_get {A : (Addr → Option Obj) → List Addr} {fa : List Fa} {fn : List DefD} {ts : List Tab} {tf : List Defn} {ex : PySem.W.Frag → Bool} {g : Addr → Option Obj} {s : Shared} (h : ∀ a, g a = s.heap.get? a) : obsP A fa fn ts tf ex g = (hookP A fa fn ts tf ex).obs s := by
  show _ = obsP A fa fn ts tf ex s.heap.get?
  rw [funext h]
end Hq
namespace Cp
open PySem PySem.Spec PyProof.Rows L2 He
def fsL : List Str := ["bodies_of", "count_in", "nesting_of", "numbered", "laid", "rows_of", "sources_of", "uses_of", "first_use", "way_to_reading", "comes_to_end", "returning", "is_word", "plain_statement", "plain_body", "_law_bag", "_law_take", "_law_pick", "_law_tried", "_law_fields", "_law_first_of", "_law_due", "law", "FORMS"]
def csL : List Str := ["Kinds", "Program", "BadKind", "BadProgram", "BadMark", "BadText", "BadField", "BadCell", "BadRule", "Barren", "TooWide", "Full", "Stopped"]
def msL : List (Str × Str) := [("BadProgram", "__init__"), ("Kinds", "__init__"), ("Kinds", "__contains__"), ("Kinds", "may_follow"), ("Kinds", "place_of"), ("Kinds", "kind_at"), ("Program", "__init__"), ("Program", "check_ends"), ("Program", "__len__"), ("Program", "head_fits"), ("Program", "kinds_in"), ("Program", "path_kind"), ("Program", "statement_fits"), ("Program", "source_fits"), ("Program", "call_fits")]
end Cp

namespace Cp
open PySem PySem.Spec PyProof.Rows L2
abbrev R : PySem.W.OpenRow := PySem.W.OpenLaw.row PySem.Challenge.rw_copytoll_k64_faults_in_order
abbrev hk : PySem.W.Hook := Hq.hookP (Hq.seenAt fsL csL msL) faL fnL tsL tfL exL
def ob (s : PySem.W.SharedT) : He.AlX := Hq.obsP (Hq.seenAt fsL csL msL) faL fnL tsL tfL exL (HandSHeadRun.getT s)
theorem ob_eq (s : PySem.W.SharedT) : ob s = hk.obs s.abs := Hq.obsP_get (HandSHeadRun.getT_eq s)
def names1 : List Str := ["_wall", "__name__", "ASK", "bodies_of", "count_in", "nesting_of", "numbered", "laid", "rows_of", "sources_of", "uses_of", "first_use", "way_to_reading", "comes_to_end", "returning", "TollError", "TollMissing", "BadKind", "BadProgram", "BadMark", "BadText", "BadField", "BadCell", "Barren", "BadRule", "TooWide", "Full", "Stopped"]
def names2 : List Str := ["NoKind", "NoProcedure", "NoProgram", "NoWish", "KINDS", "FIELDS", "SIZE", "LETTERS", "is_word", "Kinds", "PROCEDURES", "NAMES", "STATEMENTS", "NESTING", "FORMS", "NUMBER", "plain_statement", "plain_body", "Program", "_law_bag", "_law_take", "_law_pick", "_law_tried", "_law_fields", "_law_first_of", "_law_due"]
def names : List Str := names1 ++ names2
theorem runF (w : World) : HandSHeadRun.RunEq R (PySem.W.view R.prog [58]) hk ob 9000 names (w.withFollow "special-get-raises" false) := by
  intro os
  kernel_rfl
theorem runT (w : World) : HandSHeadRun.RunEq R (PySem.W.view R.prog [58]) hk ob 9000 names (w.withFollow "special-get-raises" true) := by
  intro os
  kernel_rfl
theorem run (w : World) : HandSHeadRun.RunEq R (PySem.W.view R.prog [58]) hk ob 9000 names w :=
  PySem.W.byRow2 "special-get-raises" (P := fun w => HandSHeadRun.RunEq R (PySem.W.view R.prog [58]) hk ob 9000 names w) runF runT w
end Cp

namespace Cp
open PySem PySem.Spec PyProof.Rows L2 He
theorem law_at {w : World} {h : Heap} {K : PySem.W.Frag} {mg : Str → Option Value} {fa : Addr} (X : K.In h) (c : SaysX faL fnL tsL tfL exL w h K) (G : h.Ns mainGlobals mg) (hmg : mg "law" = some (.ref fa)) : LamX.LawAtS PySem.Challenge.rw_copytoll_k64_faults_in_order w K CX0 12 63 "_law_script" mg fa h := by
  obtain ⟨fd, F⟩ : ∃ fd, FnP K "law" (top 58) [] (ga K "law") fd := c.t.d.def_ 22 rfl
  have hg : mg "law" = some (.ref (ga K "law")) := glo_ok X G (c.t.d.fact 44 (f := Fa.glo "law") rfl)
  rw [hg] at hmg
  cases hmg
  have hb := F.bindsA (ps := ["_law_script"]) fun _ _ _ _ _ _ us hl => match us, hl with | [_], _ => rfl
  obtain ⟨oc, od, dV, kV, doc, pm, an, cdv, ct, osl, rfl, lk, hcd, _, _⟩ := F.ex
  obtain ⟨cA, rfl⟩ := codeIn_ref hcd
  have hcA : codeOf K ("law", none) = cA := codeOf_eq (p := ("law", none)) lk rfl
  have hp : (cT K ("law", none)) = (cA, tabOf K cA) := by
    unfold cT
    rw [hcA]
  have ht : (("law", none) : Defn) ∈ tfL := List.mem_cons_self
  have h1 := c.hd _ ht
  have h2 := c.out _ ht
  have h3 := c.empty _ ht
  rw [hp] at h1 h2 h3
  refine ⟨_, [(cA, tabOf K cA)], spLaw K (tabOf K cA), fun p hp => ?_, fun p hp => ?_, fun p hp => ?_, fun s u => hb s [u] rfl, fun H a ns hl _ hT hS => ⟨a, ns, rfl, hS, hl, hT _ List.mem_cons_self, fun _ => rfl⟩, fun base X2 G2 TB => law_ok c X2 G2 lk hcd (TB _ List.mem_cons_self)⟩
  · obtain rfl := List.mem_singleton.mp hp
    exact h3
  · obtain rfl := List.mem_singleton.mp hp
    exact h2
  · obtain rfl := List.mem_singleton.mp hp
    exact PySem.W.codeHd_of_K X h1
end Cp
open PySem PySem.W PyProof.Rows
theorem PySem.Challenge.cw_copytoll_k64_faults_in_order_holds : PySem.Challenge.rw_copytoll_k64_faults_in_order.Holds := by
  w_on; o_law
  refine HandSHeadRun.head_any (H := Cp.hk) (ob := Cp.ob) (M := 9000) (loose := Cp.names) (q := PySem.W.view Cp.R.prog [58]) (d := HandSHeadRun.topDef Cp.R.prog 58) (kwd := []) Cp.ob_eq ?e ?f Cp.run ?hdef ?hp rfl rfl ?said ?ok ⟨rfl, rfl, rfl, rfl, rfl, by decide +kernel⟩ ?hw ?call
  case e => kernel_rfl
  case f => intro s; rfl
  case hdef => rfl
  case hp => rfl
  case said => assumption
  case ok => decide +kernel
  case hw => w_witness2
  case call =>
    exact LamX.walk_ofTsE (l := PySem.Challenge.rw_copytoll_k64_faults_in_order) (n := 63) (k := 12) (x := "_law_script") (CX := fun _ => L2.CX0) rfl (by decide) rfl ⟨rfl, by decide, by decide⟩ (fun w mg fa h Y G hmg => by
      obtain ⟨K, X, c⟩ := Y
      exact ⟨K, X, Cp.law_at X c G hmg⟩) (fun _ _ _ _ _ h => h)
