import PyProof.Rows.All
import Wide.All
import OpenK.AllK
import Wide.FinOn
import KE.KStateDown
import KE.KWithOwn
import HandS.ForMost
import HandS.WordsExc
import HandS.ExcCtx
import HandS.ExcField
import HandS.ExcInit
import HandS.ExcInitHot
import HandS.HotCalls
import HandS.Star
import HandS.Steps
import HandS.MethStar
import HandS.Property
import HandS.ClsMeth
import HandS.IsInst
import HandS.DictComp
import HandS.SetBool
import HandS.SetKeys
import HandS.Style
import HandS.NoneIn
import HandS.GenList
import HandS.GenYield
import HandS.Nested
import HandS.Lambda
import HandS.OwnEq
import HandS.SlotsOwn
import HandS.More
import HandS.Walk
import HandS.Evl
import HandS.Wide
import HandS.Strs
import HandS.Head0
import HandS.Head1
import HandS.Head2
import HandS.HeadEnd
import HandS.HeadHook1
import HandS.HeadHook2
import HandS.HeadHook3
import HandS.HeadHook4
import HandS.HeadWalk
import HandS.SetTxt0
import HandS.SetFor
import HandS.NestedK
import PySem.Challenge.RW_loopwalks_k61_whole_attempts_and_copies
set_option Elab.async false
set_option linter.all false
set_option maxRecDepth 100000
set_option maxHeartbeats 8000000

/-! ## KA -/
/-! quiet: nothing is handled, or one exception whose context is None; the ends of iterators there -/
namespace K6
open PySem PySem.Spec PyProof.Rows L2

def Qh (A : Around) (h : Heap) : Prop := A.handled = none ∨ ∃ x1, HotX.HotAt A x1 h

section
variable {prog : Program} {w : World} {A : Around} {E : Value → Shared → Prop} {s : Shared}

theorem Qh.keep {h h' : Heap} (q : Qh A h) (k : ∀ b o, h.get? b = some o → h'.get? b = some o) : Qh A h' := by
  rcases q with q | ⟨x1, hh, o, vs, e, d, c⟩
  · exact .inl q
  · exact .inr ⟨x1, hh, o, vs, k _ _ e, d, c⟩
theorem Qh.but {h h' : Heap} {it : Addr} {oi : Obj} (q : Qh A h) (hi : h.get? it = some oi) (k : ∀ b o, b ≠ it → h.get? b = some o → h'.get? b = some o) (hn : ∀ vs, oi.data = .fields vs → vs[2]? ≠ some .none) : Qh A h' := by
  rcases q with q | ⟨x1, hh, o, vs, e, d, c⟩
  · exact .inl q
  · refine .inr ⟨x1, hh, o, vs, k _ _ (fun z => ?_) e, d, c⟩
    subst z
    rw [hi] at e
    cases e
    exact hn vs d c

/-- a StopIteration is made and raised -/
theorem stop_raised {α : Type} {Q : α → Shared → Prop} (q : Qh A s.heap)
    (hE : ∀ e h', (∀ b o, s.heap.get? b = some o → h'.get? b = some o) → (∃ o, h'.get? e = some o ∧ o.cls = .type "StopIteration") → E (.ref e) { s with heap := h' }) :
    wpAny (model prog w) A (newExc (.type "StopIteration") [] >>= fun e => (raiseNew e : Sem α)) Q E s := by
  refine wpAny_bind ?_
  unfold newExc newTuple
  refine wpAny_bind (wpAny_newObj_type ?_ (by size_fits))
  refine wpAny_bind (m := firstArgMember _ _) (wpAny_of_eq (a := Value.none) (by first | rfl | (simp only [firstArgMember]; rfl)) ?_)
  refine wpAny_newObj_type ?_ (by size_fits)
  rcases q with q | ⟨x1, hh, o, vs, e1, d1, c1⟩
  · unfold raiseNew
    refine wpAny_bind (wpAny_handled ?_)
    rw [q]
    refine wpAny_bind (wpAny_pure (wpAny_throw (hE _ _ (fun b o e => ?_) ⟨_, Heap.get?_push_size _ rfl, rfl⟩)))
    exact Heap.get?_push_of_some _ (Heap.get?_push_of_some _ e)
  · refine HotX.raiseNew_hot ⟨hh, o, vs, Heap.get?_push_of_some _ (Heap.get?_push_of_some _ e1), d1, c1⟩ (Nat.ne_of_lt (Heap.lt_size (Heap.get?_push_of_some _ e1))) (Heap.get?_push_size _ rfl) rfl (by first | (simp; done) | (simp; omega) | (simp only [Array.size_append]; simp; omega)) ?_
    refine hE _ _ (fun b o e => ?_) ⟨_, Heap.get?_update_self _ (Heap.get?_push_size _ rfl) rfl, rfl⟩
    have e2 := Heap.get?_push_of_some { cls := .type "tuple", data := .seq #[] } e
    rw [Heap.get?_update_other _ _ (Nat.ne_of_gt (Heap.lt_size (Heap.get?_push_of_some _ e)))]
    exact Heap.get?_push_of_some _ (Heap.get?_push_of_some _ e)
end
end K6

/-! ## KB -/
namespace K6
open PySem PySem.Spec PyProof.Rows L2
section
variable {prog : Program} {w : World} {A : Around} {E : Value → Shared → Prop} {s : Shared}

/-- the last step of each iterator's end: its first field cleared, StopIteration raised -/
theorem stop_clear {it : Addr} {oi : Obj} {vs : Array Value} {Q : Fin → Shared → Prop} {F : Value → Shared → Prop} (q : Qh A s.heap) (hi : s.heap.get? it = some oi) (hd : oi.data = .fields vs) (hz : 0 < vs.size) (hn : vs[2]? ≠ some .none)
    (hF : ∀ e h', Heap.ExtBut it s.heap h' → (∃ o, h'.get? e = some o ∧ o.cls = .type "StopIteration") → F (.ref e) { s with heap := h' }) :
    wpAny (model prog w) A (setField (.ref it) 0 .none >>= fun _ => newExc (.type "StopIteration") [] >>= fun e => (raiseNew e : Sem Fin)) Q F s := by
  refine wpAny_bind (wpAny_setField hi hd hz ?_)
  refine stop_raised (s := { s with heap := s.heap.update it _ }) ?_ fun e h' k ho => hF e h' (fun b o hb e2 => k b o ?_) ho
  · refine q.but hi (fun b o hb e => ?_) fun ws d c => hn ?_
    · show (s.heap.update it _).get? b = some o
      rw [Heap.get?_update_other _ _ (Ne.symm hb)]
      exact e
    · rw [hd] at d
      cases d
      exact c
  · show (s.heap.update it _).get? b = some o
    rw [Heap.get?_update_other _ _ (Ne.symm hb)]
    exact e2

theorem after_stop {e : Addr} {h' : Heap} {Q : Option Value → Shared → Prop} (ho : ∃ o, h'.get? e = some o ∧ o.cls = .type "StopIteration") (hQ : Q none { s with heap := h' }) :
    wpAny (model prog w) A (isInstance (.ref e) (.type "StopIteration")) (fun b s' => wpAny (model prog w) A (if b then pure none else throw (.ref e)) Q E s') E { s with heap := h' } := by
  obtain ⟨o, he, hc⟩ := ho
  refine wpAny_isInstance (T := "StopIteration") (b := true) ⟨o, he, hc⟩ isSubtype_stop ?_
  exact wpAny_pure hQ

theorem list_end {it l : Addr} {i : Nat} {items : Array Value} {Q : Option Value → Shared → Prop} (q : Qh A s.heap) (hit : s.heap.IsListIter it l i) (hl : s.heap.IsList l items) (hx : items[i]? = none)
    (hQ : ∀ h', Heap.ExtBut it s.heap h' → Q none { s with heap := h' }) : wpAny (model prog w) A (pyNext (.ref it)) Q E s := by
  obtain ⟨o, ho, hc, hd⟩ := id hit
  obtain ⟨ol, hol, _, nl, hdl⟩ := hl
  unfold pyNext
  refine wpAny_bind (wpAny_attempt (wpAny_callSpecial?_slot (name := Str.ofString "__next__") hit.typeIs slot_listiter_next (wpAny_call_entry slot_listiter_next hit.typeIs entry_listiter_next ?_ (args_listiter_next _))))
  show wpAny _ _ (field (.ref it) 0 >>= _) _ _ s
  refine wpAny_bind (wpAny_field ho hd (x := .ref l) rfl ?_)
  rw [if_neg (show ¬ ((Value.ref l == Value.none) = true) from Bool.false_ne_true)]
  show wpAny _ _ (field (.ref it) 1 >>= _) _ _ s
  refine wpAny_bind (wpAny_field ho hd (x := .int i 0) rfl ?_)
  show wpAny _ _ (seqItems? (.ref l) >>= _) _ _ s
  refine wpAny_bind (wpAny_seqItems hol hdl ?_)
  simp only [Int.toNat_natCast, hx]
  refine wpAny_bind (wpAny_rule ?_)
  refine stop_clear (A := A.in1) q ho hd (by simp) (by simp) fun e h' k hoe => ?_
  refine wpAny_bind ?_
  obtain ⟨oe, he, hce⟩ := hoe
  exact wpAny_isInstance (T := "StopIteration") (b := true) ⟨oe, he, hce⟩ isSubtype_stop (wpAny_pure (hQ h' k))
end
end K6

/-! ## KC -/
namespace K6
open PySem PySem.Spec PyProof.Rows L2
section
variable {prog : Program} {w : World} {A : Around} {E : Value → Shared → Prop} {s : Shared}
theorem stopped {e : Addr} {h' : Heap} {Q : Option Value → Shared → Prop} {f : Bool → Sem (Option Value)} (hf : f true = pure none) (ho : ∃ o, h'.get? e = some o ∧ o.cls = .type "StopIteration") (hQ : Q none { s with heap := h' }) :
    wpAny (model prog w) A (isInstance (.ref e) (.type "StopIteration") >>= f) Q E { s with heap := h' } := by
  obtain ⟨oe, he, hce⟩ := ho
  exact wpAny_bind (wpAny_isInstance (T := "StopIteration") (b := true) ⟨oe, he, hce⟩ isSubtype_stop (by rw [hf]; exact wpAny_pure hQ))
theorem tup_end {it t : Addr} {i : Nat} {items : Array Value} {Q : Option Value → Shared → Prop} (q : Qh A s.heap) (hit : s.heap.IsTupleIter it t i) (ht : s.heap.IsTuple t items) (hx : items[i]? = none)
    (hQ : ∀ h', Heap.ExtBut it s.heap h' → Q none { s with heap := h' }) : wpAny (model prog w) A (pyNext (.ref it)) Q E s := by
  obtain ⟨o, ho, hc, hd⟩ := id hit
  obtain ⟨ot, hot, _, nt, hdt⟩ := ht
  unfold pyNext
  refine wpAny_bind (wpAny_attempt (wpAny_callSpecial?_slot (name := Str.ofString "__next__") hit.typeIs F.slot_tuple_iterator_next (wpAny_call_entry F.slot_tuple_iterator_next hit.typeIs F.entry_tuple_iterator_next ?_ (F.args_tuple_iterator_next_1 _))))
  show wpAny _ _ (field (.ref it) 0 >>= _) _ _ s
  refine wpAny_bind (wpAny_field ho hd (x := .ref t) rfl ?_)
  rw [if_neg (show ¬ ((Value.ref t == Value.none) = true) from Bool.false_ne_true)]
  show wpAny _ _ (field (.ref it) 1 >>= _) _ _ s
  refine wpAny_bind (wpAny_field ho hd (x := .int i 0) rfl ?_)
  show wpAny _ _ (seqItems? (.ref t) >>= _) _ _ s
  refine wpAny_bind (wpAny_seqItems hot hdt ?_)
  simp only [Int.toNat_natCast, hx]
  refine wpAny_bind (wpAny_rule ?_)
  exact stop_clear (A := A.in1) q ho hd (by simp) (by simp) fun e h' k hoe => stopped rfl hoe (hQ h' k)
theorem stop_clearL {it : Addr} {oi : Obj} {vs : Array Value} {us : List Value} {Q : Fin → Shared → Prop} {F : Value → Shared → Prop} (q : Qh A s.heap) (hi : s.heap.get? it = some oi) (hd : oi.data = .fields vs) (hz : 0 < vs.size) (hn : vs[2]? ≠ some .none)
    (hF : ∀ e h', Heap.ExtBut it s.heap h' → (∃ o, h'.get? e = some o ∧ o.cls = .type "StopIteration") → F (.ref e) { s with heap := h' }) :
    wpAny (model prog w) A (setField (.ref it) 0 .none >>= fun _ => letGo us >>= fun _ => newExc (.type "StopIteration") [] >>= fun e => (raiseNew e : Sem Fin)) Q F s := by
  refine wpAny_bind (wpAny_setField hi hd hz (wpAny_bind (wpAny_letGo ?_)))
  refine stop_raised (s := { s with heap := s.heap.update it _ }) ?_ fun e h' k ho => hF e h' (fun b o hb e2 => k b o ?_) ho
  · refine q.but hi (fun b o hb e => ?_) fun ws d c => hn ?_
    · show (s.heap.update it _).get? b = some o
      rw [Heap.get?_update_other _ _ (Ne.symm hb)]
      exact e
    · rw [hd] at d
      cases d
      exact c
  · show (s.heap.update it _).get? b = some o
    rw [Heap.get?_update_other _ _ (Ne.symm hb)]
    exact e2
theorem ascii_end {it : Addr} {x : Str} {t : Tok} {i : Nat} {Q : Option Value → Shared → Prop} (q : Qh A s.heap) (hit : s.heap.IsStrIter it "str_ascii_iterator" x t i) (hx : x.cps[i]? = none)
    (hQ : ∀ h', Heap.ExtBut it s.heap h' → Q none { s with heap := h' }) : wpAny (model prog w) A (pyNext (.ref it)) Q E s := by
  obtain ⟨o, ho, hc, hd⟩ := id hit
  unfold pyNext
  refine wpAny_bind (wpAny_attempt (wpAny_callSpecial?_slot (name := Str.ofString "__next__") hit.typeIs F.slot_str_ascii_iterator_next (wpAny_call_entry F.slot_str_ascii_iterator_next hit.typeIs F.entry_str_ascii_iterator_next ?_ (F.args_str_ascii_iterator_next_1 _))))
  show wpAny _ _ (field (.ref it) 0 >>= _) _ _ s
  refine wpAny_bind (wpAny_field ho hd (x := .str x t) rfl ?_)
  show wpAny _ _ (field (.ref it) 1 >>= _) _ _ s
  refine wpAny_bind (wpAny_field ho hd (x := .int i 0) rfl ?_)
  simp only [Int.toNat_natCast, hx]
  refine wpAny_bind (wpAny_rule ?_)
  exact stop_clearL (A := A.in1) q ho hd (by simp) (by simp) fun e h' k hoe => stopped rfl hoe (hQ h' k)
theorem wide_end {it : Addr} {x : Str} {t : Tok} {i : Nat} {Q : Option Value → Shared → Prop} (q : Qh A s.heap) (hit : s.heap.IsStrIter it "str_iterator" x t i) (hx : x.cps[i]? = none)
    (hQ : ∀ h', Heap.ExtBut it s.heap h' → Q none { s with heap := h' }) : wpAny (model prog w) A (pyNext (.ref it)) Q E s := by
  obtain ⟨o, ho, hc, hd⟩ := id hit
  unfold pyNext
  refine wpAny_bind (wpAny_attempt (wpAny_callSpecial?_slot (name := Str.ofString "__next__") hit.typeIs F.slot_str_iterator_next (wpAny_call_entry F.slot_str_iterator_next hit.typeIs F.entry_str_iterator_next ?_ (F.args_str_iterator_next_1 _))))
  show wpAny _ _ (field (.ref it) 0 >>= _) _ _ s
  refine wpAny_bind (wpAny_field ho hd (x := .str x t) rfl ?_)
  show wpAny _ _ (field (.ref it) 1 >>= _) _ _ s
  refine wpAny_bind (wpAny_field ho hd (x := .int i 0) rfl ?_)
  simp only [Int.toNat_natCast, hx]
  refine wpAny_bind (wpAny_rule ?_)
  exact stop_clearL (A := A.in1) q ho hd (by simp) (by simp) fun e h' k hoe => stopped rfl hoe (hQ h' k)
theorem key_end {it d : Addr} {i n ep : Nat} {od : Obj} {es : Array DictEntry} {Q : Option Value → Shared → Prop} (q : Qh A s.heap) (hit : s.heap.IsKeyIter it d i n ep) (hod : s.heap.get? d = some od) (hdd : od.data = .dict es ep)
    (hsz : es.size = n) (hge : n ≤ i) (hQ : ∀ h', Heap.ExtBut it s.heap h' → Q none { s with heap := h' }) : wpAny (model prog w) A (pyNext (.ref it)) Q E s := by
  obtain ⟨o, ho, hc, hd⟩ := id hit
  unfold pyNext
  refine wpAny_bind (wpAny_attempt (wpAny_callSpecial?_slot (name := Str.ofString "__next__") hit.typeIs F.slot_dict_keyiterator_next (wpAny_call_entry F.slot_dict_keyiterator_next hit.typeIs F.entry_dict_keyiterator_next ?_ (F.args_dict_keyiterator_next_1 _))))
  refine wpAny_bind (wpAny_pure (wpAny_bind (wpAny_bind ?_)))
  first | refine wpAny_bind (wpAny_typeNameOfWhole_keyiter hit.typeIs (wpAny_pure ?_)) | refine wpAny_bind (wpAny_typeNameOf_keyiter hit.typeIs (wpAny_pure ?_))
  refine wpAny_bind (wpAny_fieldsOf ho hd ?_)
  simp only [show Builtin.Dict_items.ownsTuple "dict_keyiterator" = false from by decide, Bool.false_eq_true, if_false]
  show wpAny _ _ (if (Value.ref d == Value.none) = true then _ else _) _ _ s
  rw [if_neg (show ¬ ((Value.ref d == Value.none) = true) from Bool.false_ne_true)]
  refine wpAny_bind (wpAny_pure (wpAny_bind (wpAny_dictEntries hod hdd ?_)))
  rw [if_neg (by rw [hsz]; simp)]
  refine wpAny_bind (wpAny_pure (wpAny_bind (wpAny_dictEpoch hod hdd ?_)))
  rw [if_neg (by simp)]
  have hz : es.size ≤ i := by rw [hsz]; exact hge
  refine wpAny_pure ?_
  simp only [show ¬ ((i : Int) < 0) from by omega, if_false, Int.toNat_natCast, Array.getElem?_eq_none hz]
  refine wpAny_bind ?_
  first | refine wpAny_bind (wpAny_typeNameOfWhole_keyiter hit.typeIs (wpAny_pure ?_)) | refine wpAny_bind (wpAny_typeNameOf_keyiter hit.typeIs (wpAny_pure ?_))
  exact stop_clear (A := A.in1) q ho hd (by simp) (by simp) fun e h' k hoe => stopped rfl hoe (hQ h' k)
end
end K6

/-! ## KD -/
namespace K6
open PySem PySem.Spec PyProof.Rows L2
abbrev St := L2.St

/-! ### where nothing, or one plain exception, is handled -/
def Qz (A : Around) (outer : List Env) (H : Hp) (s : Shared) : Option (Addr × Obj) → Prop
  | none => A.handled = none
  | some p => L2H.Hot1 A p ∧ L2H.PinOk outer H s p
/-- X is quiet; h: an exception may be handled -/
def Qk (h : Bool) (X : Cx) : Prop := X.calm = true ∨ (h = true ∧ L2H.HotC X)
theorem Qk.up {X : Cx} {h : Bool} (q : Qk h X) : Qk true X := q.imp id fun z => ⟨rfl, z.2⟩
theorem Qk.qh {h : Bool} {X : Cx} {pins : List (Addr × Obj)} {σ : St} {H : Hp} {s : Shared} (q : Qk h X) (I : Inv X pins σ H s) : Qh X.A s.heap := by
  rcases q with q | ⟨_, q⟩
  · exact .inl (I.ok.hd q)
  · exact .inr (q.at I)
theorem Qk.qz {h : Bool} {X : Cx} {pins : List (Addr × Obj)} {σ : St} {H : Hp} {s : Shared} (q : Qk h X) (I : Inv X pins σ H s) : ∃ pz, (pz = none ∨ h = true) ∧ Qz X.A X.stack H s pz := by
  rcases q with q | ⟨hh, p, hot, hp⟩
  · exact ⟨none, .inl rfl, I.ok.hd q⟩
  · have P1 := I.pin p (List.mem_append_left _ hp)
    exact ⟨some p, .inr hh, hot, ⟨P1.1, P1.2.1, fun hm => (List.mem_cons.mp (I.stkSub p.1 hm)).elim P1.2.2.1 P1.2.2.2.1, P1.2.2.2.2⟩⟩

/-! ### a def's promise -/
/-- the def at f keeps sp, h: also where an exception is handled -/
def Fb (h : Bool) (P : Program) (w : World) (K : PySem.W.Frag) (mg : Str → Option Value) (base : Heap) (k : Nat) (f : Addr) (sp : Sp) : Prop :=
  ∀ (pz : Option (Addr × Obj)) (A : Around) (outer : List Env) (s : Shared) (H : Hp) (us : List Value) (vs : List V) (Q : VK) (E : XK), (pz = none ∨ h = true) → L2H.RoomH k A → Qz A outer H s pz → Env0 P w K mg base A outer s H → Vals vs us →
    sp vs H Q E → codeAny (model P w) A (.call (.ref f) ⟨us, []⟩) (CR (L2N.CX P w) outer P w H s Q E) s
section
variable {P : Program} {w : World} {K : PySem.W.Frag} {mg : Str → Option Value} {base : Heap} {h : Bool} {j k : Nat} {f : Addr} {sp sp' : Sp}
theorem Fb.mono (F : Fb h P w K mg base j f sp) (hk : j ≤ k) : Fb h P w K mg base k f sp := fun pz A outer s H us vs Q E hp hr => F pz A outer s H us vs Q E hp (hr.mono hk)
theorem Fb.imp (F : Fb h P w K mg base k f sp) (hs : ∀ vs H Q E, sp' vs H Q E → sp vs H Q E) : Fb h P w K mg base k f sp' := fun pz A outer s H us vs Q E hp hr q e r z => F pz A outer s H us vs Q E hp hr q e r (hs _ _ _ _ z)
theorem Fb.calm (F : Fb h P w K mg base k f sp) : Fb false P w K mg base k f sp := fun pz A outer s H us vs Q E hp hr q e r z => F pz A outer s H us vs Q E (hp.imp id fun y => nomatch y) hr q e r z
theorem Fb.or (F : Fb h P w K mg base k f sp) (G : Fb h P w K mg base k f sp') : Fb h P w K mg base k f (fun vs H Q E => sp vs H Q E ∨ sp' vs H Q E) := fun pz A outer s H us vs Q E hp hr q e r z =>
  z.elim (F pz A outer s H us vs Q E hp hr q e r) (G pz A outer s H us vs Q E hp hr q e r)
/-- from a promise of the layer -/
theorem Fb.ofR (F : FnR P w K mg base (L2N.CX P w) k f sp) : Fb false P w K mg base k f sp := fun pz A outer s H us vs Q E hp hr q e r z => by
  rcases hp with rfl | hp
  · exact F A outer s H us vs Q E ⟨q, hr.dp, hr.un⟩ e r z
  · cases hp
end

/-- the context of a def's body -/
def cxQ (P : Program) (w : World) (K : PySem.W.Frag) (mg : Str → Option Value) (base : Heap) (N : List Str) (qual : Str) (scope : Scope) (f : Addr) (cd : Value) (A : Around) (outer : List Env) (s : Shared) (H : Hp) (E : XK) (pz : Option (Addr × Obj)) : Cx :=
  { cxOf (L2N.CX P w) P w K mg base N qual scope f cd A outer s H E with calm := pz.isNone, pn := pz.toList }
section
variable {P : Program} {w : World} {K : PySem.W.Frag} {mg : Str → Option Value} {base : Heap} {N ps : List Str} {x qual : Str} {scope : Scope} {f : Addr} {cd : Value} {A : Around} {outer : List Env} {s s1 : Shared} {H : Hp} {E : XK} {pz : Option (Addr × Obj)} {us : List Value} {vs : List V} {h : Bool} {k : Nat} {sp : Sp} {st : Stmt} {fd : FuncData}
theorem inv_startQ (S : FnScope N ps scope) (q : Qz A outer H s pz) (e0 : Env0 P w K mg base A outer s H) (hl : vs.length = ps.length) (r : Vals vs us)
    (x : InCallC s s.heap.objs.size (bindL (envOfC qual scope s.heap.objs.size f cd).kindOf (ps.zip us) fun _ => none) (cellsFrom (s.heap.objs.size + 1) scope.names []) (bindC (envOfC qual scope s.heap.objs.size f cd).kindOf (ps.zip us) fun _ => none) s1) :
    Inv (cxQ P w K mg base N qual scope f cd A outer s H E pz) [] (L2.start N vs) H s1 := by
  cases pz with
  | none => exact L2.inv_start (CX := L2N.CX P w) (E := E) S q e0 hl r x
  | some p => exact L2H.inv_startH (CX := L2N.CX P w) (E := E) S q.2 e0 hl r x
theorem takesQ : L2N.Takes (cxQ P w K mg base N qual scope f cd A outer s H E pz) (fun cls d _ H => E cls d H) := L2N.takes_of rfl rfl rfl rfl
theorem ownsQ : PassesOwn (model P w) (cxQ P w K mg base N qual scope f cd A outer s H E pz).A (cxQ P w K mg base N qual scope f cd A outer s H E pz).env (cxQ P w K mg base N qual scope f cd A outer s H E pz).xe :=
  L2.passes_of (X := cxQ P w K mg base N qual scope f cd A outer s H E pz) (K := fun e s'' => L2N.CX P w outer H s E e s'') (E₁ := fun e' s'' => L2N.CX P w outer H s E e' s'') rfl
end

/-! ### weakest readings: a piece of text where it stands -/
abbrev wE (X : Cx) (e : Expr) : TE := fun σ H Q => ∀ pins s, Inv X pins σ H s → wpAny (model X.prog X.w) X.A (eval e X.env) (EP X pins σ Q) X.xe s
abbrev wT (X : Cx) (e : Expr) : TT := fun σ H Q => ∀ pins s, Inv X pins σ H s → wpAny (model X.prog X.w) X.A (isTrue e X.env (eval e X.env)) (TP X pins σ Q) X.xe s
abbrev wA (X : Cx) (es : List Expr) : TA := fun σ H Q => ∀ pos pins s, Inv X pins σ H s → wpAny (model X.prog X.w) X.A (spliced (backTo pos (starEach es X.env))) (AP X pins σ Q) X.xe s
abbrev wS (X : Cx) (st : Stmt) : TS := fun D σ H => ∀ pins s, Inv X pins σ H s → wpAny (model X.prog X.w) X.A (exec st X.env) (SP X pins D) X.xe s
abbrev wB (X : Cx) (st : List Stmt) : TS := fun D σ H => ∀ pins s, Inv X pins σ H s → wpAny (model X.prog X.w) X.A (execs st X.env) (SP X pins D) X.xe s
abbrev wG (X : Cx) (tg : Expr) : TG := fun v σ H Q => ∀ pins s u, Inv X pins σ H s → RelV v u → wpAny (model X.prog X.w) X.A (assign tg X.env u) (fun _ s' => ∃ σ' H', Inv X pins σ' H' s' ∧ Q σ' H') X.xe s
theorem pE {X : Cx} {e : Expr} : PE X e (wE X e) := ⟨fun pins s σ H Q I h => h pins s I⟩
theorem pT {X : Cx} {e : Expr} : PT X e (wT X e) := ⟨fun pins s σ H Q I h => h pins s I⟩
theorem pA {X : Cx} {es : List Expr} : PA X es (wA X es) := ⟨fun pos pins s σ H Q I h => h pos pins s I⟩
theorem pS {X : Cx} {st : Stmt} : PS X st (wS X st) := ⟨fun pins s σ H D I h => h pins s I⟩
theorem pB {X : Cx} {st : List Stmt} : PSs X st (wB X st) := ⟨fun pins s σ H D I h => h pins s I⟩
theorem pG {X : Cx} {tg : Expr} : PG X tg (wG X tg) := ⟨fun pins s σ H v u Q I r h => h pins s u I r⟩
theorem PE.w {X : Cx} {e : Expr} {t : TE} {σ : St} {H : Hp} {Q : VK} (p : PE X e t) (h : t σ H Q) : wE X e σ H Q := fun pins s I => p.run pins s σ H Q I h
theorem PT.w {X : Cx} {e : Expr} {t : TT} {σ : St} {H : Hp} {Q : Bool → Hp → Prop} (p : PT X e t) (h : t σ H Q) : wT X e σ H Q := fun pins s I => p.run pins s σ H Q I h
theorem PA.w {X : Cx} {es : List Expr} {t : TA} {σ : St} {H : Hp} {Q : List V → Hp → Prop} (p : PA X es t) (h : t σ H Q) : wA X es σ H Q := fun pos pins s I => p.run pos pins s σ H Q I h
theorem PS.w {X : Cx} {st : Stmt} {t : TS} {σ : St} {H : Hp} {D : Ends} (p : PS X st t) (h : t D σ H) : wS X st D σ H := fun pins s I => p.run pins s σ H D I h
theorem PSs.w {X : Cx} {st : List Stmt} {t : TS} {σ : St} {H : Hp} {D : Ends} (p : PSs X st t) (h : t D σ H) : wB X st D σ H := fun pins s I => p.run pins s σ H D I h
theorem PG.w {X : Cx} {tg : Expr} {t : TG} {v : V} {σ : St} {H : Hp} {Q : St → Hp → Prop} (p : PG X tg t) (h : t v σ H Q) : wG X tg v σ H Q := fun pins s u I r => p.run pins s σ H v u Q I r h
section
variable {X : Cx} {σ : St} {H : Hp}
theorem wE.mono {e : Expr} {Q Q' : VK} (h : wE X e σ H Q) (k : ∀ v H', Q v H' → Q' v H') : wE X e σ H Q' := fun pins s I => thn (h pins s I) fun u s' ⟨v, H', I', r, q⟩ => ⟨v, H', I', r, k v H' q⟩
theorem wT.mono {e : Expr} {Q Q' : Bool → Hp → Prop} (h : wT X e σ H Q) (k : ∀ v H', Q v H' → Q' v H') : wT X e σ H Q' := fun pins s I => thn (h pins s I) fun u s' ⟨H', I', q⟩ => ⟨H', I', k _ H' q⟩
theorem wA.mono {es : List Expr} {Q Q' : List V → Hp → Prop} (h : wA X es σ H Q) (k : ∀ v H', Q v H' → Q' v H') : wA X es σ H Q' := fun pos pins s I => thn (h pos pins s I) fun u s' ⟨v, H', I', r, q⟩ => ⟨v, H', I', r, k v H' q⟩
theorem SP.mono {pins : List (Addr × Obj)} {D D' : Ends} {f : Flow} {s : Shared} (h1 : ∀ σ H, D.nx σ H → D'.nx σ H) (h2 : ∀ v H, D.rt v H → D'.rt v H) (h3 : ∀ σ H, D.bk σ H → D'.bk σ H) (h4 : ∀ σ H, D.ct σ H → D'.ct σ H) (h : SP X pins D f s) : SP X pins D' f s := by
  cases f with
  | next => obtain ⟨σ, H, I, q⟩ := h; exact ⟨σ, H, I, h1 _ _ q⟩
  | brk => obtain ⟨σ, H, I, q⟩ := h; exact ⟨σ, H, I, h3 _ _ q⟩
  | cont => obtain ⟨σ, H, I, q⟩ := h; exact ⟨σ, H, I, h4 _ _ q⟩
  | ret u => obtain ⟨v, σ, H, I, r, q⟩ := h; exact ⟨v, σ, H, I, r, h2 _ _ q⟩
end
end K6

/-! ## KF -/
namespace K6
open PySem PySem.Spec PyProof.Rows L2

section
variable {P : Program} {w : World} {K : PySem.W.Frag} {mg : Str → Option Value} {base : Heap} {N ps : List Str} {x qual : Str} {f : Addr} {h : Bool} {k : Nat} {sp : Sp} {st : Stmt} {fd : FuncData}
/-- THE RULE of a def -/
theorem fn_b (F : Fun K x qual st f fd) (S : FnScope N ps (defScope st)) (len : ∀ vs H Q E, sp vs H Q E → vs.length = ps.length)
    (hb : ∀ (kV doc pm : Value) (an : Option Addr) (cdv ct : Value) (us : List Value), us.length = ps.length → bindArgs (PySem.W.fnOf x qual (defArgs st) (defBody st) (defScope st) .none kV doc pm an cdv ct) ⟨us, []⟩ = pure (ps.zip us))
    (hbody : ∀ (pz : Option (Addr × Obj)) (cdv : Value) (A : Around) (outer : List Env) (s : Shared) (H : Hp) (vs : List V) (Q : VK) (E : XK), (pz = none ∨ h = true) → Qk h (cxQ P w K mg base N qual (defScope st) f cdv A outer s H E pz) → L2H.RoomH k (cxQ P w K mg base N qual (defScope st) f cdv A outer s H E pz).A → sp vs H Q E →
      wB (cxQ P w K mg base N qual (defScope st) f cdv A outer s H E pz) (defBody st) { nx := fun _ H' => Q .non H', rt := Q } (L2.start N vs) H) :
    Fb h P w K mg base (k + 1) f sp := by
  intro pz A outer s H us vs Q E hp hr q e0 r hsp
  obtain ⟨oc, od, kV, doc, pm, an, cdv, ct, osl, rfl, lk, hcd⟩ := F.ex
  have hl := len _ _ _ _ hsp
  have hlu : us.length = ps.length := by rw [← r.length]; exact hl
  have KX : K.In s.heap := e0.mod.kin.keeps fun b o e => (e0.bs b o e).1
  have lim : s.heap.NoLimit := e0.mod.nolimit.keeps fun b o e => (e0.bs b o e).1
  refine codeAny_call_function hr.depth (KX _ _ lk) rfl S.co S.gen rfl (PySem.W.codeRec_of KX hcd) ?_
  rw [hb kV doc pm an cdv ct us hlu]
  refine wpAny_pure (wpAny_newFunctionEnv_cells S.kind (fun y hy => ?_) fun env he s1 x => ?_)
  · rcases S.par y.1 (List.of_mem_zip hy).1 with z | z
    · exact .inl z
    · exact .inr ⟨z, PySem.W.cellsFrom_some _ _ _ (.inl z)⟩
  subst he
  refine ⟨lim.keeps x.toInCall.keep, codeAny_func ?_⟩
  have qk : Qk h (cxQ P w K mg base N qual (defScope st) f cdv A outer s H E pz) := by
    cases pz with
    | none => exact .inl rfl
    | some p =>
      refine .inr ⟨hp.elim (fun z => nomatch z) id, p, q.1, ?_⟩
      show p ∈ [p]
      exact List.mem_singleton.mpr rfl
  have B := hbody pz cdv A outer s H vs Q E hp qk (hr.deeper _) hsp [] s1 (inv_startQ S q e0 hl r x)
  refine wpAny_mono B (fun fl s' hs => ?_) fun e s' hs => hs
  have fin : ∀ {σ' : St} {H' : Hp} {v : V} {u : Value}, Inv (cxQ P w K mg base N qual (defScope st) f cdv A outer s H E pz) [] σ' H' s' → RelV v u → Q v H' → CE outer P w H s Q u s' :=
    fun {σ' H' v u} J rv z => ⟨v, H', J.os, J.bare, J.base, J.hok, rv, z⟩
  cases fl with
  | ret u =>
    obtain ⟨v, σ', H', J, rv, z⟩ := hs
    exact fin J rv z
  | next =>
    obtain ⟨σ', H', J, z⟩ := hs
    exact fin (v := V.non) (u := Value.none) J rfl z
  | brk =>
    obtain ⟨_, _, _, z⟩ := hs
    exact z.elim
  | cont =>
    obtain ⟨_, _, _, z⟩ := hs
    exact z.elim
end

/-! ### calls -/
section
variable {X : Cx} {pins : List (Addr × Obj)} {σ : St} {H : Hp} {s : Shared} {h : Bool} {k : Nat} {f g C a dx : Addr} {sp : Sp} {E : XK} {Q : VK} {us : List Value} {vs : List V} {A : Around} {fs : List (Str × V)}
abbrev FbX (h : Bool) (X : Cx) (k : Nat) (f : Addr) (sp : Sp) : Prop := Fb h X.prog X.w X.K X.mg X.base k f sp
abbrev PaX (X : Cx) (σ : St) (E : XK) : Prop := PassesAt (L2N.CX X.prog X.w) X σ E
/-- the callee raises nothing -/
theorem paF : PaX X σ (fun _ _ _ => False) := fun pins H s e s' I c => by
  obtain ⟨a, B, H', cls, d, _, _, _, _, _, _, _, z⟩ := c
  exact z.elim
theorem paT {W : WX} (tk : L2N.Takes X W) : PaX X σ (WE W σ) := L2N.passAt tk σ
/-- the callee runs, at A -/
theorem run_at (F : FbX h X k f sp) (q : Qk h X) (hh : A.handled = X.A.handled) (hf : A.frames = X.A.frames) (hr : L2H.RoomH k A) (hx : PaX X σ E) (I : Inv X pins σ H s) (r : Vals vs us) (hs : sp vs H Q E) :
    codeAny (model X.prog X.w) A (.call (.ref f) ⟨us, []⟩) (fun r s' => match r with | .ok (.ret u) => EP X pins σ Q u s' | .ok _ => False | .error e => X.xe e s') s := by
  obtain ⟨pz, hp, z⟩ := q.qz I
  have z' : Qz A X.stack H s pz := by
    cases pz with
    | none => exact hh.trans z
    | some p => exact ⟨⟨hh.trans z.1.1, z.1.2⟩, z.2⟩
  have e0 : Env0 X.prog X.w X.K X.mg X.base A X.stack s H := ⟨hf.trans I.ok.frames, I.ok.mod, I.bs, Nat.le_trans I.ok.bsz I.sz, I.stack, I.stkFree, I.hok, I.bare⟩
  refine codeAny_mono (F pz A X.stack s H us vs Q E hp hr z' e0 r hs) fun r s' hq => ?_
  cases r with
  | error e => exact hx pins H s e s' I hq
  | ok fl =>
    cases fl with
    | ret u => exact I.after hq
    | next => exact hq.elim
    | brk => exact hq.elim
    | cont => exact hq.elim
theorem call_at (F : FbX h X k f sp) (q : Qk h X) (hh : A.handled = X.A.handled) (hf : A.frames = X.A.frames) (hr : L2H.RoomH k A) (hx : PaX X σ E) (I : Inv X pins σ H s) (r : Vals vs us) (hs : sp vs H Q E) :
    wpAny (model X.prog X.w) A (call (.ref f) us) (EP X pins σ Q) X.xe s :=
  wpAny_call (codeAny_mono (run_at F q hh hf hr hx I r hs) fun r s' z => by
    cases r with
    | error e => exact z
    | ok fl => cases fl <;> first | exact z | exact z.elim)
theorem RoomH.in1 (r : L2H.RoomH (k + 1) A) : L2H.RoomH k A.in1 := ⟨by have := r.dp; show A.depth + 3 * k + 5 < _; omega, by have := r.un; show A.units + 1 + 16 * k + 200 < _; omega⟩
theorem RoomH.u (r : L2H.RoomH k A) : A.units + 64 < cLine := by have := r.un; omega
theorem RoomH.make (r : L2H.RoomH (k + 1) A) (C : Addr) (us : List Value) (kw : List (Str × Value)) : L2H.RoomH k (A.under (.builtin "type.__call__" ⟨.ref C :: us, kw⟩)) :=
  ⟨by have := r.dp; rw [make_depth]; omega, by have := r.un; rw [make_units]; omega⟩

/-- a def of the module -/
structure Df (X : Cx) (x : Str) (f : Addr) : Prop where
  mg : X.mg x = some (.ref f)
  kp : PySem.W.keepIn X.K (.ref f) = true

variable {x m : Str} {e o : Expr} {es : List Expr} {p pos apos : Pos}
theorem w_call (F : FbX h X k f sp) (q : Qk h X) (hr : L2H.RoomH k X.A) (d : Df X x f) (hx : PaX X σ E) (hg : Gl X x) (hw : wA X (e :: es) σ H fun vs H1 => sp vs H1 Q E)
    (hdb : (x == ("__debug__" : Str)) = false := by decide) (he : starEach (e :: es) X.env = (false, eval e X.env) :: starEach es X.env := by rfl) (hpl : (backTo pos (starEach es X.env)).any (·.1) = false := by rfl) :
    wE X (.Call (.Name x p) (e :: es) [] pos) σ H Q := fun pins s I => by
  refine wpAny_Call_Name_kw (ld_glob I hg d.mg ?_ hdb)
  refine PySem.W.callWith_K (h₀ := X.base) I.ok.mod.kin d.kp (thn (hw pos pins s I) fun us s1 ⟨vs, H1, I1, r, z⟩ => ⟨I1.kIn, ?_⟩) he hpl
  exact call_at F q rfl rfl hr hx I1 r z
theorem w_call0 (F : FbX h X k f sp) (q : Qk h X) (hr : L2H.RoomH k X.A) (d : Df X x f) (hx : PaX X σ E) (hg : Gl X x) (hw : sp [] H Q E)
    (hdb : (x == ("__debug__" : Str)) = false := by decide) : wE X (.Call (.Name x p) [] [] pos) σ H Q := fun pins s I => by
  refine wpAny_Call_Name_kw (ld_glob I hg d.mg ?_ hdb)
  exact PySem.W.callWith_K0 I.kIn d.kp (call_at (us := []) F q rfl rfl hr hx I .nil hw)
theorem w_meth {pl : Sem Bool} (F : FbX h X k f sp) (q : Qk h X) (hr : L2H.RoomH k X.A) (c : Cls X.K C) (hm : Meth X.K C m f) (hx : PaX X σ E)
    (hw : wE X o σ H fun v H1 => ∃ a dx fs, v = .ref a ∧ H1 a = some (.ins C dx fs) ∧ fs.lookup m = none ∧ wA X (e :: es) σ H1 fun vs H2 => sp (.ref a :: vs) H2 Q E)
    (hst : starEach (e :: es) X.env = (false, eval e X.env) :: starEach es X.env := by rfl) (hpl : (backTo pos (starEach es X.env)).any (·.1) = false := by rfl)
    (ht : eval (.Call (.Attribute o m apos) (e :: es) [] pos) X.env = (do
      let ov ← eval o X.env
      standAt apos.atName
      let (f, first) ← holding [ov] (getMethod ov m pl)
      callWith pos f first (backTo pos (starEach (e :: es) X.env)) (backToKw pos (keywordEach [] X.env))) := by rfl) :
    wE X (.Call (.Attribute o m apos) (e :: es) [] pos) σ H Q := fun pins s I => by
  refine PySem.W.methodCall_KW (pl := pl) (thn (hw pins s I) fun u s1 ⟨x, H1, I1, rx, a, dx, fs, ex, ea, l, z⟩ => ?_) ht
  subst ex
  obtain rfl : u = Value.ref a := rx
  refine getmeth_ok I1 ea c hm l ?_
  refine PySem.W.callWith_K (first := [.ref a]) (h₀ := X.base) I.ok.mod.kin hm.kp (thn (z pos pins s1 I1) fun us s2 ⟨vs, H2, I2, r, z2⟩ => ⟨I2.kIn, ?_⟩) hst hpl
  exact call_at (us := .ref a :: us) (vs := .ref a :: vs) F q rfl rfl hr hx I2 (.cons rfl r) z2
theorem w_meth0 {pl : Sem Bool} (F : FbX h X k f sp) (q : Qk h X) (hr : L2H.RoomH k X.A) (c : Cls X.K C) (hm : Meth X.K C m f) (hx : PaX X σ E)
    (hw : wE X o σ H fun v H1 => ∃ a dx fs, v = .ref a ∧ H1 a = some (.ins C dx fs) ∧ fs.lookup m = none ∧ sp [.ref a] H1 Q E)
    (ht : eval (.Call (.Attribute o m apos) [] [] pos) X.env = (do
      let ov ← eval o X.env
      standAt apos.atName
      let (f, first) ← holding [ov] (getMethod ov m pl)
      callWith pos f first (backTo pos (starEach [] X.env)) (backToKw pos (keywordEach [] X.env))) := by rfl) :
    wE X (.Call (.Attribute o m apos) [] [] pos) σ H Q := fun pins s I => by
  refine PySem.W.methodCall_KW (pl := pl) (thn (hw pins s I) fun u s1 ⟨x, H1, I1, rx, a, dx, fs, ex, ea, l, z⟩ => ?_) ht
  subst ex
  obtain rfl : u = Value.ref a := rx
  refine getmeth_ok I1 ea c hm l ?_
  exact PySem.W.callWith_K0 (first := [.ref a]) I1.kIn hm.kp (call_at (us := [.ref a]) (vs := [.ref a]) F q rfl rfl hr hx I1 (.cons rfl .nil) z)
/-- C(e, ..) -/
theorem make_at (M : Mk X.K C f) (F : FbX h X k f sp) (q : Qk h X) (hr : L2H.RoomH (k + 1) X.A) (hx : PaX X σ E) (I : Inv X pins σ H s) (r : Vals vs us)
    (hs : ∀ x dx, H x = none → H dx = none → dx ≠ x → sp (.ref x :: vs) (upd (upd H dx (.own x)) x (.ins C dx [])) (fun v H2 => v = .non ∧ Q (.ref x) H2) E) :
    wpAny (model X.prog X.w) X.A (call (.ref C) us) (EP X pins σ Q) X.xe s := by
  have hq := hs (s.heap.objs.size + 1) s.heap.objs.size (I.hok.fresh (Nat.le_succ _)) (I.hok.fresh (Nat.le_refl _)) (Nat.ne_of_lt (Nat.lt_succ_self _))
  have I2 := Inv.made (C := C) I
  have r2 : Vals (V.ref (s.heap.objs.size + 1) :: vs) (Value.ref (s.heap.objs.size + 1) :: us) := .cons rfl r
  refine wpAny_call (make_map (f := f) I.kIn M.makes M.init (beq_iff_eq.mp M.fn) (codeAny_mono (run_at (A := X.A.under (.builtin "type.__call__" ⟨.ref C :: us, []⟩)) F q (by first | rfl | simp [Around.under]) (by first | rfl | simp [Around.under, Code.envs, Code.isFrame, pushEnvs]) (RoomH.make hr C us []) hx I2 r2 hq) fun r s' z => ?_))
  cases r with
  | error e => exact z
  | ok fl =>
    cases fl with
    | ret u =>
      obtain ⟨v, H', I3, rv, ev, q3⟩ := z
      subst ev
      exact ⟨rv, V.ref (s.heap.objs.size + 1), H', I3, rfl, q3⟩
    | next => exact z.elim
    | brk => exact z.elim
    | cont => exact z.elim
theorem w_make (M : Mk X.K C f) (F : FbX h X k f sp) (q : Qk h X) (hr : L2H.RoomH (k + 1) X.A) (hm : X.mg x = some (.ref C)) (hx : PaX X σ E) (hg : Gl X x)
    (hw : wA X (e :: es) σ H fun vs H1 => ∀ x dx, H1 x = none → H1 dx = none → dx ≠ x → sp (.ref x :: vs) (upd (upd H1 dx (.own x)) x (.ins C dx [])) (fun v H2 => v = .non ∧ Q (.ref x) H2) E)
    (hdb : (x == ("__debug__" : Str)) = false := by decide) (he : starEach (e :: es) X.env = (false, eval e X.env) :: starEach es X.env := by rfl) (hpl : (backTo pos (starEach es X.env)).any (·.1) = false := by rfl) :
    wE X (.Call (.Name x p) (e :: es) [] pos) σ H Q := fun pins s I => by
  refine wpAny_Call_Name_kw (ld_glob I hg hm ?_ hdb)
  refine PySem.W.callWith_K (h₀ := X.base) I.ok.mod.kin M.kp (thn (hw pos pins s I) fun us s1 ⟨vs, H1, I1, r, z⟩ => ⟨I1.kIn, ?_⟩) he hpl
  exact make_at M F q hr hx I1 r z
end
end K6

/-! ## KG -/
namespace K6
open PySem PySem.Spec PyProof.Rows L2

section
variable {X : Cx} {pins : List (Addr × Obj)} {σ : St} {H : Hp} {s : Shared} {h : Bool} {k : Nat} {f g C a dx : Addr} {sp : Sp} {E : XK} {Q : VK} {us : List Value} {vs : List V} {A : Around} {fs : List (Str × V)} {x m : Str} {e o : Expr} {es : List Expr} {p pos apos : Pos}
theorem rref {a : Addr} : RelV (.ref a) (.ref a) := rfl
theorem inst_at (I : Inv X pins σ H s) (ea : H a = some (.ins C dx fs)) : ∃ od, PySem.W.InstAt s.heap a (PySem.W.instObj C dx) C (some od) := by
  obtain ⟨mA, O, _⟩ := ins_get I.hok ea
  obtain ⟨od, J, _⟩ := O.look
  exact ⟨od, J⟩
theorem ty_look {y : V} {u t : Value} (I : Inv X pins σ H s) (r : RelV y u) (ty : TyOf X.K H y t) : PySem.W.Looks (model X.prog X.w) s.heap (typeOf u) t := by
  cases ty with
  | non => cases (show u = Value.none from r); exact .of_pure rfl
  | bl z => cases (show u = Value.bool z from r); exact .of_pure rfl
  | int i => obtain ⟨t, q⟩ := (show ∃ t, u = Value.int i t from r); cases q; exact .of_pure rfl
  | str z => obtain ⟨t, q⟩ := (show ∃ t, u = Value.str z t from r); cases q; exact .of_pure rfl
  | flt z => obtain ⟨t, q⟩ := (show ∃ t, u = Value.float z t from r); cases q; exact .of_pure rfl
  | @lst b xs ea =>
    cases (show u = Value.ref b from r)
    obtain ⟨_, _, n, _, h1⟩ := (show ObjOk X.prog X.w H s.heap b (.lst xs) from I.hok b _ ea)
    exact fun A Q E s k q => wpAny_typeOf_ref (k _ _ h1) q
  | @frz b ob xs ea =>
    cases (show u = Value.ref b from r)
    obtain ⟨_, _, _, n, _, h1⟩ := (show ObjOk X.prog X.w H s.heap b (.frz ob (.lst xs)) from I.hok b _ ea)
    exact fun A Q E s k q => wpAny_typeOf_ref (k _ _ h1) q
  | @tup b xs ea =>
    cases (show u = Value.ref b from r)
    obtain ⟨_, its, _, o, h1, hc, _⟩ := (show ObjOk X.prog X.w H s.heap b (.tup xs) from I.hok b _ ea)
    exact fun A Q E s k q => wpAny_typeOf_ref (k _ _ h1) (by rw [hc]; exact q)
  | @dK b kvs ea =>
    cases (show u = Value.ref b from r)
    obtain ⟨_, _, _, _, o, _, _, h1, hc, _⟩ := (show ObjOk X.prog X.w H s.heap b (.dK kvs) from I.hok b _ ea)
    exact fun A Q E s k q => wpAny_typeOf_ref (k _ _ h1) (by rw [hc.1]; exact q)
  | @dT b kvs ea =>
    cases (show u = Value.ref b from r)
    obtain ⟨_, _, _, _, o, _, _, h1, hc, _⟩ := (show ObjOk X.prog X.w H s.heap b (.dT kvs) from I.hok b _ ea)
    exact fun A Q E s k q => wpAny_typeOf_ref (k _ _ h1) (by rw [hc.1]; exact q)
  | @ins b C dx fs ea cl ha hn htk hm =>
    cases (show u = Value.ref b from r)
    obtain ⟨od, J⟩ := inst_at I ea
    exact J.type

/-! ### a property -/
theorem w_prop {n : Str} {pp : Addr} (F : FbX h X k g sp) (q : Qk h X) (hr : L2H.RoomH (k + 1) X.A) (c : Cls X.K C) (hp : PropOf X.K C n pp g)
    (hw : wE X e σ H fun v H1 => ∃ a dx fs, v = .ref a ∧ H1 a = some (.ins C dx fs) ∧ sp [.ref a] H1 Q fun _ _ _ => False) (hab : attributeBase e n X.env (eval e X.env) = eval e X.env := by rfl) :
    wE X (.Attribute e n pos) σ H Q := fun pins s I => by
  refine attr_of hab (thn (hw pins s I) fun u s1 ⟨x, H1, I1, rx, a, dx, fs, ex, ea, z⟩ => ?_)
  subst ex
  obtain rfl : u = Value.ref a := rx
  obtain ⟨od, J⟩ := inst_at I1 ea
  obtain ⟨rest, hrec⟩ := hp.rec_
  have I2 := I1.tok (s1.toks + 1)
  have hc : (PySem.W.clsIn X.K C).isSome = true := by
    obtain ⟨cd, hc, _⟩ := PySem.W.any_some c.hd
    rw [hc] <;> rfl
  have F' : codeAny (model X.prog X.w) X.A.in1 (.call (.ref g) ⟨[.ref a], []⟩) (fun r s' => match r with | .ok (.ret u) => EP X.nox pins σ Q u s' | .ok _ => False | .error e => False) { s1 with toks := s1.toks + 1 } :=
    run_at (X := X.nox) F (q.imp id fun z => ⟨z.1, z.2⟩) rfl rfl (RoomH.in1 hr) (fun pins H s e s' I c => by
      obtain ⟨a, B, H', cls, d, _, _, _, _, _, _, _, zz⟩ := c
      exact zz) (I2.wish _) (.cons rref .nil) z
  refine PySem.W.get_bind I1.kIn J (PySem.W.plainGet_of (c.get n)).1 (PySem.W.findObj_data hc hp.at_ hp.get hp.tak) (PySem.W.plainGet_of (c.get n)).2 (wpAny_call (PySem.W.prop_get (s := { s1 with toks := s1.toks + 1 }) I1.kIn hrec ?_))
  refine codeAny_mono F' fun r s' hq => ?_
  cases r with
  | error er => exact hq.elim
  | ok fl =>
    cases fl with
    | ret u =>
      obtain ⟨v, H', I3, rv, q3⟩ := hq
      show wpAny _ _ (handedOut u) _ _ _
      rw [PySem.W.handedOut_of (handed_of rv)]
      exact wpAny_pure ⟨v, H', I3.unwish, rv, q3⟩
    | next => exact hq.elim
    | brk => exact hq.elim
    | cont => exact hq.elim

/-! ### len, item, ==, !=, in, + of an instance -/
/-- a special method of the class -/
structure Sm (K : PySem.W.Frag) (C : Addr) (m : Str) (f : Addr) : Prop where
  at_ : PySem.W.findIn K (.ref C) m = some (some (.ref f))
  fn : PySem.W.isFn K (.ref f) = true
theorem call_lenO (F : FbX h X k g sp) (q : Qk h X) (hr : L2H.RoomH (k + 1) X.A) (sm : Sm X.K C "__len__" g) (hx : ∀ σ, PaX X σ E) :
    CallR X (.builtin "len") (fun xs H Q => ∃ a dx fs, xs = [.ref a] ∧ H a = some (.ins C dx fs) ∧ sp [.ref a] H (fun v H' => ∃ n : Int, v = .int n ∧ (0 ≤ n ∧ n < 2 ^ 63) ∧ Q (.int n) H') E) := by
  intro pins s σ H xs us Q I r hh
  obtain ⟨a, dx, fs, rfl, ea, z⟩ := hh
  obtain ⟨u, rfl, ru⟩ := vals1 r
  obtain rfl : u = Value.ref a := ru
  obtain ⟨od, J⟩ := inst_at I ea
  obtain ⟨m, hF⟩ := I.fr
  refine PySem.W.len_K hF I.ok.mod.kin J sm.at_ sm.fn (thn (call_at (A := X.A.in1) F q rfl rfl (RoomH.in1 hr) (hx σ) I (.cons rref .nil) z) fun v s' ⟨y, H', I', ry, n, en, hn, qn⟩ => ?_)
  subst en
  obtain ⟨t, rfl⟩ := (show ∃ t, v = Value.int n t from ry)
  exact ⟨hn, .int n, H', I'.tok _, ⟨_, rfl⟩, qn⟩
theorem op_eqO (F : FbX h X k g sp) (q : Qk h X) (hr : L2H.RoomH k X.A) (sm : Sm X.K C "__eq__" g) (hx : ∀ σ, PaX X σ E) :
    OpR X (compareOp .Eq) (fun x y H Q => ∃ a dx fs t, x = .ref a ∧ H a = some (.ins C dx fs) ∧ TyOf X.K H y t ∧ PySem.W.notFirst X.K C t = true ∧ sp [x, y] H Q E) := by
  intro pins s σ H x y v u Q I rx ry hh
  obtain ⟨a, dx, fs, t, rfl, ea, ty, hn, z⟩ := hh
  obtain rfl : v = Value.ref a := rx
  obtain ⟨od, J⟩ := inst_at I ea
  obtain ⟨m, hF⟩ := I.fr
  show wpAny _ _ (richCompare .Eq (.ref a) u) _ _ _
  refine PySem.W.cmp_K (op := .Eq) (tb := t) (by have := RoomH.u hr; omega) hF I.ok.mod.kin J (ty_look I ry ty) hn sm.at_ sm.fn ?_
  refine thn (call_at (us := [.ref a, u]) F q rfl rfl hr (hx σ) I (.cons rref (.cons ry .nil)) z) fun w s' ⟨z', H', I', rz, qz⟩ => ?_
  exact SlX.cmpback rz ⟨z', H', I', rz, qz⟩
theorem op_inO (F : FbX h X k g sp) (q : Qk h X) (hr : L2H.RoomH k X.A) (sm : Sm X.K C "__contains__" g) (hx : ∀ σ, PaX X σ E) :
    OpR X (compareOp .In) (fun x y H Q => ∃ a dx fs, y = .ref a ∧ H a = some (.ins C dx fs) ∧ sp [y, x] H (fun v H' => ∃ b, v = .bl b ∧ Q (.bl b) H') E) := by
  intro pins s σ H x y v u Q I rx ry hh
  obtain ⟨a, dx, fs, rfl, ea, z⟩ := hh
  obtain rfl : u = Value.ref a := ry
  obtain ⟨od, J⟩ := inst_at I ea
  obtain ⟨m, hF⟩ := I.fr
  refine PySem.W.in_K hF I.ok.mod.kin J sm.at_ sm.fn (thn (call_at (us := [.ref a, v]) F q rfl rfl hr (hx σ) I (.cons rref (.cons rx .nil)) z) fun w s' ⟨z', H', I', rz, b, eb, qz⟩ => ?_)
  subst eb
  obtain rfl : w = Value.bool b := rz
  exact wpAny_truthy_bool ⟨.bl b, H', I', rfl, qz⟩
theorem op_notinO (F : FbX h X k g sp) (q : Qk h X) (hr : L2H.RoomH k X.A) (sm : Sm X.K C "__contains__" g) (hx : ∀ σ, PaX X σ E) :
    OpR X (compareOp .NotIn) (fun x y H Q => ∃ a dx fs, y = .ref a ∧ H a = some (.ins C dx fs) ∧ sp [y, x] H (fun v H' => ∃ b, v = .bl b ∧ Q (.bl (!b)) H') E) := by
  intro pins s σ H x y v u Q I rx ry hh
  obtain ⟨a, dx, fs, rfl, ea, z⟩ := hh
  obtain rfl : u = Value.ref a := ry
  obtain ⟨od, J⟩ := inst_at I ea
  obtain ⟨m, hF⟩ := I.fr
  refine PySem.W.notIn_K hF I.ok.mod.kin J sm.at_ sm.fn (thn (call_at (us := [.ref a, v]) F q rfl rfl hr (hx σ) I (.cons rref (.cons rx .nil)) z) fun w s' ⟨z', H', I', rz, b, eb, qz⟩ => ?_)
  subst eb
  obtain rfl : w = Value.bool b := rz
  exact wpAny_truthy_bool ⟨.bl (!b), H', I', rfl, qz⟩
/-- x + y, both instances of C -/
theorem op_addO (F : FbX h X k g sp) (q : Qk h X) (hr : L2H.RoomH k X.A) (sm : Sm X.K C "__add__" g) (hc : PySem.W.selfFirst X.K C = true) (hx : ∀ σ, PaX X σ E) :
    OpR X (binaryOp .Add) (fun x y H Q => ∃ a dx fs b dy gs, x = .ref a ∧ y = .ref b ∧ H a = some (.ins C dx fs) ∧ H b = some (.ins C dy gs) ∧ sp [x, y] H Q E) := by
  intro pins s σ H x y v u Q I rx ry hh
  obtain ⟨a, dx, fs, b, dy, gs, rfl, rfl, ea, eb, z⟩ := hh
  obtain rfl : v = Value.ref a := rx
  obtain rfl : u = Value.ref b := ry
  obtain ⟨od, J⟩ := inst_at I ea
  obtain ⟨od', J'⟩ := inst_at I eb
  obtain ⟨m, hF⟩ := I.fr
  refine PySem.W.binop_K (op := .Add) hF I.ok.mod.kin J J'.type hc sm.at_ sm.fn ?_
  refine thn (call_at (us := [.ref a, .ref b]) F q rfl rfl hr (hx σ) I (.cons rref (.cons rref .nil)) z) fun w s' ⟨z', H', I', rz, qz⟩ => ?_
  exact SlX.cmpback rz ⟨z', H', I', rz, qz⟩
/-- e[i], e an instance -/
theorem w_itemO {a b : Expr} (F : FbX h X k g sp) (q : Qk h X) (hr : L2H.RoomH (k + 1) X.A) (sm : Sm X.K C "__getitem__" g) (hfi : PySem.W.fnIn X.K g = true) (hx : PaX X σ E)
    (hw : wE X a σ H fun x H1 => wE X b σ H1 fun y H2 => ∃ a dx fs, x = .ref a ∧ H2 a = some (.ins C dx fs) ∧ sp [x, y] H2 Q E)
    (hsl : ∀ x i, subscripted b true (.ref x) i = runValue (.builtin "lifetime.subscript" ⟨[.ref x, i], []⟩) := by intro _ _; with_unfolding_all rfl) : wE X (.Subscript a b pos) σ H Q := fun pins s I => by
  refine Subscript_ (thn (hw pins s I) fun v s1 ⟨x, H1, I1, rx, z1⟩ => thn (z1 pins s1 I1) fun u s2 ⟨y, H2, I2, ry, a, dx, fs, ex, ea, z⟩ => ?_)
  subst ex
  obtain rfl : v = Value.ref a := rx
  obtain ⟨od, J⟩ := inst_at I2 ea
  obtain ⟨m, hF⟩ := I2.fr
  exact PySem.W.sub_K hF I2.ok.mod.kin J sm.at_ hfi sm.fn (call_at (us := [.ref a, u]) (A := X.A.in1) F q rfl rfl (RoomH.in1 hr) hx I2 (.cons rref (.cons ry .nil)) z) (hsl a u)
end
end K6

/-! ## KH -/
namespace K6
open PySem PySem.Spec PyProof.Rows L2
section
variable {prog : Program} {w : World} {A : Around} {E : Value → Shared → Prop} {s : Shared} {K : PySem.W.Frag} {x C f : Addr} {ox : Obj} {od : Option Obj} {b tb : Value}
/-- object's own != over the class's == -/
theorem objne {Q : Value → Shared → Prop} (hu : A.in1.units < cLine) (X : K.In s.heap) (I : PySem.W.InstAt s.heap x ox C od) (hm : PySem.W.mroIn K C (.type "object") = some true) (hs : PySem.W.findIn K (.ref C) "__eq__" = some (some (.ref f))) (hf : PySem.W.isFn K (.ref f) = true)
    (h : wpAny (model prog w) A.in1 (call (.ref f) [.ref x, b]) (fun v s' => ∃ c, v = .bool c ∧ Q (.bool (!c)) s') E s) : wpAny (model prog w) A (call (.builtin "object.__ne__") [.ref x, b]) Q E s := by
  refine wpAny_call (codeAny_call_builtin PySem.F.cmp_object.ne.plain PySem.F.cmpEntry_ne (PySem.W.check_slot (i := "object.__ne__") (owner := "object") (n := "__ne__") PySem.F.cmpKind_ne PySem.F.cmpSplit_ne (I.type.andThen (PySem.W.looks_mroIn X hm)) (PySem.F.cmpArgs_ne _ _) ?_))
  unfold Builtin.«object.__ne__»
  refine wpAny_bind (m := slotArgs "__ne__" 1 _) (wpAny_pure ?_)
  refine wpAny_bind (m := cRoomFor _ _) (wpAny_cRoomFor hu ?_)
  refine wpAny_bind (m := callSpecialIfBound? (.ref x) (Str.ofString "__eq__") _) (PySem.W.ifBound_K X I hs hf (wpAny_mono h (fun r s' hq => ?_) fun _ _ y => y))
  obtain ⟨c, rfl, q⟩ := hq
  refine wpAny_bind (m := truthy _) (wpAny_truthy_bool ?_)
  exact wpAny_pure q
theorem ne_own {Q : Value → Shared → Prop} (hu : A.units + 1 < cLine) (X : K.In s.heap) (I : PySem.W.InstAt s.heap x ox C od) (hb : PySem.W.Looks (model prog w) s.heap (typeOf b) tb) (hn : PySem.W.notFirst K C tb = true)
    (hne : PySem.W.findIn K (.ref C) "__ne__" = some (some (.builtin "object.__ne__"))) (hm : PySem.W.mroIn K C (.type "object") = some true) (hs : PySem.W.findIn K (.ref C) "__eq__" = some (some (.ref f))) (hf : PySem.W.isFn K (.ref f) = true)
    (h : wpAny (model prog w) A.in1 (call (.ref f) [.ref x, b]) (fun v s' => ∃ c, v = .bool c ∧ Q (.bool (!c)) s') E s) : wpAny (model prog w) A (richCompare .NotEq (.ref x) b) Q E s := by
  have one : wpAny (model prog w) A (tryCompare (.ref x) (cmpInfo .NotEq).2.1 b) (fun r s' => ∃ v, r = some v ∧ Q v s') E s := by
    unfold tryCompare
    refine wpAny_bind ?_
    simp only [callSpecialIfBound?, bindSpecialIfBound?]
    refine wpAny_holding (wpAny_bind (wpAny_bind (wpAny_bind (I.type.here ((PySem.W.looks_findIn X hne).here ?_)))))
    have fin : ∀ {k : Option Value → Sem (Option Value)}, (∀ c, k (some (.bool c)) = pure (some (.bool c))) → wpAny (model prog w) A (call (.builtin "object.__ne__") ([.ref x] ++ [b]) >>= fun v => pure (some v)) (fun a s' => wpAny (model prog w) A (k a) (fun r s' => ∃ v, r = some v ∧ Q v s') E s') E s :=
      fun {k} hk => wpAny_bind (wpAny_mono (objne (Q := fun v s' => ∃ c, v = .bool c ∧ Q v s') hu X I hm hs hf (wpAny_mono h (fun v s' z => by
        obtain ⟨c, rfl, q⟩ := z
        exact ⟨c, rfl, _, rfl, q⟩) fun _ _ z => z)) (fun v s' z => wpAny_pure (by
          obtain ⟨c, rfl, q⟩ := z
          rw [hk c]
          exact wpAny_pure ⟨_, rfl, q⟩)) fun _ _ z => z)
    refine wpAny_bind (wpAny_askSetting (wpAny_ite ?_))
    split
    · exact wpAny_bind ((PySem.W.Looks.of_pure (PySem.F.cmp_object.ne.bind _)).here (wpAny_pure (by exact fin fun c => rfl)))
    · exact wpAny_tryCatch (wpAny_bind ((PySem.W.Looks.of_pure (PySem.F.cmp_object.ne.bind _)).here (wpAny_pure (by exact fin fun c => rfl))))
  unfold richCompare
  simp only [oneThing_ref]
  refine wpAny_holding (wpAny_bind (wpAny_cRoomFor (by omega) ?_))
  refine wpAny_bind (I.type.here (wpAny_bind (hb.here ?_)))
  have tail : ∀ {k : Option Value → Sem Value}, (∀ v, k (some v) = pure v) → wpAny (model prog w) A (tryCompare (.ref x) (cmpInfo .NotEq).2.1 b >>= k) Q E s := fun {k} hk => wpAny_bind (wpAny_mono one (fun r s' z => by
    obtain ⟨v, rfl, q⟩ := z
    rw [hk v]
    exact wpAny_pure q) fun _ _ e => e)
  split
  · rename_i q
    have e : PySem.W.subIn K tb (.ref C) = some false := by
      rcases Bool.or_eq_true_iff.mp hn with e | e
      · rw [beq_iff_eq.mp e] at q; simp at q
      · exact beq_iff_eq.mp e
    refine wpAny_bind ((PySem.W.looks_subIn X e).here ?_)
    simp only [Bool.false_eq_true, if_false]
    exact tail fun v => rfl
  · refine wpAny_bind (wpAny_pure ?_)
    simp only [Bool.false_eq_true, if_false]
    exact tail fun v => rfl
end
section
variable {X : Cx} {h : Bool} {k : Nat} {g C : Addr} {sp : Sp} {E : XK}
theorem op_neO (F : FbX h X k g sp) (q : Qk h X) (hr : L2H.RoomH (k + 1) X.A) (sm : Sm X.K C "__eq__" g) (hne : PySem.W.findIn X.K (.ref C) "__ne__" = some (some (.builtin "object.__ne__"))) (hm : PySem.W.mroIn X.K C (.type "object") = some true) (hx : ∀ σ, PaX X σ E) :
    OpR X (compareOp .NotEq) (fun x y H Q => ∃ a dx fs t, x = .ref a ∧ H a = some (.ins C dx fs) ∧ TyOf X.K H y t ∧ PySem.W.notFirst X.K C t = true ∧ sp [x, y] H (fun v H' => ∃ b, v = .bl b ∧ Q (.bl (!b)) H') E) := by
  intro pins s σ H x y v u Q I rx ry hh
  obtain ⟨a, dx, fs, t, rfl, ea, ty, hn, z⟩ := hh
  obtain rfl : v = Value.ref a := rx
  obtain ⟨od, J⟩ := inst_at I ea
  show wpAny _ _ (richCompare .NotEq (.ref a) u) _ _ _
  refine ne_own (tb := t) (by have := RoomH.u hr; omega) I.kIn J (ty_look I ry ty) hn hne hm sm.at_ sm.fn ?_
  refine thn (call_at (us := [.ref a, u]) (A := X.A.in1) F q rfl rfl (RoomH.in1 hr) (hx σ) I (.cons rref (.cons ry .nil)) z) fun w s' ⟨z', H', I', rz, b, eb, qz⟩ => ?_
  subst eb
  obtain rfl : w = Value.bool b := rz
  exact ⟨b, rfl, .bl (!b), H', I', rfl, qz⟩
end
end K6

/-! ## KI -/
namespace K6
open PySem PySem.Spec PyProof.Rows L2

/-! ### walks where it is quiet -/
structure Tn (h : Bool) (P : Program) (w : World) (K : PySem.W.Frag) (tg : Expr) (J : It) (fp : List Addr) (it : Addr) (tn : Nat → Heap → Prop) : Prop where
  mem : it ∈ fp
  obj : ∀ i h, tn i h → ∀ b ∈ fp, ∃ o, h.get? b = some o ∧ ∀ v, o.data ≠ .cell v
  keep : ∀ i h h', tn i h → (∀ b ∈ fp, ∀ o, h.get? b = some o → h'.get? b = some o) → tn i h'
  item : ∀ (X : Cx), X.prog = P → X.w = w → X.K = K → Qk h X → ∀ (i : Nat) (pins : List (Addr × Obj)) (s : Shared) (σ : St) (H : Hp) (E : Value → Shared → Prop), Inv X pins σ H s → (∀ b ∈ fp, FpOk X pins H b) → tn i s.heap → J.go i H →
    wpAny (model P w) X.A (pyNext (.ref it)) (fun r s1 => ∃ u, r = some u ∧
      wpAny (model P w) X.A (letOwnedTupleGo tg (.ref it) u) (fun _ s2 => ∃ x H', Inv X pins σ H' s2 ∧ RelV x u ∧ J.yld i H x H' ∧ tn (i + 1) s2.heap ∧ ∀ b ∈ fp, H' b = none) E s1) E s
  done : ∀ (X : Cx), X.prog = P → X.w = w → X.K = K → Qk h X → ∀ (i : Nat) (pins : List (Addr × Obj)) (s : Shared) (σ : St) (H : Hp) (E : Value → Shared → Prop), Inv X pins σ H s → (∀ b ∈ fp, FpOk X pins H b) → tn i s.heap → J.stop i H →
    wpAny (model P w) X.A (pyNext (.ref it)) (fun r s1 => r = none ∧ Inv X pins σ H s1) E s
  self : ∀ (A : Around) (i : Nat) (s : Shared) (Q : Value → Shared → Prop) (E : Value → Shared → Prop), tn i s.heap → Q (.ref it) s → wpAny (model P w) A (pyIter (.ref it)) Q E s
theorem Qk.calm {X : Cx} (q : Qk false X) : X.calm = true := q.elim id fun z => nomatch z.1
theorem Tn.of {P : Program} {w : World} {K : PySem.W.Frag} {tg : Expr} {J : It} {fp : List Addr} {it : Addr} {tn : Nat → Heap → Prop} (T : Turn P w K tg J fp it tn) : Tn false P w K tg J fp it tn :=
  ⟨T.mem, T.obj, T.keep, fun X a b c q => T.item X a b c q.calm, fun X a b c q => T.done X a b c q.calm, T.self⟩

section
variable {h : Bool} {P : Program} {w : World} {K : PySem.W.Frag} {tg : Expr}
theorem it_one {it b : Addr} {h : Heap} {o : Obj} (hb : b ∈ [it]) (e : h.get? it = some o) {vs : Array Value} (d : o.data = .fields vs) : ∃ o, h.get? b = some o ∧ ∀ v, o.data ≠ .cell v := by
  obtain rfl : b = it := by simpa using hb
  exact ⟨o, e, fun v z => by rw [d] at z; cases z⟩
theorem tn_list (a it : Addr) : Tn h P w K tg (Itl K a) [it] it (fun i h => h.IsListIter it a i) where
  mem := by simp
  obj := fun i h st b hb => by
    obtain ⟨o, e, c, d⟩ := st
    exact it_one hb e d
  keep := fun i h h' st k => st.at fun o e => k it (by simp) o e
  item := by
    intro X hP hw hK hc i pins s σ H E I hf st hg
    subst hP hw hK
    obtain ⟨xs, x, hq, hx⟩ := hg
    obtain ⟨its, rv, p, hz⟩ := I.list hq
    obtain ⟨u, hu, ru⟩ := rv.get hx
    obtain ⟨f0, f1, f2, f3, f4, f5⟩ := hf it (by simp)
    refine wpAny_pyNext_list_item st p.isList (x := u) (by simpa using hu) fun h' st' sb => ?_
    have I1 : Inv X pins σ H { s with heap := h' } := I.turned (t' := s.toks) (fun b o hb e => (sb.2 b hb).trans e) f0 f1 f3 f4 f5
    obtain ⟨o, e, c, d⟩ := id st'
    exact ⟨u, rfl, go_of (s := { s with heap := h' }) e c d (by decide) ⟨x, H, I1, ru, ⟨rfl, fun ys hy => by rw [I.list_inj hy hq]; exact hx⟩, st', fun b hb => (hf b hb).1⟩⟩
  done := by
    intro X hP hw hK hc i pins s σ H E I hf st hg
    subst hP hw hK
    obtain ⟨xs, hq, hx⟩ := hg
    obtain ⟨its, rv, p, hz⟩ := I.list hq
    obtain ⟨f0, f1, f2, f3, f4, f5⟩ := hf it (by simp)
    have hl := rv.length
    exact list_end (hc.qh I) st p.isList (by simp; omega) fun h' eb => ⟨rfl, I.turned (t' := s.toks) (fun b o hb e => eb b o hb e) f0 f1 f3 f4 f5⟩
  self := fun _ _ _ _ _ st h => wpAny_pyIter_listiter st h
theorem tn_tuple (a it : Addr) : Tn h P w K tg (Itt K a) [it] it (fun i h => h.IsTupleIter it a i) where
  mem := by simp
  obj := fun i h st b hb => by
    obtain ⟨o, e, c, d⟩ := st
    exact it_one hb e d
  keep := fun i h h' st k => st.at fun o e => k it (by simp) o e
  item := by
    intro X hP hw hK hc i pins s σ H E I hf st hg
    subst hP hw hK
    obtain ⟨xs, x, hq, hx⟩ := hg
    obtain ⟨its, rv, p, hz⟩ := I.tuple hq
    obtain ⟨u, hu, ru⟩ := rv.get hx
    obtain ⟨f0, f1, f2, f3, f4, f5⟩ := hf it (by simp)
    refine wpAny_pyNext_tuple_item st (show s.heap.IsTuple a its.toArray from p) (x := u) (by simpa using hu) fun h' st' sb => ?_
    have I1 : Inv X pins σ H { s with heap := h' } := I.turned (t' := s.toks) (fun b o hb e => (sb.2 b hb).trans e) f0 f1 f3 f4 f5
    obtain ⟨o, e, c, d⟩ := id st'
    exact ⟨u, rfl, go_of (s := { s with heap := h' }) e c d (by decide) ⟨x, H, I1, ru, ⟨rfl, fun ys hy => by rw [I.tuple_inj hy hq]; exact hx⟩, st', fun b hb => (hf b hb).1⟩⟩
  done := by
    intro X hP hw hK hc i pins s σ H E I hf st hg
    subst hP hw hK
    obtain ⟨xs, hq, hx⟩ := hg
    obtain ⟨its, rv, p, hz⟩ := I.tuple hq
    obtain ⟨f0, f1, f2, f3, f4, f5⟩ := hf it (by simp)
    have hl := rv.length
    exact tup_end (hc.qh I) st (show s.heap.IsTuple a its.toArray from p) (by simp; omega) fun h' eb => ⟨rfl, I.turned (t' := s.toks) (fun b o hb e => eb b o hb e) f0 f1 f3 f4 f5⟩
  self := fun _ _ _ _ _ st h => wpAny_pyIter_tupleiter st h
theorem tn_str (it : Addr) (x : Str) (t : Tok) (ty : String) (hty : ty = "str_ascii_iterator" ∨ ty = "str_iterator") : Tn h P w K tg (Its x) [it] it (fun i h => h.IsStrIter it ty x t i) where
  mem := by simp
  obj := fun i h st b hb => by
    obtain ⟨o, e, c, d⟩ := st
    exact it_one hb e d
  keep := fun i h h' st k => let ⟨o, ho, r⟩ := st; ⟨o, k it (by simp) o ho, r⟩
  item := by
    intro X hP hw hK hc i pins s σ H E I hf st hg
    subst hP hw hK
    obtain ⟨f0, f1, f2, f3, f4, f5⟩ := hf it (by simp)
    have hx : x.cps[i]? = some x.cps[i] := Array.getElem?_eq_getElem hg
    have fin : ∀ {tk : Nat} {u : Tok} {h' : Heap}, h'.IsStrIter it ty x t (i + 1) → Heap.SameBut it s.heap h' → wpAny (model X.prog X.w) X.A (letOwnedTupleGo tg (.ref it) (.str ⟨#[x.cps[i]]⟩ u)) (fun _ s2 => ∃ y H', Inv X pins σ H' s2 ∧ RelV y (.str ⟨#[x.cps[i]]⟩ u) ∧ (Its x).yld i H y H' ∧ s2.heap.IsStrIter it ty x t (i + 1) ∧ ∀ b ∈ [it], H' b = none) E { s with heap := h', toks := tk } := fun {tk u h'} st' sb => by
      have I1 : Inv X pins σ H { s with heap := h', toks := tk } := I.turned (fun b o hb e => (sb.2 b hb).trans e) f0 f1 f3 f4 f5
      obtain ⟨oi, e, cc, dd⟩ := id st'
      exact go_of (s := { s with heap := h', toks := tk }) e cc dd (by rcases hty with z | z <;> rw [z] <;> decide) ⟨.str ⟨#[x.cps[i]]⟩, H, I1, ⟨u, rfl⟩, ⟨rfl, _, hx, rfl⟩, st', fun b hb => (hf b hb).1⟩
    rcases hty with z | z
    · subst z
      exact wpAny_pyNext_ascii_item st hx fun h' st' sb => ⟨_, rfl, fin st' sb⟩
    · subst z
      exact wpAny_pyNext_wide_item st hx fun h' st' sb => ⟨_, rfl, fin st' sb⟩
  done := by
    intro X hP hw hK hc i pins s σ H E I hf st hg
    subst hP hw hK
    obtain ⟨f0, f1, f2, f3, f4, f5⟩ := hf it (by simp)
    have hx : x.cps[i]? = none := Array.getElem?_eq_none hg
    rcases hty with z | z
    · subst z
      exact ascii_end (hc.qh I) st hx fun h' eb => ⟨rfl, I.turned (t' := s.toks) (fun b o hb e => eb b o hb e) f0 f1 f3 f4 f5⟩
    · subst z
      exact wide_end (hc.qh I) st hx fun h' eb => ⟨rfl, I.turned (t' := s.toks) (fun b o hb e => eb b o hb e) f0 f1 f3 f4 f5⟩
  self := fun A i s Q E st h => by
    rcases hty with z | z
    · subst z
      exact wpAny_pyIter_striter_ascii st h
    · subst z
      exact wpAny_pyIter_striter_wide st h
theorem tn_range (it : Addr) (lo : Int) (n : Nat) : Tn h P w K tg (Itr lo n) [it] it (fun i h => IsRangeIter h it (lo + (i : Nat) * 1) ((n : Int) - (i : Nat)) 1) where
  mem := by simp
  obj := fun i h st b hb => it_one hb st rfl
  keep := fun i h h' st k => k it (by simp) _ st
  item := fun X hP hw hK hc i pins s σ H E I hf st hg => by
    rcases hc with hc | ⟨_, hc⟩
    · exact (turn_range (tg := tg) it lo n).item X hP hw hK hc i pins s σ H E I hf st hg
    · exact (L2H.turn_rangeH (tg := tg) it lo n).item X hP hw hK hc i pins s σ H E I hf st hg
  done := fun X hP hw hK hc i pins s σ H E I hf st hg => by
    rcases hc with hc | ⟨_, hc⟩
    · exact (turn_range (tg := tg) it lo n).done X hP hw hK hc i pins s σ H E I hf st hg
    · exact (L2H.turn_rangeH (tg := tg) it lo n).done X hP hw hK hc i pins s σ H E I hf st hg
  self := fun _ _ _ _ _ st h => wpAny_pyIter_rangeiter st h
end
end K6

/-! ## KJ -/
namespace K6
open PySem PySem.Spec PyProof.Rows L2
section
variable {h : Bool} {P : Program} {w : World} {K : PySem.W.Frag} {tg : Expr} {d : Addr} {o : Obj} {es : Array DictEntry} {ep : Nat}
theorem tn_keys {kvs : List (Key × V)} (it : Addr) (hod : o.data = .dict es ep) : Tn h P w K tg (Itk d o kvs) [it] it (fun i h => h.IsKeyIter it d i kvs.length ep) where
  mem := by simp
  obj := fun i h st b hb => by
    obtain ⟨oi, e, c, dd⟩ := st
    exact it_one hb e dd
  keep := fun i h h' st k => st.at fun oi e => k it (by simp) oi e
  item := by
    intro X hP hw hK hc i pins s σ H E I hf st hg
    subst hP hw hK
    obtain ⟨hd, hi⟩ := hg
    obtain ⟨f0, f1, f2, f3, f4, f5⟩ := hf it (by simp)
    obtain ⟨hs, hgd, hx, es', ep', vs, hdt, hsz, kv, hm⟩ := I.frzK hd
    obtain ⟨rfl, rfl⟩ := dict_ep hod hdt
    obtain ⟨⟨k, v⟩, hkv⟩ : ∃ p, kvs[i]? = some p := ⟨kvs[i], List.getElem?_eq_getElem hi⟩
    obtain ⟨u, hu, ru⟩ := kv_get kv hkv
    have hl : kvs.length = vs.length := Paired.length kv
    rw [hl] at st
    refine wpAny_pyNext_dict_item st hm hu fun key h' hkey st' sb => ?_
    have I1 : Inv X pins σ H { s with heap := h' } := I.turned (t' := s.toks) (fun b ob hb e => (sb.2 b hb).trans e) f0 f1 f3 f4 f5
    obtain ⟨oi, e, c, dd⟩ := id st'
    refine ⟨key, rfl, go_of (s := { s with heap := h' }) e c dd (by decide) ⟨kV k, H, I1, relV_key (show keyIs k key = true from hkey), ⟨rfl, k, v, hkv, rfl⟩, ?_, fun b hb => (hf b hb).1⟩⟩
    show h'.IsKeyIter it d (i + 1) kvs.length _
    rw [hl]
    exact st'
  done := by
    intro X hP hw hK hc i pins s σ H E I hf st hg
    subst hP hw hK
    obtain ⟨hd, hi⟩ := hg
    obtain ⟨f0, f1, f2, f3, f4, f5⟩ := hf it (by simp)
    obtain ⟨hs, hgd, hx, es', ep', vs, hdt, hsz, kv, hm⟩ := I.frzK hd
    obtain ⟨rfl, rfl⟩ := dict_ep hod hdt
    exact key_end (hc.qh I) st hgd hdt hsz hi fun h' eb => ⟨rfl, I.turned (t' := s.toks) (fun b ob hb e => eb b ob hb e) f0 f1 f3 f4 f5⟩
  self := fun A i s Q E st h => wpAny_pyIter_keyiter st h
end

/-! ### an iterator has come -/
def PIEQ (h : Bool) (X : Cx) (pins : List (Addr × Obj)) (σ : St) (tg : Expr) (R : It → Hp → Prop) (itv : Value) (s2 : Shared) : Prop :=
  ∃ (it : Addr) (fp : List Addr) (tn : Nat → Heap → Prop) (J : It) (H' : Hp), itv = .ref it ∧ Inv X pins σ H' s2 ∧ Tn h X.prog X.w X.K tg J fp it tn ∧ tn 0 s2.heap ∧ (∀ b ∈ fp, FpOk X pins H' b) ∧ R J H'
abbrev wI (h : Bool) (X : Cx) (tg iter : Expr) : TI := fun σ H R => ∀ pins s, Inv X pins σ H s → wpAny (model X.prog X.w) X.A (eval iter X.env) (fun v s1 => wpAny (model X.prog X.w) X.A (pyIter v) (PIEQ h X pins σ tg R) X.xe s1) X.xe s
theorem it_new {h : Bool} {X : Cx} {tg : Expr} {pins : List (Addr × Obj)} {σ : St} {H : Hp} {s : Shared} {R : It → Hp → Prop} {J : It} {tn : Nat → Heap → Prop} {tk : Nat} (I : Inv X pins σ H s) (o : Obj)
    (T : Tn h X.prog X.w X.K tg J [s.heap.objs.size] s.heap.objs.size tn) (st : tn 0 (s.heap.push o)) (q : R J H) : PIEQ h X pins σ tg R (.ref s.heap.objs.size) { s with heap := s.heap.push o, toks := tk } := by
  refine ⟨s.heap.objs.size, [s.heap.objs.size], tn, J, H, rfl, I.kept fun b ob e => Heap.get?_push_of_some _ e, T, st, fun b hb => ?_, q⟩
  obtain rfl : b = s.heap.objs.size := by simpa using hb
  exact I.fpOk (Nat.le_refl _) (I.hok.fresh (Nat.le_refl _))
/-- from the layer's walks (calm) -/
theorem PI.wq {X : Cx} {tg iter : Expr} {t : TI} {σ : St} {H : Hp} {R : It → Hp → Prop} (p : PI X tg iter t) (hw : t σ H R) : wI false X tg iter σ H R := fun pins s I =>
  thn (p.run pins s σ H R I hw) fun v s1 z => thn z fun itv s2 ⟨it, fp, tn, J, H', e, I', T, r⟩ => ⟨it, fp, tn, J, H', e, I', .of T, r⟩

/-! ### the walks of a known list of values -/
/-- J walks xs, as long as C holds -/
structure Wk (J : It) (xs : List V) (C : Hp → Prop) : Prop where
  go : ∀ i H, C H → i < xs.length → J.go i H
  yld : ∀ i H x H', C H → i < xs.length → J.yld i H x H' → H' = H ∧ xs[i]? = some x
  stop : ∀ i H, C H → xs.length ≤ i → J.stop i H
def signs (x : Str) : List V := x.cps.toList.map fun c => .str ⟨#[c]⟩
section
variable {K : PySem.W.Frag} {a d : Addr} {xs : List V}
theorem wk_list : Wk (Itl K a) xs (fun H => SqL K H a xs) :=
  ⟨fun i H c hi => ⟨xs, xs[i], c, by simp [hi]⟩, fun i H x H' c _ y => ⟨y.1, y.2 xs c⟩, fun i H c hi => ⟨xs, c, hi⟩⟩
theorem wk_tup : Wk (Itt K a) xs (fun H => SqT K H a xs) :=
  ⟨fun i H c hi => ⟨xs, xs[i], c, by simp [hi]⟩, fun i H x H' c _ y => ⟨y.1, y.2 xs c⟩, fun i H c hi => ⟨xs, c, hi⟩⟩
theorem wk_str {x : Str} : Wk (Its x) (signs x) (fun _ => True) :=
  ⟨fun i H _ hi => by simpa [signs, Its] using hi, fun i H v H' _ hi y => by
    obtain ⟨e, c, hc, rfl⟩ := y
    exact ⟨e, by simp [signs, hc]⟩, fun i H _ hi => by simpa [signs, Its] using hi⟩
theorem wk_keys {o : Obj} {kvs : List (Key × V)} : Wk (Itk d o kvs) (kvs.map fun p => kV p.1) (fun H => H d = some (.frz o (.dK kvs))) :=
  ⟨fun i H c hi => ⟨c, by simpa using hi⟩, fun i H v H' _ hi y => by
    obtain ⟨e, k, z, hc, rfl⟩ := y
    exact ⟨e, by simp [hc]⟩, fun i H c hi => ⟨c, by simpa using hi⟩⟩
theorem wk_range {lo : Int} {n : Nat} : Wk (Itr lo n) ((List.range n).map fun i => .int (lo + (i : Nat))) (fun _ => True) :=
  ⟨fun i H _ hi => by simpa [Itr] using hi, fun i H v H' _ hi y => by
    obtain ⟨e, rfl⟩ := y
    have hi' : i < n := by simpa using hi
    exact ⟨e, by simp [hi']⟩, fun i H _ hi => by simpa [Itr] using hi⟩
end
section
variable {h : Bool} {X : Cx} {tg e : Expr} {σ : St} {H : Hp} {R : It → Hp → Prop}
theorem wi_list (hw : wE X e σ H fun v H1 => ∃ a xs, v = .ref a ∧ SqL X.K H1 a xs ∧ ∀ J, Wk J xs (fun H => SqL X.K H a xs) → R J H1) : wI h X tg e σ H R := fun pins s I => by
  refine thn (hw pins s I) fun v s1 ⟨x, H1, I1, r1, a, xs, ex, hq, z⟩ => ?_
  subst ex
  obtain rfl : v = Value.ref a := r1
  obtain ⟨its, rv, p, hz⟩ := I1.list hq
  exact wpAny_pyIter_list p.isList (it_new (tk := s1.toks) I1 _ (tn_list a _) ⟨_, Heap.get?_push_size _ rfl, rfl, rfl⟩ (z _ wk_list))
theorem wi_tup (hw : wE X e σ H fun v H1 => ∃ a xs, v = .ref a ∧ SqT X.K H1 a xs ∧ ∀ J, Wk J xs (fun H => SqT X.K H a xs) → R J H1) : wI h X tg e σ H R := fun pins s I => by
  refine thn (hw pins s I) fun v s1 ⟨x, H1, I1, r1, a, xs, ex, hq, z⟩ => ?_
  subst ex
  obtain rfl : v = Value.ref a := r1
  obtain ⟨its, rv, p, hz⟩ := I1.tuple hq
  exact wpAny_pyIter_tuple (show s1.heap.IsTuple a its.toArray from p) (it_new (tk := s1.toks) I1 _ (tn_tuple a _) ⟨_, Heap.get?_push_size _ rfl, rfl, rfl⟩ (z _ wk_tup))
theorem wi_str (hw : wE X e σ H fun v H1 => ∃ x, v = .str x ∧ ∀ J, Wk J (signs x) (fun _ => True) → R J H1) : wI h X tg e σ H R := fun pins s I => by
  refine thn (hw pins s I) fun v s1 ⟨y, H1, I1, r1, x, ex, z⟩ => ?_
  subst ex
  obtain ⟨t, rfl⟩ := r1
  cases ha : x.cps.all (· < 128)
  · exact wpAny_pyIter_wide ha (it_new (tk := s1.toks) I1 _ (tn_str _ x t "str_iterator" (.inr rfl)) ⟨_, Heap.get?_push_size _ rfl, rfl, rfl⟩ (z _ wk_str))
  · exact wpAny_pyIter_ascii ha (it_new (tk := s1.toks) I1 _ (tn_str _ x t "str_ascii_iterator" (.inl rfl)) ⟨_, Heap.get?_push_size _ rfl, rfl, rfl⟩ (z _ wk_str))
/-- the dict is locked -/
theorem wi_keys (hw : wE X e σ H fun v H1 => ∃ d o kvs, v = .ref d ∧ H1 d = some (.frz o (.dK kvs)) ∧ ∀ J, Wk J (kvs.map fun p => kV p.1) (fun H => H d = some (.frz o (.dK kvs))) → R J H1) : wI h X tg e σ H R := fun pins s I => by
  refine thn (hw pins s I) fun v s1 ⟨y, H1, I1, r1, d, o, kvs, ex, hd, z⟩ => ?_
  subst ex
  obtain rfl : v = Value.ref d := r1
  obtain ⟨hs, hgd, hx, es, ep, vs, hdt, hsz, kv, hm⟩ := I1.frzK hd
  refine iter_keys hs hgd hx hdt (it_new (tk := s1.toks) I1 _ (tn_keys _ hdt) ⟨_, Heap.get?_push_size _ rfl, rfl, ?_⟩ (z _ wk_keys))
  rw [hsz] <;> rfl
theorem rng_it {pins : List (Addr × Obj)} {s : Shared} {E : Value → Shared → Prop} {lo hi : Int} {t u v : Tok} {tk : Nat} (I : Inv X pins σ H s) (h1 : -(2 ^ 62) ≤ lo) (h2 : lo < 2 ^ 62) (h3 : -(2 ^ 62) ≤ hi) (h4 : hi < 2 ^ 62)
    (q : R (Itr lo (hi - lo).toNat) H) : wpAny (model X.prog X.w) X.A (pyIter (.ref s.heap.objs.size)) (PIEQ h X pins σ tg R) E { s with heap := s.heap.push { cls := .type "range", data := .fields #[.int lo t, .int hi u, .int 1 v] }, toks := tk } := by
  refine wpAny_pyIter_range (IsRange.new ..) (small_one h1 h2 h3 h4) ?_
  have I1 : Inv X pins σ H { s with heap := s.heap.push { cls := .type "range", data := .fields #[.int lo t, .int hi u, .int 1 v] }, toks := tk } := I.kept fun b o e => Heap.get?_push_of_some _ e
  refine it_new (tk := tk) I1 _ (tn_range _ lo (hi - lo).toNat) ?_ q
  have e1 : lo + ((0 : Nat) : Int) * 1 = lo := by simp
  have e2 : (((hi - lo).toNat : Nat) : Int) - ((0 : Nat) : Int) = Builtin.Range.rangeSize lo hi 1 := by rw [rangeSize_one]; split <;> omega
  show IsRangeIter _ _ (lo + ((0 : Nat) : Int) * 1) ((((hi - lo).toNat : Nat) : Int) - ((0 : Nat) : Int)) 1
  rw [e1, e2]
  exact Heap.get?_push_size _ rfl
/-- range(j) -/
theorem wi_range {a : Expr} {p pos : Pos} (hm : X.mg "range" = none) (hg : Gl X "range") (hw : wA X [a] σ H fun vs H1 => ∃ j : Int, vs = [.int j] ∧ -(2 ^ 62) ≤ j ∧ j < 2 ^ 62 ∧ R (Itr 0 j.toNat) H1)
    (hs : starEach [a] X.env = [(false, eval a X.env)] := by rfl) : wI h X tg (.Call (.Name "range" p) [a] [] pos) σ H R := fun pins s I => by
  refine Call_ (ld_blt I hg hm boot_range (PyProof.Rows.callWith_type1 (thn (hw pos pins s I) fun us s1 ⟨vs, H1, I1, r1, j, e, q1, q2, z⟩ => ?_) hs rfl))
  subst e
  obtain ⟨u, rfl, t, rfl⟩ := vals1 r1
  exact call_range_1 (rng_it I1 (by omega) (by omega) q1 q2 (by simpa using z))
end
end K6

/-! ## KL -/
namespace K6
open PySem PySem.Spec PyProof.Rows L2
/-! ### for -/
section
variable {h : Bool} {X : Cx} {tg iter : Expr} {body : List Stmt} {pos : Pos} {D : Ends} {σ : St} {H : Hp}
/-- what a for asks of the walk J that has come -/
def ForW (X : Cx) (tg : Expr) (body : List Stmt) (D : Ends) (σ : St) (J : It) (H1 : Hp) : Prop :=
  ∃ W : Nat → Nat → St → Hp → Prop, (∃ m, W 0 m σ H1) ∧ ∀ i m σ H, W i m σ H → (J.stop i H ∧ D.nx σ H) ∨
    (J.go i H ∧ ∃ N : St → Hp → Prop, (∀ σ' H', N σ' H' → ∃ m', m' < m ∧ W (i + 1) m' σ' H') ∧ ∀ x H', J.yld i H x H' → wG X tg x σ H' fun σ2 H2 => wB X body ⟨N, D.rt, D.nx, N⟩ σ2 H2)
theorem w_for (hp : PassesOwn (model X.prog X.w) X.A X.env X.xe) (hq : Qk h X) (hw : wI h X tg iter σ H (ForW X tg body D σ))
    (hs : ∀ x, foldedSetIterable iter X.env x = pure x := by intro _; rfl) : wS X (.For tg iter body [] pos) D σ H := fun pins s I => by
  refine wpAny_For (thn (hw pins s I) fun v s1 z => thn z fun itv s2 h2 => ?_) hs
  obtain ⟨it, fp, tn, J, H2, e, I2, T, st2, f2, W, ⟨m0, w0⟩, turn⟩ := h2
  subst e
  have stat : ∀ {H' : Hp}, (∀ b ∈ fp, H' b = none) → ∀ b ∈ fp, FpOk X pins H' b := fun hn b hb => ⟨hn b hb, (f2 b hb).2⟩
  refine codeAny_forLoop_any (fun n s' => ∃ i σ' H', Inv X pins σ' H' s' ∧ tn i s'.heap ∧ (∀ b ∈ fp, H' b = none) ∧ W i n σ' H') ?_ m0 ⟨0, σ, H2, I2, st2, fun b hb => (f2 b hb).1, w0⟩
  rintro n s3 ⟨i, σ3, H3, I3, st3, fr3, w3⟩
  rcases turn i n σ3 H3 w3 with ⟨stop, qn⟩ | ⟨go, N, hN, step⟩
  · refine wpAny_passesOwn hp (thn (T.done X rfl rfl rfl hq i pins s3 σ3 H3 X.xe I3 (stat fr3) st3 stop) fun r s4 ⟨hr, I4⟩ => ?_)
    subst hr
    exact wpAny_execs_nil ⟨σ3, H3, I4, qn⟩
  · refine wpAny_passesOwn hp (thn (T.item X rfl rfl rfl hq i pins s3 σ3 H3 X.xe I3 (stat fr3) st3 go) fun r s4 ⟨u, hr, h4⟩ => ?_)
    subst hr
    refine wpAny_passesOwn hp (thn h4 fun _ s5 ⟨x, H5, I5, r5, y5, st5, fr5⟩ => ?_)
    have I5' := I5.pinned (stat fr5) (T.obj _ _ st5)
    refine wpAny_passesOwn hp (thn (step x H5 y5 _ s5 u I5' r5) fun _ s6 ⟨σ6, H6, I6, q6⟩ => ?_)
    refine wpAny_passesOwn hp (thn (q6 _ s6 I6) fun f s7 q7 => ?_)
    have again : ∀ {σ7 : St} {H7 : Hp}, Inv X (pins ++ pinsAt fp s5.heap) σ7 H7 s7 → N σ7 H7 → ∃ m, m < n ∧ ∃ i σ' H', Inv X pins σ' H' s7 ∧ tn i s7.heap ∧ (∀ b ∈ fp, H' b = none) ∧ W i m σ' H' := fun {σ7 H7} I7 n7 => by
      obtain ⟨m', hm, w7⟩ := hN σ7 H7 n7
      have pin : ∀ b ∈ fp, ∀ o, s5.heap.get? b = some o → s7.heap.get? b = some o ∧ H7 b = none := fun b hb o e =>
        let z := I7.pin (b, o) (List.mem_append_right _ (List.mem_append_right _ (mem_pinsAt hb e)))
        ⟨z.1, z.2.1⟩
      refine ⟨m', hm, i + 1, σ7, H7, I7.unpinned, T.keep _ _ _ st5 fun b hb o e => (pin b hb o e).1, fun b hb => ?_, w7⟩
      obtain ⟨o, e, d⟩ := T.obj _ _ st5 b hb
      exact (pin b hb o e).2
    cases f with
    | next => obtain ⟨σ7, H7, I7, n7⟩ := q7; exact again I7 n7
    | cont => obtain ⟨σ7, H7, I7, n7⟩ := q7; exact again I7 n7
    | brk => obtain ⟨σ7, H7, I7, q7⟩ := q7; exact ⟨σ7, H7, I7.unpinned, q7⟩
    | ret v => obtain ⟨x7, σ7, H7, I7, r7, q7⟩ := q7; exact ⟨x7, σ7, H7, I7.unpinned, r7, q7⟩
/-- a for over known values -/
theorem for_wk {J : It} {xs : List V} {C : Hp → Prop} (wk : Wk J xs C) (Pv : Nat → St → Hp → Prop) (h0 : Pv 0 σ H) (hC : ∀ i σ H, Pv i σ H → C H)
    (step : ∀ i x σ H, xs[i]? = some x → Pv i σ H → wG X tg x σ H fun σ2 H2 => wB X body ⟨Pv (i + 1), D.rt, D.nx, Pv (i + 1)⟩ σ2 H2) (done : ∀ σ H, Pv xs.length σ H → D.nx σ H) : ForW X tg body D σ J H := by
  refine ⟨fun i m σ H => m = xs.length - i ∧ i ≤ xs.length ∧ Pv i σ H, ⟨_, rfl, Nat.zero_le _, h0⟩, ?_⟩
  rintro i m σ H ⟨rfl, hi, p⟩
  by_cases hlt : i < xs.length
  · refine .inr ⟨wk.go i H (hC _ _ _ p) hlt, Pv (i + 1), fun σ' H' p' => ⟨xs.length - (i + 1), by omega, rfl, hlt, p'⟩, fun x H' y => ?_⟩
    obtain ⟨e, hx⟩ := wk.yld i H x H' (hC _ _ _ p) hlt y
    subst e
    exact step i x σ _ hx p
  · have e : i = xs.length := by omega
    subst e
    exact .inl ⟨wk.stop _ H (hC _ _ _ p) (Nat.le_refl _), done σ H p⟩
end

/-! ### list comprehensions -/
abbrev blkQ (X : Cx) (s : Shared) (H : Hp) (scope : Scope) (cenv : Env) (fp : List Addr) : Cx := { X with s_0 := s, H_0 := H, env := cenv, outer := X.stack, ex := fp, fn := fun x => scope.names.lookup x == some .cell, xe := fun _ _ => False }
abbrev wTs (X : Cx) (ifs : List Expr) : TT := fun σ H Q => ∀ pins s, Inv X pins σ H s →
  wpAny (model X.prog X.w) X.A (forIn ifs true fun c r => if r = true then do let ok ← isTrue c X.env (eval c X.env); pure (ForInStep.yield ok) else pure (ForInStep.yield r)) (TP X pins σ Q) X.xe s
section
variable {h : Bool} {X : Cx} {pins : List (Addr × Obj)} {σ : St} {H : Hp} {s : Shared}
theorem wts_nil {Q : Bool → Hp → Prop} (q : Q true H) : wTs X [] σ H Q := fun pins s I => wpAny_tests_nil ⟨H, I, q⟩
theorem wts_one {c : Expr} {Q : Bool → Hp → Prop} (q : wT X c σ H Q) : wTs X [c] σ H Q := fun pins s I => wpAny_tests_one (q pins s I)
theorem block_startQ {scope : Scope} {own : List (Str × Nat)} {fp : List Addr} (I : Inv X pins σ H s) (ok : BlkOk X.N X.env.scope scope own) (hN : X.N.Nodup) (hfp : ∀ b ∈ fp, FpOk X pins H b ∧ b < s.heap.objs.size) :
    Inv (blkQ X s H scope (compEnvC scope (cellsFrom (s.heap.objs.size + 1) scope.names (cloFrom X.env.cells scope.names [])) s.heap.objs.size X.env) fp) [] (wipe σ (own.map (·.2))) H { s with heap := pushCells (s.heap.push { cls := .type "dict", data := .dict #[] }) scope.names } := by
  have J := block_start I ok hN hfp
  have k := J.ok
  refine ⟨⟨k.mod, k.kind, k.glob, k.blt, k.above, k.inj, k.has, k.cab, k.hd, k.frames, k.stk, k.exf, k.bs, k.bsz, k.noex, k.exfs, k.funs, k.frf⟩, J.os, J.bare, J.base, J.loc, J.cell, J.free, J.freeC, fun p hp => ?_, J.hok, J.len⟩
  have hp' : p ∈ X.pn := by simpa using hp
  obtain ⟨e, n, ne, nf, d⟩ := I.pin p (List.mem_append_left _ hp')
  have lt := Heap.lt_size e
  refine ⟨pushCells_keeps _ _ _ _ (Heap.get?_push_of_some _ e), n, Nat.ne_of_lt lt, fun hm => ?_, d⟩
  rcases List.mem_cons.mp (I.stkSub p.1 hm) with z | z
  · exact ne z
  · exact nf z
/-- what a list comprehension asks of its walk; vs: the block's own slots -/
def LcW (X : Cx) (tg : Expr) (ifs : List Expr) (elt : Expr) (scope : Scope) (vs : List Nat) (Q : VK) (σ : St) (J : It) (H1 : Hp) : Prop :=
  ∀ D, H1 D = none → ∃ W : Nat → Nat → Hp → Prop, (∃ m, W 0 m (upd H1 D (.lst []))) ∧ ∀ (s0 : Shared) (H0 : Hp) (C : Addr) (cl : List (Str × Addr)) (fp : List Addr) i m H, W i m H → (J.stop i H ∧ Q (.ref D) H) ∨
    (J.go i H ∧ ∃ Nx : Hp → Prop, (∀ H', Nx H' → ∃ m', m' < m ∧ W (i + 1) m' H') ∧ ∀ x H', J.yld i H x H' →
      wG (blkQ X s0 H0 scope (compEnvC scope cl C X.env) fp) tg x (wipe σ vs) H' fun σ2 H2 => wipe σ2 vs = wipe σ vs ∧ wTs (blkQ X s0 H0 scope (compEnvC scope cl C X.env) fp) ifs σ2 H2 fun b H3 =>
        if b = true then wE (blkQ X s0 H0 scope (compEnvC scope cl C X.env) fp) elt σ2 H3 fun y H4 => ∃ acc, H4 D = some (.lst acc) ∧ acc.length < sizeLine ∧ Nx (upd H4 D (.lst (acc ++ [y]))) else Nx H3)
theorem lcQ {Q : VK} {elt tg iter : Expr} {ifs : List Expr} {scope : Scope} {own : List (Str × Nat)} {pos pos' : Pos} {use : Option (Value → Sem Unit)} {Qf : Value → Shared → Prop}
    (hq : Qk h X) (hN : X.N.Nodup) (I : Inv X pins σ H s) (ok : BlkOk X.N X.env.scope scope own) (hs : ∀ x, foldedSetIterable iter X.env x = pure x) (hw : wI h X tg iter σ H (LcW X tg ifs elt scope (own.map (·.2)) Q σ))
    (hRR : ∀ D C s' m H', Inv X pins σ H' s' → Q (.ref D) H' → s'.heap.Ns C m → FpOk X pins H' C → compPost (model X.prog X.w) X.A X.xe use Qf (.ref D) C (.ok .next) s') :
    wpAny (model X.prog X.w) X.A (comprehension (.ListComp elt [⟨tg, iter, ifs, 0⟩] scope pos) scope X.env pos' (newList []) false (eval iter X.env) use) Qf X.xe s := by
  have hfree : ∀ y ∈ scope.names, y.2 = .free → ∃ c, X.env.cells.lookup y.1 = some c := fun y hy e => (ok.free y hy e).elim (fun k => I.ok.has _ (.inl k)) fun k => I.ok.has _ (.inr k)
  refine wpAny_comprehension_free (use := use) rfl hs (closure_ok hfree) ok.kind (fun y hy e => by rw [ok.uniq y hy, e]) (thn (hw pins s I) fun xv s1 hx => thn hx fun itv s2 h2 => ?_)
  obtain ⟨it, fp, tn, J, H2, e, I2, T, st2, f2, q⟩ := h2
  subst e
  refine wpAny_newObj_type (newEnv_comp ?_) (by show 0 ≤ sizeLine; decide)
  generalize hD : s2.heap.objs.size = D
  have hDn : H2 D = none := I2.hok.fresh (Nat.le_of_eq hD)
  obtain ⟨W, ⟨m0, w0⟩, turn⟩ := q D hDn
  generalize hs3 : ({ s2 with heap := s2.heap.push { cls := .type "list", data := .seq ([] : List Value).toArray } } : Shared) = s3
  have I3 : Inv X pins σ (upd H2 D (.lst [])) s3 := by
    rw [← hs3]
    refine I2.laid (t' := s2.toks) (fun b o e => Heap.get?_push_of_some _ e) (Nat.le_of_eq hD) ⟨Nat.zero_le _, [], 0, .nil, ?_⟩
    rw [← hD]
    exact Heap.get?_push_size _ rfl
  have h3 : s3.heap = s2.heap.push { cls := .type "list", data := .seq ([] : List Value).toArray } := by rw [← hs3]
  have sz : ∀ b ∈ fp, b < s2.heap.objs.size := fun b hb => by
    obtain ⟨o, e, _⟩ := T.obj _ _ st2 b hb
    exact Heap.lt_size e
  have f3 : ∀ b ∈ fp, FpOk X pins (upd H2 D (.lst [])) b ∧ b < s3.heap.objs.size := fun b hb => by
    have hlt := sz b hb
    refine ⟨⟨?_, (f2 b hb).2⟩, by rw [h3, Heap.size_push]; exact Nat.lt_succ_of_lt hlt⟩
    rw [upd_ne (by rw [← hD]; exact Nat.ne_of_lt hlt)]
    exact (f2 b hb).1
  have st3 : tn 0 s3.heap := T.keep _ _ _ st2 fun b _ o e => by rw [h3]; exact Heap.get?_push_of_some _ e
  have I4 := block_startQ I3 ok hN f3
  replace turn := turn s3 (upd H2 D (.lst [])) s3.heap.objs.size (cellsFrom (s3.heap.objs.size + 1) scope.names (cloFrom X.env.cells scope.names [])) fp
  show codeAny _ _ (.compStart (.ListComp elt [⟨tg, iter, ifs, 0⟩] scope pos) 0 (.ref it) (.ref D) (compEnvC scope (cellsFrom (s3.heap.objs.size + 1) scope.names (cloFrom X.env.cells scope.names [])) s3.heap.objs.size X.env)) (compPost (model X.prog X.w) X.A X.xe use Qf (.ref D) s3.heap.objs.size) { s3 with heap := pushCells (s3.heap.push { cls := .type "dict", data := .dict #[] }) scope.names }
  have nfp : ∀ b ∈ fp, (upd H2 D (.lst [])) b = none := fun b hb => (f3 b hb).1.1
  generalize hce : compEnvC scope (cellsFrom (s3.heap.objs.size + 1) scope.names (cloFrom X.env.cells scope.names [])) s3.heap.objs.size X.env = ce at I4 turn ⊢
  have cL : ce.locals = s3.heap.objs.size := by subst hce; rfl
  generalize hH3 : upd H2 D (.lst []) = H3 at I3 I4 turn w0 nfp f3
  generalize hs4 : ({ s3 with heap := pushCells (s3.heap.push { cls := .type "dict", data := .dict #[] }) scope.names } : Shared) = s4 at I4 ⊢
  have st4 : tn 0 s4.heap := T.keep _ _ _ st3 fun b _ o e => by rw [← hs4]; exact pushCells_keeps _ _ _ _ (Heap.get?_push_of_some _ e)
  have qY : Qk h (blkQ X s3 H3 scope ce fp) := hq
  have stat : ∀ {σ' : St} {H' : Hp} {s' : Shared}, Inv (blkQ X s3 H3 scope ce fp) [] σ' H' s' → (∀ b ∈ fp, H' b = none) → ∀ b ∈ fp, FpOk (blkQ X s3 H3 scope ce fp) [] H' b := fun {σ' H' s'} I' hn b hb =>
    ⟨hn b hb, (I'.ok.exf b hb).1, I'.ok.exfs b hb, .inl hb, fun x c e => (I'.ok.exf b hb).2 x c e, fun p hp => by
      have hp' : p ∈ X.pn := by simpa using (show p ∈ X.pn ++ [] from hp)
      exact (f3 b hb).1.2.2.2.2.2 p (List.mem_append_left _ hp')⟩
  have loop : codeAny (model X.prog X.w) X.A (.compLoop (.ListComp elt [⟨tg, iter, ifs, 0⟩] scope pos) 0 (.ref it) (.ref D) ce) (compPost (model X.prog X.w) X.A X.xe use Qf (.ref D) s3.heap.objs.size) s4 := by
    refine compLoop_any (fun n s' => ∃ i H', Inv (blkQ X s3 H3 scope ce fp) [] (wipe σ (own.map (·.2))) H' s' ∧ tn i s'.heap ∧ (∀ b ∈ fp, H' b = none) ∧ W i n H') ?_ m0 ⟨0, H3, I4, st4, nfp, w0⟩
    rintro n s5 ⟨i, H5, I5, st5, n5, w5⟩
    rcases turn i n H5 w5 with ⟨stop, qq⟩ | ⟨go, Nx, hNx, step⟩
    · refine thnF (T.done (blkQ X s3 H3 scope ce fp) rfl rfl rfl qY i [] s5 _ H5 (fun _ _ => False) I5 (stat I5 n5) st5 stop) fun r s6 ⟨hr, I6⟩ => ?_
      subst hr
      have I7 : Inv X pins σ H5 s6 := I3.call' (ch := fp) I6.os I6.base I6.hok I6.bare fun b hb => ⟨(f3 b hb).1.2.2.2.1, (f3 b hb).1.2.1, (f3 b hb).1.2.2.2.2.1, (f3 b hb).1.2.2.2.2.2⟩
      have nC : H5 s3.heap.objs.size = none := cL ▸ (show H5 ce.locals = none from I6.free)
      obtain ⟨m, hn, _⟩ := I6.loc
      replace hn : s6.heap.Ns ce.locals m := hn
      rw [cL] at hn
      exact hRR D s3.heap.objs.size s6 m H5 I7 qq hn (I3.fpOk (Nat.le_refl _) nC)
    · refine thnF (T.item (blkQ X s3 H3 scope ce fp) rfl rfl rfl qY i [] s5 _ H5 (fun _ _ => False) I5 (stat I5 n5) st5 go) fun r s6 ⟨u, hr, h6⟩ => ?_
      subst hr
      refine thnF h6 fun _ s7 ⟨x, H7, I7, r7, y7, st7, n7⟩ => ?_
      have I7' := I7.pinned (stat I7 n7) (T.obj _ _ st7)
      refine thnF (step x H7 y7 _ s7 u I7' r7) fun _ s8 ⟨σ8, H8, I8, hw8, q8⟩ => ?_
      refine thnF (q8 _ s8 I8) fun b s9 ⟨H9, I9, q9⟩ => ?_
      have fin : ∀ {s' : Shared} {H' : Hp}, Inv (blkQ X s3 H3 scope ce fp) ([] ++ pinsAt fp s7.heap) σ8 H' s' → Nx H' → ∃ m, m < n ∧ ∃ i H', Inv (blkQ X s3 H3 scope ce fp) [] (wipe σ (own.map (·.2))) H' s' ∧ tn i s'.heap ∧ (∀ b ∈ fp, H' b = none) ∧ W i m H' := fun {s' H'} I' nx => by
        obtain ⟨m', hm, w'⟩ := hNx H' nx
        have pin' : ∀ b ∈ fp, ∀ o, s7.heap.get? b = some o → s'.heap.get? b = some o ∧ H' b = none := fun b hb o e =>
          let z := I'.pin (b, o) (List.mem_append_right _ (List.mem_append_right _ (mem_pinsAt hb e)))
          ⟨z.1, z.2.1⟩
        have hl : (wipe σ (own.map (·.2))).length = σ8.length := by rw [← hw8, wipe_length]
        refine ⟨m', hm, i + 1, H', (I'.unpinned (pins := [])).weak hl (fun j v e => ?_), T.keep _ _ _ st7 fun b hb o e => (pin' b hb o e).1, fun b hb => ?_, w'⟩
        · rw [← hw8] at e
          exact (wipe_some e).1
        · obtain ⟨o, e, _⟩ := T.obj _ _ st7 b hb
          exact (pin' b hb o e).2
      cases b with
      | false =>
        simp only [Bool.false_eq_true, if_false] at q9 ⊢
        exact fin I9 q9
      | true =>
        simp only [if_true] at q9 ⊢
        refine thnF (q9 _ s9 I9) fun z s10 ⟨yv, H10, I10, r10, acc, hD10, hz10, nx⟩ => ?_
        exact app_ok (X := blkQ X s3 H3 scope ce fp) I10 hD10 hz10 r10 fun s11 I11 => fin I11 nx
  exact codeAny_compStart_list loop (T.self X.A 0 _ _ _ st4 loop)
theorem w_lc {elt tg iter : Expr} {ifs : List Expr} {scope : Scope} {own : List (Str × Nat)} {pos : Pos} {Q : VK} (hq : Qk h X) (hN : X.N.Nodup) (ok : BlkOk X.N X.env.scope scope own) (hw : wI h X tg iter σ H (LcW X tg ifs elt scope (own.map (·.2)) Q σ))
    (hs : ∀ x, foldedSetIterable iter X.env x = pure x := by intro _; rfl) : wE X (.ListComp elt [⟨tg, iter, ifs, 0⟩] scope pos) σ H Q := fun pins s I => by
  rw [eval_ListComp]
  refine lcQ hq hN I ok hs hw fun D C s' m H' I' q hn f => ⟨m, hn, fun h'' sb => ?_⟩
  obtain ⟨f0, f1, f2, f3, f4, f5⟩ := f
  exact ⟨.ref D, H', I'.turned (t' := s'.toks) (fun b o hb e => (sb.2 b hb).trans e) f0 f1 f3 f4 f5, rfl, q⟩
/-- name = [..] on one line, the name a local -/
theorem w_setLc {i : Nat} {y : Str} {py : Pos} {elt tg iter : Expr} {ifs : List Expr} {scope : Scope} {own : List (Str × Nat)} {pos spos : Pos} {D : Ends} (hq : Qk h X) (hN : X.N.Nodup) (ok : BlkOk X.N X.env.scope scope own) (hy : X.N[i]? = some y) (hyl : X.env.scope.names.lookup y = some .local)
    (hsw : swapsWith (.ListComp elt [⟨tg, iter, ifs, 0⟩] scope pos) (some (.Name y py)) spos.line X.env = pure true) (hw : wI h X tg iter σ H (LcW X tg ifs elt scope (own.map (·.2)) (fun x H1 => D.nx (σ.set i (some x)) H1) σ))
    (hs : ∀ x, foldedSetIterable iter X.env x = pure x := by intro _; rfl) : wS X (.Assign [.Name y py] (.ListComp elt [⟨tg, iter, ifs, 0⟩] scope pos) spos) D σ H := fun pins s I => by
  rw [exec_Assign_Name_used _ _ _ _ hsw]
  refine wpAny_bind (wpAny_standAt (wpAny_bind ?_))
  show wpAny _ X.A (do let _ ← comprehension (.ListComp elt [⟨tg, iter, ifs, 0⟩] scope pos) scope X.env (firstIterPos [⟨tg, iter, ifs, 0⟩] pos) (newList []) false (eval iter X.env) (some (assign (.Name y py) X.env))) _ _ s
  refine wpAny_bind (thn (lcQ (Qf := fun _ s' => SP X pins D .next s') hq hN I ok hs hw fun L C s' m H' I' q hn f => ?_) fun _ s' hq => wpAny_pure (wpAny_pure hq))
  show wpAny _ _ (assign (.Name y py) X.env (.ref L)) _ _ _
  refine wpAny_assign_Name (store_ok2 (v := V.ref L) I' hN hy (.inl hyl) rfl (fun s2 I2 ⟨a, sb, ha⟩ => ?_) (.inr hyl))
  obtain ⟨f0, f1, f2, f3, f4, f5⟩ := f
  have haC : C ≠ a := by
    rcases ha with z | z
    · rw [z]; exact f1
    · exact fun e => f4 y a z e.symm
  refine ⟨m, hn.sameBut sb haC, fun h3 sb3 => ?_⟩
  exact ⟨_, H', I2.turned (t' := s2.toks) (fun b o hb e => (sb3.2 b hb).trans e) f0 f1 f3 f4 f5, q⟩
/-- a comprehension over known values; Pv by the turn and the heap (the new list at D within) -/
theorem lc_wk {J : It} {xs : List V} {C : Hp → Prop} {tg elt : Expr} {ifs : List Expr} {scope : Scope} {vs : List Nat} {Q : VK} (wk : Wk J xs C) (Pv : Addr → Nat → Hp → Prop) (h0 : ∀ D, H D = none → Pv D 0 (upd H D (.lst []))) (hC : ∀ D i H, Pv D i H → C H)
    (step : ∀ (D : Addr) (s0 : Shared) (H0 : Hp) (C : Addr) (cl : List (Str × Addr)) (fp : List Addr) i x H, xs[i]? = some x → Pv D i H →
      wG (blkQ X s0 H0 scope (compEnvC scope cl C X.env) fp) tg x (wipe σ vs) H fun σ2 H2 => wipe σ2 vs = wipe σ vs ∧ wTs (blkQ X s0 H0 scope (compEnvC scope cl C X.env) fp) ifs σ2 H2 fun b H3 =>
        if b = true then wE (blkQ X s0 H0 scope (compEnvC scope cl C X.env) fp) elt σ2 H3 fun y H4 => ∃ acc, H4 D = some (.lst acc) ∧ acc.length < sizeLine ∧ Pv D (i + 1) (upd H4 D (.lst (acc ++ [y]))) else Pv D (i + 1) H3)
    (done : ∀ D H, Pv D xs.length H → Q (.ref D) H) : LcW X tg ifs elt scope vs Q σ J H := by
  intro D hD
  refine ⟨fun i m H => m = xs.length - i ∧ i ≤ xs.length ∧ Pv D i H, ⟨_, rfl, Nat.zero_le _, h0 D hD⟩, ?_⟩
  rintro s0 H0 c cl fp i m H ⟨rfl, hi, p⟩
  by_cases hlt : i < xs.length
  · refine .inr ⟨wk.go i H (hC _ _ _ p) hlt, Pv D (i + 1), fun H' p' => ⟨xs.length - (i + 1), by omega, rfl, hlt, p'⟩, fun x H' y => ?_⟩
    obtain ⟨e, hx⟩ := wk.yld i H x H' (hC _ _ _ p) hlt y
    subst e
    exact step D s0 H0 c cl fp i x _ hx p
  · have e : i = xs.length := by omega
    subst e
    exact .inl ⟨wk.stop _ H (hC _ _ _ p) (Nat.le_refl _), done D H p⟩
end
end K6

/-! ## KM -/
namespace K6
open PySem PySem.Spec PyProof.Rows L2
/-! ### walks as the library's builtins take them, where it is quiet -/
section
variable {prog : Program} {w : World} {A : Around} {E : Value → Shared → Prop} {s : Shared}
/-- the exception that may be handled, as part of a walk's state -/
theorem Qh.pack {h : Heap} (q : Qh A h) : ∃ (fx : List Addr) (G : Heap → Prop), G h ∧ (∀ b ∈ fx, b < h.objs.size) ∧ (∀ h', G h' → Qh A h') ∧ (∀ h1 h2, G h1 → (∀ b ∈ fx, ∀ o, h1.get? b = some o → h2.get? b = some o) → G h2) := by
  rcases q with q | ⟨x1, hh, o, vs, e, d, c⟩
  · exact ⟨[], fun _ => True, trivial, fun b hb => absurd hb (by simp), fun _ _ => Or.inl q, fun _ _ _ _ => trivial⟩
  · refine ⟨[x1], fun h' => h'.get? x1 = some o, e, fun b hb => ?_, fun h' e' => .inr ⟨x1, hh, o, vs, e', d, c⟩, fun h1 h2 e1 k => k x1 (by simp) o e1⟩
    obtain rfl : b = x1 := by simpa using hb
    exact Heap.lt_size e
theorem Qh.in1 {h : Heap} (q : Qh A h) : Qh A.in1 h := q
/-- a list, walked -/
theorem walk_list {l : Addr} {items : Array Value} {h0 : Heap} (q : Qh A h0) (k0 : ∀ b o, h0.get? b = some o → s.heap.get? b = some o) (l0 : l < h0.objs.size) (hz : h0.objs.size ≤ s.heap.objs.size) (hl : s.heap.IsList l items) : ∃ (fp : List Addr) (St : Nat → Heap → Prop), Walks prog w A s.heap.objs.size fp [s.heap.objs.size] items.size (fun i v => items[i]? = some v) St ∧
    (∀ b ∈ fp, b = s.heap.objs.size ∨ b < h0.objs.size) ∧ St 0 (s.heap.push { cls := .type "list_iterator", data := .fields #[.ref l, .int 0 0] }) := by
  obtain ⟨fx, G, g0, gl, gq, gk⟩ := q.pack
  have hlt : l < s.heap.objs.size := by obtain ⟨_, e, _⟩ := hl; exact Heap.lt_size e
  have hne : l ≠ s.heap.objs.size := Nat.ne_of_lt hlt
  refine ⟨s.heap.objs.size :: l :: fx, fun i h => h.IsListIter s.heap.objs.size l i ∧ h.IsList l items ∧ G h, ⟨fun b hb => ?_, fun i h h' st hk => ?_, fun i s1 Q E hi st hQ => ?_, fun s1 Q E st hQ => ?_, fun i s1 Q E st hQ => wpAny_pyIter_listiter st.1 hQ⟩, fun b hb => ?_, ?_⟩
  · obtain rfl : b = s.heap.objs.size := by simpa using hb
    exact List.mem_cons_self
  · exact ⟨st.1.at fun o e => hk _ (by simp) o e, st.2.1.at fun o e => hk l (by simp) o e, gk h h' st.2.2 fun b hb o e => hk b (by simp [hb]) o e⟩
  · refine wpAny_pyNext_list_item st.1 st.2.1 (x := items[i]) (by simp [hi]) fun h' hit' hs' => ?_
    exact hQ _ h' s1.toks (by simp [hi]) ⟨hit', st.2.1.extBut hs'.extBut hne, gk _ _ st.2.2 fun b hb o e => hs'.extBut b o (Nat.ne_of_lt (Nat.lt_of_lt_of_le (gl b hb) hz)) e⟩ fun b o hb e => hs'.extBut b o (fun h => hb (by simp [h])) e
  · exact list_end (gq _ st.2.2) st.1 st.2.1 (by simp) fun h' he' => hQ h' s1.toks fun b o hb e => he' b o (fun h => hb (by simp [h])) e
  · rcases List.mem_cons.mp hb with e | hb
    · exact .inl e
    · rcases List.mem_cons.mp hb with e | hb
      · exact .inr (e ▸ l0)
      · exact .inr (gl b hb)
  · exact ⟨⟨_, Heap.get?_push_size _ rfl, rfl, rfl⟩, hl.push _, gk _ _ g0 fun b hb o e => Heap.get?_push_of_some _ (k0 _ _ e)⟩
/-- a dict's keys, walked -/
theorem walk_keys {K : Type} [DecidableEq K] {knd : KeyKind prog w K} {d : Addr} {kvs : List (K × Value)} {ep : Nat} {h0 : Heap} (q : Qh A h0) (k0 : ∀ b o, h0.get? b = some o → s.heap.get? b = some o) (l0 : d < h0.objs.size) (hz : h0.objs.size ≤ s.heap.objs.size) (hm : s.heap.DictAt knd d kvs ep) : ∃ (fp : List Addr) (St : Nat → Heap → Prop),
    Walks prog w A s.heap.objs.size fp [s.heap.objs.size] kvs.length (fun i v => ∃ k x, kvs[i]? = some (k, x) ∧ knd.is k v = true) St ∧
    (∀ b ∈ fp, b = s.heap.objs.size ∨ b < h0.objs.size) ∧ St 0 (s.heap.push { cls := .type "dict_keyiterator", data := .fields #[.ref d, .int 0 0, .int kvs.length 0, .int ep 0] }) := by
  obtain ⟨fx, G, g0, gl, gq, gk⟩ := q.pack
  have hlt : d < s.heap.objs.size := hm.lt_size
  have hne : d ≠ s.heap.objs.size := Nat.ne_of_lt hlt
  refine ⟨s.heap.objs.size :: d :: fx, fun i h => h.IsKeyIter s.heap.objs.size d i kvs.length ep ∧ h.DictAt knd d kvs ep ∧ G h, ⟨fun b hb => ?_, fun i h h' st hk => ?_, fun i s1 Q E hi st hQ => ?_, fun s1 Q E st hQ => ?_, fun i s1 Q E st hQ => wpAny_pyIter_keyiter st.1 hQ⟩, fun b hb => ?_, ?_⟩
  · obtain rfl : b = s.heap.objs.size := by simpa using hb
    exact List.mem_cons_self
  · exact ⟨st.1.at fun o e => hk _ (by simp) o e, st.2.1.at' fun o e => hk d (by simp) o e, gk h h' st.2.2 fun b hb o e => hk b (by simp [hb]) o e⟩
  · obtain ⟨⟨k, x⟩, hx⟩ : ∃ p, kvs[i]? = some p := ⟨kvs[i], by simp [hi]⟩
    refine wpAny_pyNext_dict_item st.1 st.2.1 hx fun key h' hkey hit' hs' => ?_
    exact hQ key h' s1.toks ⟨k, x, hx, hkey⟩ ⟨hit', st.2.1.extBut hs'.extBut hne, gk _ _ st.2.2 fun b hb o e => hs'.extBut b o (Nat.ne_of_lt (Nat.lt_of_lt_of_le (gl b hb) hz)) e⟩ fun b o hb e => hs'.extBut b o (fun h => hb (by simp [h])) e
  · obtain ⟨od, es, hod, hcd, hdd, hk, hp, hn⟩ := id st.2.1
    have hsz : es.size = kvs.length := by rw [← hp.length]; simp
    exact key_end (gq _ st.2.2) st.1 hod hdd hsz (Nat.le_refl _) fun h' he' => hQ h' s1.toks fun b o hb e => he' b o (fun h => hb (by simp [h])) e
  · rcases List.mem_cons.mp hb with e | hb
    · exact .inl e
    · rcases List.mem_cons.mp hb with e | hb
      · exact .inr (e ▸ l0)
      · exact .inr (gl b hb)
  · exact ⟨⟨_, Heap.get?_push_size _ rfl, rfl, rfl⟩, hm.push _, gk _ _ g0 fun b hb o e => Heap.get?_push_of_some _ (k0 _ _ e)⟩

/-! ### what a builtin gathers: the new list S is filled from the walk -/
theorem fill_walk {R : Result → Shared → Prop} {T : String} {r S : Addr} {n : Nat} {P : Nat → Value → Prop} {fp : List Addr} {St : Nat → Heap → Prop} {oI : Obj} (res : Value) (c₀ : Nat)
    (hT : s.TypeIs (.ref r) T) (nl : (Value.type T == Value.type "list") = false) (nt : (Value.type T == Value.type "tuple") = false) (hint : ∀ {Q : Bool → Shared → Prop} {E : Value → Shared → Prop}, Q false { s with heap := s.heap.push oI } → wpAny (model prog w) A.in1 (Builtin.List.listLengthHint (.ref r)) Q E { s with heap := s.heap.push oI })
    (hit : ∀ {E : Value → Shared → Prop} {Q : Value → Shared → Prop}, Q (.ref s.heap.objs.size) { s with heap := s.heap.push oI } → wpAny (model prog w) A.in1 (pyIter (.ref r)) Q E s)
    (W : Walks prog w A.in1 s.heap.objs.size fp [s.heap.objs.size] n P St) (st : St 0 (s.heap.push oI)) (hSr : S ≠ r) (hSf : S ∉ fp) (hn : n ≤ sizeLine) (hS : s.heap.get? S = some { cls := .type "list", data := .seq #[] c₀ })
    (hR : ∀ h' tk acc' c', (∀ b o, b ≠ S → s.heap.get? b = some o → h'.get? b = some o) → h'.get? S = some { cls := .type "list", dict := none, data := .seq acc' c', slots := #[] } → ItemsOf P acc' n → R (.ok (.ret res)) { s with heap := h', toks := tk }) :
    wpAny (model prog w) A.in1 (Builtin.List.listExtendWith (.ref S) (.ref r) res)
      (fun fin s' => match fin with | .done f => R (.ok f) s' | .again c' => c'.quiet = true ∧ codeAny (model prog w) A c' R s') (fun e s' => R (.error e) s') s := by
  have hSI : S ≠ s.heap.objs.size := Nat.ne_of_lt (Heap.lt_size hS)
  have key : ∀ (h : Heap) (c₁ tk : Nat), St 0 h → (∀ b o, b ≠ S → s.heap.get? b = some o → h.get? b = some o) → h.get? S = some { cls := .type "list", data := .seq #[] c₁ } →
      codeAny (model prog w) A (.builtin "list.extend.loop" ⟨[.ref S, .ref s.heap.objs.size, res], []⟩) R { s with heap := h, toks := tk } := by
    intro h c₁ tk hst hk hS₁
    refine codeAny_extend_loopS W.toS hn S hSf res n 0 _ #[] c₁ rfl (Nat.zero_le _) hst hS₁ (ItemsOf.nil _) fun s' acc' c' hm hS' hacc => ?_
    rw [Moved.eq_with hm]
    refine hR s'.heap s'.toks acc' c' (fun b o hb e => hm.heap b o (fun hmem => ?_) (hk b o hb e)) hS' hacc
    rcases List.mem_cons.mp hmem with e' | hmem
    · exact hb e'
    · exact absurd (Heap.lt_size e) (by rw [List.mem_singleton.mp hmem]; exact Nat.lt_irrefl _)
  unfold Builtin.List.listExtendWith
  refine wpAny_bind (wpAny_typeOf (T := T) hT ?_)
  simp only [show Builtin.List.listSameRef (.ref S) (.ref r) = false from by simp [Builtin.List.listSameRef, hSr], nl, nt, Bool.or_false, Bool.false_eq_true, if_false]
  refine wpAny_bind (hit ?_)
  have hS₁ := Heap.get?_push_of_some oI hS
  refine wpAny_bind (wpAny_holding (hint ?_))
  refine wpAny_ite_split (fun _ => ?_) (fun _ => wpAny_pure ⟨plainId_quiet PySem.F.plain_extend_loop _, key _ c₀ _ st (fun b o _ e => Heap.get?_push_of_some _ e) hS₁⟩)
  refine wpAny_bind (wpAny_rule (wpAny_bind ?_))
  show wpAny _ _ (updateSeq S (·.push .none) >>= fun _ => updateSeq S (·.pop)) _ _ _
  refine wpAny_bind (wpAny_updateSeq hS₁ rfl ?_)
  have hS₂ := Heap.get?_update_self (Obj.mapSeq (·.push Value.none)) hS₁ rfl
  refine wpAny_updateSeq (hz := by seq_fits) hS₂ rfl ?_
  have hS₃ := Heap.get?_update_self (Obj.mapSeq (·.pop)) hS₂ rfl
  refine wpAny_pure ⟨plainId_quiet PySem.F.plain_extend_loop _, key _ _ _ ?_ (fun b o hb e => ?_) hS₃⟩
  · refine W.frame 0 _ _ st fun b hb o e => ?_
    have hbS : b ≠ S := fun h => hSf (h ▸ hb)
    exact (Heap.get?_update_other _ _ (Ne.symm hbS)).trans ((Heap.get?_update_other _ _ (Ne.symm hbS)).trans e)
  · exact (Heap.get?_update_other _ _ (Ne.symm hb)).trans ((Heap.get?_update_other _ _ (Ne.symm hb)).trans (Heap.get?_push_of_some _ e))
/-- the keys of a dict, gathered by a builtin -/
theorem collect_keys {K : Type} [DecidableEq K] {knd : KeyKind prog w K} {d : Addr} {kvs : List (K × Value)} {ep : Nat} {R : List Value → Shared → Prop} (lo : (d == sysModules) = false) (q : Qh A s.heap) (hm : s.heap.DictAt knd d kvs ep) (hn : kvs.length ≤ sizeLine)
    (h : ∀ (h' : Heap) (tk : Nat) (acc : Array Value), (∀ b o, s.heap.get? b = some o → h'.get? b = some o) → ItemsOf (fun i v => ∃ k x, kvs[i]? = some (k, x) ∧ knd.is k v = true) acc kvs.length → R acc.toList { s with heap := h', toks := tk }) :
    wpAny (model prog w) A (collect (.ref d)) R E s := by
  have hlt := hm.lt_size
  unfold collect
  refine wpAny_bind (wpAny_runValue (codeAny_builtin PySem.F.entry_proto_collect ?_))
  rw [Around.under_plainId PySem.F.plain_proto_collect _]
  show wpAny _ A.in1 (newList [] >>= fun l => again (.builtin "list.__iadd__" ⟨[l, .ref d], []⟩)) _ _ s
  refine wpAny_bind (wpAny_newObj_type ?_)
  refine wpAny_pure ⟨plainId_quiet PySem.F.plain_list_iadd _, codeAny_builtin PySem.F.entry_list_iadd ?_⟩
  rw [Around.under_plainId PySem.F.plain_list_iadd _]
  generalize hs1 : ({ s with heap := s.heap.push { cls := .type "list", data := .seq ([] : List Value).toArray } } : Shared) = s1
  have z1 : s1.heap = s.heap.push { cls := .type "list", data := .seq ([] : List Value).toArray } := by rw [← hs1]
  have hm1 : s1.heap.DictAt knd d kvs ep := by rw [z1]; exact hm.push _
  obtain ⟨fp, St, W, hf, st⟩ := walk_keys (A := A.in1) (s := s1) (h0 := s.heap) q (fun b o e => by rw [z1]; exact Heap.get?_push_of_some _ e) hlt (by rw [z1, Heap.size_push]; exact Nat.le_succ _) hm1
  have hS₁ : s1.heap.get? s.heap.objs.size = some { cls := .type "list", data := .seq #[] } := by rw [z1]; exact Heap.get?_push_size _ rfl
  show wpAny _ A.in1 (Builtin.List.listExtendWith (.ref s.heap.objs.size) (.ref d) (.ref s.heap.objs.size)) _ _ _
  have key := fill_walk (A := A) (s := s1) (r := d) (S := s.heap.objs.size) (T := "dict")
    (R := fun (q : Result) (s' : Shared) => ∃ (h' : Heap) (tk : Nat) (acc' : Array Value) (c' : Nat), q = .ok (.ret (.ref s.heap.objs.size)) ∧ s' = { s with heap := h', toks := tk } ∧
      (∀ b o, s.heap.get? b = some o → h'.get? b = some o) ∧ h'.get? s.heap.objs.size = some { cls := .type "list", dict := none, data := .seq acc' c', slots := #[] } ∧ ItemsOf (fun i v => ∃ k x, kvs[i]? = some (k, x) ∧ knd.is k v = true) acc' kvs.length)
    (.ref s.heap.objs.size) 0 hm1.dictOf.typeIs (by decide) (by decide) (fun {Q E} hq => PySem.W.kdl_hint_dict (Heap.DictAt.dictOf (hm1.push _)).typeIs hq) (fun {E Q} hq => wpAny_pyIter_dict lo hm1 hq) W st (Nat.ne_of_gt hlt) (fun hb => ?_) hn hS₁ (fun h' tk acc' c' hk hS' hacc => ?_)
  · refine wpAny_mono key (fun fin s' x => ?_) fun e s' x => ?_
    · cases fin with
      | done f =>
        obtain ⟨h', tk, acc', c', e, rfl, hk, hS', hacc⟩ := x
        cases e
        show wpAny _ A (load s.heap.objs.size >>= _) _ _ _
        refine wpAny_bind (wpAny_load hS' ?_)
        exact wpAny_pure (h h' tk acc' hk hacc)
      | again c₁ =>
        refine ⟨x.1, codeAny_mono x.2 fun q s₂ y => ?_⟩
        obtain ⟨h', tk, acc', c', rfl, rfl, hk, hS', hacc⟩ := y
        show wpAny _ A (load s.heap.objs.size >>= _) _ _ _
        refine wpAny_bind (wpAny_load hS' ?_)
        exact wpAny_pure (h h' tk acc' hk hacc)
    · obtain ⟨_, _, _, _, e', _⟩ := x
      cases e'
  · rcases hf _ hb with z | z
    · rw [z1, Heap.size_push] at z
      exact absurd z (Nat.ne_of_lt (Nat.lt_succ_self _))
    · exact absurd z (Nat.lt_irrefl _)
  · refine ⟨h', tk, acc', c', rfl, by rw [← hs1], fun b o e => hk b o (Nat.ne_of_lt (Heap.lt_size e)) (by rw [z1]; exact Heap.get?_push_of_some _ e), hS', hacc⟩
end
end K6

/-! ## KN -/
namespace K6
open PySem PySem.Spec PyProof.Rows L2
section
variable {prog : Program} {w : World} {A : Around} {E : Value → Shared → Prop} {s : Shared}
theorem unpackQ {t : Addr} {items : Array Value} {Q : List Value → Shared → Prop} (q : Qh A s.heap) (ht : IsTup s.heap t items)
    (hQ : ∀ h', Heap.ExtBut s.heap.objs.size s.heap h' → Q items.toList { s with heap := h' }) : wpAny (model prog w) A (unpackItems (.ref t) items.size none) Q E s := by
  have hlt : t ≠ s.heap.objs.size := by obtain ⟨o, ho, _⟩ := ht; exact Nat.ne_of_lt (Heap.lt_size ho)
  unfold unpackItems
  refine wpAny_bind ?_
  unfold notIterableAtAll
  refine wpAny_bind (wpAny_specialOf ht.typeIs slot_tuple_iter.lookup (wpAny_pure ?_))
  simp only [Bool.false_eq_true, if_false]
  refine wpAny_bind (wpAny_holding (iter_tuple ht ?_))
  refine wpAny_bind (wpAny_holding (draw_tuple hlt items.size 0 _ _ ⟨_, Heap.get?_push_size _ rfl, rfl, rfl⟩ (ht.push _) (by omega) fun h₁ hit₁ hs₁ => ?_))
  rw [show List.take items.size (List.drop 0 items.toList) = items.toList from by rw [List.drop_zero]; exact List.take_of_length_le (by simp)]
  rw [if_neg (by simp)]
  have ht₁ : IsTup h₁ t items := (ht.push _).extBut hs₁.extBut hlt
  have q1 : Qh A h₁ := q.keep fun b o e => hs₁.extBut b o (Nat.ne_of_lt (Heap.lt_size e)) (Heap.get?_push_of_some _ e)
  refine wpAny_bind (wpAny_holding (tup_end (s := { s with heap := h₁ }) q1 hit₁ (show h₁.IsTuple t items from ht₁) (by simp) fun h₂ he₂ => ?_))
  simp only [Option.isSome_none, Bool.false_eq_true, if_false]
  exact wpAny_pure (hQ h₂ fun b o hb e => he₂ b o hb (hs₁.extBut b o hb (Heap.get?_push_of_some _ e)))
end
section
variable {h : Bool} {X : Cx} {σ : St} {H : Hp} {v : V} {pos : Pos} {Q : St → Hp → Prop}
abbrev wGs (X : Cx) (ts : List Expr) : TGs := fun vs σ H Q => ∀ pins s us, Inv X pins σ H s → Vals vs us → wpAny (model X.prog X.w) X.A (assignInOrder ((assignEach ts X.env).map (·.2)) us) (fun _ s' => ∃ σ' H', Inv X pins σ' H' s' ∧ Q σ' H') X.xe s
theorem pGs {es : List Expr} : PGs X es (wGs X es) := ⟨fun pins s σ H vs us Q I r h => h pins s us I r⟩
theorem w_gnil (q : Q σ H) : wGs X [] [] σ H Q := fun pins s us I r => pgs_nil.run pins s σ H [] us Q I r ⟨rfl, q⟩
theorem w_gcons {e : Expr} {es : List Expr} {vs : List V} (hw : wG X e v σ H fun σ' H' => wGs X es vs σ' H' Q) (hs : (assignEach (e :: es) X.env).map (·.2) = assign e X.env :: (assignEach es X.env).map (·.2) := by rfl) : wGs X (e :: es) (v :: vs) σ H Q :=
  fun pins s us I r => (pgs_cons pG pGs hs).run pins s σ H (v :: vs) us Q I r ⟨v, vs, rfl, hw⟩
theorem w_gname (i : Nat) {x : Str} (q : Q (σ.set i (some v)) H) (hN : X.N.Nodup) (hi : X.N[i]? = some x := by rfl) (hx : Loc X.env.scope x := by first | exact .inl rfl | exact .inr rfl) (hf : X.fn x = true ∨ X.env.scope.names.lookup x = some .local := by first | exact .inl rfl | exact .inr rfl) : wG X (.Name x pos) v σ H Q :=
  PG.w (pg_name (i := i) hN hi hx hf) q
theorem w_gtup {es : List Expr} {k n : Nat} (hq : Qk h X) (hw : ∃ a xs, v = .ref a ∧ SqT X.K H a xs ∧ xs.length = n ∧ wGs X es xs σ H Q) (hn : (assignEach es X.env).length = n := by rfl) (hst : (assignEach es X.env).findIdx? (·.1) = none := by rfl) :
    wG X (.Tuple es k pos) v σ H Q := fun pins s u I r => by
  obtain ⟨a, xs, e1, ha, hl, hw⟩ := hw
  subst e1
  obtain rfl : u = Value.ref a := r
  obtain ⟨its, rv, ht, hz⟩ := I.tuple ha
  rw [assign_Tuple]
  unfold unpack
  rw [hst]
  have hlen : (assignEach es X.env).length = its.toArray.size := by simp [hn, ← hl, rv.length]
  rw [hlen]
  refine wpAny_bind (wpAny_standAt (wpAny_bind (wpAny_holding (unpackQ (hq.qh I) ht fun h' hx => ?_))))
  have I1 : Inv X pins σ H { s with heap := h' } := I.kept (t' := s.toks) fun b o e => hx b o (Nat.ne_of_lt (Heap.lt_size e)) e
  exact hw pins _ _ I1 (by simpa using rv)

/-! ### all, sorted -/
theorem call_allQ (hq : Qk h X) : CallR X (.builtin "all") (rAll X.K) := by
  intro pins s σ H vs us Q I r hh
  obtain ⟨a, bs, rfl, hs, q⟩ := hh
  obtain ⟨its, rv, hl, _⟩ := I.list hs
  rw [Vals.ref1 r]
  have hb := rv.bls
  have lt : a < s.heap.objs.size := by obtain ⟨_, e, _⟩ := hl.isList; exact Heap.lt_size e
  obtain ⟨fp, St, W, hf, st⟩ := walk_list (prog := X.prog) (w := X.w) (A := X.A.in1) (s := s) (hq.qh I) (fun _ _ e => e) lt (Nat.le_refl _) hl.isList
  refine call_all_walk (wpAny_pyIter_list hl.isList ⟨_, _, _, _, _, _, _, rfl, W, st, truth_bools hb, fun h' tk hk => ?_⟩)
  refine ⟨.bl _, H, I.kept fun b o eo => hk b o (fun hmem => ?_) (Heap.get?_push_of_some _ eo), ?_, q⟩
  · rw [List.mem_singleton.mp hmem] at eo
    exact absurd (Heap.lt_size eo) (Nat.lt_irrefl _)
  · show Value.bool _ = Value.bool _
    rw [← L2.all_range, hb, List.size_toArray, List.length_map]
/-- sorted(d), few text keys -/
theorem call_sortedQ (hq : Qk h X) : CallR X (.builtin "sorted") (fun xs H Q => ∃ (a : Addr) (kvs : List (Key × V)) (ks : List Str), xs = [.ref a] ∧ Rd H a (.dK kvs) ∧ kvs.map (·.1) = ks.map Sum.inr ∧ ks.length < 64 ∧
    ∀ ys p, ys.Perm ks → sortedS ys = true → H p = none → Q (.ref p) (upd H p (.lst (ys.map V.str)))) := by
  intro pins s σ H xs us Q I r q
  obtain ⟨a, kvs, ks, ex, hd, hks, h64, q⟩ := q
  subst ex
  obtain ⟨u, eu, rx⟩ := vals1 r
  subst eu
  cases rx
  obtain ⟨z, lo, vs, rel, dd⟩ := dk_rd I.hok hd
  obtain ⟨ep, hat⟩ := dd.dictAt
  have hkeys : vs.map (·.1) = ks.map Sum.inr := rel.keys.symm.trans hks
  have hl : vs.length = ks.length := by simpa using congrArg List.length hkeys
  have h16 : vs.length ≤ sizeLine := by rw [hl, sizeLine_eq]; omega
  refine Calls.call_function_entry PyProof.Rows.kind_sorted PyProof.Rows.plain_sorted PyProof.Rows.entry_sorted (PyProof.Rows.args_sorted1 _) ?_
  unfold Builtin.«sorted»
  refine wpAny_bind (m := checkCount "sorted" 1 1 _) (wpAny_pure ?_)
  refine wpAny_bind (collect_keys (A := X.A.in1) (knd := mixKind X.prog X.w) lo (hq.qh I) hat h16 fun h' tk acc hk hacc => ?_)
  have hal : acc.toList.length = ks.length := by rw [Array.length_toList, hacc.1, hl]
  have hS : StrsAre acc.toList ks := strs_at hal fun j v e => by
    obtain ⟨k, x, e1, e2⟩ := hacc.2 j v (by rw [← Array.getElem?_toList]; exact e)
    have e3 : (vs.map (·.1))[j]? = some k := by simp [e1]
    rw [hkeys, List.getElem?_map] at e3
    cases e4 : ks[j]? with
    | none => rw [e4] at e3; cases e3
    | some y =>
      rw [e4] at e3
      obtain rfl : Sum.inr y = k := Option.some.inj e3
      obtain ⟨t, ev⟩ := Value.isStrOf_shape (x := y) (v := v) e2
      exact ⟨y, t, rfl, ev⟩
  have I1 : Inv X pins σ H { s with heap := h', toks := tk } := I.kept hk
  refine wpAny_bind (wpAny_newList ?_ (by rw [hal, sizeLine_eq]; omega))
  have hoL : (h'.push (seqObj "list" acc.toList.toArray 0)).get? h'.objs.size = some (seqObj "list" acc.toList.toArray 0) := Heap.get?_push_size _ rfl
  show wpAny _ _ _ _ _ { s with heap := h'.push (seqObj "list" acc.toList.toArray 0), toks := tk }
  refine wpAny_bind (wpAny_holding (wpAny_call_entry PyProof.Rows.slot_list_sort ⟨_, hoL, rfl⟩ PyProof.Rows.entry_list_sort
    (list_sort_treeK strKind_oneLt (s := { s with heap := h'.push (seqObj "list" acc.toList.toArray 0), toks := tk }) hoL hS.keysOf (fun v₁ v₂ rest e => keyKind_strs (by rw [← e]; exact hS)) (by rw [hal]; exact h64) fun st' hp hs => ⟨_, rfl, ?_⟩)
    (PyProof.Rows.args_list_sort _)))
  obtain ⟨ys, g1, g2, g3⟩ := sorted_out_str hS hp hs
  obtain ⟨e', he'⟩ := PyProof.Rows.sortedHeap_at (vs := acc.toList) (out := (arrOf st').map (·.2)) hoL
  have hlen : (ys.map V.str).length ≤ sizeLine := by
    rw [List.length_map, g2.length_eq]
    exact Nat.le_trans (Nat.le_of_lt h64) (by decide)
  refine wpAny_pure ⟨_, rfl, .ref h'.objs.size, upd H h'.objs.size (.lst (ys.map V.str)), I1.laid (t' := tk) (fun b u e => ?_) (Nat.le_refl _)
    (show ObjOk X.prog X.w _ _ _ (.lst (ys.map V.str)) from ⟨hlen, ((arrOf st').map (·.2)).toList, e', vals_of_strs g1, by rw [Array.toArray_toList]; exact he'⟩), rfl, q ys _ g2 g3 (I1.hok.fresh (Nat.le_refl _))⟩
  have hb : b < h'.objs.size := Heap.lt_size e
  rw [PyProof.Rows.sortedHeap_old (Nat.ne_of_lt hb) (by rw [size_push']; exact Nat.lt_succ_of_lt hb)]
  exact Heap.get?_push_of_some _ e
end
end K6

/-! ## KW -/
namespace K6
open PySem PySem.Spec PyProof.Rows L2

/-! ### the text -/
def topS (i : Nat) : Stmt := PySem.Challenge.pw_loopwalks_k61_whole_attempts_and_copies.main.body.getD i (.Pass ⟨0, 0, 0, 0⟩)

/-! ### the rules, one piece of text at a time -/
section
variable {X : Cx} {σ : St} {H : Hp} {Q : VK} {QT : Bool → Hp → Prop} {QA : List V → Hp → Prop} {D : Ends} {v : V} {x : Str} {a b c e : Expr} {es : List Expr} {pos p : Pos} {j : Nat} {r : R2} {st : Stmt} {sts : List Stmt}
theorem w_var (i : Nat) (h : ∃ v, σ[i]? = some (some v) ∧ Q v H) (hN : X.N[i]? = some x := by rfl) (hv : Vis X.env.scope x := by first | exact Or.inl rfl | exact Or.inr (Or.inl rfl) | exact Or.inr (Or.inr rfl)) (hd : (x == ("__debug__" : Str)) = false := by decide)
    (hcd : (x == ("__classdict__" : Str)) = false := by decide) : wE X (.Name x pos) σ H Q := PE.w (pe_var hN hv hd hcd) h
theorem w_int {i : Int} (h : Q (.int i) H) : wE X (.Constant (.int i) j pos) σ H Q := PE.w pe_int h
theorem w_str {z : Str} (h : Q (.str z) H) : wE X (.Constant (.str z) j pos) σ H Q := PE.w pe_str h
theorem w_bl {k : Bool} (h : Q (.bl k) H) : wE X (.Constant (.bool k) j pos) σ H Q := PE.w pe_bl h
theorem w_non (h : Q .non H) : wE X (.Constant .none j pos) σ H Q := PE.w pe_non h
theorem w_glob {u : Value} (hm : X.mg x = some u) (rl : RelV v u) (hg : Gl X x) (h : Q v H) (hd : (x == ("__debug__" : Str)) = false := by decide) : wE X (.Name x p) σ H Q := PE.w (pe_glob hg hm rl hd) h
theorem w_op {op : Operator} (ho : OpR X (binaryOp op) r) (h : wE X a σ H fun x H1 => wE X b σ H1 fun y H2 => r x y H2 Q) : wE X (.BinOp a op b pos) σ H Q := PE.w (pe_op ho pE pE) h
theorem w_un {op : UnaryOp} {r : V → Hp → VK → Prop} (ho : UnR X (unaryOp op) r) (h : wE X a σ H fun x H1 => r x H1 Q) : wE X (.UnaryOp op a pos) σ H Q := PE.w (pe_un ho pE) h
theorem w_cmp {op : CmpOp} (ho : OpR X (compareOp op) r) (h : wE X a σ H fun x H1 => wE X b σ H1 fun y H2 => r x y H2 Q) (hm : behindInMarks op b = false := by first | rfl | exact nobehind _ (by decide) (by decide)) : wE X (.Compare a [op] [b] pos) σ H Q := PE.w (pe_cmpR ho pE pE hm) h
theorem wt_cmp {op : CmpOp} (ho : OpR X (compareOp op) r) (h : wE X a σ H fun x H1 => wE X b σ H1 fun y H2 => r x y H2 fun z H3 => ∃ k, z = .bl k ∧ QT k H3) (hm : behindInMarks op b = false := by first | rfl | exact nobehind _ (by decide) (by decide)) : wT X (.Compare a [op] [b] pos) σ H QT := PT.w (pt_cmpR ho pE pE hm) h
theorem wt_val (h : wE X e σ H fun x H1 => ∃ k, x = .bl k ∧ QT k H1) (he : ∀ whole, isTrue e X.env whole = (do let v ← whole; standAt e.pos; holding [v] (truthy v)) := by intro _; rfl) : wT X e σ H QT := PT.w (pt_val pE he) h
theorem wt_not (h : wT X a σ H fun k H1 => QT (!k) H1) : wT X (.UnaryOp .Not a pos) σ H QT := PT.w (pt_not pT) h
theorem w_not (h : wE X a σ H fun x H1 => ∃ k, x = .bl k ∧ Q (.bl (!k)) H1) : wE X (.UnaryOp .Not a pos) σ H Q := PE.w (pe_not pE) h
theorem w_one {op : BoolOp} (h : wE X a σ H Q) : wE X (.BoolOp op [a] pos) σ H Q := PE.w (pe_one pE) h
theorem w_and (h : wE X a σ H fun x H1 => ∃ k, x = .bl k ∧ if k = true then wE X (.BoolOp .And (b :: es) pos) σ H1 Q else Q (.bl false) H1) : wE X (.BoolOp .And (a :: b :: es) pos) σ H Q := PE.w (pe_and pE pE) h
theorem w_or (h : wE X a σ H fun x H1 => ∃ k, x = .bl k ∧ if k = true then Q (.bl true) H1 else wE X (.BoolOp .Or (b :: es) pos) σ H1 Q) : wE X (.BoolOp .Or (a :: b :: es) pos) σ H Q := PE.w (pe_or pE pE) h
/-- and, or in a test -/
theorem wt_and2 (h : wT X a σ H fun k H1 => if k = true then wT X b σ H1 QT else QT false H1) : wT X (.BoolOp .And [a, b] pos) σ H QT := PT.w (pw_and pT (pw_and1 pT)).pt h
theorem wt_or2 (h : wT X a σ H fun k H1 => if k = true then QT true H1 else wT X b σ H1 QT) : wT X (.BoolOp .Or [a, b] pos) σ H QT := PT.w (pw_or pT (pw_or1 pT)).pt h
theorem wt_and3 (h : wT X a σ H fun k H1 => if k = true then wT X b σ H1 (fun k H2 => if k = true then wT X c σ H2 QT else QT false H2) else QT false H1) : wT X (.BoolOp .And [a, b, c] pos) σ H QT := PT.w (pw_and pT (pw_and pT (pw_and1 pT))).pt h
theorem wt_or3 (h : wT X a σ H fun k H1 => if k = true then QT true H1 else wT X b σ H1 fun k H2 => if k = true then QT true H2 else wT X c σ H2 QT) : wT X (.BoolOp .Or [a, b, c] pos) σ H QT := PT.w (pw_or pT (pw_or pT (pw_or1 pT))).pt h
theorem w_if (h : wT X c σ H fun k H1 => if k = true then wE X a σ H1 Q else wE X b σ H1 Q) : wE X (.IfExp c a b pos) σ H Q := PE.w (pe_ifExp pT pE pE) h
theorem w_fld {f : Str} (h : wE X e σ H fun x H1 => ∃ a C dx fs v, x = .ref a ∧ H1 a = some (.ins C dx fs) ∧ Cls X.K C ∧ NoAttr X.K C f ∧ fs.lookup f = some v ∧ Q v H1) (hb : attributeBase e f X.env (eval e X.env) = eval e X.env := by rfl) : wE X (.Attribute e f pos) σ H Q := PE.w (pe_fld pE hb) h
theorem wa_nil (h : QA [] H) : wA X [] σ H QA := PA.w pa_nil h
theorem wa_cons (h : wE X e σ H fun x H1 => wA X es σ H1 fun xs H2 => QA (x :: xs) H2) (hs : starEach (e :: es) X.env = (false, eval e X.env) :: starEach es X.env := by rfl) : wA X (e :: es) σ H QA := PA.w (pa_cons pE pA hs) h
theorem w_tup {k : Nat} (h : wA X es σ H fun xs H1 => xs.length ≤ sizeLine ∧ ∀ p, H1 p = none → Q (.ref p) (upd H1 p (.tup xs))) : wE X (.Tuple es k pos) σ H Q := PE.w (pe_tup pA) h
theorem w_lst (h : wA X es σ H fun xs H1 => xs.length ≤ sizeLine ∧ ∀ p, H1 p = none → Q (.ref p) (upd H1 p (.lst xs))) : wE X (.List es pos) σ H Q := PE.w (pe_lst pA) h
theorem w_ix (hr : IxR X r) (h : wE X a σ H fun x H1 => wE X b σ H1 fun y H2 => r x y H2 Q) (hs : PlainIx b := by exact fun _ _ => rfl) : wE X (.Subscript a b pos) σ H Q := PE.w (pe_ix hr pE pE hs) h
theorem w_blt {id : String} {rc : List V → Hp → VK → Prop} (hc : CallR X (.builtin id) rc) (hm : X.mg x = none) (hg : Gl X x) (h : wA X (e :: es) σ H fun vs H1 => rc vs H1 Q) (hv : bootBuiltins x = some (.builtin id) := by decide +kernel) (hn : x ≠ "__name__" := by decide) (hdb : (x == ("__debug__" : Str)) = false := by decide)
    (he : starEach (e :: es) X.env = (false, eval e X.env) :: starEach es X.env := by rfl) (hpl : (backTo pos (starEach es X.env)).any (·.1) = false := by rfl) : wE X (.Call (.Name x p) (e :: es) [] pos) σ H Q := PE.w (pe_callB hc hg hm hv pA hn hdb he hpl) h
theorem w_bty {T : String} {rc : List V → Hp → VK → Prop} (hc : CallR X (.type T) rc) (hm : X.mg x = none) (hg : Gl X x) (h : wA X (e :: es) σ H fun vs H1 => rc vs H1 Q) (hv : bootBuiltins x = some (.type T) := by decide +kernel) (hn : x ≠ "__name__" := by decide) (hdb : (x == ("__debug__" : Str)) = false := by decide)
    (he : starEach (e :: es) X.env = (false, eval e X.env) :: starEach es X.env := by rfl) (hpl : (backTo pos (starEach es X.env)).any (·.1) = false := by rfl) : wE X (.Call (.Name x p) (e :: es) [] pos) σ H Q := PE.w (pe_callTy hc hg hm hv pA hn hdb he hpl) h
/-- isinstance(a, T) -/
theorem call_isc (u : Value) : CallR X (.builtin "isinstance") (fun xs H Q => ∃ x c t b, xs = [x, c] ∧ (∀ w, RelV c w → w = u) ∧ TyX X.K H x t ∧ PySem.W.kitOne X.K t u = some b ∧ Q (.bl b) H) := by
  intro pins s σ H xs us Q I r hh
  obtain ⟨x, c, t, b, rfl, rc, ty, hk, q⟩ := hh
  obtain ⟨u1, u2, rfl, r1, r2⟩ := vals2 r
  obtain ⟨Pz, Z, hp, hne⟩ := kit_of I r1 ty
  obtain rfl := rc u2 r2
  exact PySem.W.kia_one Z I.kIn hp hk hne fun tk => ⟨.bl b, H, I.tok _, rfl, q⟩
theorem w_bname {u : Value} (hm : X.mg x = none) (rl : RelV v u) (hg : Gl X x) (h : Q v H) (hv : bootBuiltins x = some u := by decide +kernel) (hn : x ≠ "__name__" := by decide) (hd : (x == ("__debug__" : Str)) = false := by decide) : wE X (.Name x p) σ H Q := PE.w (pe_bltn hg hm hv rl hn hd) h
theorem ws_set (i : Nat) {pos' : Pos} (hN : X.N.Nodup) (h : wE X e σ H fun v H1 => D.nx (σ.set i (some v)) H1) (hi : X.N[i]? = some x := by rfl) (hx : Loc X.env.scope x := by first | exact .inl rfl | exact .inr rfl) (hs : swapsWith e (some (.Name x pos')) pos.line X.env = pure false := by rfl)
    (hf : X.fn x = true ∨ X.env.scope.names.lookup x = some .local := by first | exact .inl rfl | exact .inr rfl) : wS X (.Assign [.Name x pos'] e pos) D σ H := PS.w (ps_set (i := i) hN hi hx pE hs hf) h
theorem ws_asg {tg : Expr} (h : wE X e σ H fun v H1 => wG X tg v σ H1 D.nx) (hs : swapsWithSole [tg] e pos.line X.env = pure false := by rfl) (hw : swappedStores [tg] e X.env = pure none := by rfl)
    (h1 : (assignEach [tg] X.env).map (·.2) = [assign tg X.env] := by rfl) : wS X (.Assign [tg] e pos) D σ H := PS.w (ps_asg pE pG hs hw h1) h
theorem ws_fld {f : Str} {pos' : Pos} (h : wE X e σ H fun y H1 => wE X a σ H1 fun x H2 => ∃ b C dx fs, x = .ref b ∧ H2 b = some (.ins C dx fs) ∧ Cls X.K C ∧ NoAttr X.K C f ∧ fs.length < 1000 ∧ D.nx σ (upd H2 b (.ins C dx (putF f y fs))))
    (hs : swapsWith e (some (.Attribute a f pos')) pos.line X.env = pure false := by rfl) : wS X (.Assign [.Attribute a f pos'] e pos) D σ H := PS.w (ps_fld pE pE hs) h
theorem ws_ret (h : wE X e σ H D.rt) : wS X (.Return (some e) pos) D σ H := PS.w (ps_ret pE) h
theorem ws_expr (h : wE X e σ H fun _ H1 => D.nx σ H1) (hs : swapsWith e none pos.line X.env = pure false := by rfl) : wS X (.Expr e pos) D σ H := PS.w (ps_expr pE hs) h
theorem ws_if {as bs : List Stmt} (h : wT X c σ H fun k H1 => if k = true then wB X as D σ H1 else wB X bs D σ H1) : wS X (.If c as bs pos) D σ H := PS.w (ps_if pT pB pB) h
theorem wb_nil (h : D.nx σ H) : wB X [] D σ H := PSs.w pss_nil h
theorem wb_cons (h : wS X st { D with nx := wB X sts D } σ H) : wB X (st :: sts) D σ H := PSs.w (pss_cons pS pB) h
theorem wb_one (h : wS X st D σ H) : wB X [st] D σ H := PSs.w (pss_one pS) h
end
end K6

/-! ## KT -/
namespace K6
open PySem PySem.Spec PyProof.Rows L2
abbrev ga := He.ga
/-- the method m of the class C -/
abbrev mt (K : PySem.W.Frag) (C m : Str) : Addr := He.ma K (He.ga K C) m
/-- the getter of the property m of the class C -/
def pt (K : PySem.W.Frag) (C m : Str) : Addr := match PySem.W.recIn K (mt K C m) "property" with
  | some (.ref g :: _) => g
  | _ => 0
/-! ### what the top has left -/
/-- the def x, the i-th statement -/
structure Dt (K : PySem.W.Frag) (mg : Str → Option Value) (x : Str) (i : Nat) : Prop where
  mg : mg x = some (.ref (ga K x))
  fn : ∃ fd, Fun K x x (topS i) (ga K x) fd
/-- a def of a class: the j-th statement of the i-th -/
abbrev Mt (K : PySem.W.Frag) (m q : Str) (i j : Nat) (f : Addr) : Prop := ∃ fd, Fun K m q (inClass (topS i) j) f fd
structure Ct (K : PySem.W.Frag) (mg : Str → Option Value) (C : Str) : Prop where
  mg : mg C = some (.ref (ga K C))
  cl : Cls K (ga K C)
  mkr : Mk K (ga K C) (mt K C "__init__")
  ca : PySem.W.findIn K (.ref (ga K C)) "__class__" = some (some (.builtin "object.__class__"))
  cm : PySem.W.mroIn K (ga K C) (.type "object") = some true
abbrev Na (K : PySem.W.Frag) (C f : Str) : Prop := NoAttr K (ga K C) f
/-- a written tuple -/
abbrev KTup (K : PySem.W.Frag) (a : Addr) (xs : List V) : Prop := ∀ H, SqT K H a xs
def Kind (k : Str) : Prop := k = "square" ∨ k = "triangle"
structure Tx (K : PySem.W.Frag) (w : World) (mg : Str → Option Value) : Prop where
  isi : mg "isinstance" = none
  len : mg "len" = none
  all : mg "all" = none
  srt : mg "sorted" = none
  rng : mg "range" = none
  str : mg "str" = none
  lst : mg "list" = none
  cg : PySem.W.specialIn K (.builtin "object.__class__") "__get__" = some (some (.builtin "getset_descriptor.__get__"))
  ct : PySem.W.takesIn K (.builtin "object.__class__") = some true
  wal : Ct K mg "Walk"
  d20 : Dt K mg "is_net" 20
  d21 : Dt K mg "check_net" 21
  d23 : Dt K mg "heading_count" 23
  d24 : Dt K mg "step_of" 24
  d25 : Dt K mg "added" 25
  d26 : Dt K mg "scaled" 26
  d30 : Dt K mg "all_moves" 30
  stepsG : mg "STEPS" = some (.ref (ga K "STEPS"))
  stepsD : ∃ es n, KDict K w (ga K "STEPS") es n
  stepsV : ∀ k, Kind k → ∃ (t : Addr) (ps : List Addr), PySem.W.nsIn K (ga K "STEPS") k = some (some (.ref t)) ∧ KTup K t (ps.map V.ref) ∧ ps.length = (if k = "square" then 4 else 6) ∧ ∀ p ∈ ps, ∃ i j : Int, KTup K p [.int i, .int j]
  changesG : mg "CHANGES" = some (.ref (ga K "CHANGES"))
  changesV : ∀ n, (n = 70 ∨ n = 66 ∨ n = 76 ∨ n = 82) → ∃ i : Int, KDct K w (ga K "CHANGES") ⟨#[n]⟩ (.int i)
  inverseG : mg "INVERSE" = some (.ref (ga K "INVERSE"))
  inverseD : ∃ es n, KDict K w (ga K "INVERSE") es n
  inverseV : ∀ n, (n = 70 ∨ n = 66 ∨ n = 76 ∨ n = 82) → ∃ u, PySem.W.nsIn K (ga K "INVERSE") ⟨#[n]⟩ = some (some u)
  most : ∃ mc u, ClX.CRead K (ga K "Walk") mc ∧ ClX.CVal K (ga K "Walk") mc "MOST" (.int 200) u
  w_init : Mt K "__init__" "Walk.__init__" 31 1 (mt K "Walk" "__init__")
  w_net : Mt K "net" "Walk.net" 31 2 (pt K "Walk" "net")
  w_cmd : Mt K "commands" "Walk.commands" 31 3 (pt K "Walk" "commands")
  w_eq : Mt K "__eq__" "Walk.__eq__" 31 6 (mt K "Walk" "__eq__")
  w_with : Mt K "with_commands" "Walk.with_commands" 31 10 (mt K "Walk" "with_commands")
  w_add : Mt K "__add__" "Walk.__add__" 31 11 (mt K "Walk" "__add__")
  w_netP : PropOf K (ga K "Walk") "net" (mt K "Walk" "net") (pt K "Walk" "net")
  w_cmdP : PropOf K (ga K "Walk") "commands" (mt K "Walk" "commands") (pt K "Walk" "commands")
  w_eqM : Sm K (ga K "Walk") "__eq__" (mt K "Walk" "__eq__")
  w_ne : PySem.W.findIn K (.ref (ga K "Walk")) "__ne__" = some (some (.builtin "object.__ne__"))
  w_addM : Sm K (ga K "Walk") "__add__" (mt K "Walk" "__add__")
  w_first : PySem.W.selfFirst K (ga K "Walk") = true
  w_withM : Meth K (ga K "Walk") "with_commands" (mt K "Walk" "with_commands")
  w_notF : PySem.W.notFirst K (ga K "Walk") (.ref (ga K "Walk")) = true
  w_isiW : PySem.W.kitOne K (.ref (ga K "Walk")) (.ref (ga K "Walk")) = some true
  w_n1 : Na K "Walk" "own_net"
  w_n2 : Na K "Walk" "own_commands"
  w_n3 : Na K "Walk" "own_moves"
  w_n4 : Na K "Walk" "own_places"
end K6

/-! ## KP -/
namespace K6
open PySem PySem.Spec PyProof.Rows L2
/-! ### how a heap goes on: all but M stands as it was -/
structure Gr (M : List Addr) (H H' : Hp) : Prop where
  keep : ∀ a o, a ∉ M → H a = some o → H' a = some o
  free : ∀ a, H' a = none → H a = none
section
variable {M N : List Addr} {H H1 H2 : Hp} {a p : Addr} {o : HO} {K : PySem.W.Frag} {xs : List V}
theorem Gr.refl : Gr M H H := ⟨fun _ _ _ h => h, fun _ h => h⟩
theorem Gr.trans (g : Gr M H H1) (g' : Gr M H1 H2) : Gr M H H2 := ⟨fun a o hm h => g'.keep a o hm (g.keep a o hm h), fun a h => g.free a (g'.free a h)⟩
theorem Gr.mono (g : Gr M H H1) (h : ∀ a ∈ M, a ∈ N) : Gr N H H1 := ⟨fun a o hm => g.keep a o fun z => hm (h a z), g.free⟩
theorem Gr.up (g : Gr [] H H1) : Gr M H H1 := g.mono fun _ h => absurd h (by simp)
/-- an object that is new to H, or one of M, is laid or written -/
theorem Gr.put (g : Gr M H H1) (hp : H p = none ∨ p ∈ M) : Gr M H (upd H1 p o) := by
  refine ⟨fun a u hm h => ?_, fun a h => ?_⟩
  · rw [upd_ne]
    · exact g.keep a u hm h
    · rintro rfl
      rcases hp with hp | hp
      · rw [h] at hp; cases hp
      · exact hm hp
  · by_cases e : a = p
    · subst e; rw [upd_same] at h; cases h
    · rw [upd_ne e] at h; exact g.free a h
theorem Gr.new (g : Gr M H H1) (hp : H1 p = none) : Gr M H (upd H1 p o) := g.put (.inl (g.free p hp))
theorem Gr.at (g : Gr [] H H1) (h : H a = some o) : H1 a = some o := g.keep a o (by simp) h
theorem Gr.ne (h : H a = some o) (hp : H p = none) : a ≠ p := ne_of_none h hp
theorem Gr.tup (g : Gr [] H H1) (h : SqT K H a xs) : SqT K H1 a xs := by
  rcases h with (h | ⟨o, h⟩) | h
  · exact .inl (.inl (g.at h))
  · exact .inl (.inr ⟨o, g.at h⟩)
  · exact .inr h
theorem Gr.lst (g : Gr [] H H1) (h : SqL K H a xs) : SqL K H1 a xs := by
  rcases h with (h | ⟨o, h⟩) | h
  · exact .inl (.inl (g.at h))
  · exact .inl (.inr ⟨o, g.at h⟩)
  · exact .inr h
end

/-! ### rules more -/
section
variable {X : Cx} {σ : St} {H : Hp} {Q : VK} {D : Ends} {v : V} {x : Str} {a b c e o : Expr} {es : List Expr} {pos p apos cpos : Pos} {j : Nat} {r : R2} {st : Stmt} {sts : List Stmt}
theorem w_bm {T id : String} {name : Str} {rm : V → List V → Hp → VK → Prop} (pa : PlainAttrs T) (slot : Slot T name id) (hty : typeOf (.builtin id) = pure (.type "method_descriptor")) (hm : MtR X id rm) (h : wE X o σ H fun x H1 => tyV X.K T x H1 ∧ wA X (e :: es) σ H1 fun xs H2 => rm x xs H2 Q)
    (hbase : attributeBase o name X.env (eval o X.env) = eval o X.env := by rfl)
    (hfew : ((backTo cpos (starEach (e :: es) X.env)).all (fun x => !x.1) && (backToKw cpos (keywordEach [] X.env)).all (fun x => x.1.isSome) && decide ((e :: es).length + ([] : List Keyword).length + (if ([] : List Keyword).isEmpty then 0 else 1) < 30)) = true := by rfl)
    (hline : (apos.endLine == cpos.line) = true := by rfl) (hs : starEach (e :: es) X.env = (false, eval e X.env) :: starEach es X.env := by rfl) (hplain : (backTo cpos (starEach es X.env)).any (·.1) = false := by rfl) :
    wE X (.Call (.Attribute o name apos) (e :: es) [] cpos) σ H Q := PE.w (pe_bm pa slot hty hm pE pA hbase hfew hline hs hplain) h
/-- xs.append(e) -/
theorem w_append (h : wE X o σ H fun x H1 => ∃ l xs, x = .ref l ∧ H1 l = some (.lst xs) ∧ wE X e σ H1 fun y H2 => ∃ ys, H2 l = some (.lst ys) ∧ ys.length < sizeLine ∧ Q .non (upd H2 l (.lst (ys ++ [y]))))
    (hbase : attributeBase o "append" X.env (eval o X.env) = eval o X.env := by rfl) (hline : (apos.endLine == cpos.line) = true := by rfl) (hs : starEach [e] X.env = (false, eval e X.env) :: starEach [] X.env := by rfl)
    (hfew : ((backTo cpos (starEach [e] X.env)).all (fun x => !x.1) && (backToKw cpos (keywordEach [] X.env)).all (fun x => x.1.isSome) && decide ([e].length + ([] : List Keyword).length + (if ([] : List Keyword).isEmpty then 0 else 1) < 30)) = true := by rfl) :
    wE X (.Call (.Attribute o "append" apos) [e] [] cpos) σ H Q := by
  refine w_bm PySem.F.plainAttrs_list PySem.F.slot_list_append PySem.F.type_list_append mt_append (h.mono fun x H1 ⟨l, xs, ex, hl, z⟩ => ?_) hbase hfew hline hs
  subst ex
  exact ⟨.inl ⟨rfl, xs, .inl (.inl hl)⟩, wa_cons (z.mono fun y H2 ⟨ys, hl2, hz, q⟩ => wa_nil ⟨l, ys, y, rfl, rfl, hl2, hz, q⟩) hs⟩
end

/-! ### signs -/
def isCmd (n : Nat) : Bool := n == 70 || n == 66 || n == 76 || n == 82
/-- a text of commands -/
structure Cmd (c : Str) : Prop where
  len : c.cps.size ≤ 200
  ok : ∀ n ∈ c.cps.toList, isCmd n = true
theorem signs_get {z : Str} {i : Nat} {x : V} (h : (signs z)[i]? = some x) : ∃ n, n ∈ z.cps.toList ∧ x = .str ⟨#[n]⟩ := by
  unfold signs at h
  rw [List.getElem?_map] at h
  obtain ⟨n, hn, rfl⟩ := Option.map_eq_some_iff.mp h
  exact ⟨n, List.mem_of_getElem? hn, rfl⟩
def cnt (k : Str) : Nat := if k = "square" then 4 else 6
theorem cnt_pos (k : Str) : 0 < cnt k := by unfold cnt; split <;> omega
end K6
namespace K6
open PySem PySem.Spec PyProof.Rows L2
theorem kdct {K : PySem.W.Frag} {w : World} {d : Addr} {es : Array DictEntry} {n : Nat} {z : Str} {u : Value} {v : V} (D : KDict K w d es n) (e : PySem.W.nsIn K d z = some (some u)) (r : RelV v u) : KDct K w d z v := ⟨es, n, u, D.1, D.2, e, r⟩
end K6
namespace K6
open PySem PySem.Spec PyProof.Rows L2
theorem sz0 : ([] : List V).length ≤ sizeLine := Nat.zero_le _
theorem sz1 {x : V} : [x].length ≤ sizeLine := by show 1 ≤ sizeLine; decide
theorem sz2 {x y : V} : [x, y].length ≤ sizeLine := by show 2 ≤ sizeLine; decide
theorem sz3 {x y z : V} : [x, y, z].length ≤ sizeLine := by show 3 ≤ sizeLine; decide
theorem sz4 {x y z u : V} : [x, y, z, u].length ≤ sizeLine := by show 4 ≤ sizeLine; decide
theorem szm {n : Nat} (h : n ≤ 100000) : n ≤ sizeLine := Nat.le_trans h (by decide)
theorem szl {n : Nat} (h : n < 100000) : n < sizeLine := Nat.lt_of_lt_of_le h (by decide)
theorem isCmd_or {n : Nat} (h : isCmd n = true) : n = 70 ∨ n = 66 ∨ n = 76 ∨ n = 82 := by
  simp only [isCmd, Bool.or_eq_true, beq_iff_eq] at h
  omega
end K6
namespace K6
open PySem PySem.Spec PyProof.Rows L2
/-- a statement, then the rest, by what holds between -/
theorem wb_cut {X : Cx} {σ : St} {H : Hp} {D : Ends} {st : Stmt} {sts : List Stmt} (M : St → Hp → Prop) (h1 : wS X st { D with nx := M } σ H) (h2 : ∀ σ H, M σ H → wB X sts D σ H) : wB X (st :: sts) D σ H :=
  wb_cons fun pins s I => thn (h1 pins s I) fun f s' q => SP.mono (D := { D with nx := M }) (D' := { D with nx := wB X sts D }) h2 (fun _ _ z => z) (fun _ _ z => z) (fun _ _ z => z) q
end K6
namespace K6
open PySem PySem.Spec PyProof.Rows L2
/-- what may change without a tuple or a dict changing: a list, an instance, a thing that is new -/
def Lsn (H : Hp) (f : Addr) : Prop := H f = none ∨ (∃ ys, H f = some (.lst ys)) ∨ ∃ C dx fs, H f = some (.ins C dx fs)
theorem Lsn.ne {H : Hp} {f a : Addr} {o : HO} (h : Lsn H f) (e : H a = some o) (n : ∀ ys, o ≠ .lst ys) (n2 : ∀ C dx fs, o ≠ .ins C dx fs) : a ≠ f := by
  rintro rfl
  rcases h with h | ⟨ys, h⟩ | ⟨C, dx, fs, h⟩
  · rw [e] at h; cases h
  · rw [e] at h; exact n ys (Option.some.inj h)
  · rw [e] at h; exact n2 C dx fs (Option.some.inj h)
theorem SqT.put {K : PySem.W.Frag} {H : Hp} {a f : Addr} {xs : List V} {o : HO} (h : SqT K H a xs) (hf : Lsn H f) : SqT K (upd H f o) a xs := by
  rcases h with (h | ⟨u, h⟩) | h
  · exact .inl (.inl (by rw [upd_ne (hf.ne h (fun _ z => nomatch z) fun _ _ _ z => nomatch z)]; exact h))
  · exact .inl (.inr ⟨u, by rw [upd_ne (hf.ne h (fun _ z => nomatch z) fun _ _ _ z => nomatch z)]; exact h⟩)
  · exact .inr h
end K6
namespace K6
open PySem PySem.Spec PyProof.Rows L2
/-- a comprehension without tests whose items are f of what is walked -/
theorem lc_map {X : Cx} {σ : St} {H : Hp} {J : It} {xs : List V} {C : Hp → Prop} {tg elt : Expr} {scope : Scope} {vs : List Nat} {Q : VK} (wk : Wk J xs C) (f : V → V) (hC : ∀ H', Gr [] H H' → C H') (hlen : xs.length ≤ 100000)
    (step : ∀ (s0 : Shared) (H0 : Hp) (C : Addr) (cl : List (Str × Addr)) (fp : List Addr) x H', x ∈ xs → Gr [] H H' →
      wG (blkQ X s0 H0 scope (compEnvC scope cl C X.env) fp) tg x (wipe σ vs) H' fun σ2 H2 => wipe σ2 vs = wipe σ vs ∧ wE (blkQ X s0 H0 scope (compEnvC scope cl C X.env) fp) elt σ2 H2 fun y H3 => y = f x ∧ Gr [] H' H3)
    (done : ∀ D H', H D = none → Gr [] H H' → H' D = some (.lst (xs.map f)) → Q (.ref D) H') : LcW X tg [] elt scope vs Q σ J H := by
  refine lc_wk wk (fun D i H' => H D = none ∧ Gr [] H H' ∧ H' D = some (.lst ((xs.take i).map f)) ∧ i ≤ xs.length) (fun D hD => ⟨hD, Gr.refl.new hD, by rw [upd_same] <;> rfl, Nat.zero_le _⟩) (fun D i H' p => hC H' p.2.1) ?_ ?_
  · rintro D s0 H0 c cl fp i x H' hx ⟨hD, g, hl, hi⟩
    have hlt : i < xs.length := (List.getElem?_eq_some_iff.mp hx).1
    refine fun pins s u I r => thn (step s0 H0 c cl fp x H' (List.mem_of_getElem? hx) g pins s u I r) ?_
    rintro _ s' ⟨σ2, H2, I2, e2, h2⟩
    refine ⟨σ2, H2, I2, e2, wts_nil ?_⟩
    show (if true = true then _ else _)
    refine iteT (h2.mono ?_)
    rintro y H3 ⟨rfl, g3⟩
    refine ⟨(xs.take i).map f, g3.at hl, szl (by rw [List.length_map, List.length_take]; omega), hD, (g.trans g3).put (.inl hD), ?_, hlt⟩
    rw [upd_same, List.take_add_one, hx, List.map_append] <;> rfl
  · rintro D H' ⟨hD, g, hl, _⟩
    rw [List.take_length] at hl
    exact done D H' hD g hl
theorem blkOk {N : List Str} {sc scope : Scope} {own : List (Str × Nat)} (h : blkC N sc scope own = true := by decide +kernel) : BlkOk N sc scope own := blkOk_by h
end K6
namespace K6
open PySem PySem.Spec PyProof.Rows L2
/-- a comprehension without tests, whatever its items are -/
theorem lc_any {X : Cx} {σ : St} {H : Hp} {J : It} {xs : List V} {C : Hp → Prop} {tg elt : Expr} {scope : Scope} {vs : List Nat} {Q : VK} (wk : Wk J xs C) (hC : ∀ H', Gr [] H H' → C H') (hlen : xs.length ≤ 100000)
    (step : ∀ (s0 : Shared) (H0 : Hp) (C : Addr) (cl : List (Str × Addr)) (fp : List Addr) x H', x ∈ xs → Gr [] H H' →
      wG (blkQ X s0 H0 scope (compEnvC scope cl C X.env) fp) tg x (wipe σ vs) H' fun σ2 H2 => wipe σ2 vs = wipe σ vs ∧ wE (blkQ X s0 H0 scope (compEnvC scope cl C X.env) fp) elt σ2 H2 fun y H3 => Gr [] H' H3)
    (done : ∀ D H' ys, H D = none → Gr [] H H' → ys.length = xs.length → H' D = some (.lst ys) → Q (.ref D) H') : LcW X tg [] elt scope vs Q σ J H := by
  refine lc_wk wk (fun D i H' => H D = none ∧ Gr [] H H' ∧ ∃ ys, ys.length = i ∧ H' D = some (.lst ys)) (fun D hD => ⟨hD, Gr.refl.new hD, [], rfl, upd_same⟩) (fun D i H' p => hC H' p.2.1) ?_ ?_
  · rintro D s0 H0 c cl fp i x H' hx ⟨hD, g, ys, hl, hy⟩
    have hlt : i < xs.length := (List.getElem?_eq_some_iff.mp hx).1
    refine fun pins s u I r => thn (step s0 H0 c cl fp x H' (List.mem_of_getElem? hx) g pins s u I r) ?_
    rintro _ s' ⟨σ2, H2, I2, e2, h2⟩
    refine ⟨σ2, H2, I2, e2, wts_nil ?_⟩
    show (if true = true then _ else _)
    refine iteT (h2.mono ?_)
    rintro y H3 g3
    exact ⟨ys, g3.at hy, szl (by omega), hD, (g.trans g3).put (.inl hD), ys ++ [y], by rw [List.length_append, hl] <;> rfl, upd_same⟩
  · rintro D H' ⟨hD, g, ys, hl, hy⟩
    exact done D H' ys hD g hl hy
end K6

/-! ## D1 -/
namespace K6
open PySem PySem.Spec PyProof.Rows L2
theorem Dt.df {K : PySem.W.Frag} {mg : Str → Option Value} {x : Str} {i : Nat} (d : Dt K mg x i) {X : Cx} (hK : X.K = K) (hm : X.mg = mg) : Df X x (ga K x) := by
  obtain ⟨fd, F⟩ := d.fn
  exact ⟨by rw [hm]; exact d.mg, by rw [hK]; exact F.kp⟩
section
variable {P : Program} {w : World} {K : PySem.W.Frag} {mg : Str → Option Value} {base : Heap}
/-! ### is_net -/
theorem sc20 : FnScope ["obj"] ["obj"] (defScope (topS 20)) := ⟨rfl, rfl, rfl, by decide +kernel, rfl, by decide +kernel, by decide +kernel⟩
def spIsNet : Sp := fun vs H Q _ => ∃ k, vs = [.str k] ∧ Kind k ∧ Q (.bl true) H
theorem is_net (T : Tx K w mg) : Fb true P w K mg base 1 (ga K "is_net") spIsNet := by
  obtain ⟨fd, F⟩ := T.d20.fn
  refine fn_b F sc20 (fun vs H Q E h => by obtain ⟨k, rfl, _⟩ := h; rfl) (fun _ _ _ _ _ _ us hl => match us, hl with | [_], _ => rfl) ?_
  intro pz cdv A outer s H vs Q E hp hq hr h
  obtain ⟨k, rfl, hk, q⟩ := h
  refine wb_one (ws_ret ?_)
  refine w_and (w_blt (call_isc (.type "str")) T.isi rfl (wa_cons (w_var 0 ⟨_, rfl, wa_cons (w_bname (v := .ty "str") T.str rfl rfl (wa_nil ?_))⟩)))
  refine ⟨_, _, _, _, rfl, fun _ h => h, .base (.str k), by rfl, true, rfl, ?_⟩
  rw [if_pos rfl]
  obtain ⟨es, n, D⟩ := T.stepsD
  obtain ⟨t, ps, e, _⟩ := T.stepsV k hk
  refine w_one (w_cmp (op_in_kd D) (w_var 0 ⟨_, rfl, w_glob (v := .ref (ga K "STEPS")) T.stepsG rfl rfl ?_⟩))
  exact ⟨k, _, rfl, rfl, e, q⟩
/-! ### check_net -/
theorem sc21 : FnScope ["obj"] ["obj"] (defScope (topS 21)) := ⟨rfl, rfl, rfl, by decide +kernel, rfl, by decide +kernel, by decide +kernel⟩
def spCheckNet : Sp := fun vs H Q _ => ∃ k, vs = [.str k] ∧ Kind k ∧ Q .non H
theorem check_net (T : Tx K w mg) : Fb true P w K mg base 2 (ga K "check_net") spCheckNet := by
  obtain ⟨fd, F⟩ := T.d21.fn
  refine fn_b F sc21 (fun vs H Q E h => by obtain ⟨k, rfl, _⟩ := h; rfl) (fun _ _ _ _ _ _ us hl => match us, hl with | [_], _ => rfl) ?_
  intro pz cdv A outer s H vs Q E hp hq hr h
  obtain ⟨k, rfl, hk, q⟩ := h
  refine wb_one (ws_if (wt_not (wt_val (w_call (is_net T) hq hr (T.d20.df rfl rfl) paF rfl (wa_cons (w_var 0 ⟨_, rfl, wa_nil ?_⟩))))))
  exact ⟨k, rfl, hk, true, rfl, iteF (wb_nil q)⟩
/-! ### heading_count, step_of -/
theorem sc23 : FnScope ["net"] ["net"] (defScope (topS 23)) := ⟨rfl, rfl, rfl, by decide +kernel, rfl, by decide +kernel, by decide +kernel⟩
def spCount : Sp := fun vs H Q _ => ∃ k, vs = [.str k] ∧ Kind k ∧ Q (.int (cnt k)) H
theorem heading_count (T : Tx K w mg) : Fb true P w K mg base 1 (ga K "heading_count") spCount := by
  obtain ⟨fd, F⟩ := T.d23.fn
  refine fn_b F sc23 (fun vs H Q E h => by obtain ⟨k, rfl, _⟩ := h; rfl) (fun _ _ _ _ _ _ us hl => match us, hl with | [_], _ => rfl) ?_
  intro pz cdv A outer s H vs Q E hp hq hr h
  obtain ⟨k, rfl, hk, q⟩ := h
  obtain ⟨es, n, D⟩ := T.stepsD
  obtain ⟨t, ps, e, ht, hl, _⟩ := T.stepsV k hk
  refine wb_one (ws_ret (w_blt call_len T.len rfl (wa_cons (w_ix ix_kdict (w_glob (v := .ref (ga K "STEPS")) T.stepsG rfl rfl (w_var 0 ⟨_, rfl, ?_⟩))))))
  refine ⟨_, k, .ref t, rfl, rfl, kdct D e rfl, wa_nil ⟨_, _, rfl, .inr ⟨_, ht H, rfl⟩, ?_⟩⟩
  rw [List.length_map, hl]
  exact q
theorem sc24 : FnScope ["net", "heading"] ["net", "heading"] (defScope (topS 24)) := ⟨rfl, rfl, rfl, by decide +kernel, rfl, by decide +kernel, by decide +kernel⟩
def spStep (K : PySem.W.Frag) : Sp := fun vs H Q _ => ∃ (k : Str) (n : Int), vs = [.str k, .int n] ∧ Kind k ∧ 0 ≤ n ∧ n < cnt k ∧ ∀ p (i j : Int), KTup K p [.int i, .int j] → Q (.ref p) H
theorem step_of (T : Tx K w mg) : Fb true P w K mg base 1 (ga K "step_of") (spStep K) := by
  obtain ⟨fd, F⟩ := T.d24.fn
  refine fn_b F sc24 (fun vs H Q E h => by obtain ⟨k, n, rfl, _⟩ := h; rfl) (fun _ _ _ _ _ _ us hl => match us, hl with | [_, _], _ => rfl) ?_
  intro pz cdv A outer s H vs Q E hp hq hr h
  obtain ⟨k, n, rfl, hk, h0, h1, q⟩ := h
  obtain ⟨es, _, D⟩ := T.stepsD
  obtain ⟨t, ps, e, ht, hl, hps⟩ := T.stepsV k hk
  refine wb_one (ws_ret (w_ix ix_tup (w_ix ix_kdict (w_glob (v := .ref (ga K "STEPS")) T.stepsG rfl rfl (w_var 0 ⟨_, rfl, ?_⟩)))))
  refine ⟨_, k, .ref t, rfl, rfl, kdct D e rfl, w_var 1 ⟨_, rfl, ?_⟩⟩
  obtain ⟨m, rfl⟩ : ∃ m : Nat, n = m := ⟨n.toNat, by omega⟩
  have hm : m < ps.length := by rw [hl]; exact Int.ofNat_lt.mp h1
  obtain ⟨i, j, hij⟩ := hps ps[m] (List.getElem_mem hm)
  exact ⟨t, _, _, .ref ps[m], rfl, rfl, ht H, atI_nat (by simp [hm]), q _ i j hij⟩
/-! ### added, scaled -/
theorem sc25 : FnScope ["one", "other"] ["one", "other"] (defScope (topS 25)) := ⟨rfl, rfl, rfl, by decide +kernel, rfl, by decide +kernel, by decide +kernel⟩
def spAdded (K : PySem.W.Frag) : Sp := fun vs H Q _ => ∃ (a b : Addr) (i j k l : Int), vs = [.ref a, .ref b] ∧ SqT K H a [.int i, .int j] ∧ SqT K H b [.int k, .int l] ∧ ∀ p, H p = none → Q (.ref p) (upd H p (.tup [.int (i + k), .int (j + l)]))
theorem added (T : Tx K w mg) : Fb true P w K mg base 1 (ga K "added") (spAdded K) := by
  obtain ⟨fd, F⟩ := T.d25.fn
  refine fn_b F sc25 (fun vs H Q E h => by obtain ⟨a, b, i, j, k, l, rfl, _⟩ := h; rfl) (fun _ _ _ _ _ _ us hl => match us, hl with | [_, _], _ => rfl) ?_
  intro pz cdv A outer s H vs Q E hp hq hr h
  obtain ⟨a, b, i, j, k, l, rfl, ha, hb, q⟩ := h
  refine wb_one (ws_ret (w_tup (wa_cons (w_op op_add (w_ix ix_tup (w_var 0 ⟨_, rfl, w_int ⟨a, _, 0, .int i, rfl, rfl, ha, rfl, ?_⟩⟩))))))
  refine w_ix ix_tup (w_var 1 ⟨_, rfl, w_int ⟨b, _, 0, .int k, rfl, rfl, hb, rfl, _, _, rfl, rfl, ?_⟩⟩)
  refine wa_cons (w_op op_add (w_ix ix_tup (w_var 0 ⟨_, rfl, w_int ⟨a, _, 1, .int j, rfl, rfl, ha, rfl, ?_⟩⟩)))
  refine w_ix ix_tup (w_var 1 ⟨_, rfl, w_int ⟨b, _, 1, .int l, rfl, rfl, hb, rfl, _, _, rfl, rfl, wa_nil ⟨?_, q⟩⟩⟩)
  show 2 ≤ sizeLine; decide
theorem sc26 : FnScope ["place", "factor"] ["place", "factor"] (defScope (topS 26)) := ⟨rfl, rfl, rfl, by decide +kernel, rfl, by decide +kernel, by decide +kernel⟩
def spScaled (K : PySem.W.Frag) : Sp := fun vs H Q _ => ∃ (a : Addr) (i j f : Int), vs = [.ref a, .int f] ∧ SqT K H a [.int i, .int j] ∧ -(2 ^ 64) < f ∧ f < 2 ^ 64 ∧ ∀ p, H p = none → Q (.ref p) (upd H p (.tup [.int (i * f), .int (j * f)]))
theorem scaled (T : Tx K w mg) : Fb true P w K mg base 1 (ga K "scaled") (spScaled K) := by
  obtain ⟨fd, F⟩ := T.d26.fn
  refine fn_b F sc26 (fun vs H Q E h => by obtain ⟨a, i, j, f, rfl, _⟩ := h; rfl) (fun _ _ _ _ _ _ us hl => match us, hl with | [_, _], _ => rfl) ?_
  intro pz cdv A outer s H vs Q E hp hq hr h
  obtain ⟨a, i, j, f, rfl, ha, f1, f2, q⟩ := h
  refine wb_one (ws_ret (w_tup (wa_cons (w_op op_mul (w_ix ix_tup (w_var 0 ⟨_, rfl, w_int ⟨a, _, 0, .int i, rfl, rfl, ha, rfl, ?_⟩⟩))))))
  refine w_var 1 ⟨_, rfl, _, _, rfl, rfl, .inr ⟨f1, f2⟩, ?_⟩
  refine wa_cons (w_op op_mul (w_ix ix_tup (w_var 0 ⟨_, rfl, w_int ⟨a, _, 1, .int j, rfl, rfl, ha, rfl, ?_⟩⟩)))
  refine w_var 1 ⟨_, rfl, _, _, rfl, rfl, .inr ⟨f1, f2⟩, wa_nil ⟨?_, q⟩⟩
  show 2 ≤ sizeLine; decide
/-! ### all_moves -/
abbrev N30 : List Str := ["net", "commands", "found", "place", "heading", "sign", "step", "later"]
theorem sc30 : FnScope N30 ["net", "commands"] (defScope (topS 30)) := ⟨rfl, rfl, rfl, by decide +kernel, rfl, by decide +kernel, by decide +kernel⟩
def spMoves (K : PySem.W.Frag) : Sp := fun vs H Q _ => ∃ k c, vs = [.str k, .str c] ∧ Kind k ∧ Cmd c ∧ ∀ H' p (xs : List Addr), Gr [] H H' → H p = none → H' p = some (.lst (xs.map V.ref)) → xs.length ≤ 200 → (∀ a ∈ xs, ∃ u v w, SqT K H' a [u, v, w]) → Q (.ref p) H'
theorem all_moves (T : Tx K w mg) : Fb true P w K mg base 2 (ga K "all_moves") (spMoves K) := by
  obtain ⟨fd, F⟩ := T.d30.fn
  refine fn_b F sc30 (fun vs H Q E h => by obtain ⟨k, c, rfl, _⟩ := h; rfl) (fun _ _ _ _ _ _ us hl => match us, hl with | [_, _], _ => rfl) ?_
  intro pz cdv A outer s H vs Q E hp hq hr h
  obtain ⟨k, c, rfl, hk, hc, q⟩ := h
  refine wb_cons (ws_set 2 sc30.nd (w_lst (wa_nil ⟨by decide, fun f hf => ?_⟩)))
  refine wb_cons (ws_asg (w_tup (wa_cons (w_tup (wa_cons (w_int (wa_cons (w_int (wa_nil ⟨sz2, fun p0 hp0 => wa_cons (w_int (wa_nil ⟨sz2, fun p1 hp1 => ?_⟩))⟩)))))))))
  refine w_gtup (n := 2) hq ⟨p1, _, rfl, .of upd_same, rfl, w_gcons (w_gname 3 (w_gcons (w_gname 4 (w_gnil ?_) sc30.nd)) sc30.nd)⟩
  have hf0 : H f = none := hf
  refine wb_cons (w_for ownsQ hq (wi_str (w_var 1 ⟨_, rfl, c, rfl, fun J wk => ?_⟩)))
  refine for_wk wk (fun i σ H' => ∃ (pl : Addr) (n : Int) (s5 s6 s7 : Option V) (xs : List Addr), σ = [some (.str k), some (.str c), some (.ref f), some (.ref pl), some (.int n), s5, s6, s7] ∧ Gr [] H H' ∧ H' f = some (.lst (xs.map V.ref)) ∧ xs.length ≤ i ∧ i ≤ c.cps.size ∧
    (∀ a ∈ xs, ∃ u v w, SqT K H' a [u, v, w]) ∧ (∃ i j : Int, SqT K H' pl [.int i, .int j]) ∧ 0 ≤ n ∧ n < cnt k) ?_ (fun _ _ _ _ => trivial) ?_ ?_
  · refine ⟨p0, 0, none, none, none, [], rfl, ((Gr.refl.new hf).new hp0).new hp1, ?_, Nat.le_refl _, Nat.zero_le _, fun a h => absurd h (by simp), ⟨0, 0, .of ?_⟩, by decide, by have := cnt_pos k; omega⟩
    · rw [upd_ne (ne_of_none (by rw [upd_ne (ne_of_none upd_same hp0), upd_same] <;> rfl) hp1), upd_ne (ne_of_none upd_same hp0), upd_same] <;> rfl
    · rw [upd_ne (ne_of_none upd_same hp1), upd_same]
  · rintro i x σ H' hx ⟨pl, n, s5, s6, s7, xs, rfl, g, hfx, hl, hi, hxs, ⟨i0, j0, hpl⟩, n0, n1⟩
    obtain ⟨m, hm, rfl⟩ := signs_get hx
    have hi' : i < c.cps.size := by
      have := (List.getElem?_eq_some_iff.mp hx).1
      simpa [signs] using this
    have hcm := isCmd_or (hc.ok m hm)
    obtain ⟨ch, hch⟩ := T.changesV m hcm
    refine w_gname 5 ?_ sc30.nd
    refine wb_cut (fun σ H2 => ∃ (pl2 : Addr) (s6 s7 : Option V) (ys : List Addr), σ = [some (.str k), some (.str c), some (.ref f), some (.ref pl2), some (.int n), some (.str ⟨#[m]⟩), s6, s7] ∧ Gr [] H H2 ∧ H2 f = some (.lst (ys.map V.ref)) ∧ ys.length ≤ i + 1 ∧ (∀ a ∈ ys, ∃ u v w, SqT K H2 a [u, v, w]) ∧ ∃ i j : Int, SqT K H2 pl2 [.int i, .int j]) ?_ ?_
    · refine ws_if (wt_cmp op_inS (w_var 5 ⟨_, rfl, w_str ⟨m, "FB", rfl, rfl, _, rfl, ?_⟩⟩))
      refine ite2 (fun _ => ?_) fun _ => wb_nil ⟨pl, s6, s7, xs, rfl, g, hfx, Nat.le_succ_of_le hl, hxs, i0, j0, hpl⟩
      refine wb_cons (ws_set 6 sc30.nd (w_call (step_of T) hq (hr.mono (by decide)) (T.d24.df rfl rfl) paF rfl (wa_cons (w_var 0 ⟨_, rfl, wa_cons (w_var 4 ⟨_, rfl, wa_nil ?_⟩)⟩))))
      refine ⟨k, n, rfl, hk, n0, n1, fun st i1 j1 hst => ?_⟩
      refine wb_cut (fun σ H2 => ∃ (lt : Addr) (i3 j3 : Int), σ = [some (.str k), some (.str c), some (.ref f), some (.ref pl), some (.int n), some (.str ⟨#[m]⟩), some (.ref st), some (.ref lt)] ∧ Gr [] H' H2 ∧ SqT K H2 lt [.int i3, .int j3]) ?_ ?_
      · refine ws_set 7 sc30.nd (w_call (added T) hq (hr.mono (by decide)) (T.d25.df rfl rfl) paF rfl (wa_cons (w_var 3 ⟨_, rfl, wa_cons (w_if (wt_cmp op_eq (w_var 5 ⟨_, rfl, w_str ⟨rfl, _, rfl, ?_⟩⟩)))⟩)))
        refine ite2 (fun _ => ?_) fun _ => ?_
        · refine w_var 6 ⟨_, rfl, wa_nil ⟨pl, st, i0, j0, i1, j1, rfl, hpl, hst _, fun lt hlt => ⟨lt, _, _, rfl, Gr.refl.new hlt, .of upd_same⟩⟩⟩
        · refine w_call (scaled T) hq (hr.mono (by decide)) (T.d26.df rfl rfl) paF rfl (wa_cons (w_var 6 ⟨_, rfl, wa_cons (w_un un_neg (w_int ⟨_, rfl, wa_nil ?_⟩))⟩))
          refine ⟨st, i1, j1, _, rfl, hst _, by decide, by decide, fun q1 hq1 => wa_nil ⟨pl, q1, i0, j0, _, _, rfl, (Gr.refl.new hq1).tup hpl, .of upd_same, fun lt hlt => ⟨lt, _, _, rfl, (Gr.refl.new hq1).new hlt, .of upd_same⟩⟩⟩
      · rintro σ H2 ⟨lt, i3, j3, rfl, g2, hlt⟩
        have hf2 := g2.at hfx
        refine wb_cons (ws_expr (w_append (w_var 2 ⟨_, rfl, f, _, rfl, hf2, w_tup (wa_cons (w_var 3 ⟨_, rfl, wa_cons (w_var 4 ⟨_, rfl, wa_cons (w_var 7 ⟨_, rfl, wa_nil ⟨sz3, fun tp htp => ?_⟩⟩)⟩)⟩))⟩)))
        have nf : f ≠ tp := ne_of_none hf2 htp
        refine ⟨xs.map V.ref, by rw [upd_ne nf]; exact hf2, szl (by rw [List.length_map]; have := hc.len; omega), ?_⟩
        have g3 : Gr [] H2 (upd H2 tp (.tup [.ref pl, .int n, .ref lt])) := Gr.refl.new htp
        have lf : Lsn (upd H2 tp (.tup [.ref pl, .int n, .ref lt])) f := .inr (.inl ⟨_, by rw [upd_ne nf]; exact hf2⟩)
        refine wb_one (ws_set 3 sc30.nd (w_var 7 ⟨_, rfl, lt, _, _, xs ++ [tp], rfl, ((g.trans g2).trans g3).put (.inl hf0), ?_, ?_, ?_, i3, j3, ?_⟩))
        · rw [upd_same, List.map_append] <;> rfl
        · rw [List.length_append]; exact Nat.succ_le_succ hl
        · intro a ha
          rcases List.mem_append.mp ha with ha | ha
          · obtain ⟨u, v, w, z⟩ := hxs a ha
            exact ⟨u, v, w, SqT.put (g3.tup (g2.tup z)) lf⟩
          · obtain rfl := List.mem_singleton.mp ha
            exact ⟨_, _, _, SqT.put (.of upd_same) lf⟩
        · exact SqT.put (g3.tup hlt) lf
    · rintro σ H2 ⟨pl2, s6, s7, ys, rfl, g2, hf2, hl2, hys, i2, j2, hpl2⟩
      refine wb_one (ws_set 4 sc30.nd (w_op op_mod (w_op op_add (w_var 4 ⟨_, rfl, ?_⟩))))
      refine w_ix ix_kdict (w_glob (v := .ref (ga K "CHANGES")) T.changesG rfl rfl (w_var 5 ⟨_, rfl, ?_⟩))
      refine ⟨_, _, _, rfl, rfl, hch, _, _, rfl, rfl, ?_⟩
      refine w_call (heading_count T) hq (hr.mono (by decide)) (T.d23.df rfl rfl) paF rfl (wa_cons (w_var 0 ⟨_, rfl, wa_nil ⟨k, rfl, hk, _, _, rfl, rfl, ?_, ?_⟩⟩))
      · show (0 : Int) < (cnt k : Nat)
        have := cnt_pos k
        omega
      · have c0 : (cnt k : Int) ≠ 0 := by have := cnt_pos k; omega
        have c1 : (0 : Int) < cnt k := by have := cnt_pos k; omega
        exact ⟨pl2, _, _, s6, s7, ys, rfl, g2, hf2, hl2, hi', hys, ⟨i2, j2, hpl2⟩, Int.emod_nonneg _ c0, Int.emod_lt_of_pos _ c1⟩
  · rintro σ H' ⟨pl, n, s5, s6, s7, xs, rfl, g, hfx, hl, hi, hxs, hpl, n0, n1⟩
    exact wb_one (ws_ret (w_var 2 ⟨_, rfl, q H' f xs g hf0 hfx (Nat.le_trans hl (Nat.le_trans hi hc.len)) hxs⟩))
end
end K6

/-! ## D2 -/
namespace K6
open PySem PySem.Spec PyProof.Rows L2
abbrev cW (K : PySem.W.Frag) : Addr := ga K "Walk"
def wfs (k c : Str) (m q : V) : List (Str × V) := [("own_net", .str k), ("own_commands", .str c), ("own_moves", m), ("own_places", q)]
/-- a walk -/
def WalkAt (K : PySem.W.Frag) (H : Hp) (p : Addr) (k c : Str) : Prop := ∃ dx m q, H p = some (.ins (cW K) dx (wfs k c m q))
theorem fsz {fs : List (Str × V)} (h : fs.length ≤ 100) : fs.length < 1000 := by omega
theorem pf1 {v : V} : putF "own_net" v [] = ([("own_net", v)] : List (Str × V)) := by rfl
theorem pf2 {v v1 : V} : putF "own_commands" v ([("own_net", v1)] : List (Str × V)) = ([("own_net", v1), ("own_commands", v)] : List (Str × V)) := by rfl
theorem pf3 {v v1 v2 : V} : putF "own_moves" v ([("own_net", v1), ("own_commands", v2)] : List (Str × V)) = ([("own_net", v1), ("own_commands", v2), ("own_moves", v)] : List (Str × V)) := by rfl
theorem pf4 {v v1 v2 v3 : V} : putF "own_places" v ([("own_net", v1), ("own_commands", v2), ("own_moves", v3)] : List (Str × V)) = ([("own_net", v1), ("own_commands", v2), ("own_moves", v3), ("own_places", v)] : List (Str × V)) := by rfl
section
variable {P : Program} {w : World} {K : PySem.W.Frag} {mg : Str → Option Value} {base : Heap}
abbrev N31 : List Str := ["self", "net", "commands", "sign", "before", "heading", "after"]
theorem sc31 : FnScope N31 ["self", "net", "commands"] (defScope (inClass (topS 31) 1)) := ⟨rfl, rfl, rfl, by decide +kernel, rfl, by decide +kernel, by decide +kernel⟩
def spWalk (K : PySem.W.Frag) : Sp := fun vs H Q _ => ∃ x k c dx, vs = [.ref x, .str k, .str c] ∧ H x = some (.ins (cW K) dx []) ∧ Kind k ∧ Cmd c ∧ ∀ H' m q, Gr [x] H H' → H' x = some (.ins (cW K) dx (wfs k c m q)) → Q .non H'
theorem walk_init (T : Tx K w mg) : Fb true P w K mg base 3 (mt K "Walk" "__init__") (spWalk K) := by
  obtain ⟨fd, F⟩ := T.w_init
  refine fn_b F sc31 (fun vs H Q E h => by obtain ⟨x, k, c, dx, rfl, _⟩ := h; rfl) (fun _ _ _ _ _ _ us hl => match us, hl with | [_, _, _], _ => rfl) ?_
  intro pz cdv A outer s H vs Q E hp hq hr h
  obtain ⟨x, k, c, dx, rfl, hx, hk, hc, q⟩ := h
  have cl := T.wal.cl
  -- check_net(net)
  refine wb_cons (ws_expr (w_call (check_net T) hq (hr.mono (by decide)) (T.d21.df rfl rfl) paF rfl (wa_cons (w_var 1 ⟨_, rfl, wa_nil ⟨k, rfl, hk, ?_⟩⟩))))
  -- the text
  refine wb_cons (ws_if (wt_or2 (wt_not (wt_val (w_blt (call_isc (.type "str")) T.isi rfl (wa_cons (w_var 2 ⟨_, rfl, wa_cons (w_bname (v := .ty "str") T.str rfl rfl (wa_nil ?_))⟩)))))))
  refine ⟨_, _, _, _, rfl, fun _ h => h, .base (.str c), by rfl, true, rfl, iteF ?_⟩
  refine wt_cmp op_gt (w_blt call_len T.len rfl (wa_cons (w_var 2 ⟨_, rfl, wa_nil ⟨_, c.length, rfl, ⟨?_, rfl⟩, ?_⟩⟩)))
  · exact szm (Nat.le_trans hc.len (by decide))
  obtain ⟨mc, u, cr, cv⟩ := T.most
  refine PE.w (ClX.pe_cval pE) (w_glob (v := .ref (cW K)) T.wal.mg rfl rfl ⟨_, mc, _, u, rfl, cr, cv, _, _, rfl, rfl, _, rfl, ?_⟩)
  have e1 : decide ((200 : Int) < (c.length : Nat)) = false := decide_eq_false (by have : c.length ≤ 200 := hc.len; omega)
  rw [e1]
  refine iteF (wb_nil ?_)
  -- the signs
  refine wb_cons (ws_if (wt_not (wt_val (w_blt (call_allQ hq) T.all rfl (wa_cons (w_lc (own := [("sign", 3)]) hq sc31.nd (blkOk (N := N31) (sc := defScope (inClass (topS 31) 1))) (wi_str (w_var 2 ⟨_, rfl, c, rfl, fun J wk => ?_⟩))))))))
  obtain ⟨es, n, D⟩ := T.inverseD
  refine lc_map wk (fun _ => .bl true) (fun _ _ => trivial) (by simp [signs]; have := hc.len; omega) ?_ ?_
  · intro s0 H0 C cl fp y H' hy g
    obtain ⟨i, hi⟩ := List.mem_iff_getElem?.mp hy
    obtain ⟨m, hm, rfl⟩ := signs_get hi
    refine w_gname 3 ⟨rfl, ?_⟩ sc31.nd
    obtain ⟨u, hu⟩ := T.inverseV m (isCmd_or (hc.ok m hm))
    refine w_cmp (op_in_kd D) (w_var 3 ⟨_, rfl, w_glob (v := .ref (ga K "INVERSE")) T.inverseG rfl rfl ?_⟩)
    exact ⟨⟨#[m]⟩, _, rfl, rfl, hu, rfl, Gr.refl⟩
  intro D1 H1 hD1 g1 hl1
  refine wa_nil ⟨D1, (signs c).map fun _ => true, rfl, .of (by rw [hl1, List.map_map] <;> rfl), _, rfl, ?_⟩
  rw [show ((signs c).map fun _ => true).all id = true from by simp]
  refine iteF (wb_nil ?_)
  have hx1 := g1.at hx
  -- the fields
  refine wb_cons (ws_fld (w_var 1 ⟨_, rfl, w_var 0 ⟨_, rfl, x, _, _, _, rfl, hx1, cl, T.w_n1, fsz (by simp), ?_⟩⟩))
  rw [pf1]
  refine wb_cons (ws_fld (w_var 2 ⟨_, rfl, w_var 0 ⟨_, rfl, x, _, _, _, rfl, upd_same, cl, T.w_n2, fsz (by simp), ?_⟩⟩))
  rw [upd_upd, pf2]
  refine wb_cons (ws_fld (w_call (all_moves T) hq (hr.mono (by decide)) (T.d30.df rfl rfl) paF rfl (wa_cons (w_var 1 ⟨_, rfl, wa_cons (w_var 2 ⟨_, rfl, wa_nil ?_⟩)⟩))))
  refine ⟨k, c, rfl, hk, hc, fun H2 mv xs g2 hmv hmv2 hlen hxs => ?_⟩
  refine w_var 0 ⟨_, rfl, x, _, _, _, rfl, g2.at upd_same, cl, T.w_n3, fsz (by simp), ?_⟩
  rw [pf3]
  have hne : mv ≠ x := fun e => by rw [e, upd_same] at hmv; cases hmv
  -- own_places
  refine wb_one (ws_fld (w_op op_cat (w_lst (wa_cons (w_tup (wa_cons (w_int (wa_cons (w_int (wa_nil ⟨sz2, fun p0 hp0 => wa_nil ⟨sz1, fun l0 hl0 => ?_⟩⟩))))))))))
  have hx3 : (upd H2 x (.ins (cW K) dx [("own_net", .str k), ("own_commands", .str c), ("own_moves", .ref mv)])) x = some (.ins (cW K) dx [("own_net", .str k), ("own_commands", .str c), ("own_moves", .ref mv)]) := upd_same
  have nxp : x ≠ p0 := ne_of_none hx3 hp0
  have nxl : x ≠ l0 := ne_of_none (by rw [upd_ne nxp]; exact hx3) hl0
  have hm3 : (upd H2 x (.ins (cW K) dx [("own_net", .str k), ("own_commands", .str c), ("own_moves", .ref mv)])) mv = some (.lst (xs.map V.ref)) := by rw [upd_ne hne]; exact hmv2
  have g3 := (Gr.refl (M := [])).new (o := .tup [.int 0, .int 0]) hp0
  have g4 := g3.new (o := .lst [.ref p0]) hl0
  refine w_lc (own := [("before", 4), ("heading", 5), ("after", 6)]) hq sc31.nd (blkOk (N := N31) (sc := defScope (inClass (topS 31) 1))) (wi_list (w_fld (w_var 0 ⟨_, rfl, x, _, _, _, .ref mv, rfl, g4.at hx3, cl, T.w_n3, rfl, mv, _, rfl, .of (g4.at hm3), fun J wk => ?_⟩)))
  refine lc_any wk (fun H' g => .of (g.at (g4.at hm3))) (by rw [List.length_map]; omega) ?_ ?_
  · intro s0 H0 C cl' fp y H' hy g
    obtain ⟨a, ha, rfl⟩ := List.mem_map.mp hy
    obtain ⟨u1, u2, u3, ht⟩ := hxs a ha
    have ht' : SqT K H' a [u1, u2, u3] := g.tup (g4.tup (SqT.put ht (.inr (.inr ⟨_, _, _, g2.at upd_same⟩))))
    refine w_gtup (n := 3) hq ⟨a, _, rfl, ht', rfl, w_gcons (w_gname 4 (w_gcons (w_gname 5 (w_gcons (w_gname 6 (w_gnil ⟨rfl, ?_⟩) sc31.nd)) sc31.nd)) sc31.nd)⟩
    exact w_var 6 ⟨_, rfl, Gr.refl⟩
  · intro D5 H5 ys hD5 g5 hl5 hys
    refine ⟨l0, D5, _, ys, rfl, rfl, g5.at upd_same, hys, szm (by rw [hl5, List.length_map]; show 1 + _ ≤ _; omega), fun pl hpl => ?_⟩
    refine w_var 0 ⟨_, rfl, x, _, _, _, rfl, by rw [upd_ne (ne_of_none (g5.at (g4.at hx3)) hpl)]; exact g5.at (g4.at hx3), cl, T.w_n4, fsz (by simp), ?_⟩
    have G1 : Gr [x] H H1 := g1.up
    have G2 := (G1.put (p := x) (o := .ins (cW K) dx [("own_net", .str k), ("own_commands", .str c)]) (.inr (by simp))).trans g2.up
    have G3 := (G2.put (p := x) (o := .ins (cW K) dx [("own_net", .str k), ("own_commands", .str c), ("own_moves", .ref mv)]) (.inr (by simp))).trans (g4.up.trans g5.up)
    exact q _ _ _ ((G3.new hpl).put (.inr (by simp))) upd_same
end
end K6

/-! ## XB -/
namespace K6
open PySem PySem.Spec PyProof.Rows L2 PySem.HandSPX
/-! ### own exceptions over any of the built-in ones -/
theorem pass_Key (self : Value) : refuseLoop self "__setattr__" [.type "KeyError", .type "LookupError", .type "Exception", .type "BaseException", .type "object"] = pure () := by kernel_rfl
theorem pass_Look (self : Value) : refuseLoop self "__setattr__" [.type "LookupError", .type "Exception", .type "BaseException", .type "object"] = pure () := by kernel_rfl
theorem pass_Over (self : Value) : refuseLoop self "__setattr__" [.type "OverflowError", .type "ArithmeticError", .type "Exception", .type "BaseException", .type "object"] = pure () := by kernel_rfl
theorem pass_Run (self : Value) : refuseLoop self "__setattr__" [.type "RuntimeError", .type "Exception", .type "BaseException", .type "object"] = pure () := by kernel_rfl
theorem pass_Val (self : Value) : refuseLoop self "__setattr__" [.type "ValueError", .type "Exception", .type "BaseException", .type "object"] = pure () := by kernel_rfl
/-- without the own classes ahead -/
def strip : List Value → List Value
  | .ref _ :: r => strip r
  | l => l
theorem strip_contains (Y : String) : ∀ l : List Value, l.contains (.type Y) = (strip l).contains (.type Y)
  | [] => rfl
  | .ref c :: r => by
    have e := strip_contains Y r
    show ((Value.type Y == Value.ref c) || r.contains (.type Y)) = (strip r).contains (.type Y)
    rw [← e, show (Value.type Y == Value.ref c) = false from rfl, Bool.false_or]
  | .none :: _ | .ellipsis :: _ | .notImplemented :: _ | .bool _ :: _ | .int _ _ :: _ | .float _ _ :: _ | .str _ _ :: _ | .bytes _ _ :: _ | .type _ :: _ | .builtin _ :: _ => rfl
theorem strip_pass {tl : List Value} (hp : ∀ self, refuseLoop self "__setattr__" tl = pure ()) (self : Value) : ∀ l : List Value, strip l = tl → refuseLoop self "__setattr__" l = pure ()
  | [], e => by rw [show ([] : List Value) = tl from e]; exact hp self
  | .ref c :: r, e => by rw [refuseLoop_ref]; exact strip_pass hp self r e
  | .none :: _, e | .ellipsis :: _, e | .notImplemented :: _, e | .bool _ :: _, e | .int _ _ :: _, e | .float _ _ :: _, e | .str _ _ :: _, e | .bytes _ _ :: _, e | .type _ :: _, e | .builtin _ :: _, e => by
    have e' := e
    unfold strip at e'
    rw [e']
    exact hp self
/-- the built-in base: its name, who makes it, who fills it, its order of classes -/
structure XBase (B BN newId newI initId : String) (bmN tl : List Value) : Prop where
  new : ExcBaseFacts BN newId newI bmN
  fill : ∃ nid, ExcClass B nid initId
  pass : ∀ self, refuseLoop self "__setattr__" tl = pure ()
  hasN : tl.contains (.type BN) = true
  has : tl.contains (.type B) = true
  noA : tl.contains (.type "AttributeError") = false
  noN : tl.contains (.type "NameError") = false
  obj : tl.contains (.type "object") = true
  ne : tl.isEmpty = false
theorem xKey : XBase "KeyError" "LookupError" "LookupError.__new__" "LookupError.__init__" "KeyError.__init__" [.type "LookupError", .type "Exception", .type "BaseException", .type "object"] [.type "KeyError", .type "LookupError", .type "Exception", .type "BaseException", .type "object"] :=
  ⟨PySem.F.excBase_LookupError, ⟨_, excClass_KeyError⟩, pass_Key, by decide, by decide, by decide, by decide, by decide, rfl⟩
theorem xLook : XBase "LookupError" "LookupError" "LookupError.__new__" "LookupError.__init__" "LookupError.__init__" [.type "LookupError", .type "Exception", .type "BaseException", .type "object"] [.type "LookupError", .type "Exception", .type "BaseException", .type "object"] :=
  ⟨PySem.F.excBase_LookupError, ⟨_, excClass_LookupError⟩, pass_Look, by decide, by decide, by decide, by decide, by decide, rfl⟩
theorem xOver : XBase "OverflowError" "OverflowError" "OverflowError.__new__" "OverflowError.__init__" "OverflowError.__init__" [.type "OverflowError", .type "ArithmeticError", .type "Exception", .type "BaseException", .type "object"] [.type "OverflowError", .type "ArithmeticError", .type "Exception", .type "BaseException", .type "object"] :=
  ⟨PySem.F.excBase_OverflowError, ⟨_, excClass_OverflowError⟩, pass_Over, by decide, by decide, by decide, by decide, by decide, rfl⟩
theorem xRun : XBase "RuntimeError" "RuntimeError" "RuntimeError.__new__" "RuntimeError.__init__" "RuntimeError.__init__" [.type "RuntimeError", .type "Exception", .type "BaseException", .type "object"] [.type "RuntimeError", .type "Exception", .type "BaseException", .type "object"] :=
  ⟨PySem.F.excBase_RuntimeError, ⟨_, excClass_RuntimeError⟩, pass_Run, by decide, by decide, by decide, by decide, by decide, rfl⟩
theorem xVal : XBase "ValueError" "ValueError" "ValueError.__new__" "ValueError.__init__" "ValueError.__init__" [.type "ValueError", .type "Exception", .type "BaseException", .type "object"] [.type "ValueError", .type "Exception", .type "BaseException", .type "object"] :=
  ⟨PySem.F.excBase_ValueError, ⟨_, excClass_ValueError⟩, pass_Val, by decide, by decide, by decide, by decide, by decide, rfl⟩
end K6

/-! ## XC -/
namespace PySem
namespace HandSPX
open Builtin Builtin.ObjectAttr
section
variable {M : Model} {A : Around} {E : Value → Shared → Prop} {h : Heap} {g : Array GenState} {d : Drawn} {t : Nat} {os : OsState}
variable {nm q : Str} {C N : Addr} {bs bm bmN tl : List Value} {hdct : Bool} {sn : List Str} {sub : List Value} {ab : Bool} {col : Option Bool} {dd : Option Addr} {k0 k1 k2 k3 k5 : Option Value} {B BN newId newI initId : String}
theorem k6_has {X : String} {b : Bool} (hs : K6.strip bm = tl) (h : tl.contains (.type X) = b) : (Value.ref C :: bm).contains (.type X) = b := by
  show ((Value.type X == Value.ref C) || bm.contains (.type X)) = b
  rw [K6.strip_contains X bm, hs, h, show (Value.type X == Value.ref C) = false from rfl, Bool.false_or]
theorem k6_check_new (F : K6.XBase B BN newId newI initId bmN tl) (hs : K6.strip bm = tl) {rest : List Value} {Q : Unit → Shared → Prop} (hC : h.get? C = some (excClassObj nm q C N bs bm hdct sn sub ab col dd k0 k1 k2 k3 k5 newId)) (hq : Q () ⟨h, g, d, t, os⟩) :
    wpAny M A (checkBuiltinCall newId ⟨.ref C :: rest, []⟩) Q E ⟨h, g, d, t, os⟩ := by
  have hcont : (Value.ref C :: bm).contains (.type BN) = true := k6_has hs F.hasN
  have hstar := F.new.noStar
  simp only [checkBuiltinCall, F.new.newKind, F.new.newSplit, F.new.newRow]
  repeat (first | refine wpAny_loadPart_at hC ?_ | (refine wpAny_isSubtype_exc hC ?_; rw [hcont]) | refine wpAny_staticBase_exc hC ?_ | refine wpAny_madeBy_exc hC ?_ | simp only [bne_self_eq_false, Bool.false_eq_true, if_false] | wp_step)
  exact hq
theorem k6_check_init (F : K6.XBase B BN newId newI initId bmN tl) (hs : K6.strip bm = tl) {e : Addr} {oe : Obj} {rest : List Value} {Q : Unit → Shared → Prop} (hC : h.get? C = some (excClassObj nm q C N bs bm hdct sn sub ab col dd k0 k1 k2 k3 k5 newId)) (he : h.get? e = some oe) (hcls : oe.cls = .ref C)
    (hq : Q () ⟨h, g, d, t, os⟩) : wpAny M A (checkBuiltinCall initId ⟨.ref e :: rest, []⟩) Q E ⟨h, g, d, t, os⟩ := by
  obtain ⟨nid, G⟩ := F.fill
  have hcB : (Value.ref C :: bm).contains (.type B) = true := k6_has hs F.has
  have hshort := G.notStar
  simp only [checkBuiltinCall, G.initKind, G.initSplit, G.initSig]
  repeat (first | (with_reducible refine wpAny_loadPart_at he ?_; rw [hcls]) | with_reducible refine wpAny_loadPart_at hC ?_ | (with_reducible refine wpAny_isSubtype_exc hC ?_; rw [hcB]) | wp_step)
  refine wpAny_onRaise ?_
  rw [show ∀ (a b : String) (n : Nat), Bind.check ⟨.positional, "*", B, .self, [⟨"args", .varPos, false⟩]⟩ a b n (List.map (fun x => x.fst) ({ pos := Value.ref e :: rest } : Args).kw) = pure () from
    fun a b n => check_star_args _ _ _ _ _ _]
  exact wpAny_pure hq
end
section
variable {prog : Program} {w : World} {A : Around} {E : Value → Shared → Prop} {R : Result → Shared → Prop} {h : Heap} {g : Array GenState} {d : Drawn} {t : Nat} {os : OsState}
variable {nm q : Str} {C N : Addr} {bs bm bmN tl : List Value} {hdct : Bool} {sn : List Str} {sub : List Value} {ab : Bool} {col : Option Bool} {dd : Option Addr} {k0 k1 k2 k3 k5 : Option Value} {B BN newId newI initId : String}
theorem k6_new (F : K6.XBase B BN newId newI initId bmN tl) (hs : K6.strip bm = tl) {rest : List Value} (hC : h.get? C = some (excClassObj nm q C N bs bm hdct sn sub ab col dd k0 k1 k2 k3 k5 newId))
    (hq : R (.ok (.ret (.ref (h.objs.size + 1)))) ⟨(h.push { cls := .type "tuple", data := .seq rest.toArray }).push { cls := .ref C, data := .fields #[.ref h.objs.size, .none, .none, .none, .bool false, .none] }, g, d, t, os⟩) (hrest : rest.length ≤ sizeLine) :
    codeAny (model prog w) A (.builtin newId ⟨.ref C :: rest, []⟩) R ⟨h, g, d, t, os⟩ := by
  have hends := F.new.ends
  have hcB : (Value.ref C :: bm).contains (.type BN) = true := k6_has hs F.hasN
  have hcA : (Value.ref C :: bm).contains (.type "AttributeError") = false := k6_has hs F.noA
  have hcN : (Value.ref C :: bm).contains (.type "NameError") = false := k6_has hs F.noN
  refine codeAny_builtinAt F.new.entry ?_
  unfold Builtin.«BaseException.__new__»
  refine wpAt_bind ?_
  show wpAt _ _ _ (stack >>= _) _ _ _
  refine wpAt_bind (wpAt_stack fun p below => wpAt_of_wpAny ?_)
  wp_walk
  refine wpAt_of_wpAny ?_
  rw [F.new.owner]
  repeat (first | with_reducible refine wpAny_madeHere_exc F.new.canon hC ?_ | with_reducible refine wpAny_loadPart_at hC ?_ | (with_reducible refine wpAny_isSubtype_exc hC ?_; first | rw [hcB] | rw [hcA] | rw [hcN]) | wp_step)
  show R _ _
  rw [Heap.size_push]
  exact hq
theorem k6_type_call (F : K6.XBase B BN newId newI initId bmN tl) (hs : K6.strip bm = tl) {rest : List Value} {fI : Addr} {Q : Fin → Shared → Prop} (hC : h.get? C = some (excClassObj nm q C N bs bm hdct sn sub ab col dd k0 k1 k2 k3 k5 newId))
    (hi : W.Looks (model prog w) h (typeLookup (.ref C) "__init__") (some (.ref fI))) (hb : ∀ self, W.Looks (model prog w) h (bindSpecial (.ref fI) self) (.ref fI, [self])) (hrest : rest.length ≤ sizeLine)
    (hq : codeAny (model prog w) A (.call (.ref fI) ⟨.ref (h.objs.size + 1) :: rest, []⟩) (fun r s' => match r with | .ok (.ret v) => v = .none ∧ Q (.done (.ret (.ref (h.objs.size + 1)))) s' | .ok _ => False | .error e => E e s')
      ⟨(h.push (W.kdv_tup rest)).push (excO C h.objs.size), g, d, t, os⟩) : wpAny (model prog w) A (Builtin.«type.__call__» ⟨.ref C :: rest, []⟩) Q E ⟨h, g, d, t, os⟩ := by
  repeat (first | with_reducible refine wpAny_loadPart_at hC ?_ | with_reducible refine wpAny_madeBy_exc hC ?_ | wp_step)
  refine codeAny_call_builtin_code (Code.quiet_builtin _ F.new.quiet) (k6_check_new F hs hC ?_)
  refine k6_new F hs hC ?_ hrest
  show wpAny _ _ _ _ _ _
  have k : ∀ b o, h.get? b = some o → ((h.push (W.kdv_tup rest)).push (excO C h.objs.size)).get? b = some o := fun b o e => Heap.get?_push_of_some _ (Heap.get?_push_of_some _ e)
  have hC₁ := k _ _ hC
  have hget : ((h.push (W.kdv_tup rest)).push (excO C h.objs.size)).get? (h.objs.size + 1) = some (excO C h.objs.size) := by heap_get
  have hcC : (Value.ref C :: bm).contains (.ref C) = true := by simp
  have i1 := hi.keeps k
  have b1 := (hb (.ref (h.objs.size + 1))).keeps k
  unfold isInstance
  repeat (first | with_reducible refine wpAny_loadPart_at hget ?_ | (with_reducible refine wpAny_isSubtype_exc hC₁ ?_; rw [hcC]) | wp_step)
  show wpAny _ _ (typeLookup (.ref C) _) _ _ _
  refine i1.at (wpAny_holding (wpAny_bind (b1.at ?_)))
  refine wpAny_bind (wpAny_call (codeAny_mono hq fun r s' z => ?_))
  rcases r with e | (v | _ | _ | _) <;> first | exact z | exact z.elim | skip
  obtain ⟨rfl, z⟩ := z
  first
    | exact wpAny_pure (wpAny_pure z)
    | (wp_walk; exact z)
theorem k6_call (F : K6.XBase B BN newId newI initId bmN tl) (hs : K6.strip bm = tl) {rest : List Value} {fI : Addr} (hC : h.get? C = some (excClassObj nm q C N bs bm hdct sn sub ab col dd k0 k1 k2 k3 k5 newId))
    (hi : W.Looks (model prog w) h (typeLookup (.ref C) "__init__") (some (.ref fI))) (hb : ∀ self, W.Looks (model prog w) h (bindSpecial (.ref fI) self) (.ref fI, [self])) (hrest : rest.length ≤ sizeLine)
    (hq : codeAny (model prog w) (A.under (.builtin "type.__call__" ⟨.ref C :: rest, []⟩)) (.call (.ref fI) ⟨.ref (h.objs.size + 1) :: rest, []⟩) (W.InitBack (h.objs.size + 1) R) ⟨(h.push (W.kdv_tup rest)).push (excO C h.objs.size), g, d, t, os⟩) :
    codeAny (model prog w) A (.call (.ref C) ⟨rest, []⟩) R ⟨h, g, d, t, os⟩ := by
  have f1 := tc_lookup
  have f2 := tc_bind (.ref C)
  have hTy : (⟨h, g, d, t, os⟩ : Shared).TypeIs (.ref C) "type" := ⟨_, hC, rfl⟩
  refine codeAny_of_tree ?_
  show wpAny _ _ (callAny (.ref C) _) _ _ _
  repeat (any_goals (first | assumption | with_reducible refine wpAny_loadPart_at hC ?_ | wp_step))
  refine ⟨rfl, ?_⟩
  refine codeAny_call_builtin_at (Code.quiet_builtin _ (by decide +kernel)) entry_typeCall (wpAny_check_type_call_sub hC (k6_type_call F hs hC hi hb hrest ?_))
  refine codeAny_mono hq fun r s' z => ?_
  rcases r with e | (v | _ | _ | _) <;> exact z
theorem k6_init (F : K6.XBase B BN newId newI initId bmN tl) (hs : K6.strip bm = tl) {e t0 : Addr} {rest : List Value} (hC : h.get? C = some (excClassObj nm q C N bs bm hdct sn sub ab col dd k0 k1 k2 k3 k5 newId)) (he : h.get? e = some (excO C t0)) (hrest : rest.length ≤ sizeLine)
    (hq : ∀ h' t1, (∀ b o, b ≠ e → h.get? b = some o → h'.get? b = some o) → h'.get? e = some (excO C t1) → R (.ok (.ret .none)) ⟨h', g, d, t, os⟩) : codeAny (model prog w) A (.call (.builtin initId) ⟨.ref e :: rest, []⟩) R ⟨h, g, d, t, os⟩ := by
  obtain ⟨nid, G⟩ := id F.fill
  refine codeAny_call_builtin G.init.plain G.initEntry (k6_check_init F hs hC he rfl ?_)
  wp_walk
  refine hq _ h.objs.size (fun b o hb ho => ?_) ?_
  · rw [Heap.get?_update_other _ _ (Ne.symm hb)]
    exact Heap.get?_push_of_some _ ho
  · rw [Heap.get?_update_self _ (Heap.get?_push_of_some _ he) rfl]
    rfl
open Builtin.ObjectAttr
theorem k6_store {K : W.Frag} {name : Str} {tk : Tok} {v : Value} {x C : Addr} {fv : Array Value} {cd : ClassData} {hp : Heap}
    (F : K6.XBase B BN newId newI initId bmN tl) (X : K.In hp) (hx : hp.get? x = some { cls := .ref C, data := .fields fv }) (hcd : W.clsIn K C = some cd) (hm : K6.strip cd.mro = tl) (hh : cd.hasDict = true) (ha : W.findIn K (.ref C) name = some none)
    (hq : ∀ h' tk' dx, (∀ b o, b ≠ x → hp.get? b = some o → h'.get? b = some o) → hp.objs.size ≤ dx → dx ≠ x → h'.get? x = some { cls := .ref C, dict := some dx, data := .fields fv } →
      h'.Ns1 dx (fun y => if y = name then some v else none) → R (.ok (.ret .none)) ⟨h', g, d, tk', os⟩) :
    codeAny (model prog w) A (.call (.builtin "object.__setattr__") ⟨[.ref x, .str name tk, v], []⟩) R ⟨hp, g, d, t, os⟩ := by
  have I : W.InstAt hp x { cls := .ref C, data := .fields fv } C none := ⟨hx, rfl, rfl, trivial⟩
  have SF := PySem.F.store_object
  have ne : cd.mro.isEmpty = false := by
    cases q : cd.mro with
    | nil =>
      rw [q] at hm
      have e : ([] : List Value) = tl := hm
      have := F.ne
      rw [← e] at this
      cases this
    | cons _ _ => rfl
  have hob : cd.mro.contains (.type "object") = true := by rw [K6.strip_contains, hm]; exact F.obj
  have hxs : x ≠ hp.objs.size := Nat.ne_of_lt (Heap.lt_size hx)
  have sub : W.Looks (model prog w) hp (isInstance (.ref x) (.type "object")) true := I.type.andThen (W.looks_mroIn X (by unfold W.mroIn; rw [hcd, Option.bind_some, if_neg (by rw [ne]; decide), hob]))
  refine codeAny_call_builtin SF.slot.plain SF.entry (@W.check_slot (model prog w) _ _ ⟨hp, g, d, t, os⟩ "object.__setattr__" "object" "__setattr__" (.ref x) [.str name tk, v] [] _ SF.kind SF.split sub (SF.args (.ref x) (.str name tk) v) ?_)
  have hmr : W.Looks (model prog w) hp (mroOf (.ref C)) cd.mro := (W.looks_clsIn X hcd).andThen .now
  have L3 : W.Looks (model prog w) hp (storeTaker? none) none := .now
  have hcls : W.Looks (model prog w) hp (classData C) cd := W.looks_clsIn X hcd
  rw [W.osa_eq, refuse_eq]
  refine wpAny_bind (wpAny_bind (I.type.at (wpAny_bind (hmr.at ?_))))
  rw [K6.strip_pass F.pass _ _ hm]
  refine wpAny_pure (wpAny_bind (I.type.at (wpAny_bind ((W.looks_findIn X ha).at (wpAny_bind (L3.at ?_))))))
  show wpAny _ _ (storeInOwnDict (.ref x) (.ref C) (.str name tk) name v false) _ _ _
  obtain ⟨nm, bs, mro, ns, qn, hd, sn, sb, ab, col, del⟩ := cd
  dsimp only at hh
  subst hh
  unfold storeInOwnDict ownDictForStores
  repeat (first | with_reducible refine store_in_new ?_ ?_ | with_reducible refine wpAny_loadPart_at hx ?_ | with_reducible refine hcls.at ?_ | wp_step)
  · exact ⟨_, #[], _, (Heap.get?_update_ne _ _ _ _ hxs.symm).trans (Heap.get?_push_at rfl rfl), rfl, fun e he => absurd he (by simp), fun _ => rfl⟩
  · intro h' tk' hn' hs'
    have hx₁ : (hp.push { cls := .type "dict", data := .dict #[] }).get? x = some { cls := .ref C, data := .fields fv } := Heap.get?_push_of_some _ hx
    refine hq h' tk' hp.objs.size (fun b o hb ho => ?_) (Nat.le_refl _) hxs.symm ?_ hn'
    · exact (hs'.2 b (Nat.ne_of_lt (Heap.lt_size ho))).trans ((Heap.get?_update_ne _ _ _ _ hb).trans (Heap.get?_push_of_some _ ho))
    · exact (hs'.2 x hxs).trans (Heap.get?_update_self _ hx₁ rfl)
end
end HandSPX
end PySem

/-! ## XD -/
namespace K6
open PySem PySem.Spec PyProof.Rows L2 PySem.HandSPX
/-- an own exception class: its name x, the field that its __init__ sets -/
structure XcT (K : PySem.W.Frag) (mg : Str → Option Value) (x fld : Str) (newId : String) (tl : List Value) : Prop where
  mg : mg x = some (.ref (ga K x))
  cls : ∃ nm q N bs bm sn sub ab col dd k0 k1 k2 k3 k5, K.lookup (ga K x) = some (excClassObj nm q (ga K x) N bs bm true sn sub ab col dd k0 k1 k2 k3 k5 newId) ∧ strip bm = tl
  sa : PySem.W.findIn K (.ref (ga K x)) "__setattr__" = some (some (.builtin "object.__setattr__"))
  exC : PySem.W.subIn K (.ref (ga K x)) (.type "BaseException") = some true
  tyC : PySem.W.typeIn K (.ref (ga K x)) = some (.type "type")
  kC : PySem.W.keepIn K (.ref (ga K x)) = true
  nf : PySem.W.findIn K (.ref (ga K x)) fld = some none
  ini : PySem.W.findIn K (.ref (ga K x)) "__init__" = some (some (.ref (mt K x "__init__")))
  tyI : PySem.W.typeIn K (.ref (mt K x "__init__")) = some (.type "function")
  xf : XfC K (ga K x)
section
variable {X : Cx} {pins : List (Addr × Obj)} {σ : St} {H : Hp} {s : Shared} {a : Addr} {x fld : Str} {B BN newId newI initId : String} {bmN tl : List Value}
/-- the base's __init__: nothing of it is told -/
theorem xinit_ok {us : List Value} {Q : Value → Shared → Prop} {E : Value → Shared → Prop} (hi : PySem.W.handedIn (.builtin initId) = true) (F : XBase B BN newId newI initId bmN tl) (T : XcT X.K X.mg x fld newId tl) (I : Inv X pins σ H s) (e : H a = some (exo a (ga X.K x) none)) (hl : us.length ≤ sizeLine) (h : ∀ s', Inv X pins σ H s' → Q .none s') :
    wpAny (model X.prog X.w) X.A (call (.builtin initId) (.ref a :: us)) Q E s := by
  obtain ⟨nm, q, N, bs, bm, sn, sub, ab, col, dd, k0, k1, k2, k3, k5, hC, hbm⟩ := T.cls
  obtain ⟨t1, ho⟩ := exo_at I.hok e
  obtain ⟨hp, g, d, t, os⟩ := s
  refine wpAny_call (PySem.HandSPX.k6_init F hbm (I.kIn _ _ hC) ho hl fun h' t2 k hx => ?_)
  have J := I.write (t' := t) (x := a) (e := a) (o := exo a (ga X.K x) none) (by rw [e]; exact True.intro) (.inl rfl) k ⟨_, hx⟩ (exo_ok hx)
  have eu : upd H a (exo a (ga X.K x) none) = H := by
    funext b
    by_cases hb : b = a
    · rw [hb, upd_same, e]
    · rw [upd_ne hb]
  rw [eu] at J
  exact h _ J
/-- self.f = y -/
theorem xstore_ok {y : V} {u : Value} {Q : Unit → Shared → Prop} {E : Value → Shared → Prop} {A : Around} (F : XBase B BN newId newI initId bmN tl) (T : XcT X.K X.mg x fld newId tl) (I : Inv X pins σ H s) (e : H a = some (exo a (ga X.K x) none)) (ry : RelV y u)
    (h : ∀ dx s', H dx = none → dx ≠ a → Inv X pins σ (upd (upd H dx (exd dx [(fld, y)])) a (exo a (ga X.K x) (some dx))) s' → Q () s') : wpAny (model X.prog X.w) A (setAttr (.ref a) fld u) Q E s := by
  obtain ⟨nm, q, N, bs, bm, sn, sub, ab, col, dd, k0, k1, k2, k3, k5, hC, hbm⟩ := T.cls
  have hcl : PySem.W.clsIn X.K (ga X.K x) = some { name := nm, bases := bs, mro := .ref (ga X.K x) :: bm, ns := N, qualname := q, hasDict := true, slotNames := sn, subclasses := sub, abstract := ab, collection := col, hasDel := false } := by unfold PySem.W.clsIn; rw [hC] <;> rfl
  obtain ⟨t1, ho⟩ := exo_at I.hok e
  obtain ⟨hp, g, d, t, os⟩ := s
  refine PySem.W.set_plain I.kIn (ox := { cls := .ref (ga X.K x), dict := none, data := .fields #[.ref t1, .none, .none, .none, .bool false, .none] }) (od := none) ⟨ho, rfl, rfl, trivial⟩ T.sa ?_
  refine PySem.HandSPX.k6_store F I.kIn ho hcl (show strip (.ref (ga X.K x) :: bm) = tl from hbm) rfl T.nf (fun h' tk' dx k dn dne hx hn => ?_)
  have hnd : H dx = none := I.hok.fresh dn
  have nd : ∀ {b : Addr} {o : Obj}, hp.get? b = some o → b ≠ dx := fun {b o} q => Nat.ne_of_lt (Nat.lt_of_lt_of_le (Heap.lt_size q) dn)
  have na : ∀ {b : Addr}, H b = none → b ≠ a := fun {b} n z => by
    rw [z, e] at n
    cases n
  have Un1 : Un X.fs [] H (upd (upd H dx (exd dx [(fld, y)])) a (exo a (ga X.K x) (some dx))) hp h' := {
    keep := fun b o q n _ _ => k b o (na n) q
    slot := fun b o q n _ _ => ⟨o.slots, k b o (na n) q⟩
    free := fun b o q n _ => by rw [upd_ne (na n), upd_ne (nd q)]; exact n
    there := fun b o q _ => by
      by_cases hb : b = a
      · exact ⟨_, by rw [hb]; exact hx⟩
      · exact ⟨o, k b o hb q⟩
    tups := fun b xs q => by rw [upd_ne (at_ne e q exo_tup), upd_ne (ne_of_none q hnd)]; exact q
    frzs := fun b o v q => by rw [upd_ne (at_ne e q exo_frz), upd_ne (ne_of_none q hnd)]; exact q
    tbls := fun b ps q => ⟨#[], by rw [upd_ne (at_ne e q exo_tbl), upd_ne (ne_of_none q hnd), q]; simp⟩ }
  refine h dx _ hnd dne (I.un (t' := tk') Un1 fun b o q => ?_)
  by_cases hb : b = a
  · subst hb
    rw [upd_same] at q
    cases q
    exact exo_ok hx
  · rw [upd_ne hb] at q
    by_cases hd : b = dx
    · subst hd
      rw [upd_same] at q
      cases q
      exact exd_ok hn (relO_put (fs := []) ry fun g => True.intro)
    · rw [upd_ne hd] at q
      exact (I.hok b o q).stay (fun c v hc z => k c v (by
          rcases hc with hc | hc
          · rw [hc]
            exact hb
          · exact at_ne e hc exo_own) z)
        (fun c hc => by rw [upd_ne (at_ne e hc exo_own), upd_ne (ne_of_none hc hnd)]; exact hc) (fun c xs hc => by rw [upd_ne (at_ne e hc exo_tup), upd_ne (ne_of_none hc hnd)]; exact hc)

/-! ### its __init__ -/
variable {e : Expr} {es : List Expr} {p1 p2 pos : Pos} {Q : VK} {D : Ends}
theorem w_binit {b : Str} {pl : Sem Bool} (hi : PySem.W.handedIn (.builtin initId) = true) (F : XBase B BN newId newI initId bmN tl) (T : XcT X.K X.mg x fld newId tl) (hg : Gl X b) (hm : X.mg b = none) (hv : bootBuiltins b = some (.type B)) (ht : typeOf (.type B) = pure (.type "type")) (hs : Manifest.isStub B = false) (vV : PySem.W.findCls X.K (.type B) (.type "type") "__init__" = some (.val (.builtin initId)))
    (hw : wA X (e :: es) σ H fun vs H1 => ∃ a ws, vs = .ref a :: ws ∧ ws.length ≤ 1000 ∧ H1 a = some (exo a (ga X.K x) none) ∧ Q .non H1)
    (hc : eval (.Call (.Attribute (.Name b p1) "__init__" p2) (e :: es) [] pos) X.env = (do
      let ov ← eval (.Name b p1) X.env
      standAt p2.atName
      let (f, first) ← holding [ov] (getMethod ov "__init__" pl)
      callWith pos f first (backTo pos (starEach (e :: es) X.env)) (backToKw pos (keywordEach [] X.env))) := by rfl)
    (hn : b ≠ "__name__" := by decide) (hdb : (b == ("__debug__" : Str)) = false := by decide)
    (he : starEach (e :: es) X.env = (false, eval e X.env) :: starEach es X.env := by rfl) (hpl : (backTo pos (starEach es X.env)).any (·.1) = false := by rfl) :
    wE X (.Call (.Attribute (.Name b p1) "__init__" p2) (e :: es) [] pos) σ H Q := fun pins s I => by
  refine PySem.W.methodCall_KW (ld_blt I hg hm hv ?_ hn hdb) hc
  obtain ⟨m, fr⟩ := I.fr
  refine PySem.W.method_type fr I.ok.mod.kin ht hs vV hi ?_
  refine PyProof.Rows.callWith_method1 (thn (hw pos pins _ (I.tok _)) fun us s1 ⟨vs, H1, I1, r1, a, ws, ev, hl, ea, q⟩ => ?_) he hpl
  subst ev
  cases r1 with
  | @cons _ u0 _ ur ra rw' =>
    obtain rfl : u0 = Value.ref a := ra
    have hlen : ur.length ≤ sizeLine := by
      rw [← Paired.length rw', sizeLine_eq]
      omega
    exact xinit_ok hi F T I1 ea hlen fun s' J => ⟨.non, H1, J, rfl, q⟩
/-- over a class of one's own -/
theorem w_cinit {b : Str} {C : Addr} {pl : Sem Bool} (hi : PySem.W.handedIn (.builtin initId) = true) (F : XBase B BN newId newI initId bmN tl) (T : XcT X.K X.mg x fld newId tl) (hg : Gl X b) (hm : X.mg b = some (.ref C)) (rd : PySem.W.readsIn X.K C (.type "type") = true) (gg : PySem.W.specialIn X.K (.ref C) "__getattribute__" = some (some (.builtin "type.__getattribute__")))
    (vV : PySem.W.findCls X.K (.ref C) (.type "type") "__init__" = some (.val (.builtin initId))) (hw : wA X (e :: es) σ H fun vs H1 => ∃ a ws, vs = .ref a :: ws ∧ ws.length ≤ 1000 ∧ H1 a = some (exo a (ga X.K x) none) ∧ Q .non H1)
    (hc : eval (.Call (.Attribute (.Name b p1) "__init__" p2) (e :: es) [] pos) X.env = (do
      let ov ← eval (.Name b p1) X.env
      standAt p2.atName
      let (f, first) ← holding [ov] (getMethod ov "__init__" pl)
      callWith pos f first (backTo pos (starEach (e :: es) X.env)) (backToKw pos (keywordEach [] X.env))) := by rfl)
    (hdb : (b == ("__debug__" : Str)) = false := by decide)
    (he : starEach (e :: es) X.env = (false, eval e X.env) :: starEach es X.env := by rfl) (hpl : (backTo pos (starEach es X.env)).any (·.1) = false := by rfl) :
    wE X (.Call (.Attribute (.Name b p1) "__init__" p2) (e :: es) [] pos) σ H Q := fun pins s I => by
  refine PySem.W.methodCall_KW (ld_glob I hg hm ?_ hdb) hc
  refine PySem.W.method_cls I.kIn gg (PySem.W.cls_value I.kIn rd vV hi ?_)
  refine PyProof.Rows.callWith_method1 (thn (hw pos pins _ (I.tok _)) fun us s1 ⟨vs, H1, I1, r1, a, ws, ev, hl, ea, q⟩ => ?_) he hpl
  subst ev
  cases r1 with
  | @cons _ u0 _ ur ra rw' =>
    obtain rfl : u0 = Value.ref a := ra
    have hlen : ur.length ≤ sizeLine := by
      rw [← Paired.length rw', sizeLine_eq]
      omega
    exact xinit_ok hi F T I1 ea hlen fun s' J => ⟨.non, H1, J, rfl, q⟩
theorem ws_xfld {o : Expr} {p' : Pos} (F : XBase B BN newId newI initId bmN tl) (T : XcT X.K X.mg x fld newId tl) (hw : wE X e σ H fun y H1 => wE X o σ H1 fun z H2 => ∃ a, z = .ref a ∧ H2 a = some (exo a (ga X.K x) none) ∧ ∀ dx, H2 dx = none → dx ≠ a → D.nx σ (upd (upd H2 dx (exd dx [(fld, y)])) a (exo a (ga X.K x) (some dx))))
    (hs : swapsWith e (some (.Attribute o fld p')) pos.line X.env = pure false := by rfl) : wS X (.Assign [.Attribute o fld p'] e pos) D σ H := fun pins s I => by
  refine plainObj_wpAny_Assign_Attribute (thn (hw pins s I) fun v s1 ⟨y, H1, I1, r1, q1⟩ => thn (q1 pins s1 I1) fun u s2 ⟨z, H2, I2, r2, a, ez, ea, q⟩ => ?_) hs
  subst ez
  obtain rfl : u = Value.ref a := r2
  exact xstore_ok F T I2 ea r1 fun dx s' n ne J => ⟨σ, _, J, q dx n ne⟩
end
def spX (K : PySem.W.Frag) (x fld : Str) : Sp := fun vs H Q _ => ∃ a y, vs = [.ref a, y] ∧ H a = some (exo a (ga K x) none) ∧ ∀ dx, H dx = none → dx ≠ a → Q .non (upd (upd H dx (exd dx [(fld, y)])) a (exo a (ga K x) (some dx)))

/-! ### raise C(y) -/
section
variable {X : Cx} {σ : St} {H : Hp} {x fld : Str} {B BN newId newI initId : String} {bmN tl : List Value} {e : Expr} {p pos pos' : Pos} {k : Nat} {W : WX} {D : Ends}
theorem xpmk (F : XBase B BN newId newI initId bmN tl) (T : XcT X.K X.mg x fld newId tl) (G : FbX false X k (mt X.K x "__init__") (spX X.K x fld)) (hq : Qk false X) (hr : L2H.RoomH (k + 1) X.A) (hg : Gl X x)
    (hdb : (x == ("__debug__" : Str)) = false := by decide) (he : starEach [e] X.env = (false, eval e X.env) :: starEach [] X.env := by rfl) (hpl : (backTo pos (starEach [] X.env)).any (·.1) = false := by rfl) :
    L2N.PMk X (.Call (.Name x p) [e] [] pos) (fun σ H Q => wA X [e] σ H fun vs H1 => ∃ y, vs = [y] ∧ ∀ d, H1 d = none → Q (.ref (ga X.K x)) (some d) (upd H1 d (.xd [(fld, y)]))) := by
  intro pins s σ H Q I hw
  obtain ⟨nm, q, N, bs, bm, sn, sub, ab, col, dd, k0, k1, k2, k3, k5, hC, hbm⟩ := T.cls
  refine wpAny_Call_Name_kw (ld_glob I hg T.mg ?_ hdb)
  refine PySem.W.callWith_K (h₀ := X.base) I.ok.mod.kin T.kC (thn (hw pos pins s I) fun us s1 ⟨vs, H1, I1, r1, y, ev, q1⟩ => ⟨I1.kIn, ?_⟩) he hpl
  subst ev
  show wpAny _ _ (call (.ref (ga X.K x)) us) _ _ _
  obtain ⟨hp, g, dr, tk, os⟩ := s1
  have hsz : hp.objs.size ≤ hp.objs.size + 1 := Nat.le_succ _
  have hn : H1 (hp.objs.size + 1) = none := I1.hok.fresh hsz
  have kk : ∀ b o, hp.get? b = some o → ((hp.push (PySem.W.kdv_tup us)).push (PySem.HandSPX.excO (ga X.K x) hp.objs.size)).get? b = some o := fun b o e => Heap.get?_push_of_some _ (Heap.get?_push_of_some _ e)
  have hget : ((hp.push (PySem.W.kdv_tup us)).push (PySem.HandSPX.excO (ga X.K x) hp.objs.size)).get? (hp.objs.size + 1) = some (PySem.HandSPX.excO (ga X.K x) hp.objs.size) := by heap_get
  have I2 : Inv X pins σ (upd H1 (hp.objs.size + 1) (exo (hp.objs.size + 1) (ga X.K x) none)) ⟨(hp.push (PySem.W.kdv_tup us)).push (PySem.HandSPX.excO (ga X.K x) hp.objs.size), g, dr, tk, os⟩ :=
    I1.laid (t' := tk) (a := hp.objs.size + 1) (o := exo (hp.objs.size + 1) (ga X.K x) none) (h' := (hp.push (PySem.W.kdv_tup us)).push (PySem.HandSPX.excO (ga X.K x) hp.objs.size)) kk hsz (exo_ok hget)
  have r2 : Vals [V.ref (hp.objs.size + 1), y] (Value.ref (hp.objs.size + 1) :: us) := .cons rref r1
  have hus : us.length ≤ sizeLine := by
    rw [← Paired.length r1]
    show 1 ≤ sizeLine
    decide
  have hsp : spX X.K x fld [V.ref (hp.objs.size + 1), y] (upd H1 (hp.objs.size + 1) (exo (hp.objs.size + 1) (ga X.K x) none)) (fun v H2 => v = .non ∧ ∃ d, H2 (hp.objs.size + 1) = some (exo (hp.objs.size + 1) (ga X.K x) (some d)) ∧ H2 d = some (exd d [(fld, y)]) ∧ H1 d = none ∧ Q (.ref (ga X.K x)) (some d) (upd (del H2 (hp.objs.size + 1)) d (.xd [(fld, y)]))) (fun _ _ _ => False) := by
    refine ⟨_, y, rfl, upd_same, fun dx hdx hne => ⟨rfl, dx, upd_same, by rw [upd_ne hne, upd_same], by rw [upd_ne hne] at hdx; exact hdx, ?_⟩⟩
    have hdx' : H1 dx = none := by rw [upd_ne hne] at hdx; exact hdx
    have e : upd (del (upd (upd (upd H1 (hp.objs.size + 1) (exo (hp.objs.size + 1) (ga X.K x) none)) dx (exd dx [(fld, y)])) (hp.objs.size + 1) (exo (hp.objs.size + 1) (ga X.K x) (some dx))) (hp.objs.size + 1)) dx (.xd [(fld, y)]) = upd H1 dx (.xd [(fld, y)]) := by
      funext b
      by_cases h1 : b = dx
      · subst h1; rw [upd_same, upd_same]
      · rw [upd_ne h1, upd_ne h1]
        by_cases h2 : b = hp.objs.size + 1
        · rw [h2, del_same, hn]
        · rw [del_ne h2, upd_ne h2, upd_ne h1, upd_ne h2]
    rw [e]
    exact q1 dx hdx'
  refine wpAny_call (PySem.HandSPX.k6_call F hbm (I1.kIn _ _ hC) (PySem.W.looks_findIn I1.kIn T.ini) (fun self => PySem.W.bind_fn I1.kIn self T.tyI) hus ?_)
  have e0 : Env0 X.prog X.w X.K X.mg X.base (X.A.under (.builtin "type.__call__" ⟨.ref (ga X.K x) :: us, []⟩)) X.stack _ _ := I2.env0.make (ga X.K x) us []
  refine codeAny_mono (G none (X.A.under (.builtin "type.__call__" ⟨.ref (ga X.K x) :: us, []⟩)) X.stack _ _ (Value.ref (hp.objs.size + 1) :: us) _ _ (fun _ _ _ => False) (.inl rfl) (RoomH.make hr (ga X.K x) us []) (show _ = none from I.ok.hd hq.calm) e0 r2 hsp) fun r s' hq' => ?_
  cases r with
  | error er =>
    obtain ⟨_, _, _, _, _, _, _, _, _, _, _, _, z⟩ := (show L2N.CX X.prog X.w X.stack _ _ _ er s' from hq')
    exact z.elim
  | ok fl =>
    cases fl with
    | ret u =>
      obtain ⟨v, H2, os2, bare2, un2, hok2, rv, ev, d, ea, ed, hd1, q2⟩ := hq'
      subst ev
      obtain ⟨h2, g2, d2, t2, os'⟩ := s'
      obtain ⟨t0, G', J, kG, ge, hoe, na⟩ := mk_end0 (d2 := d2) (t2 := t2) I1 hsz kk un2 hok2 os2 bare2 ea ed hd1
      refine ⟨rv, hp.objs.size + 1, _, _, ⟨G', g2, d2, t2, os'⟩, _, .ref (ga X.K x), some d, rfl, J, kG, ge, hoe, ⟨rfl, rfl, fun vs hv => ?_⟩, rfl, rfl, na, rfl, bare2, raises_own T.exC T.tyC, q2⟩
      cases hv
      rfl
    | next => exact hq'.elim
    | brk => exact hq'.elim
    | cont => exact hq'.elim
theorem ws_raise (tk : L2N.Takes X W) (F : XBase B BN newId newI initId bmN tl) (T : XcT X.K X.mg x fld newId tl) (G : FbX false X k (mt X.K x "__init__") (spX X.K x fld)) (hq : Qk false X) (hr : L2H.RoomH (k + 1) X.A) (hg : Gl X x)
    (hw : wA X [e] σ H fun vs H1 => ∃ y, vs = [y] ∧ ∀ d, H1 d = none → W (.ref (ga X.K x)) (some d) σ (upd H1 d (.xd [(fld, y)])))
    (hdb : (x == ("__debug__" : Str)) = false := by decide) (he : starEach [e] X.env = (false, eval e X.env) :: starEach [] X.env := by rfl) (hpl : (backTo pos (starEach [] X.env)).any (·.1) = false := by rfl) :
    wS X (.Raise (some (.Call (.Name x p) [e] [] pos)) none pos') D σ H := PS.w (L2N.ps_raise hq.calm tk (xpmk F T G hq hr hg hdb he hpl)) hw
end
end K6

/-! ## KT2 -/
namespace K6
open PySem PySem.Spec PyProof.Rows L2
abbrev tlVal : List Value := [.type "ValueError", .type "Exception", .type "BaseException", .type "object"]
abbrev tlKey : List Value := [.type "KeyError", .type "LookupError", .type "Exception", .type "BaseException", .type "object"]
abbrev tlLook : List Value := [.type "LookupError", .type "Exception", .type "BaseException", .type "object"]
abbrev tlOver : List Value := [.type "OverflowError", .type "ArithmeticError", .type "Exception", .type "BaseException", .type "object"]
abbrev tlRun : List Value := [.type "RuntimeError", .type "Exception", .type "BaseException", .type "object"]
/-- an own exception: its class, its __init__ -/
structure Ec (K : PySem.W.Frag) (mg : Str → Option Value) (x fld q : Str) (newId : String) (tl : List Value) (i : Nat) : Prop where
  xc : XcT K mg x fld newId tl
  ini : Mt K "__init__" q i 0 (mt K x "__init__")
/-- what the exceptions stand on -/
structure Tz (K : PySem.W.Frag) (w : World) (mg : Str → Option Value) : Prop extends Tx K w mg where
  eCmd : Ec K mg "InvalidCommands" "given" "InvalidCommands.__init__" "ValueError.__new__" tlVal 5
  eChg : Ec K mg "InvalidChange" "given" "InvalidChange.__init__" "ValueError.__new__" tlVal 12
  eLim : Ec K mg "LimitExceeded" "limit" "LimitExceeded.__init__" "OverflowError.__new__" tlOver 9
  eNo : Ec K mg "NothingToUndo" "user" "NothingToUndo.__init__" "LookupError.__new__" tlLook 13
  eUnk : Ec K mg "UnknownName" "name" "UnknownName.__init__" "LookupError.__new__" tlKey 14
  eBlk : Ec K mg "Blocked" "name" "Blocked.__init__" "RuntimeError.__new__" tlRun 15
  wkE : mg "WalkError" = some (.ref (ga K "WalkError"))
  wkR : PySem.W.readsIn K (ga K "WalkError") (.type "type") = true
  wkG : PySem.W.specialIn K (.ref (ga K "WalkError")) "__getattribute__" = some (some (.builtin "type.__getattribute__"))
  wkI : PySem.W.findCls K (.ref (ga K "WalkError")) (.type "type") "__init__" = some (.val (.builtin "ValueError.__init__"))
  nOver : mg "OverflowError" = none
  nLook : mg "LookupError" = none
  nKey : mg "KeyError" = none
  nRun : mg "RuntimeError" = none
  iOver : PySem.W.findCls K (.type "OverflowError") (.type "type") "__init__" = some (.val (.builtin "OverflowError.__init__"))
  iLook : PySem.W.findCls K (.type "LookupError") (.type "type") "__init__" = some (.val (.builtin "LookupError.__init__"))
  iKey : PySem.W.findCls K (.type "KeyError") (.type "type") "__init__" = some (.val (.builtin "KeyError.__init__"))
  iRun : PySem.W.findCls K (.type "RuntimeError") (.type "type") "__init__" = some (.val (.builtin "RuntimeError.__init__"))
section
variable {P : Program} {w : World} {K : PySem.W.Frag} {mg : Str → Option Value} {base : Heap}
theorem sc5 : FnScope ["self", "given"] ["self", "given"] (defScope (inClass (topS 5) 0)) := ⟨rfl, rfl, rfl, by decide +kernel, rfl, by decide +kernel, by decide +kernel⟩
theorem init_cmd (T : Tz K w mg) : Fb false P w K mg base 1 (mt K "InvalidCommands" "__init__") (spX K "InvalidCommands" "given") := by
  obtain ⟨fd, F⟩ := T.eCmd.ini
  refine fn_b F sc5 (fun vs H Q E h => by obtain ⟨a, y, rfl, _⟩ := h; rfl) (fun _ _ _ _ _ _ us hl => match us, hl with | [_, _], _ => rfl) ?_
  intro pz cdv A outer s H vs Q E hp hq hr h
  obtain ⟨a, y, rfl, ha, q⟩ := h
  refine wb_cons (ws_expr (w_cinit rfl xVal T.eCmd.xc rfl T.wkE T.wkR T.wkG T.wkI (wa_cons (w_var 0 ⟨_, rfl, wa_cons (w_str (wa_nil ⟨a, _, rfl, by decide, ha, ?_⟩))⟩))))
  exact wb_one (ws_xfld xVal T.eCmd.xc (w_var 1 ⟨_, rfl, w_var 0 ⟨_, rfl, a, rfl, ha, q⟩⟩))
theorem sc12 : FnScope ["self", "given"] ["self", "given"] (defScope (inClass (topS 12) 0)) := ⟨rfl, rfl, rfl, by decide +kernel, rfl, by decide +kernel, by decide +kernel⟩
theorem init_chg (T : Tz K w mg) : Fb false P w K mg base 1 (mt K "InvalidChange" "__init__") (spX K "InvalidChange" "given") := by
  obtain ⟨fd, F⟩ := T.eChg.ini
  refine fn_b F sc12 (fun vs H Q E h => by obtain ⟨a, y, rfl, _⟩ := h; rfl) (fun _ _ _ _ _ _ us hl => match us, hl with | [_, _], _ => rfl) ?_
  intro pz cdv A outer s H vs Q E hp hq hr h
  obtain ⟨a, y, rfl, ha, q⟩ := h
  refine wb_cons (ws_expr (w_cinit rfl xVal T.eChg.xc rfl T.wkE T.wkR T.wkG T.wkI (wa_cons (w_var 0 ⟨_, rfl, wa_cons (w_str (wa_nil ⟨a, _, rfl, by decide, ha, ?_⟩))⟩))))
  exact wb_one (ws_xfld xVal T.eChg.xc (w_var 1 ⟨_, rfl, w_var 0 ⟨_, rfl, a, rfl, ha, q⟩⟩))
theorem sc9 : FnScope ["self", "limit"] ["self", "limit"] (defScope (inClass (topS 9) 0)) := ⟨rfl, rfl, rfl, by decide +kernel, rfl, by decide +kernel, by decide +kernel⟩
theorem init_lim (T : Tz K w mg) : Fb false P w K mg base 1 (mt K "LimitExceeded" "__init__") (spX K "LimitExceeded" "limit") := by
  obtain ⟨fd, F⟩ := T.eLim.ini
  refine fn_b F sc9 (fun vs H Q E h => by obtain ⟨a, y, rfl, _⟩ := h; rfl) (fun _ _ _ _ _ _ us hl => match us, hl with | [_, _], _ => rfl) ?_
  intro pz cdv A outer s H vs Q E hp hq hr h
  obtain ⟨a, y, rfl, ha, q⟩ := h
  refine wb_cons (ws_expr (w_binit rfl xOver T.eLim.xc rfl T.nOver (by decide +kernel) rfl rfl T.iOver (wa_cons (w_var 0 ⟨_, rfl, wa_cons (w_str (wa_nil ⟨a, _, rfl, by decide, ha, ?_⟩))⟩))))
  exact wb_one (ws_xfld xOver T.eLim.xc (w_var 1 ⟨_, rfl, w_var 0 ⟨_, rfl, a, rfl, ha, q⟩⟩))
theorem sc13 : FnScope ["self", "user"] ["self", "user"] (defScope (inClass (topS 13) 0)) := ⟨rfl, rfl, rfl, by decide +kernel, rfl, by decide +kernel, by decide +kernel⟩
theorem init_no (T : Tz K w mg) : Fb false P w K mg base 1 (mt K "NothingToUndo" "__init__") (spX K "NothingToUndo" "user") := by
  obtain ⟨fd, F⟩ := T.eNo.ini
  refine fn_b F sc13 (fun vs H Q E h => by obtain ⟨a, y, rfl, _⟩ := h; rfl) (fun _ _ _ _ _ _ us hl => match us, hl with | [_, _], _ => rfl) ?_
  intro pz cdv A outer s H vs Q E hp hq hr h
  obtain ⟨a, y, rfl, ha, q⟩ := h
  refine wb_cons (ws_expr (w_binit rfl xLook T.eNo.xc rfl T.nLook (by decide +kernel) rfl rfl T.iLook (wa_cons (w_var 0 ⟨_, rfl, wa_cons (w_str (wa_nil ⟨a, _, rfl, by decide, ha, ?_⟩))⟩))))
  exact wb_one (ws_xfld xLook T.eNo.xc (w_var 1 ⟨_, rfl, w_var 0 ⟨_, rfl, a, rfl, ha, q⟩⟩))
theorem sc14 : FnScope ["self", "name"] ["self", "name"] (defScope (inClass (topS 14) 0)) := ⟨rfl, rfl, rfl, by decide +kernel, rfl, by decide +kernel, by decide +kernel⟩
theorem init_unk (T : Tz K w mg) : Fb false P w K mg base 1 (mt K "UnknownName" "__init__") (spX K "UnknownName" "name") := by
  obtain ⟨fd, F⟩ := T.eUnk.ini
  refine fn_b F sc14 (fun vs H Q E h => by obtain ⟨a, y, rfl, _⟩ := h; rfl) (fun _ _ _ _ _ _ us hl => match us, hl with | [_, _], _ => rfl) ?_
  intro pz cdv A outer s H vs Q E hp hq hr h
  obtain ⟨a, y, rfl, ha, q⟩ := h
  refine wb_cons (ws_expr (w_binit rfl xKey T.eUnk.xc rfl T.nKey (by decide +kernel) rfl rfl T.iKey (wa_cons (w_var 0 ⟨_, rfl, wa_cons (w_str (wa_nil ⟨a, _, rfl, by decide, ha, ?_⟩))⟩))))
  exact wb_one (ws_xfld xKey T.eUnk.xc (w_var 1 ⟨_, rfl, w_var 0 ⟨_, rfl, a, rfl, ha, q⟩⟩))
theorem sc15 : FnScope ["self", "name"] ["self", "name"] (defScope (inClass (topS 15) 0)) := ⟨rfl, rfl, rfl, by decide +kernel, rfl, by decide +kernel, by decide +kernel⟩
theorem init_blk (T : Tz K w mg) : Fb false P w K mg base 1 (mt K "Blocked" "__init__") (spX K "Blocked" "name") := by
  obtain ⟨fd, F⟩ := T.eBlk.ini
  refine fn_b F sc15 (fun vs H Q E h => by obtain ⟨a, y, rfl, _⟩ := h; rfl) (fun _ _ _ _ _ _ us hl => match us, hl with | [_, _], _ => rfl) ?_
  intro pz cdv A outer s H vs Q E hp hq hr h
  obtain ⟨a, y, rfl, ha, q⟩ := h
  refine wb_cons (ws_expr (w_binit rfl xRun T.eBlk.xc rfl T.nRun (by decide +kernel) rfl rfl T.iRun (wa_cons (w_var 0 ⟨_, rfl, wa_cons (w_str (wa_nil ⟨a, _, rfl, by decide, ha, ?_⟩))⟩))))
  exact wb_one (ws_xfld xRun T.eBlk.xc (w_var 1 ⟨_, rfl, w_var 0 ⟨_, rfl, a, rfl, ha, q⟩⟩))
end
/-- x(y) comes out of a heap that is grown from H -/
def XR (K : PySem.W.Frag) (x fld : Str) (y : V) (M : List Addr) (H : Hp) (E : XK) : Prop := ∀ H' d, Gr M H H' → H' d = some (.xd [(fld, y)]) → E (.ref (ga K x)) (some d) H'
end K6

/-! ## H0 -/
namespace K6
open PySem PySem.Spec PyProof.Rows L2
/-! ### what the top has left, told by a Hook -/
abbrev cdA (K : PySem.W.Frag) (x : Str) : Addr := (He.cT K (x, none)).1
abbrev tbA (K : PySem.W.Frag) (x : Str) : Addr := (He.cT K (x, none)).2
theorem exA {l : List Bool} (h : l.all id = true) (i : Nat) {b : Bool} (e : l[i]? = some b) : b = true := List.all_eq_true.mp h b (List.mem_of_getElem? e)
theorem funD_fun {K : PySem.W.Frag} {x qu : Str} {st : Stmt} {f : Addr} (h : ∃ fd, FunD K x qu (defArgs st) (defBody st) (defScope st) [] [] f fd) : ∃ fd, Fun K x qu st f fd := by
  obtain ⟨fd, ⟨oc, od, dV, kV, doc, pm, an, cdv, ct, osl, e, lk, hc, dv, _⟩, kp⟩ := h
  rcases dv with ⟨_, rfl⟩ | ⟨z, _⟩
  · exact ⟨fd, ⟨oc, od, kV, doc, pm, an, cdv, ct, osl, e, lk, hc⟩, kp⟩
  · exact absurd rfl z
/-- a property's getter -/
structure Gd where
  C : Str
  m : Str
  name : Str
  qual : Str
  st : Stmt
def gtW (K : PySem.W.Frag) (d : Gd) : He.FnW := match K.lookup (pt K d.C d.m) with
  | some ⟨_, _, .func fd, _⟩ => some (fd.name, fd.qualname, fd.params, fd.body, fd.scope, fd.globals, fd.closure, fd.builtins)
  | _ => none
def Gd.val (d : Gd) : He.FnW := some (d.name, d.qual, defArgs d.st, .stmts (defBody d.st), defScope d.st, mainGlobals, [], builtinsNs)
def Gd.ok (K : PySem.W.Frag) (d : Gd) : Bool := PySem.W.keepIn K (.ref (pt K d.C d.m)) && (match K.lookup (pt K d.C d.m) with
  | some ⟨_, _, .func fd, _⟩ => PySem.W.codeIn K fd.code d.qual && He.dflB K fd.defaults []
  | _ => false)
theorem gt_fun {K : PySem.W.Frag} {d : Gd} (h : gtW K d = d.val ∧ d.ok K = true) : ∃ fd, Fun K d.name d.qual d.st (pt K d.C d.m) fd := by
  obtain ⟨e, c⟩ := h
  obtain ⟨kp, c2⟩ := He.ba c
  unfold gtW at e
  cases z : K.lookup (pt K d.C d.m) with
  | none =>
    rw [z] at c2
    cases c2
  | some o =>
    obtain ⟨oc, od, dt, osl⟩ := o
    rw [z] at c2 e
    cases dt with
    | func fd =>
      obtain ⟨n1, n2, n3, n4, n5, n6, n7, n8, n9, n10, n11, n12, n13, n14, n15⟩ := fd
      have e2 : (some (n1, n2, n3, n4, n5, n6, n7, n15) : He.FnW) = some (d.name, d.qual, defArgs d.st, .stmts (defBody d.st), defScope d.st, mainGlobals, [], builtinsNs) := e
      simp only [Option.some.injEq, Prod.mk.injEq] at e2
      obtain ⟨h1, h2, h3, h4, h5, h6, h7, h8⟩ := e2
      subst h1 h2 h3 h4 h5 h6 h7 h8
      have c3 : (PySem.W.codeIn K n13 d.qual && He.dflB K n8 []) = true := c2
      obtain ⟨k1, k2⟩ := He.ba c3
      have k4 := He.dflB_ok k2
      rcases k4 with ⟨_, rfl⟩ | ⟨y, _⟩
      · exact ⟨_, ⟨oc, od, n9, n10, n11, n12, n13, n14, osl, rfl, z, k1⟩, kp⟩
      · exact absurd rfl y
    | _ => cases c2
def recB (K : PySem.W.Frag) (C m : Str) : Bool := match PySem.W.recIn K (mt K C m) "property" with
  | some (.ref _ :: _) => true
  | _ => false
theorem recB_ok {K : PySem.W.Frag} {C m : Str} (h : recB K C m = true) : ∃ rest, PySem.W.recIn K (mt K C m) "property" = some (.ref (pt K C m) :: rest) := by
  unfold recB at h
  unfold pt
  split at h
  · rename_i a r e
    rw [e]
    exact ⟨r, rfl⟩
  · cases h
def tupB (K : PySem.W.Frag) (a : Addr) (p : List Value → Bool) : Bool := match K.lookup a with
  | some ⟨.type c, _, .seq its _, _⟩ => decide (c = "tuple") && (decide (its.size ≤ sizeLine) && p its.toList)
  | _ => false
theorem tupB_ok {K : PySem.W.Frag} {a : Addr} {p : List Value → Bool} (h : tupB K a p = true) : ∃ its : List Value, p its = true ∧ ∀ xs, Vals xs its → KTup K a xs := by
  unfold tupB at h
  split at h
  · rename_i c od its n sl e
    obtain ⟨h1, h2⟩ := He.ba h
    obtain ⟨h3, h4⟩ := He.ba h2
    exact ⟨its.toList, h4, fun xs r H => .inr ⟨_, its, n, e, congrArg Value.type (of_decide_eq_true h1), rfl, of_decide_eq_true h3, r⟩⟩
  · cases h
def pairP : List Value → Bool
  | [.int _ _, .int _ _] => true
  | _ => false
def refP (K : PySem.W.Frag) : Value → Bool
  | .ref p => tupB K p pairP
  | _ => false
def stepsB (K : PySem.W.Frag) (k : Str) (n : Nat) : Bool := match PySem.W.nsIn K (ga K "STEPS") k with
  | some (some (.ref t)) => tupB K t fun l => decide (l.length = n) && l.all (refP K)
  | _ => false
theorem stepsB_ok {K : PySem.W.Frag} {k : Str} {n : Nat} (h : stepsB K k n = true) : ∃ (t : Addr) (ps : List Addr), PySem.W.nsIn K (ga K "STEPS") k = some (some (.ref t)) ∧ KTup K t (ps.map V.ref) ∧ ps.length = n ∧ ∀ p ∈ ps, ∃ i j : Int, KTup K p [.int i, .int j] := by
  unfold stepsB at h
  split at h
  · rename_i t e
    obtain ⟨its, hp, hk⟩ := tupB_ok h
    obtain ⟨h1, h2⟩ := He.ba hp
    have key : ∀ l : List Value, l.all (refP K) = true → ∃ ps : List Addr, l = ps.map Value.ref ∧ ∀ p ∈ ps, ∃ i j : Int, KTup K p [.int i, .int j] := by
      intro l
      induction l with
      | nil => exact fun _ => ⟨[], rfl, fun _ z => by cases z⟩
      | cons v r ih =>
        intro hl
        rw [List.all_cons] at hl
        obtain ⟨a1, a2⟩ := He.ba hl
        obtain ⟨ps, e1, e2⟩ := ih a2
        unfold refP at a1
        split at a1
        · rename_i p
          obtain ⟨l2, b1, b2⟩ := tupB_ok a1
          unfold pairP at b1
          split at b1
          · rename_i i t1 j t2
            refine ⟨p :: ps, by rw [e1] <;> rfl, fun y hy => ?_⟩
            rcases List.mem_cons.mp hy with rfl | hy
            · exact ⟨i, j, b2 _ (.cons ⟨t1, rfl⟩ (.cons ⟨t2, rfl⟩ .nil))⟩
            · exact e2 y hy
          · cases b1
        · cases a1
    obtain ⟨ps, e1, e2⟩ := key its h2
    have rv : ∀ ps : List Addr, Vals (ps.map V.ref) (ps.map Value.ref) := by
      intro ps
      induction ps with
      | nil => exact .nil
      | cons p r ih => exact .cons rfl ih
    refine ⟨t, ps, e, hk _ (by rw [e1]; exact rv ps), ?_, e2⟩
    have := of_decide_eq_true h1
    rw [e1, List.length_map] at this
    exact this
  · cases h
theorem steps_ok {K : PySem.W.Frag} (h1 : stepsB K "square" 4 = true) (h2 : stepsB K "triangle" 6 = true) : ∀ k, Kind k → ∃ (t : Addr) (ps : List Addr), PySem.W.nsIn K (ga K "STEPS") k = some (some (.ref t)) ∧ KTup K t (ps.map V.ref) ∧ ps.length = (if k = "square" then 4 else 6) ∧ ∀ p ∈ ps, ∃ i j : Int, KTup K p [.int i, .int j] := by
  rintro k (rfl | rfl)
  · obtain ⟨t, ps, a, b, c, d⟩ := stepsB_ok h1
    exact ⟨t, ps, a, b, by rw [c, if_pos rfl], d⟩
  · obtain ⟨t, ps, a, b, c, d⟩ := stepsB_ok h2
    exact ⟨t, ps, a, b, by rw [c, if_neg (by decide +kernel)], d⟩
def intB (K : PySem.W.Frag) (n : Nat) : Bool := match PySem.W.nsIn K (ga K "CHANGES") ⟨#[n]⟩ with
  | some (some (.int _ _)) => true
  | _ => false
def intsB (K : PySem.W.Frag) : Bool := intB K 70 && (intB K 66 && (intB K 76 && intB K 82))
theorem changes_ok {K : PySem.W.Frag} {w : World} (d : ∃ es n, KDict K w (ga K "CHANGES") es n) (h : intsB K = true) : ∀ n, (n = 70 ∨ n = 66 ∨ n = 76 ∨ n = 82) → ∃ i : Int, KDct K w (ga K "CHANGES") ⟨#[n]⟩ (.int i) := by
  obtain ⟨es, m, d⟩ := d
  have key : ∀ n, intB K n = true → ∃ i : Int, KDct K w (ga K "CHANGES") ⟨#[n]⟩ (.int i) := by
    intro n hn
    unfold intB at hn
    split at hn
    · rename_i i t e
      exact ⟨i, kdct d e ⟨t, rfl⟩⟩
    · cases hn
  obtain ⟨h1, h⟩ := He.ba h
  obtain ⟨h2, h⟩ := He.ba h
  obtain ⟨h3, h4⟩ := He.ba h
  rintro n (rfl | rfl | rfl | rfl)
  · exact key _ h1
  · exact key _ h2
  · exact key _ h3
  · exact key _ h4
def inB (K : PySem.W.Frag) (n : Nat) : Bool := match PySem.W.nsIn K (ga K "INVERSE") ⟨#[n]⟩ with
  | some (some _) => true
  | _ => false
def invB (K : PySem.W.Frag) : Bool := inB K 70 && (inB K 66 && (inB K 76 && inB K 82))
theorem inverse_ok {K : PySem.W.Frag} (h : invB K = true) : ∀ n, (n = 70 ∨ n = 66 ∨ n = 76 ∨ n = 82) → ∃ u, PySem.W.nsIn K (ga K "INVERSE") ⟨#[n]⟩ = some (some u) := by
  have key : ∀ n, inB K n = true → ∃ u, PySem.W.nsIn K (ga K "INVERSE") ⟨#[n]⟩ = some (some u) := by
    intro n hn
    unfold inB at hn
    split at hn
    · rename_i u e
      exact ⟨u, e⟩
    · cases hn
  obtain ⟨h1, h⟩ := He.ba h
  obtain ⟨h2, h⟩ := He.ba h
  obtain ⟨h3, h4⟩ := He.ba h
  rintro n (rfl | rfl | rfl | rfl)
  · exact key _ h1
  · exact key _ h2
  · exact key _ h3
  · exact key _ h4
def mostB (K : PySem.W.Frag) : Bool := match PySem.W.findCls K (.ref (ga K "Walk")) (.type "type") "MOST" with
  | some (.val (.int i _)) => decide (i = 200)
  | _ => false
theorem most_ok {K : PySem.W.Frag} (h1 : PySem.W.readsIn K (ga K "Walk") (.type "type") = true) (h2 : PySem.W.specialIn K (.ref (ga K "Walk")) "__getattribute__" = some (some (.builtin "type.__getattribute__"))) (h3 : mostB K = true) : ∃ mc u, ClX.CRead K (ga K "Walk") mc ∧ ClX.CVal K (ga K "Walk") mc "MOST" (.int 200) u := by
  unfold mostB at h3
  split at h3
  · rename_i i t e
    have ei := of_decide_eq_true h3
    subst ei
    exact ⟨.type "type", _, ⟨h1, h2⟩, ⟨e, ⟨t, rfl⟩⟩⟩
  · cases h3
def fcB (K : PySem.W.Frag) (c : Value) (id : String) : Bool := match PySem.W.findCls K c (.type "type") "__init__" with
  | some (.val (.builtin s)) => decide (s = id)
  | _ => false
theorem fcB_ok {K : PySem.W.Frag} {c : Value} {id : String} (h : fcB K c id = true) : PySem.W.findCls K c (.type "type") "__init__" = some (.val (.builtin id)) := by
  unfold fcB at h
  split at h
  · rename_i s e
    rw [e, of_decide_eq_true h]
  · cases h
def xcB (K : PySem.W.Frag) (C : Addr) (newId : String) (tl : List Value) : Bool := match K.lookup C with
  | some ⟨.type "type", _, .cls cd, sl⟩ => (match cd.mro, sl.toList with
    | .ref C' :: bm, [_, _, _, _, some (.builtin n), _] => decide (C' = C) && (decide (n = newId) && (!cd.hasDel && (cd.hasDict && decide (strip bm = tl))))
    | _, _ => false)
  | _ => false
theorem xcB_ok {K : PySem.W.Frag} {C : Addr} {newId : String} {tl : List Value} (h : xcB K C newId tl = true) : ∃ nm q N bs bm sn sub ab col dd k0 k1 k2 k3 k5, K.lookup C = some (excClassObj nm q C N bs bm true sn sub ab col dd k0 k1 k2 k3 k5 newId) ∧ strip bm = tl := by
  unfold xcB at h
  split at h
  · rename_i dd cd sl ho
    split at h
    · rename_i C' bm k0 k1 k2 k3 n k5 hm hs
      obtain ⟨h1, h⟩ := He.ba h
      obtain ⟨h2, h⟩ := He.ba h
      obtain ⟨h3, h⟩ := He.ba h
      obtain ⟨h4, h5⟩ := He.ba h
      have e1 := of_decide_eq_true h1
      have e2 := of_decide_eq_true h2
      have e5 := of_decide_eq_true h5
      obtain ⟨nm, bs, mro, ns, qn, hd, sn, sub, ab, col, del⟩ := cd
      dsimp only at hm h3 h4
      have e3 : del = false := by
        cases del with
        | false => rfl
        | true => cases h3
      subst hm e1 e2 e3 h4
      have hsl : sl = #[k0, k1, k2, k3, some (.builtin n), k5] := by
        obtain ⟨l⟩ := sl
        simp only at hs
        rw [hs]
      subst hsl
      exact ⟨nm, qn, ns, bs, bm, sn, sub, ab, col, dd, k0, k1, k2, k3, k5, ho, e5⟩
    · cases h
  · cases h
def dd_0 : He.DefD := ⟨("is_net", none), "is_net", "is_net", defArgs (topS 20), defBody (topS 20), defScope (topS 20), [], []⟩
def dd_1 : He.DefD := ⟨("check_net", none), "check_net", "check_net", defArgs (topS 21), defBody (topS 21), defScope (topS 21), [], []⟩
def dd_2 : He.DefD := ⟨("heading_count", none), "heading_count", "heading_count", defArgs (topS 23), defBody (topS 23), defScope (topS 23), [], []⟩
def dd_3 : He.DefD := ⟨("step_of", none), "step_of", "step_of", defArgs (topS 24), defBody (topS 24), defScope (topS 24), [], []⟩
def dd_4 : He.DefD := ⟨("added", none), "added", "added", defArgs (topS 25), defBody (topS 25), defScope (topS 25), [], []⟩
def dd_5 : He.DefD := ⟨("scaled", none), "scaled", "scaled", defArgs (topS 26), defBody (topS 26), defScope (topS 26), [], []⟩
def dd_6 : He.DefD := ⟨("all_moves", none), "all_moves", "all_moves", defArgs (topS 30), defBody (topS 30), defScope (topS 30), [], []⟩
def dd_7 : He.DefD := ⟨("Walk", some "__init__"), "__init__", "Walk.__init__", defArgs (inClass (topS 31) 1), defBody (inClass (topS 31) 1), defScope (inClass (topS 31) 1), [], []⟩
def dd_8 : He.DefD := ⟨("Walk", some "__eq__"), "__eq__", "Walk.__eq__", defArgs (inClass (topS 31) 6), defBody (inClass (topS 31) 6), defScope (inClass (topS 31) 6), [], []⟩
def dd_9 : He.DefD := ⟨("Walk", some "with_commands"), "with_commands", "Walk.with_commands", defArgs (inClass (topS 31) 10), defBody (inClass (topS 31) 10), defScope (inClass (topS 31) 10), [], []⟩
def dd_10 : He.DefD := ⟨("Walk", some "__add__"), "__add__", "Walk.__add__", defArgs (inClass (topS 31) 11), defBody (inClass (topS 31) 11), defScope (inClass (topS 31) 11), [], []⟩
def dd_11 : He.DefD := ⟨("InvalidCommands", some "__init__"), "__init__", "InvalidCommands.__init__", defArgs (inClass (topS 5) 0), defBody (inClass (topS 5) 0), defScope (inClass (topS 5) 0), [], []⟩
def dd_12 : He.DefD := ⟨("InvalidChange", some "__init__"), "__init__", "InvalidChange.__init__", defArgs (inClass (topS 12) 0), defBody (inClass (topS 12) 0), defScope (inClass (topS 12) 0), [], []⟩
def dd_13 : He.DefD := ⟨("LimitExceeded", some "__init__"), "__init__", "LimitExceeded.__init__", defArgs (inClass (topS 9) 0), defBody (inClass (topS 9) 0), defScope (inClass (topS 9) 0), [], []⟩
def dd_14 : He.DefD := ⟨("NothingToUndo", some "__init__"), "__init__", "NothingToUndo.__init__", defArgs (inClass (topS 13) 0), defBody (inClass (topS 13) 0), defScope (inClass (topS 13) 0), [], []⟩
def dd_15 : He.DefD := ⟨("UnknownName", some "__init__"), "__init__", "UnknownName.__init__", defArgs (inClass (topS 14) 0), defBody (inClass (topS 14) 0), defScope (inClass (topS 14) 0), [], []⟩
def dd_16 : He.DefD := ⟨("Blocked", some "__init__"), "__init__", "Blocked.__init__", defArgs (inClass (topS 15) 0), defBody (inClass (topS 15) 0), defScope (inClass (topS 15) 0), [], []⟩
def dd_17 : He.DefD := ⟨("is_name", none), "is_name", "is_name", defArgs (topS 36), defBody (topS 36), defScope (topS 36), [], []⟩
def dd_18 : He.DefD := ⟨("check_name", none), "check_name", "check_name", defArgs (topS 37), defBody (topS 37), defScope (topS 37), [], []⟩
def dd_19 : He.DefD := ⟨("check_user", none), "check_user", "check_user", defArgs (topS 38), defBody (topS 38), defScope (topS 38), [], []⟩
def dd_20 : He.DefD := ⟨("has_change_form", none), "has_change_form", "has_change_form", defArgs (topS 39), defBody (topS 39), defScope (topS 39), [], []⟩
def dd_21 : He.DefD := ⟨("joined", none), "joined", "joined", defArgs (topS 40), defBody (topS 40), defScope (topS 40), [], []⟩
def dd_22 : He.DefD := ⟨("fitting", none), "fitting", "fitting", defArgs (topS 41), defBody (topS 41), defScope (topS 41), [], []⟩
def dd_23 : He.DefD := ⟨("changed", none), "changed", "changed", defArgs (topS 42), defBody (topS 42), defScope (topS 42), [], []⟩
def dd_24 : He.DefD := ⟨("Step", some "__init__"), "__init__", "Step.__init__", defArgs (inClass (topS 43) 0), defBody (inClass (topS 43) 0), defScope (inClass (topS 43) 0), [], []⟩
def dd_25 : He.DefD := ⟨("Studio", some "__init__"), "__init__", "Studio.__init__", defArgs (inClass (topS 45) 0), defBody (inClass (topS 45) 0), defScope (inClass (topS 45) 0), [], []⟩
def dd_26 : He.DefD := ⟨("Studio", some "latest"), "latest", "Studio.latest", defArgs (inClass (topS 45) 4), defBody (inClass (topS 45) 4), defScope (inClass (topS 45) 4), [], []⟩
def dd_27 : He.DefD := ⟨("Studio", some "undo"), "undo", "Studio.undo", defArgs (inClass (topS 45) 5), defBody (inClass (topS 45) 5), defScope (inClass (topS 45) 5), [], []⟩
def dd_28 : He.DefD := ⟨("Studio", some "copy"), "copy", "Studio.copy", defArgs (inClass (topS 45) 9), defBody (inClass (topS 45) 9), defScope (inClass (topS 45) 9), [], []⟩
def dd_29 : He.DefD := ⟨("Studio", some "__len__"), "__len__", "Studio.__len__", defArgs (inClass (topS 45) 10), defBody (inClass (topS 45) 10), defScope (inClass (topS 45) 10), [], []⟩
def dd_30 : He.DefD := ⟨("Studio", some "__eq__"), "__eq__", "Studio.__eq__", defArgs (inClass (topS 45) 11), defBody (inClass (topS 45) 11), defScope (inClass (topS 45) 11), [], []⟩
def dd_31 : He.DefD := ⟨("Studio", some "__contains__"), "__contains__", "Studio.__contains__", defArgs (inClass (topS 45) 12), defBody (inClass (topS 45) 12), defScope (inClass (topS 45) 12), [], []⟩
def dd_32 : He.DefD := ⟨("Studio", some "__getitem__"), "__getitem__", "Studio.__getitem__", defArgs (inClass (topS 45) 13), defBody (inClass (topS 45) 13), defScope (inClass (topS 45) 13), [], []⟩
def dd_33 : He.DefD := ⟨("Studio", some "make"), "make", "Studio.make", defArgs (inClass (topS 45) 3), defBody (inClass (topS 45) 3), defScope (inClass (topS 45) 3), [], []⟩
def dd_34 : He.DefD := ⟨("Studio", some "log"), "log", "Studio.log", defArgs (inClass (topS 45) 8), defBody (inClass (topS 45) 8), defScope (inClass (topS 45) 8), [], []⟩
def dd_35 : He.DefD := ⟨("Trial", some "__init__"), "__init__", "Trial.__init__", defArgs (inClass (topS 44) 0), defBody (inClass (topS 44) 0), defScope (inClass (topS 44) 0), [], []⟩
def dd_36 : He.DefD := ⟨("Trial", some "__enter__"), "__enter__", "Trial.__enter__", defArgs (inClass (topS 44) 1), defBody (inClass (topS 44) 1), defScope (inClass (topS 44) 1), [], []⟩
def dd_37 : He.DefD := ⟨("Trial", some "__exit__"), "__exit__", "Trial.__exit__", defArgs (inClass (topS 44) 2), defBody (inClass (topS 44) 2), defScope (inClass (topS 44) 2), [], []⟩
def dd_38 : He.DefD := ⟨("Studio", some "attempt"), "attempt", "Studio.attempt", defArgs (inClass (topS 45) 7), defBody (inClass (topS 45) 7), defScope (inClass (topS 45) 7), [], []⟩
def dd_39 : He.DefD := ⟨("_law_source", none), "_law_source", "_law_source", defArgs (topS 47), defBody (topS 47), defScope (topS 47), [], []⟩
def dd_40 : He.DefD := ⟨("_law_draw", none), "_law_draw", "_law_draw", defArgs (topS 48), defBody (topS 48), defScope (topS 48), [], []⟩
def dd_41 : He.DefD := ⟨("_law_kind", none), "_law_kind", "_law_kind", defArgs (topS 49), defBody (topS 49), defScope (topS 49), [], []⟩
def dd_42 : He.DefD := ⟨("_law_names", none), "_law_names", "_law_names", defArgs (topS 50), defBody (topS 50), defScope (topS 50), [], []⟩
def dd_43 : He.DefD := ⟨("_law_text", none), "_law_text", "_law_text", defArgs (topS 51), defBody (topS 51), defScope (topS 51), [], []⟩
def dd_44 : He.DefD := ⟨("_law_deed", none), "_law_deed", "_law_deed", defArgs (topS 52), defBody (topS 52), defScope (topS 52), [], []⟩
def dd_45 : He.DefD := ⟨("_law_done", none), "_law_done", "_law_done", defArgs (topS 53), defBody (topS 53), defScope (topS 53), [], []⟩
def dd_46 : He.DefD := ⟨("_law_all", none), "_law_all", "_law_all", defArgs (topS 54), defBody (topS 54), defScope (topS 54), [], []⟩
def dd_47 : He.DefD := ⟨("_law_made", none), "_law_made", "_law_made", defArgs (topS 55), defBody (topS 55), defScope (topS 55), [], []⟩
def dd_48 : He.DefD := ⟨("_law_back", none), "_law_back", "_law_back", defArgs (topS 56), defBody (topS 56), defScope (topS 56), [], []⟩
def dd_49 : He.DefD := ⟨("_law_back_due", none), "_law_back_due", "_law_back_due", defArgs (topS 57), defBody (topS 57), defScope (topS 57), [], []⟩
def dd_50 : He.DefD := ⟨("_law_undone", none), "_law_undone", "_law_undone", defArgs (topS 58), defBody (topS 58), defScope (topS 58), [], []⟩
def dd_51 : He.DefD := ⟨("_law_same", none), "_law_same", "_law_same", defArgs (topS 59), defBody (topS 59), defScope (topS 59), [], []⟩
def dd_52 : He.DefD := ⟨("_law_started", none), "_law_started", "_law_started", defArgs (topS 60), defBody (topS 60), defScope (topS 60), [], []⟩
def dd_53 : He.DefD := ⟨("_law_visit", none), "_law_visit", "_law_visit", defArgs (topS 61), defBody (topS 61), defScope (topS 61), [], []⟩
def dd_54 : He.DefD := ⟨("_law_tried", none), "_law_tried", "_law_tried", defArgs (topS 62), defBody (topS 62), defScope (topS 62), [], []⟩
def dd_55 : He.DefD := ⟨("_law_attempts_right", none), "_law_attempts_right", "_law_attempts_right", defArgs (topS 63), defBody (topS 63), defScope (topS 63), [], []⟩
def dd_56 : He.DefD := ⟨("_law_copy_right", none), "_law_copy_right", "_law_copy_right", defArgs (topS 64), defBody (topS 64), defScope (topS 64), [], []⟩
def dd_57 : He.DefD := ⟨("law", none), "law", "law", defArgs (topS 65), defBody (topS 65), defScope (topS 65), [], []⟩
def gd_0 : Gd := ⟨"Walk", "net", "net", "Walk.net", inClass (topS 31) 2⟩
def gd_1 : Gd := ⟨"Walk", "commands", "commands", "Walk.commands", inClass (topS 31) 3⟩
def gd_2 : Gd := ⟨"Studio", "net", "net", "Studio.net", inClass (topS 45) 1⟩
def gd_3 : Gd := ⟨"Studio", "names", "names", "Studio.names", inClass (topS 45) 2⟩
def faL_0 : List He.Fa := [
  .free "isinstance",
  .free "len",
  .free "all",
  .free "sorted",
  .free "range",
  .free "str",
  .free "list",
  .glo "Walk",
  .cls "Walk",
  .mkr "Walk",
  .glo "is_net",
  .glo "check_net",
  .glo "heading_count",
  .glo "step_of",
  .glo "added",
  .glo "scaled",
  .glo "all_moves",
  .glo "STEPS",
  .glo "CHANGES",
  .glo "INVERSE",
  .meth "Walk" "__eq__",
  .meth "Walk" "__add__",
  .meth "Walk" "with_commands",
  .noat "Walk" "own_net",
  .noat "Walk" "own_commands"]
def faL_1 : List He.Fa := [
  .noat "Walk" "own_moves",
  .noat "Walk" "own_places",
  .glo "InvalidCommands",
  .glo "InvalidChange",
  .glo "LimitExceeded",
  .glo "NothingToUndo",
  .glo "UnknownName",
  .glo "Blocked",
  .glo "WalkError",
  .free "OverflowError",
  .free "LookupError",
  .free "KeyError",
  .free "RuntimeError",
  .str "LETTERS" "abcdefghijklmnopqrstuvwxyz",
  .int "MAX_LETTERS" 8,
  .str "GUEST" "guest",
  .free "tuple",
  .glo "is_name",
  .glo "check_name",
  .glo "check_user",
  .glo "has_change_form",
  .glo "joined",
  .glo "fitting",
  .glo "changed",
  .glo "Step"]
def faL_2 : List He.Fa := [
  .cls "Step",
  .mkr "Step",
  .glo "Studio",
  .cls "Studio",
  .mkr "Studio",
  .noat "Step" "user",
  .noat "Step" "touched",
  .noat "Step" "before",
  .meth "Studio" "latest",
  .meth "Studio" "undo",
  .meth "Studio" "copy",
  .meth "Studio" "__len__",
  .meth "Studio" "__eq__",
  .meth "Studio" "__contains__",
  .meth "Studio" "__getitem__",
  .noat "Studio" "own_net",
  .noat "Studio" "walks",
  .noat "Studio" "steps",
  .free "any",
  .meth "Studio" "make",
  .meth "Studio" "log",
  .glo "Trial",
  .cls "Trial",
  .mkr "Trial",
  .noat "Trial" "studio"]
def faL_3 : List He.Fa := [
  .noat "Trial" "walks",
  .noat "Trial" "steps",
  .meth "Trial" "__enter__",
  .meth "Trial" "__exit__",
  .meth "Studio" "attempt",
  .free "max",
  .free "min",
  .free "set",
  .free "dict",
  .glo "_law_source",
  .glo "_law_draw",
  .glo "_law_kind",
  .glo "_law_names",
  .glo "_law_text",
  .glo "_law_deed",
  .glo "_law_done",
  .glo "_law_all",
  .glo "_law_made",
  .glo "_law_back",
  .glo "_law_back_due",
  .glo "_law_undone",
  .glo "_law_same",
  .glo "_law_started",
  .glo "_law_visit",
  .glo "_law_tried"]
def faL_4 : List He.Fa := [
  .glo "_law_attempts_right",
  .glo "_law_copy_right",
  .glo "law",
  .exm "UnknownName" "UnknownName" true,
  .exm "LimitExceeded" "UnknownName" false,
  .exm "LimitExceeded" "LimitExceeded" true,
  .exm "NothingToUndo" "NothingToUndo" true,
  .exm "Blocked" "NothingToUndo" false,
  .exm "Blocked" "Blocked" true,
  .exm "InvalidCommands" "UnknownName" false,
  .exm "InvalidCommands" "InvalidCommands" true,
  .exm "InvalidChange" "UnknownName" false,
  .exm "InvalidChange" "InvalidCommands" false,
  .exm "InvalidChange" "InvalidChange" true]
def Qfa : List He.Fa := faL_0 ++ faL_1 ++ faL_2 ++ faL_3 ++ faL_4
def fnL_0 : List He.DefD := [
  dd_0,
  dd_1,
  dd_2,
  dd_3,
  dd_4,
  dd_5,
  dd_6,
  dd_7,
  dd_8,
  dd_9,
  dd_10,
  dd_11,
  dd_12,
  dd_13,
  dd_14,
  dd_15,
  dd_16,
  dd_17,
  dd_18,
  dd_19,
  dd_20,
  dd_21,
  dd_22,
  dd_23,
  dd_24]
def fnL_1 : List He.DefD := [
  dd_25,
  dd_26,
  dd_27,
  dd_28,
  dd_29,
  dd_30,
  dd_31,
  dd_32,
  dd_33,
  dd_34,
  dd_35,
  dd_36,
  dd_37,
  dd_38,
  dd_39,
  dd_40,
  dd_41,
  dd_42,
  dd_43,
  dd_44,
  dd_45,
  dd_46,
  dd_47,
  dd_48,
  dd_49]
def fnL_2 : List He.DefD := [
  dd_50,
  dd_51,
  dd_52,
  dd_53,
  dd_54,
  dd_55,
  dd_56,
  dd_57]
def Qfn : List He.DefD := fnL_0 ++ fnL_1 ++ fnL_2
def gtL_0 : List Gd := [
  gd_0,
  gd_1,
  gd_2,
  gd_3]
def Qgt : List Gd := gtL_0
def exsL_0 (K : PySem.W.Frag) : List Bool := [
  decide (PySem.W.specialIn K (.builtin "object.__class__") "__get__" = some (some (.builtin "getset_descriptor.__get__"))),
  decide (PySem.W.takesIn K (.builtin "object.__class__") = some true),
  decide (PySem.W.findIn K (.ref (ga K "Walk")) "__class__" = some (some (.builtin "object.__class__"))),
  decide (PySem.W.mroIn K (ga K "Walk") (.type "object") = some true),
  stepsB K "square" 4,
  stepsB K "triangle" 6,
  intsB K,
  invB K,
  PySem.W.readsIn K (ga K "Walk") (.type "type"),
  decide (PySem.W.specialIn K (.ref (ga K "Walk")) "__getattribute__" = some (some (.builtin "type.__getattribute__"))),
  mostB K,
  decide (PySem.W.findIn K (.ref (ga K "Walk")) "net" = some (some (.ref (mt K "Walk" "net")))),
  decide (PySem.W.specialIn K (.ref (mt K "Walk" "net")) "__get__" = some (some (.builtin "property.__get__"))),
  decide (PySem.W.takesIn K (.ref (mt K "Walk" "net")) = some true),
  recB K "Walk" "net",
  decide (PySem.W.findIn K (.ref (ga K "Walk")) "commands" = some (some (.ref (mt K "Walk" "commands")))),
  decide (PySem.W.specialIn K (.ref (mt K "Walk" "commands")) "__get__" = some (some (.builtin "property.__get__"))),
  decide (PySem.W.takesIn K (.ref (mt K "Walk" "commands")) = some true),
  recB K "Walk" "commands",
  decide (PySem.W.findIn K (.ref (ga K "Walk")) "__ne__" = some (some (.builtin "object.__ne__"))),
  PySem.W.selfFirst K (ga K "Walk"),
  PySem.W.notFirst K (ga K "Walk") (.ref (ga K "Walk")),
  decide (PySem.W.kitOne K (.ref (ga K "Walk")) (.ref (ga K "Walk")) = some true),
  xcB K (ga K "InvalidCommands") "ValueError.__new__" tlVal,
  decide (PySem.W.findIn K (.ref (ga K "InvalidCommands")) "__setattr__" = some (some (.builtin "object.__setattr__")))]
def exsL_1 (K : PySem.W.Frag) : List Bool := [
  decide (PySem.W.subIn K (.ref (ga K "InvalidCommands")) (.type "BaseException") = some true),
  decide (PySem.W.typeIn K (.ref (ga K "InvalidCommands")) = some (.type "type")),
  PySem.W.keepIn K (.ref (ga K "InvalidCommands")),
  decide (PySem.W.findIn K (.ref (ga K "InvalidCommands")) "given" = some none),
  decide (PySem.W.findIn K (.ref (ga K "InvalidCommands")) "__init__" = some (some (.ref (mt K "InvalidCommands" "__init__")))),
  decide (PySem.W.typeIn K (.ref (mt K "InvalidCommands" "__init__")) = some (.type "function")),
  xfB K (ga K "InvalidCommands"),
  xcB K (ga K "InvalidChange") "ValueError.__new__" tlVal,
  decide (PySem.W.findIn K (.ref (ga K "InvalidChange")) "__setattr__" = some (some (.builtin "object.__setattr__"))),
  decide (PySem.W.subIn K (.ref (ga K "InvalidChange")) (.type "BaseException") = some true),
  decide (PySem.W.typeIn K (.ref (ga K "InvalidChange")) = some (.type "type")),
  PySem.W.keepIn K (.ref (ga K "InvalidChange")),
  decide (PySem.W.findIn K (.ref (ga K "InvalidChange")) "given" = some none),
  decide (PySem.W.findIn K (.ref (ga K "InvalidChange")) "__init__" = some (some (.ref (mt K "InvalidChange" "__init__")))),
  decide (PySem.W.typeIn K (.ref (mt K "InvalidChange" "__init__")) = some (.type "function")),
  xfB K (ga K "InvalidChange"),
  xcB K (ga K "LimitExceeded") "OverflowError.__new__" tlOver,
  decide (PySem.W.findIn K (.ref (ga K "LimitExceeded")) "__setattr__" = some (some (.builtin "object.__setattr__"))),
  decide (PySem.W.subIn K (.ref (ga K "LimitExceeded")) (.type "BaseException") = some true),
  decide (PySem.W.typeIn K (.ref (ga K "LimitExceeded")) = some (.type "type")),
  PySem.W.keepIn K (.ref (ga K "LimitExceeded")),
  decide (PySem.W.findIn K (.ref (ga K "LimitExceeded")) "limit" = some none),
  decide (PySem.W.findIn K (.ref (ga K "LimitExceeded")) "__init__" = some (some (.ref (mt K "LimitExceeded" "__init__")))),
  decide (PySem.W.typeIn K (.ref (mt K "LimitExceeded" "__init__")) = some (.type "function")),
  xfB K (ga K "LimitExceeded")]
def exsL_2 (K : PySem.W.Frag) : List Bool := [
  xcB K (ga K "NothingToUndo") "LookupError.__new__" tlLook,
  decide (PySem.W.findIn K (.ref (ga K "NothingToUndo")) "__setattr__" = some (some (.builtin "object.__setattr__"))),
  decide (PySem.W.subIn K (.ref (ga K "NothingToUndo")) (.type "BaseException") = some true),
  decide (PySem.W.typeIn K (.ref (ga K "NothingToUndo")) = some (.type "type")),
  PySem.W.keepIn K (.ref (ga K "NothingToUndo")),
  decide (PySem.W.findIn K (.ref (ga K "NothingToUndo")) "user" = some none),
  decide (PySem.W.findIn K (.ref (ga K "NothingToUndo")) "__init__" = some (some (.ref (mt K "NothingToUndo" "__init__")))),
  decide (PySem.W.typeIn K (.ref (mt K "NothingToUndo" "__init__")) = some (.type "function")),
  xfB K (ga K "NothingToUndo"),
  xcB K (ga K "UnknownName") "LookupError.__new__" tlKey,
  decide (PySem.W.findIn K (.ref (ga K "UnknownName")) "__setattr__" = some (some (.builtin "object.__setattr__"))),
  decide (PySem.W.subIn K (.ref (ga K "UnknownName")) (.type "BaseException") = some true),
  decide (PySem.W.typeIn K (.ref (ga K "UnknownName")) = some (.type "type")),
  PySem.W.keepIn K (.ref (ga K "UnknownName")),
  decide (PySem.W.findIn K (.ref (ga K "UnknownName")) "name" = some none),
  decide (PySem.W.findIn K (.ref (ga K "UnknownName")) "__init__" = some (some (.ref (mt K "UnknownName" "__init__")))),
  decide (PySem.W.typeIn K (.ref (mt K "UnknownName" "__init__")) = some (.type "function")),
  xfB K (ga K "UnknownName"),
  xcB K (ga K "Blocked") "RuntimeError.__new__" tlRun,
  decide (PySem.W.findIn K (.ref (ga K "Blocked")) "__setattr__" = some (some (.builtin "object.__setattr__"))),
  decide (PySem.W.subIn K (.ref (ga K "Blocked")) (.type "BaseException") = some true),
  decide (PySem.W.typeIn K (.ref (ga K "Blocked")) = some (.type "type")),
  PySem.W.keepIn K (.ref (ga K "Blocked")),
  decide (PySem.W.findIn K (.ref (ga K "Blocked")) "name" = some none),
  decide (PySem.W.findIn K (.ref (ga K "Blocked")) "__init__" = some (some (.ref (mt K "Blocked" "__init__"))))]
def exsL_3 (K : PySem.W.Frag) : List Bool := [
  decide (PySem.W.typeIn K (.ref (mt K "Blocked" "__init__")) = some (.type "function")),
  xfB K (ga K "Blocked"),
  PySem.W.readsIn K (ga K "WalkError") (.type "type"),
  decide (PySem.W.specialIn K (.ref (ga K "WalkError")) "__getattribute__" = some (some (.builtin "type.__getattribute__"))),
  fcB K (.ref (ga K "WalkError")) "ValueError.__init__",
  fcB K (.type "OverflowError") "OverflowError.__init__",
  fcB K (.type "LookupError") "LookupError.__init__",
  fcB K (.type "KeyError") "KeyError.__init__",
  fcB K (.type "RuntimeError") "RuntimeError.__init__",
  decide (PySem.W.findIn K (.ref (ga K "Step")) "__class__" = some (some (.builtin "object.__class__"))),
  decide (PySem.W.mroIn K (ga K "Step") (.type "object") = some true),
  decide (PySem.W.findIn K (.ref (ga K "Studio")) "__class__" = some (some (.builtin "object.__class__"))),
  decide (PySem.W.mroIn K (ga K "Studio") (.type "object") = some true),
  decide (PySem.W.findIn K (.ref (ga K "Studio")) "net" = some (some (.ref (mt K "Studio" "net")))),
  decide (PySem.W.specialIn K (.ref (mt K "Studio" "net")) "__get__" = some (some (.builtin "property.__get__"))),
  decide (PySem.W.takesIn K (.ref (mt K "Studio" "net")) = some true),
  recB K "Studio" "net",
  decide (PySem.W.findIn K (.ref (ga K "Studio")) "names" = some (some (.ref (mt K "Studio" "names")))),
  decide (PySem.W.specialIn K (.ref (mt K "Studio" "names")) "__get__" = some (some (.builtin "property.__get__"))),
  decide (PySem.W.takesIn K (.ref (mt K "Studio" "names")) = some true),
  recB K "Studio" "names",
  PySem.W.fnIn K (mt K "Studio" "__getitem__"),
  decide (PySem.W.kitOne K (.ref (ga K "Studio")) (.ref (ga K "Studio")) = some true),
  decide (PySem.W.kitOne K (.type "dict") (.ref (ga K "Studio")) = some false),
  decide (PySem.W.specialIn K (.ref (mt K "Studio" "make")) "__get__" = some (some (.builtin "function.__get__")))]
def exsL_4 (K : PySem.W.Frag) : List Bool := [
  decide (PySem.W.takesIn K (.ref (mt K "Studio" "make")) = some false),
  PySem.W.fnIn K (mt K "Studio" "make"),
  decide (PySem.W.findIn K (.ref (ga K "Trial")) "__class__" = some (some (.builtin "object.__class__"))),
  decide (PySem.W.mroIn K (ga K "Trial") (.type "object") = some true),
  PySem.W.notFirst K (ga K "Studio") (.ref (ga K "Studio")),
  PySem.W.notFirst K (ga K "Studio") (.type "dict"),
  decide (tbA K "_law_visit" ≠ tbA K "_law_tried"),
  decide (tbA K "_law_visit" ≠ tbA K "law"),
  decide (tbA K "_law_tried" ≠ tbA K "law")]
def Qexs (K : PySem.W.Frag) : List Bool := exsL_0 K ++ exsL_1 K ++ exsL_2 K ++ exsL_3 K ++ exsL_4 K

def Qts : List He.Tab := [(fun K => ga K "STEPS", ["square", "triangle"]), (fun K => ga K "CHANGES", ["L", "R", "F", "B"]), (fun K => ga K "INVERSE", ["F", "B", "L", "R"])]
def Qtf : List He.Defn := [("_law_visit", none), ("_law_tried", none), ("law", none)]
def Qex (K : PySem.W.Frag) : Bool := (Qexs K).all id
end K6

/-! ## R0 -/
section
set_option maxHeartbeats 0
namespace K6
open PySem PySem.Spec PyProof.Rows L2
/-! ### what is looked at: the globals' functions, classes and tables, and what they name -/
def refsA (g : Addr → Option Obj) (a : Addr) : List Addr := match g a with
  | some o => He.refsO o
  | none => []
/-- a function's code -/
def codeA (g : Addr → Option Obj) (a : Addr) : List Addr := match g a with
  | some ⟨_, _, .func fd, _⟩ => He.refV fd.code
  | _ => []
/-- what stands in a class: a function, a property -/
def inA (g : Addr → Option Obj) (a : Addr) : List Addr := a :: match g a with
  | some ⟨_, _, .func fd, _⟩ => He.refV fd.code
  | some ⟨_, _, .fields vs, _⟩ => vs.toList.flatMap fun v => (He.refV v).flatMap fun f => f :: codeA g f
  | _ => []
def topA (g : Addr → Option Obj) (a : Addr) : List Addr := a :: match g a with
  | some ⟨_, _, .func fd, _⟩ => He.refV fd.code
  | some ⟨_, _, .cls cd, _⟩ => cd.ns :: (refsA g cd.ns).flatMap (inA g)
  | some ⟨_, _, .dict es _, _⟩ => es.toList.flatMap fun e => (He.refV e.val).flatMap fun t => t :: refsA g t
  | _ => []
def asP (g : Addr → Option Obj) : List Addr := mainGlobals :: PySem.cStatics :: (refsA g mainGlobals).flatMap (topA g)
abbrev AlP : Type := He.AlX × List (He.FnW × Bool)
def obsK (g : Addr → Option Obj) (K : PySem.W.Frag) : AlP := ((He.obsT Qfa Qfn Qts K, Qex K && He.tabsB g Qtf K), Qgt.map fun d => (gtW K d, d.ok K))
def obsP (g : Addr → Option Obj) : AlP := obsK g (He.frT g (asP g))
def valP (w : World) : AlP := (He.valX Qfn Qts w, Qgt.map fun d => (d.val, true))
theorem says_x {as : List Addr} {w : World} {h : Heap} (e1 : He.obsT Qfa Qfn Qts (He.frT h.get? as) = He.valT Qfn Qts w) (e2 : (Qex (He.frT h.get? as) && He.tabsB h.get? Qtf (He.frT h.get? as)) = true) : He.SaysX Qfa Qfn Qts Qtf Qex w h (He.frT h.get? as) := by
  obtain ⟨m1, m2⟩ := He.ba e2
  have tab : ∀ p ∈ Qtf, PySem.W.codeHdIn (He.frT h.get? as) (He.cT (He.frT h.get? as) p).1 (He.cT (He.frT h.get? as) p).2 = true ∧ ∃ o, h.get? (He.cT (He.frT h.get? as) p).2 = some o ∧ He.emptyTab o = true := by
    intro p hp
    obtain ⟨m3, m4⟩ := He.ba (List.all_eq_true.mp m2 p hp)
    refine ⟨m3, ?_⟩
    split at m4
    · rename_i o eo
      exact ⟨o, eo, m4⟩
    · cases m4
  refine ⟨e1, m1, fun p hp => (tab p hp).1, fun p hp => ?_, fun p hp => ?_⟩
  · obtain ⟨_, o, eo, et⟩ := tab p hp
    exact He.frT_none eo et
  · obtain ⟨_, o, eo, et⟩ := tab p hp
    exact eo.trans (congrArg some (He.emptyTab_eq et))
structure SaysP (w : World) (h : Heap) (K : PySem.W.Frag) : Prop where
  x : He.SaysX Qfa Qfn Qts Qtf Qex w h K
  g : (Qgt.map fun d => (gtW K d, d.ok K)) = Qgt.map fun d => (d.val, true)
theorem saysP_of {w : World} {h : Heap} (e : obsP h.get? = valP w) : SaysP w h (He.frT h.get? (asP h.get?)) :=
  ⟨says_x (congrArg (fun z : AlP => z.1.1) e) (congrArg (fun z : AlP => z.1.2) e), congrArg (fun z : AlP => z.2) e⟩
def hookP : PySem.W.Hook where
  α := AlP
  obs := fun s => obsP s.heap.get?
  val := fun w => valP w
  says := fun w h => ∃ K : PySem.W.Frag, K.In h ∧ SaysP w h K
  of := fun _ _ e => ⟨_, He.frT_in, saysP_of e⟩
  keeps := fun _ _ _ ⟨K, hK, c⟩ k => ⟨K, PySem.W.Frag.In.keeps hK k, ⟨⟨c.x.t, c.x.more, c.x.hd, c.x.out, fun p hp => k _ _ (c.x.empty p hp)⟩, c.g⟩⟩
theorem obsP_eq {g : Addr → Option Obj} {s : Shared} (h : ∀ a, g a = s.heap.get? a) : obsP g = hookP.obs s := by
  have e : g = s.heap.get? := funext h
  rw [e] <;> rfl
theorem SaysP.gd {w : World} {h : Heap} {K : PySem.W.Frag} (c : SaysP w h K) (i : Nat) {d : Gd} (hd : Qgt[i]? = some d) : gtW K d = d.val ∧ d.ok K = true := by
  have e2 : (Qgt.map fun d => (gtW K d, d.ok K))[i]? = (Qgt.map fun d => (d.val, true))[i]? := by rw [c.g]
  rw [List.getElem?_map, List.getElem?_map, hd] at e2
  have e3 := Option.some.inj e2
  exact ⟨congrArg (·.1) e3, congrArg (·.2) e3⟩
abbrev Rw : PySem.W.OpenRow := PySem.W.OpenLaw.row PySem.Challenge.rw_loopwalks_k61_whole_attempts_and_copies
abbrev qv : Program := PySem.W.view Rw.prog [65]
def nmsT : List PySem.Str := (["_wall","WalkError","InvalidNet","InvalidNumber","InvalidCommands","InvalidWalk","InvalidOperand","NetMismatch","LimitExceeded","InvalidName","InvalidUser","InvalidChange","NothingToUndo","UnknownName","Blocked","STEPS","is_integer","is_place","is_net","check_net","check_least","heading_count","step_of","added","scaled","INVERSE","CHANGES","all_moves","Walk","LETTERS"] : List PySem.Str) ++ (["MAX_LETTERS","GUEST","is_name","check_name","check_user","has_change_form","joined","fitting","changed","Step","Trial","Studio","_law_source","_law_draw","_law_kind","_law_names","_law_text","_law_deed","_law_done","_law_all","_law_made","_law_back","_law_back_due","_law_undone","_law_same","_law_started","_law_visit","_law_tried","_law_attempts_right","_law_copy_right"] : List PySem.Str)
abbrev hk : PySem.W.Hook := hookP
def ob (s : PySem.W.SharedT) : AlP := obsP (HandSHeadRun.getT s)
theorem ob_eq (s : PySem.W.SharedT) : ob s = hk.obs s.abs := obsP_eq (HandSHeadRun.getT_eq s)
end K6
end

/-! ## R1 -/
section
set_option maxHeartbeats 0
namespace K6
open PySem PySem.Spec PyProof.Rows L2
theorem runfalse (w : World) : HandSHeadRun.RunEq Rw qv hk ob 30000 nmsT (w.withFollow "special-get-raises" false) := by
  intro os
  kernel_rfl
end K6
end

/-! ## R2 -/
section
set_option maxHeartbeats 0
namespace K6
open PySem PySem.Spec PyProof.Rows L2
theorem runtrue (w : World) : HandSHeadRun.RunEq Rw qv hk ob 30000 nmsT (w.withFollow "special-get-raises" true) := by
  intro os
  kernel_rfl
end K6
end

/-! ## R3 -/
section
set_option maxHeartbeats 0
namespace K6
open PySem PySem.W PySem.Calls PyProof.Rows
theorem row_said : Rw.wellSaid = true := by decide +kernel
theorem row_fits : (chainsOk qv && opensWell Rw.prog && (frees Rw.toRowW && Rw.within.isEmpty)) = true := by decide +kernel
theorem row_bare : Rw.prog.bare := ⟨rfl, rfl, rfl, rfl, rfl, by decide +kernel⟩
end K6
end

/-! ## D3 -/
namespace K6
open PySem PySem.Spec PyProof.Rows L2
theorem Gr.of_new {H H2 : Hp} {x : Addr} {o : HO} (g : Gr [x] (upd H x o) H2) (hx : H x = none) : Gr [] H H2 := by
  refine ⟨fun a u _ h => ?_, fun a h => ?_⟩
  · have ne : a ≠ x := ne_of_none h hx
    exact g.keep a u (by simpa using ne) (by rw [upd_ne ne]; exact h)
  · have z := g.free a h
    by_cases e : a = x
    · subst e; exact hx
    · rwa [upd_ne e] at z
theorem Gr.xr {K : PySem.W.Frag} {x fld : Str} {y : V} {M : List Addr} {H H1 : Hp} {E : XK} (z : XR K x fld y M H E) (g : Gr M H H1) : XR K x fld y M H1 E := fun H' d g' h => z H' d (g.trans g') h
theorem XR.now {K : PySem.W.Frag} {x fld : Str} {y : V} {M : List Addr} {H : Hp} {E : XK} (z : XR K x fld y M H E) {d : Addr} (hd : H d = none) : E (.ref (ga K x)) (some d) (upd H d (.xd [(fld, y)])) := z _ d (Gr.refl.new hd) upd_same
section
variable {P : Program} {w : World} {K : PySem.W.Frag} {mg : Str → Option Value} {base : Heap}
/-! ### the getters -/
theorem scW2 : FnScope ["self"] ["self"] (defScope (inClass (topS 31) 2)) := ⟨rfl, rfl, rfl, by decide +kernel, rfl, by decide +kernel, by decide +kernel⟩
theorem scW3 : FnScope ["self"] ["self"] (defScope (inClass (topS 31) 3)) := ⟨rfl, rfl, rfl, by decide +kernel, rfl, by decide +kernel, by decide +kernel⟩
def spWNet (K : PySem.W.Frag) : Sp := fun vs H Q _ => ∃ a k c, vs = [.ref a] ∧ WalkAt K H a k c ∧ Q (.str k) H
def spWCmd (K : PySem.W.Frag) : Sp := fun vs H Q _ => ∃ a k c, vs = [.ref a] ∧ WalkAt K H a k c ∧ Q (.str c) H
theorem walk_net (T : Tx K w mg) : Fb true P w K mg base 1 (pt K "Walk" "net") (spWNet K) := by
  obtain ⟨fd, F⟩ := T.w_net
  refine fn_b F scW2 (fun vs H Q E h => by obtain ⟨a, k, c, rfl, _⟩ := h; rfl) (fun _ _ _ _ _ _ us hl => match us, hl with | [_], _ => rfl) ?_
  intro pz cdv A outer s H vs Q E hp hq hr h
  obtain ⟨a, k, c, rfl, ⟨dx, m, q', ha⟩, q⟩ := h
  exact wb_one (ws_ret (w_fld (w_var 0 ⟨_, rfl, a, _, _, _, .str k, rfl, ha, T.wal.cl, T.w_n1, rfl, q⟩)))
theorem walk_cmd (T : Tx K w mg) : Fb true P w K mg base 1 (pt K "Walk" "commands") (spWCmd K) := by
  obtain ⟨fd, F⟩ := T.w_cmd
  refine fn_b F scW3 (fun vs H Q E h => by obtain ⟨a, k, c, rfl, _⟩ := h; rfl) (fun _ _ _ _ _ _ us hl => match us, hl with | [_], _ => rfl) ?_
  intro pz cdv A outer s H vs Q E hp hq hr h
  obtain ⟨a, k, c, rfl, ⟨dx, m, q', ha⟩, q⟩ := h
  exact wb_one (ws_ret (w_fld (w_var 0 ⟨_, rfl, a, _, _, _, .str c, rfl, ha, T.wal.cl, T.w_n2, rfl, q⟩)))
/-! ### __eq__ -/
theorem scW6 : FnScope ["self", "other"] ["self", "other"] (defScope (inClass (topS 31) 6)) := ⟨rfl, rfl, rfl, by decide +kernel, rfl, by decide +kernel, by decide +kernel⟩
def spWEq (K : PySem.W.Frag) : Sp := fun vs H Q _ => ∃ a b k c k' c', vs = [.ref a, .ref b] ∧ WalkAt K H a k c ∧ WalkAt K H b k' c' ∧ Q (.bl (decide (k = k') && decide (c = c'))) H
theorem walk_ty (T : Tx K w mg) {H : Hp} {a : Addr} {k c : Str} (h : WalkAt K H a k c) : TyOf K H (.ref a) (.ref (cW K)) := by
  obtain ⟨dx, m, q, h⟩ := h
  exact .ins h T.wal.cl T.wal.ca T.cg T.ct T.wal.cm
theorem walk_eq (T : Tx K w mg) : Fb true P w K mg base 1 (mt K "Walk" "__eq__") (spWEq K) := by
  obtain ⟨fd, F⟩ := T.w_eq
  refine fn_b F scW6 (fun vs H Q E h => by obtain ⟨a, b, k, c, k', c', rfl, _⟩ := h; rfl) (fun _ _ _ _ _ _ us hl => match us, hl with | [_, _], _ => rfl) ?_
  intro pz cdv A outer s H vs Q E hp hq hr h
  obtain ⟨a, b, k, c, k', c', rfl, ha, hb, q⟩ := h
  have ty := walk_ty T hb
  obtain ⟨dx, m, q', ha⟩ := ha
  obtain ⟨dy, m', q'', hb⟩ := hb
  refine wb_one (ws_ret ?_)
  refine w_and (w_blt (call_isc (.ref (cW K))) T.isi rfl (wa_cons (w_var 1 ⟨_, rfl, wa_cons (w_glob (v := .ref (cW K)) T.wal.mg rfl rfl (wa_nil ?_))⟩)))
  refine ⟨_, _, _, _, rfl, fun _ h => h, .base ty, T.w_isiW, true, rfl, ?_⟩
  rw [if_pos rfl]
  refine w_and (w_cmp op_eq (w_fld (w_var 0 ⟨_, rfl, a, _, _, _, .str k, rfl, ha, T.wal.cl, T.w_n1, rfl, ?_⟩)))
  refine w_fld (w_var 1 ⟨_, rfl, b, _, _, _, .str k', rfl, hb, T.wal.cl, T.w_n1, rfl, rfl, _, rfl, ?_⟩)
  by_cases e : k = k'
  · subst e
    rw [decide_eq_true rfl, if_pos rfl]
    refine w_one (w_cmp op_eq (w_fld (w_var 0 ⟨_, rfl, a, _, _, _, .str c, rfl, ha, T.wal.cl, T.w_n2, rfl, ?_⟩)))
    refine w_fld (w_var 1 ⟨_, rfl, b, _, _, _, .str c', rfl, hb, T.wal.cl, T.w_n2, rfl, rfl, ?_⟩)
    rw [decide_eq_true rfl, Bool.true_and] at q
    rw [show decide (V.str c = V.str c') = decide (c = c') from decide_eq_decide.mpr ⟨fun h => V.str.inj h, fun h => by rw [h]⟩]
    exact q
  · rw [decide_eq_false (fun h => e (V.str.inj h)), if_neg (by simp)]
    rw [decide_eq_false e, Bool.false_and] at q
    exact q
/-! ### Walk(..) -/
theorem w_walk {X : Cx} {σ : St} {H : Hp} {Q : VK} {e e' : Expr} {p pos : Pos} (T : Tx X.K X.w X.mg) (hq : Qk true X) (hr : L2H.RoomH 4 X.A) (hg : Gl X "Walk")
    (hw : wA X [e, e'] σ H fun vs H1 => ∃ k c, vs = [.str k, .str c] ∧ Kind k ∧ Cmd c ∧ ∀ p H2, H1 p = none → Gr [] H1 H2 → WalkAt X.K H2 p k c → Q (.ref p) H2)
    (he : starEach [e, e'] X.env = (false, eval e X.env) :: starEach [e'] X.env := by rfl) (hpl : (backTo pos (starEach [e'] X.env)).any (·.1) = false := by rfl) : wE X (.Call (.Name "Walk" p) [e, e'] [] pos) σ H Q := by
  refine w_make T.wal.mkr (walk_init (P := X.prog) (base := X.base) T) hq hr T.wal.mg paF hg (hw.mono fun vs H1 => ?_) (by decide) he hpl
  rintro ⟨k, c, rfl, hk, hc, q⟩ x dx hx hdx hne
  refine ⟨x, k, c, dx, rfl, upd_same, hk, hc, fun H' m q' g hx' => ⟨rfl, ?_⟩⟩
  have hx1 : (upd H1 dx (.own x)) x = none := by rw [upd_ne (Ne.symm hne)]; exact hx
  exact q x H' hx ((Gr.refl.new hdx).trans (g.of_new hx1)) ⟨dx, m, q', hx'⟩
/-! ### with_commands, + -/
theorem scW10 : FnScope ["self", "commands"] ["self", "commands"] (defScope (inClass (topS 31) 10)) := ⟨rfl, rfl, rfl, by decide +kernel, rfl, by decide +kernel, by decide +kernel⟩
/-- what the walk of k by c is made: a walk, or the limit -/
def Mks (K : PySem.W.Frag) (k c : Str) (H : Hp) (Q : VK) (E : XK) : Prop :=
  (c.cps.size ≤ 200 → ∀ p H2, H p = none → Gr [] H H2 → WalkAt K H2 p k c → Q (.ref p) H2) ∧ (200 < c.cps.size → XR K "LimitExceeded" "limit" (.int 200) [] H E)
def spWith (K : PySem.W.Frag) : Sp := fun vs H Q E => ∃ a k c c', vs = [.ref a, .str c'] ∧ WalkAt K H a k c ∧ Kind k ∧ c'.cps.size ≤ 1000 ∧ (∀ n ∈ c'.cps.toList, isCmd n = true) ∧ Mks K k c' H Q E
theorem walk_with (T : Tz K w mg) : Fb false P w K mg base 5 (mt K "Walk" "with_commands") (spWith K) := by
  obtain ⟨fd, F⟩ := T.w_with
  refine fn_b F scW10 (fun vs H Q E h => by obtain ⟨a, k, c, c', rfl, _⟩ := h; rfl) (fun _ _ _ _ _ _ us hl => match us, hl with | [_, _], _ => rfl) ?_
  intro pz cdv A outer s H vs Q E hp hq hr h
  obtain ⟨a, k, c, c', rfl, ⟨dx, m, q', ha⟩, hk, hl, hc, q1, q2⟩ := h
  obtain ⟨mc, u, cr, cv⟩ := T.most
  refine wb_cons (ws_if (wt_cmp op_gt (w_blt call_len T.len rfl (wa_cons (w_var 1 ⟨_, rfl, wa_nil ⟨_, c'.length, rfl, ⟨?_, rfl⟩, ?_⟩⟩)))))
  · exact szm (Nat.le_trans hl (by decide))
  refine PE.w (ClX.pe_cval pE) (w_glob (v := .ref (cW K)) T.wal.mg rfl rfl ⟨_, mc, _, u, rfl, cr, cv, _, _, rfl, rfl, _, rfl, ?_⟩)
  by_cases e : c'.cps.size ≤ 200
  · rw [show decide ((200 : Int) < (c'.length : Nat)) = false from decide_eq_false (by have : c'.length ≤ 200 := e; omega)]
    refine iteF (wb_nil (wb_one (ws_ret (w_walk T.toTx hq.up hr rfl (wa_cons (w_fld (w_var 0 ⟨_, rfl, a, _, _, _, .str k, rfl, ha, T.wal.cl, T.w_n1, rfl, wa_cons (w_var 1 ⟨_, rfl, wa_nil ?_⟩)⟩)))))))
    exact ⟨k, c', rfl, hk, ⟨e, hc⟩, q1 e⟩
  · rw [show decide ((200 : Int) < (c'.length : Nat)) = true from decide_eq_true (by have : ¬ c'.length ≤ 200 := e; omega)]
    refine iteT (wb_one (ws_raise takesQ xOver T.eLim.xc (init_lim T) hq (hr.mono (by decide)) rfl (wa_cons (PE.w (ClX.pe_cval pE) (w_glob (v := .ref (cW K)) T.wal.mg rfl rfl ⟨_, mc, _, u, rfl, cr, cv, wa_nil ⟨_, rfl, fun d hd => (q2 (by omega)).now hd⟩⟩)))))
theorem scW11 : FnScope ["self", "other"] ["self", "other"] (defScope (inClass (topS 31) 11)) := ⟨rfl, rfl, rfl, by decide +kernel, rfl, by decide +kernel, by decide +kernel⟩
def spWAdd (K : PySem.W.Frag) : Sp := fun vs H Q E => ∃ a b k c c', vs = [.ref a, .ref b] ∧ WalkAt K H a k c ∧ WalkAt K H b k c' ∧ Kind k ∧ Cmd c ∧ Cmd c' ∧ Mks K k (c ++ c') H Q E
theorem str_app_size (a b : Str) : (a ++ b).cps.size = a.cps.size + b.cps.size := by
  show (Str.append a b).cps.size = _
  simp [Str.append]
theorem str_app_list (a b : Str) : (a ++ b).cps.toList = a.cps.toList ++ b.cps.toList := by
  show (Str.append a b).cps.toList = _
  simp [Str.append]
theorem walk_add (T : Tz K w mg) : Fb false P w K mg base 6 (mt K "Walk" "__add__") (spWAdd K) := by
  obtain ⟨fd, F⟩ := T.w_add
  refine fn_b F scW11 (fun vs H Q E h => by obtain ⟨a, b, k, c, c', rfl, _⟩ := h; rfl) (fun _ _ _ _ _ _ us hl => match us, hl with | [_, _], _ => rfl) ?_
  intro pz cdv A outer s H vs Q E hp hq hr h
  obtain ⟨a, b, k, c, c', rfl, ha0, hb0, hk, hc, hc', q1⟩ := h
  have ty := walk_ty T.toTx hb0
  obtain ⟨dx, m, q', ha⟩ := id ha0
  obtain ⟨dy, m', q'', hb⟩ := hb0
  refine wb_cons (ws_if (wt_not (wt_val (w_blt (call_isc (.ref (cW K))) T.isi rfl (wa_cons (w_var 1 ⟨_, rfl, wa_cons (w_glob (v := .ref (cW K)) T.wal.mg rfl rfl (wa_nil ?_))⟩))))))
  refine ⟨_, _, _, _, rfl, fun _ h => h, .base ty, T.w_isiW, true, rfl, iteF (wb_nil ?_)⟩
  refine wb_cons (ws_if (wt_cmp op_ne (w_fld (w_var 0 ⟨_, rfl, a, _, _, _, .str k, rfl, ha, T.wal.cl, T.w_n1, rfl, ?_⟩))))
  refine w_fld (w_var 1 ⟨_, rfl, b, _, _, _, .str k, rfl, hb, T.wal.cl, T.w_n1, rfl, ?_⟩)
  refine ⟨rfl, _, rfl, ?_⟩
  rw [show (!decide (V.str k = V.str k)) = false from by simp]
  refine iteF (wb_nil (wb_one (ws_ret ?_)))
  refine w_meth (walk_with T) hq hr T.wal.cl T.w_withM (paT takesQ) (w_var 0 ⟨_, rfl, a, _, _, rfl, ha, rfl, wa_cons (w_op op_add_str (w_fld (w_var 0 ⟨_, rfl, a, _, _, _, .str c, rfl, ha, T.wal.cl, T.w_n2, rfl, ?_⟩)))⟩)
  refine w_fld (w_var 1 ⟨_, rfl, b, _, _, _, .str c', rfl, hb, T.wal.cl, T.w_n2, rfl, ?_⟩)
  have l1 := hc.len
  have l2 := hc'.len
  refine ⟨c, c', rfl, rfl, szm (show c.cps.size + c'.cps.size ≤ _ by omega), wa_nil ⟨a, k, c, c ++ c', rfl, ha0, hk, ?_, ?_, q1⟩⟩
  · rw [str_app_size]; omega
  · intro n hn
    rw [str_app_list] at hn
    exact (List.mem_append.mp hn).elim (hc.ok n) (hc'.ok n)
/-! ### Walk(net, 5) -/
def spWalkBad (K : PySem.W.Frag) : Sp := fun vs H Q E => ∃ x k i dx, vs = [.ref x, .str k, .int i] ∧ H x = some (.ins (cW K) dx []) ∧ Kind k ∧ XR K "InvalidCommands" "given" (.int i) [] H E
theorem walk_bad (T : Tz K w mg) : Fb false P w K mg base 3 (mt K "Walk" "__init__") (spWalkBad K) := by
  obtain ⟨fd, F⟩ := T.w_init
  refine fn_b F sc31 (fun vs H Q E h => by obtain ⟨x, k, c, dx, rfl, _⟩ := h; rfl) (fun _ _ _ _ _ _ us hl => match us, hl with | [_, _, _], _ => rfl) ?_
  intro pz cdv A outer s H vs Q E hp hq hr h
  obtain ⟨x, k, i, dx, rfl, hx, hk, q⟩ := h
  refine wb_cons (ws_expr (w_call (check_net T.toTx) hq.up (hr.mono (by decide)) (T.d21.df rfl rfl) paF rfl (wa_cons (w_var 1 ⟨_, rfl, wa_nil ⟨k, rfl, hk, ?_⟩⟩))))
  refine wb_cons (ws_if (wt_or2 (wt_not (wt_val (w_blt (call_isc (.type "str")) T.isi rfl (wa_cons (w_var 2 ⟨_, rfl, wa_cons (w_bname (v := .ty "str") T.str rfl rfl (wa_nil ?_))⟩)))))))
  refine ⟨_, _, _, _, rfl, fun _ h => h, .base (.int i), by rfl, false, rfl, iteT (iteT ?_)⟩
  exact wb_one (ws_raise takesQ xVal T.eCmd.xc (init_cmd T) hq (hr.mono (by decide)) rfl (wa_cons (w_var 2 ⟨_, rfl, wa_nil ⟨_, rfl, fun d hd => q.now hd⟩⟩)))
end
end K6

/-! ## KR1 -/
namespace K6
open PySem PySem.Spec PyProof.Rows L2
/-! ### match on texts -/
section
variable {X : Cx} {σ : St} {H : Hp} {D : Ends} {pos : Pos}
abbrev wMC (X : Cx) (cases : List MatchCase) (z : Str) : TS := fun D σ H => ∀ pins s u first, Inv X pins σ H s → RelV (.str z) u → wpAny (model X.prog X.w) X.A (matchCases cases X.env u first) (SP X pins D) X.xe s
theorem ws_match {e : Expr} {cases : List MatchCase} (h : wE X e σ H fun v H1 => ∃ z, v = .str z ∧ wMC X cases z D σ H1) : wS X (.Match e cases pos) D σ H := fun pins s I => by
  refine wpAny_Match (thn (h pins s I) fun u s1 ⟨v, H1, I1, r, z, ev, q⟩ => ?_)
  subst ev
  exact q pins s1 u true I1 r
theorem mc_str {y z : Str} {j : Nat} {p p' : Pos} {body : List Stmt} {rest : List MatchCase} (h : if y = z then wB X body D σ H else wMC X rest y D σ H) : wMC X (⟨.MatchValue (.Constant (.str z) j p) p', none, body⟩ :: rest) y D σ H := fun pins s u first I r => by
  obtain ⟨t, rfl⟩ := (show ∃ t, u = Value.str y t from r)
  refine wpAny_matchCases_cons (wpAny_matchPattern_Value (thn (w_str (X := X) (σ := σ) (j := j) (pos := p) (Q := fun v H' => v = .str z ∧ H' = H) ⟨rfl, rfl⟩ pins s I) fun u' s1 ⟨v, H1, I1, r1, ev, eH⟩ => ?_))
  subst ev eH
  refine thn (op_eq pins s1 σ H1 (.str y) (.str z) _ _ (fun v H' => v = .bl (decide (y = z)) ∧ H' = H1) I1 r r1 ⟨rfl, by rw [decide_eq_decide.mpr ⟨fun h => V.str.inj h, fun h => by rw [h]⟩], rfl⟩) ?_
  rintro c s2 ⟨v2, H2, I2, r2, rfl, rfl⟩
  obtain rfl : c = Value.bool (decide (y = z)) := r2
  refine wpAny_truthy_bool ?_
  by_cases e : y = z
  · rw [decide_eq_true e, if_pos rfl]
    rw [if_pos e] at h
    exact wpAny_assignInOrder_none (h pins s2 I2)
  · rw [decide_eq_false e, if_neg (by simp)]
    rw [if_neg e] at h
    exact h pins s2 _ false I2 ⟨_, rfl⟩
theorem mc_any {y : Str} {p : Pos} {body : List Stmt} (h : wB X body D σ H) : wMC X [⟨.MatchAs none none p, none, body⟩] y D σ H := fun pins s u first I r => by
  exact wpAny_matchCases_cons (wpAny_matchPattern_Capture (wpAny_assignInOrder_none (h pins s I)))
end

/-! ### a, b, *c = t -/
theorem walks_shift {prog : Program} {w : World} {A : Around} {I : Addr} {fp wr : List Addr} {n k : Nat} {P : Nat → Value → Prop} {St : Nat → Heap → Prop} (W : Walks prog w A I fp wr n P St) (hk : k ≤ n) : Walks prog w A I fp wr (n - k) (fun i => P (i + k)) (fun i => St (i + k)) where
  sub := W.sub
  frame := fun i h h' st q => W.frame _ h h' st q
  item := fun i s Q E hi st hQ => W.item (i + k) s Q E (by omega) st fun v h' tk p st' q => hQ v h' tk p (by rw [Nat.add_right_comm]; exact st') q
  done := fun s Q E st hQ => W.done s Q E (by rw [Nat.sub_add_cancel hk] at st; exact st) hQ
  self := fun i s Q E st q => W.self _ s Q E st q
section
variable {prog : Program} {w : World} {A : Around} {E : Value → Shared → Prop} {s : Shared}
theorem unpackStar {t : Addr} {items : Array Value} {Q : List Value → Shared → Prop} (hh : A.handled = none) (ht : IsTup s.heap t items) (h2 : 2 ≤ items.size) (hz : items.size ≤ sizeLine)
    (hQ : ∀ (h' : Heap) (tk : Nat), (∀ b o, s.heap.get? b = some o → h'.get? b = some o) → Q (items.toList.take 2 ++ [.ref h'.objs.size]) { s with heap := h'.push { cls := .type "list", data := .seq (items.toList.drop 2).toArray }, toks := tk }) :
    wpAny (model prog w) A (unpackItems (.ref t) 3 (some 2)) Q E s := by
  have hlt : t < s.heap.objs.size := by obtain ⟨o, ho, _⟩ := ht; exact Heap.lt_size ho
  have hne : t ≠ s.heap.objs.size := Nat.ne_of_lt hlt
  unfold unpackItems
  refine wpAny_bind ?_
  unfold notIterableAtAll
  refine wpAny_bind (wpAny_specialOf ht.typeIs slot_tuple_iter.lookup (wpAny_pure ?_))
  simp only [Bool.false_eq_true, if_false]
  refine wpAny_bind (wpAny_holding (iter_tuple ht ?_))
  refine wpAny_bind (wpAny_holding (draw_tuple hne 2 0 _ _ ⟨_, Heap.get?_push_size _ rfl, rfl, rfl⟩ (ht.push _) (by omega) fun h₁ hit₁ hs₁ => ?_))
  have hl2 : (List.take 2 (List.drop 0 items.toList)).length = 2 := by simp; omega
  rw [if_neg (by rw [hl2]; omega)]
  have ht₁ : IsTup h₁ t items := (ht.push _).extBut hs₁.extBut hne
  have W := (walks_shift (k := 2) (Walks.tuple (prog := prog) (w := w) (A := A.in1) hh s.heap.objs.size t hne items) h2).toS
  have lt1 : s.heap.objs.size < h₁.objs.size := by obtain ⟨o, ho, _⟩ := hit₁; exact Heap.lt_size ho
  refine wpAny_bind (wpAny_holding (wpAny_collect_iter (s := { s with heap := h₁ }) (.inr (.inr (.inr rfl))) W (fun i s st => let ⟨o, ho, hc, _⟩ := st.1; ⟨o, ho, hc⟩) ⟨hit₁, ht₁⟩ (fun b hb => ?_) (by simp) (fun s' acc hm hacc => ?_) (by omega)))
  · rcases List.mem_cons.mp hb with e | hb
    · rw [e]; exact lt1
    · rw [List.mem_singleton.mp hb]; exact Nat.lt_trans hlt lt1
  have ea : acc.toList = items.toList.drop 2 := by
    obtain ⟨a1, a2⟩ := hacc
    refine List.ext_getElem? fun j => ?_
    rw [List.getElem?_drop, Array.getElem?_toList, Array.getElem?_toList]
    by_cases hj : j < acc.size
    · have := a2 j acc[j] (Array.getElem?_eq_getElem hj)
      rw [Array.getElem?_eq_getElem hj, Nat.add_comm, this]
    · rw [Array.getElem?_eq_none (by omega), Array.getElem?_eq_none (by omega)]
  have la : acc.toList.length = items.size - 2 := by rw [ea]; simp
  rw [if_neg (by omega)]
  have k1 : ∀ b o, s.heap.get? b = some o → s'.heap.get? b = some o := fun b o e => hm.heap b o (by simp only [List.mem_singleton]; exact Nat.ne_of_lt (Heap.lt_size e)) (hs₁.extBut b o (Nat.ne_of_lt (Heap.lt_size e)) (Heap.get?_push_of_some _ e))
  rw [show acc.toList.length - (3 - 1 - 2) = acc.toList.length from by omega, List.take_length, List.drop_length]
  refine wpAny_bind (wpAny_newList (wpAny_pure ?_) (by omega))
  have q := hQ s'.heap s'.toks k1
  rw [List.append_nil, ea, List.drop_zero]
  have es : s' = { s with heap := s'.heap, toks := s'.toks } := by
    have e1 := hm.gens
    have e2 := hm.drawn
    have e3 := hm.os
    obtain ⟨a, b, c, d, e⟩ := s'
    cases e1
    cases e2
    cases e3
    rfl
  rw [es]
  exact q
end
section
variable {X : Cx} {σ : St} {H : Hp} {v : V} {pos p : Pos} {Q : St → Hp → Prop}
theorem w_gcstar {e : Expr} {es : List Expr} {vs : List V} (hw : wG X e v σ H fun σ' H' => wGs X es vs σ' H' Q) : wGs X (.Starred e p :: es) (v :: vs) σ H Q := fun pins s us I r => by
  cases r with
  | @cons _ u _ ur ra rw' =>
    show wpAny _ _ (assignInOrder (assign e X.env :: (assignEach es X.env).map (·.2)) (u :: ur)) _ _ _
    exact wpAny_assignInOrder_more (thn (hw pins s u I ra) fun _ s' ⟨σ', H', I', q⟩ => q pins s' ur I' rw')
theorem w_gstar {es : List Expr} {k : Nat} (hq : Qk false X) (hw : ∃ a x y xs, v = .ref a ∧ SqT X.K H a (x :: y :: xs) ∧ ∀ l, H l = none → wGs X es [x, y, .ref l] σ (upd H l (.lst xs)) Q) (hn : (assignEach es X.env).length = 3 := by rfl) (hst : (assignEach es X.env).findIdx? (·.1) = some 2 := by rfl) :
    wG X (.Tuple es k pos) v σ H Q := fun pins s u I r => by
  obtain ⟨a, x, y, xs, e1, ha, hw⟩ := hw
  subst e1
  obtain rfl : u = Value.ref a := r
  obtain ⟨its, rv, ht, hz⟩ := I.tuple ha
  rw [assign_Tuple]
  unfold unpack
  rw [hst, hn]
  have hl : its.length = xs.length + 2 := by rw [← rv.length] <;> rfl
  have hz' : xs.length + 2 ≤ sizeLine := hz
  refine wpAny_bind (wpAny_standAt (wpAny_bind (wpAny_holding (unpackStar (I.ok.hd hq.calm) ht (by simp; omega) (by simp; omega) fun (h' : Heap) tk hk => ?_))))
  cases rv with
  | @cons _ u0 _ ur r0 rv =>
    cases rv with
    | @cons _ u1 _ ur r1 rv =>
      have I0 : Inv X pins σ H ⟨h', s.gens, s.drawn, tk, s.os⟩ := I.kept (t' := tk) hk
      have I1 : Inv X pins σ (upd H h'.objs.size (.lst xs)) ⟨h'.push { cls := .type "list", data := .seq ur.toArray }, s.gens, s.drawn, tk, s.os⟩ :=
        I0.laid (t' := tk) (a := h'.objs.size) (o := .lst xs) (fun b o e => Heap.get?_push_of_some _ e) (Nat.le_refl _) ⟨by simp at hz; omega, ur, _, rv, Heap.get?_push_size _ rfl⟩
      have z := hw h'.objs.size (I0.hok.fresh (Nat.le_refl _)) pins _ [u0, u1, .ref h'.objs.size] I1 (.cons r0 (.cons r1 (.cons rfl .nil)))
      simpa using z
end
end K6

/-! ## KR2 -/
namespace K6
open PySem PySem.Spec PyProof.Rows L2
section
variable {prog : Program} {w : World} {K : Type} [DecidableEq K] {knd : KeyKind prog w K} {A : Around} {E : Value → Shared → Prop} {s : Shared}
theorem put_pairs {d : Addr} {kvs : List (K × Value)} {k : K} {key v : Value} {Q : Unit → Shared → Prop} (hkey : knd.is k key = true) (hm : s.heap.DictOf knd d kvs)
    (hQ : ∀ h', h'.DictOf knd d (stored kvs k v) → Heap.SameBut d s.heap h' → Q () { s with heap := h' }) (hsz : kvs.length ≤ sizeLine) : wpAny (model prog w) A (dictPut d (knd.hash k) key v) Q E s := by
  obtain ⟨o, es, ep, ho, hc, hd, hk, hp, hn⟩ := hm
  have hes : es.size ≤ sizeLine := by
    have e1 := hp.length
    have e2 : es.toList.length = es.size := by simp
    omega
  unfold dictPut
  refine wpAny_bind (wpAny_dictFind_of hkey ho hd hk ?_)
  have hidx : (es.findIdx? fun e => knd.is k e.key) = kvs.findIdx? fun kv => decide (kv.1 = k) := by
    rw [← hp.findIdx k]
    obtain ⟨l⟩ := es
    simp
  cases hi : es.findIdx? fun e => knd.is k e.key with
  | some i =>
    refine wpAny_updateDict ho hd (hQ _ ⟨_, _, ep, Heap.get?_update_self _ ho (Obj.isFreed_of_dict (Obj.data_mapDict hd _)), hc.mapDict _, Obj.data_mapDict hd _, hk.modify _ _, ?_, ?_⟩ (Heap.SameBut.update ..))
    · rw [stored, if_pos (any_of_findIdx_some (hidx ▸ hi))]
      have hl : (es.toList.findIdx? fun e => knd.is k e.key) = some i := by
        rw [← hi]
        obtain ⟨l⟩ := es
        simp
      have := hp.modify hn hl v
      obtain ⟨l⟩ := es
      simpa using this
    · rw [stored, if_pos (any_of_findIdx_some (hidx ▸ hi)), keys_map_store]
      exact hn
  | none =>
    have hnot : k ∉ kvs.map (·.1) := not_mem_of_findIdx_none (hidx ▸ hi)
    have hany : ¬ (kvs.any fun kv => decide (kv.1 = k)) = true := by
      rw [List.any_eq_true]
      rintro ⟨kv, hkv, he⟩
      exact hnot (List.mem_map.mpr ⟨kv, hkv, of_decide_eq_true he⟩)
    refine wpAny_updateDictKeys (hz := hes) ho hd (hQ _ ⟨_, _, ep + 1, Heap.get?_update_self _ ho (Obj.isFreed_of_dict (Obj.data_mapDictKeys hd _)), hc.mapDictKeys _, Obj.data_mapDictKeys hd _, hk.push hkey _, ?_, ?_⟩ (Heap.SameBut.update ..))
    · rw [stored, if_neg hany]
      have := hp.append hkey (knd.hash k) v
      obtain ⟨l⟩ := es
      simpa using this
    · rw [stored, if_neg hany, List.map_append, List.nodup_append]
      refine ⟨hn, by simp, ?_⟩
      intro a ha b hb
      simp only [List.map_cons, List.map_nil, List.mem_singleton] at hb
      subst hb
      exact fun e => hnot (e ▸ ha)
end
section
variable {prog : Program} {w : World} {A : Around} {E : Value → Shared → Prop} {s : Shared}
theorem quiet_keys {es : Array DictEntry} {α : Type} {b : α} {f : DictEntry → α → Sem (ForInStep α)} (h : ∀ e ∈ es.toList, f e b = pure (.yield b)) : (forIn es b f : Sem α) = pure b := by
  rw [← Array.forIn_toList]
  generalize es.toList = l at h
  induction l with
  | nil => rfl
  | cons e l ih =>
    rw [List.forIn_cons, h e List.mem_cons_self, pure_bind]
    exact ih fun e he => h e (List.mem_cons_of_mem _ he)
theorem mergeMap {d o : Addr} {kvs more : List (Key × Value)} {Q : Unit → Shared → Prop} (hdo : d ≠ o) (hoS : (o == sysModules) = false) (hd : s.heap.DictOf (mixKind prog w) d kvs) (ho : s.heap.DictOf (mixKind prog w) o more)
    (hQ : ∀ h', h'.DictOf (mixKind prog w) d (merged kvs more) → Heap.SameBut d s.heap h' → Q () { s with heap := h' }) (hsz : kvs.length + more.length ≤ sizeLine) : wpAny (model prog w) A (mergeMapping d (.ref o) false) Q E s := by
  obtain ⟨od, esd, epd, hod, hcd, hdd, hkd, hpd, hnd⟩ := id hd
  obtain ⟨oo, eso, epo, hoo, hco, hdo', hko, hpo, hno⟩ := id ho
  have hlen : more.length = eso.size := by rw [← hpo.length]; simp
  unfold mergeMapping
  refine wpAny_bind (wpAny_isInstance ho.typeIs isSubtype_dict_dict ?_)
  dsimp only
  rw [if_pos rfl]
  refine wpAny_bind (wpAny_specialOf ho.typeIs PySem.F.slot_dict_iter.lookup ?_)
  refine wpAny_bind (wpAny_pure ?_)
  simp only [beq_self_eq_true]
  rw [if_neg (by rw [hoS]; exact Bool.false_ne_true)]
  refine wpAny_bind (wpAny_dictEntries hod hdd ?_)
  have nk : ∀ e ∈ eso.toList, ∀ b, e.key ≠ .ref b := fun e he b z => by
    obtain ⟨k, hk, _⟩ := hko e (Array.mem_toList_iff.mp he)
    rw [z] at hk
    rcases keyIs_shape (show keyIs k (.ref b) = true from hk) with ⟨_, _, _, h⟩ | ⟨_, _, _, h⟩ <;> cases h
  split
  case' isTrue =>
    refine wpAny_bind (wpAny_dictEntries hoo hdo' ?_)
    rw [quiet_keys (fun e he => by
      have := nk e he
      split
      · rename_i a ha
        exact absurd ha (this a)
      · rfl), pure_bind]
  all_goals
    refine wpAny_bind (wpAny_dictEntries hoo hdo' ?_)
    refine wpAny_bind (wpAny_dictEpoch hoo hdo' ?_)
    refine wpAny_bind ?_
    rw [List.range_eq_range']
    refine wpAny_forIn_list _
      (fun rest _ s' => ∃ h' i, s' = { s with heap := h' } ∧ rest = List.range' i (eso.size - i) ∧ i ≤ eso.size ∧ h'.DictOf (mixKind prog w) d (merged kvs (more.take i)) ∧ h'.get? o = some oo ∧ Heap.SameBut d s.heap h')
      _ ?_ ?_ _ _ ⟨s.heap, 0, rfl, by simp, Nat.zero_le _, by simpa [merged] using hd, hoo, Heap.SameBut.refl _ _⟩
    · rintro x rest b s' ⟨h', i, rfl, hr, hi, hd', hoo', hs'⟩
      have hlt : i < eso.size := by
        rcases Nat.lt_or_ge i eso.size with h | h
        · exact h
        · rw [Nat.sub_eq_zero_of_le h] at hr
          simp at hr
      obtain ⟨rfl, hrest⟩ : x = i ∧ rest = List.range' (i + 1) (eso.size - (i + 1)) := by
        have e : eso.size - i = (eso.size - (i + 1)) + 1 := by omega
        rw [e, List.range'_succ] at hr
        injection hr with h1 h2
        exact ⟨h1, h2⟩
      refine wpAny_bind (wpAny_dictEntries hoo' hdo' ?_)
      rw [Array.getElem?_eq_getElem hlt]
      obtain ⟨kv, hkv⟩ : ∃ kv, more[x]? = some kv := ⟨more[x]'(by rw [hlen]; exact hlt), List.getElem?_eq_getElem _⟩
      obtain ⟨k, v⟩ := kv
      obtain ⟨hkey, hval⟩ := hpo.get? (e := eso[x]) (by simp [hlt]) hkv
      obtain ⟨k', hkey', hhash⟩ := hko eso[x] (Array.getElem_mem hlt)
      obtain rfl : k' = k := (mixKind prog w).inj _ _ _ hkey' hkey
      have hmx : (merged kvs (more.take x)).length ≤ sizeLine := by
        have e1 := merged_length_le kvs (more.take x)
        have e2 : (more.take x).length ≤ more.length := by rw [List.length_take]; omega
        omega
      dsimp only
      rw [if_neg (by decide), hhash, hval]
      refine wpAny_bind (wpAny_holding (put_pairs (hsz := hmx) hkey hd' fun h'' hd'' hs'' => ?_))
      have hoo'' : h''.get? o = some oo := (hs''.2 o (Ne.symm hdo)).trans hoo'
      refine wpAny_bind (wpAny_dictEpoch hoo'' hdo' ?_)
      rw [if_neg (by simp)]
      exact wpAny_pure ⟨h'', x + 1, rfl, hrest, hlt, by rw [merged_take_succ kvs more x (k', v) hkv]; exact hd'', hoo'', hs'.trans hs''⟩
    · rintro b s' ⟨h', i, rfl, hr, hi, hd', hoo', hs'⟩
      have hin : i = eso.size := by
        rcases Nat.lt_or_ge i eso.size with h | h
        · have e : eso.size - i = (eso.size - (i + 1)) + 1 := by omega
          rw [e, List.range'_succ] at hr
          exact nomatch hr
        · exact Nat.le_antisymm hi h
      refine wpAny_pure (hQ h' ?_ hs')
      rw [hin, ← hlen, List.take_length] at hd'
      exact hd'
end

section
variable {X : Cx} {pins : List (Addr × Obj)} {σ : St} {H : Hp} {s : Shared} {A : Around} {E : Value → Shared → Prop}
theorem merge_at {d o : Addr} {kvs more : List (Key × V)} {Q : Unit → Shared → Prop} (I : Inv X pins σ H s) (hd : H d = some (.dK kvs)) (ho : Rd H o (.dK more)) (hne : d ≠ o) (hz : kvs.length + more.length ≤ sizeLine)
    (h : ∀ s', Inv X pins σ (upd H d (.dK (mergeK kvs more))) s' → Q () s') : wpAny (model X.prog X.w) A (mergeMapping d (.ref o) false) Q E s := by
  obtain ⟨z1, b1, vs, r1, d1⟩ := dk_of I.hok hd
  obtain ⟨z2, b2, ws, r2, d2⟩ := dk_rd I.hok ho
  refine mergeMap hne b2 d1 d2 (fun h' dd hs => h _ ?_) (by rw [← r1.length, ← r2.length]; exact hz)
  have he : ∃ q, h'.get? d = some q := let ⟨q, _, _, hq, _⟩ := dd; ⟨q, hq⟩
  exact d_write I (by rw [hd]; exact True.intro) hs he (dk_new (Nat.le_trans (length_mergeK more kvs) hz) b1 (r2.merge r1) dd)
theorem dict_laid (I : Inv X pins σ H s) : Inv X pins σ (upd H s.heap.objs.size (.dK [])) { s with heap := s.heap.push { cls := .type "dict", data := .dict #[] } } :=
  I.laid (a := s.heap.objs.size) (o := .dK []) (h' := s.heap.push { cls := .type "dict", data := .dict #[] }) (t' := s.toks) (fun _ _ q => Heap.get?_push_of_some _ q) (Nat.le_refl _) (dk_empty s.heap I.big)
/-- {**a, k: v} -/
theorem w_dput {a ke ve : Expr} {pos : Pos} {Q : VK}
    (h : ∀ D, H D = none → wE X a σ (upd H D (.dK [])) fun x H1 => ∃ m kvs, x = .ref m ∧ Rd H1 m (.dK kvs) ∧ D ≠ m ∧ H1 D = some (.dK []) ∧ kvs.length ≤ 1000 ∧
      ∀ S, (upd H1 D (.dK (mergeK [] kvs))) S = none → wE X ke σ (upd (upd H1 D (.dK (mergeK [] kvs))) S (.dK [])) fun y H2 => wE X ve σ H2 fun z H3 => ∃ k, y = kV k ∧ H3 S = some (.dK []) ∧ H3 D = some (.dK (mergeK [] kvs)) ∧ D ≠ S ∧
        Q (.ref D) (upd (upd H3 S (.dK [(k, z)])) D (.dK (putK (mergeK [] kvs) k z)))) :
    wE X (.Dict [none, some ke] [a, ve] pos) σ H Q := fun pins s I => by
  rw [arm_eval_Dict]
  refine wpAny_bind (wpAny_standAt ?_)
  show wpAny _ _ (dictDisplay [(none, do let x ← eval a X.env; standAt pos; pure x), (some (eval ke X.env), do let x ← eval ve X.env; standAt pos; pure x)]) _ _ s
  unfold dictDisplay
  simp only [List.forIn_cons, List.forIn_nil, List.isEmpty_nil, if_true, pure_bind, bind_assoc, List.nil_append]
  refine wpAny_bind (wpAny_alloc ?_)
  refine wpAny_bind (wpAny_holding (wpAny_bind (thn (h s.heap.objs.size (I.hok.fresh (Nat.le_refl _)) pins _ (dict_laid I)) ?_)))
  rintro u s1 ⟨x, H1, I1, r1, m, kvs, rfl, hm, hne, hD, hz, h1⟩
  obtain rfl : u = Value.ref m := r1
  refine wpAny_bind (wpAny_standAt (wpAny_pure ?_))
  have hz' : ([] : List (Key × V)).length + kvs.length ≤ sizeLine := by
    rw [List.length_nil, Nat.zero_add]
    exact Nat.le_trans hz (by decide)
  refine wpAny_bind (wpAny_onRaise (wpAny_tryCatch (wpAny_onRaise (wpAny_holding (merge_at I1 hD hm hne hz' fun s2 I2 => ?_)))))
  rw [if_neg (by simp)]
  refine wpAny_bind (wpAny_pure ?_)
  dsimp only
  refine wpAny_bind (wpAny_pure ?_)
  dsimp only
  rw [if_neg (by simp)]
  refine wpAny_bind (wpAny_bind (wpAny_holding (wpAny_subDict (knd := mixKind X.prog X.w) (by simp) ?_)))
  have hS : (upd H1 s.heap.objs.size (.dK (mergeK [] kvs))) s2.heap.objs.size = none := I2.hok.fresh (Nat.le_refl _)
  refine evalPairs_cons (thn (h1 _ hS pins _ (dict_laid I2)) ?_)
  rintro u3 s3 ⟨y, H3, I3, r3, h3⟩
  refine wpAny_bind (thn (h3 pins s3 I3) ?_)
  rintro u4 s4 ⟨z, H4, I4, r4, k, rfl, hS4, hD4, hDS, q⟩
  refine wpAny_bind (wpAny_standAt (wpAny_pure (evalPairs_nil ?_)))
  obtain ⟨zz, hd, vs0, r0, dd⟩ := dk_of I4.hok hS4
  cases r0
  have hk : (mixKind X.prog X.w).is k u3 = true := kV_is r3
  refine ⟨[(k, u4)], ⟨hk, rfl, trivial⟩, dd, fun h' dd' hs => ?_⟩
  have he : ∃ q, h'.get? s2.heap.objs.size = some q := let ⟨q, _, _, hq, _⟩ := dd'; ⟨q, hq⟩
  have one : KV [(k, z)] [(k, u4)] := .cons ⟨rfl, r4⟩ .nil
  have I5 : Inv X pins σ (upd H4 s2.heap.objs.size (.dK [(k, z)])) { s4 with heap := h', toks := s4.toks + [(u3, u4)].length } :=
    d_write I4 (by rw [hS4]; exact True.intro) hs he (dk_new (by show 1 ≤ sizeLine; decide) hd one dd')
  have hD5 : (upd H4 s2.heap.objs.size (.dK [(k, z)])) s.heap.objs.size = some (.dK (mergeK [] kvs)) := by rw [upd_ne hDS]; exact hD4
  have hz5 : (mergeK [] kvs).length + [(k, z)].length ≤ sizeLine := by
    have := length_mergeK kvs []
    rw [List.length_nil, Nat.zero_add] at this
    have e : 1001 ≤ sizeLine := by decide
    show (mergeK [] kvs).length + 1 ≤ _
    omega
  refine wpAny_bind (wpAny_onRaise (wpAny_holding (merge_at I5 hD5 (.of upd_same) hDS hz5 fun s6 I6 => ?_)))
  exact wpAny_pure (wpAny_pure ⟨_, _, I6, rref, q⟩)
/-- {**a, **b} -/
theorem w_dput2 {a b : Expr} {pos : Pos} {Q : VK}
    (h : ∀ D, H D = none → wE X a σ (upd H D (.dK [])) fun x H1 => ∃ m kvs, x = .ref m ∧ Rd H1 m (.dK kvs) ∧ D ≠ m ∧ H1 D = some (.dK []) ∧ kvs.length ≤ 1000 ∧
      wE X b σ (upd H1 D (.dK (mergeK [] kvs))) fun y H2 => ∃ m2 kvs2, y = .ref m2 ∧ Rd H2 m2 (.dK kvs2) ∧ D ≠ m2 ∧ H2 D = some (.dK (mergeK [] kvs)) ∧ kvs2.length ≤ 1000 ∧ Q (.ref D) (upd H2 D (.dK (mergeK (mergeK [] kvs) kvs2)))) :
    wE X (.Dict [none, none] [a, b] pos) σ H Q := fun pins s I => by
  rw [arm_eval_Dict]
  refine wpAny_bind (wpAny_standAt ?_)
  show wpAny _ _ (dictDisplay [(none, do let x ← eval a X.env; standAt pos; pure x), (none, do let x ← eval b X.env; standAt pos; pure x)]) _ _ s
  unfold dictDisplay
  simp only [List.forIn_cons, List.forIn_nil, List.isEmpty_nil, if_true, pure_bind, bind_assoc, List.nil_append]
  refine wpAny_bind (wpAny_alloc ?_)
  refine wpAny_bind (wpAny_holding (wpAny_bind (thn (h s.heap.objs.size (I.hok.fresh (Nat.le_refl _)) pins _ (dict_laid I)) ?_)))
  rintro u s1 ⟨x, H1, I1, r1, m, kvs, rfl, hm, hne, hD, hz, h1⟩
  obtain rfl : u = Value.ref m := r1
  refine wpAny_bind (wpAny_standAt (wpAny_pure ?_))
  have hz' : ([] : List (Key × V)).length + kvs.length ≤ sizeLine := by
    rw [List.length_nil, Nat.zero_add]
    exact Nat.le_trans hz (by decide)
  refine wpAny_bind (wpAny_onRaise (wpAny_tryCatch (wpAny_onRaise (wpAny_holding (merge_at I1 hD hm hne hz' fun s2 I2 => ?_)))))
  refine wpAny_bind (wpAny_holding (wpAny_bind (thn (h1 pins s2 I2) ?_)))
  rintro u3 s3 ⟨y, H3, I3, r3, m2, kvs2, rfl, hm2, hne2, hD3, hz2, q⟩
  obtain rfl : u3 = Value.ref m2 := r3
  refine wpAny_bind (wpAny_standAt (wpAny_pure ?_))
  have hz5 : (mergeK [] kvs).length + kvs2.length ≤ sizeLine := by
    have := length_mergeK kvs []
    rw [List.length_nil, Nat.zero_add] at this
    have e : 2000 ≤ sizeLine := by decide
    omega
  refine wpAny_bind (wpAny_onRaise (wpAny_tryCatch (wpAny_onRaise (wpAny_holding (merge_at I3 hD3 hm2 hne2 hz5 fun s6 I6 => ?_)))))
  exact wpAny_pure ⟨_, _, I6, rref, q⟩
end
theorem mergeK_nodup (acc : List (Key × V)) : ∀ more : List (Key × V), ((acc ++ more).map (·.1)).Nodup → mergeK acc more = acc ++ more := by
  intro more
  induction more generalizing acc with
  | nil => intro _; simp [mergeK]
  | cons p r ih =>
    intro hn
    have hv : valV acc p.1 = none := by
      cases e : valV acc p.1 with
      | none => rfl
      | some v =>
        have := valV_in e
        rw [List.map_append, List.nodup_append] at hn
        exact absurd rfl (hn.2.2 _ this _ (by simp))
    show mergeK (putK acc p.1 p.2) r = _
    rw [putK_new _ hv, ih (acc ++ [(p.1, p.2)]) (by simpa using hn)]
    simp
theorem mergeK_nil {kvs : List (Key × V)} (h : (kvs.map (·.1)).Nodup) : mergeK [] kvs = kvs := by
  have := mergeK_nodup [] kvs (by simpa using h)
  simpa using this
end K6

/-! ## KR3 -/
namespace K6
open PySem PySem.Spec PyProof.Rows L2
section
variable {X : Cx} {σ : St} {H : Hp} {Q : VK}
/-- the block of a comprehension, where it is quiet -/
abbrev blkD (X : Cx) (s : Shared) (H : Hp) (scope : Scope) (C : Addr) (cl : List (Str × Addr)) (fp : List Addr) : Cx := X.blk s H scope (compEnvC scope cl C X.env) fp
/-- what a turn of a dict comprehension does: D is the new dict -/
def DcTurn (X : Cx) (tg kx vx : Expr) (ifs : List Expr) (scope : Scope) (vs : List Nat) (σ : St) (D : Addr) (x : V) (H' : Hp) (Nx : Hp → Prop) : Prop :=
  ∀ s0 H0 C cl fp, wG (blkD X s0 H0 scope C cl fp) tg x (wipe σ vs) H' fun σ2 H2 => wipe σ2 vs = wipe σ vs ∧ ∀ s0 H0 C cl fp, wTs (blkD X s0 H0 scope C cl fp) ifs σ2 H2 fun b H3 =>
    if b = true then ∀ s0 H0 C cl fp, wE (blkD X s0 H0 scope C cl fp) kx σ2 H3 fun y H4 => ∀ s0 H0 C cl fp, wE (blkD X s0 H0 scope C cl fp) vx σ2 H4 fun z H5 => ∃ kvs k, y = kV k ∧ H5 D = some (.dK kvs) ∧ kvs.length < sizeLine ∧ Nx (upd H5 D (.dK (putK kvs k z))) else Nx H3
theorem w_dc {kx vx tg iter : Expr} {ifs : List Expr} {scope : Scope} {own : List (Str × Nat)} {pos : Pos} {wi : TI} (hq : Qk false X) (hN : X.N.Nodup) (ok : BlkOk X.N X.env.scope scope own) (hi : PI X tg iter wi)
    (h : wi σ H fun J H1 => ∀ D, H1 D = none → ∃ (n : Nat) (Pv : Nat → Hp → Prop), Pv 0 (upd H1 D (.dK [])) ∧ (∀ i H, Pv i H → i < n → J.go i H) ∧ (∀ i H, Pv i H → n ≤ i → J.stop i H) ∧
      (∀ i H x H', Pv i H → i < n → J.yld i H x H' → DcTurn X tg kx vx ifs scope (own.map (·.2)) σ D x H' (Pv (i + 1))) ∧ ∀ H, Pv n H → Q (.ref D) H)
    (hs : ∀ x, foldedSetIterable iter X.env x = pure x := by intro _; rfl) (hm : ∀ R R' : It → Hp → Prop, (∀ J H, R J H → R' J H) → wi σ H R → wi σ H R') : wE X (.DictComp kx vx [⟨tg, iter, ifs, 0⟩] scope pos) σ H Q := by
  refine PE.w (pe_dc (g := fun v σ H Q => ∀ s0 H0 C cl fp, wG (blkD X s0 H0 scope C cl fp) tg v σ H Q) (tt := fun σ H Q => ∀ s0 H0 C cl fp, wTs (blkD X s0 H0 scope C cl fp) ifs σ H Q)
    (tk := fun σ H Q => ∀ s0 H0 C cl fp, wE (blkD X s0 H0 scope C cl fp) kx σ H Q) (tv := fun σ H Q => ∀ s0 H0 C cl fp, wE (blkD X s0 H0 scope C cl fp) vx σ H Q) hq.calm hN hi ok
    (fun s H C cl fp => ⟨fun pins s1 σ H1 v u Q I r h => h s H C cl fp pins s1 u I r⟩) (fun s H C cl fp => ⟨fun pins s1 σ H1 Q I h => h s H C cl fp pins s1 I⟩)
    (fun s H C cl fp => ⟨fun pins s1 σ H1 Q I h => h s H C cl fp pins s1 I⟩) (fun s H C cl fp => ⟨fun pins s1 σ H1 Q I h => h s H C cl fp pins s1 I⟩) hs) ?_
  refine hm _ _ (fun J H1 h D hD => ?_) h
  obtain ⟨n, Pv, p0, hgo, hstop, hstep, hdone⟩ := h D hD
  refine ⟨fun i m H => m = n - i ∧ i ≤ n ∧ Pv i H, ⟨n, rfl, Nat.zero_le _, p0⟩, ?_⟩
  rintro i m H ⟨rfl, hi, p⟩
  by_cases hlt : i < n
  · refine .inr ⟨hgo i H p hlt, Pv (i + 1), fun H' p' => ⟨n - (i + 1), by omega, rfl, hlt, p'⟩, fun x H' y => ?_⟩
    exact hstep i H x H' p hlt y
  · obtain rfl : i = n := by omega
    exact .inl ⟨hstop _ H p (Nat.le_refl _), hdone H p⟩
/-- over a tuple that stays -/
theorem w_dcTup {kx vx tg e : Expr} {ifs : List Expr} {scope : Scope} {own : List (Str × Nat)} {pos : Pos} (hq : Qk false X) (hN : X.N.Nodup) (ok : BlkOk X.N X.env.scope scope own)
    (h : wE X e σ H fun v H1 => ∃ a xs, v = .ref a ∧ SqT X.K H1 a xs ∧ ∀ D, H1 D = none → ∃ Pv : Nat → Hp → Prop, Pv 0 (upd H1 D (.dK [])) ∧ (∀ i H, Pv i H → SqT X.K H a xs) ∧
      (∀ i H x, Pv i H → xs[i]? = some x → DcTurn X tg kx vx ifs scope (own.map (·.2)) σ D x H (Pv (i + 1))) ∧ ∀ H, Pv xs.length H → Q (.ref D) H)
    (hs : ∀ x, foldedSetIterable e X.env x = pure x := by intro _; rfl) : wE X (.DictComp kx vx [⟨tg, e, ifs, 0⟩] scope pos) σ H Q := by
  refine w_dc hq hN ok (pi_tup pE) (wi := iTup X.K (wE X e)) (h.mono ?_) hs fun R R' hR hw => hw.mono fun x H1 ⟨a, ex, hx, r⟩ => ⟨a, ex, hx, hR _ _ r⟩
  rintro v H1 ⟨a, xs, rfl, ha, hd⟩
  refine ⟨a, rfl, ⟨xs, ha⟩, fun D hD => ?_⟩
  obtain ⟨Pv, p0, hsq, hstep, hdone⟩ := hd D hD
  have wk := wk_tup (K := X.K) (a := a) (xs := xs)
  refine ⟨xs.length, Pv, p0, fun i H p hi => wk.go i H (hsq i H p) hi, fun i H p hi => wk.stop i H (hsq i H p) hi, fun i H x H' p hi y => ?_, hdone⟩
  obtain ⟨rfl, hx⟩ := wk.yld i H x H' (hsq i H p) hi y
  exact hstep i _ x p hx
/-- over the items of a dict that is locked -/
theorem w_dcItems {kx vx e : Expr} {elts : List Expr} {kk : Nat} {tpos apos cpos : Pos} {ifs : List Expr} {scope : Scope} {own : List (Str × Nat)} {pos : Pos} (hq : Qk false X) (hN : X.N.Nodup) (ok : BlkOk X.N X.env.scope scope own)
    (h : wE X e σ H fun v H1 => ∃ a o kvs, v = .ref a ∧ H1 a = some (.frz o (.dK kvs)) ∧ ∀ D, H1 D = none → ∃ Pv : Nat → Hp → Prop, Pv 0 (upd H1 D (.dK [])) ∧ (∀ i H, Pv i H → H a = some (.frz o (.dK kvs))) ∧
      (∀ i H T k v, Pv i H → kvs[i]? = some (k, v) → H T = none → DcTurn X (.Tuple elts kk tpos) kx vx ifs scope (own.map (·.2)) σ D (.ref T) (upd H T (.tup [kV k, v])) (Pv (i + 1))) ∧ ∀ H, Pv kvs.length H → Q (.ref D) H)
    (hbase : attributeBase e "items" X.env (eval e X.env) = eval e X.env := by rfl) (hline : (apos.endLine == cpos.line) = true := by rfl)
    (hs : ∀ x, foldedSetIterable (.Call (.Attribute e "items" apos) [] [] cpos) X.env x = pure x := by intro _; rfl) : wE X (.DictComp kx vx [⟨.Tuple elts kk tpos, .Call (.Attribute e "items" apos) [] [] cpos, ifs, 0⟩] scope pos) σ H Q := by
  refine w_dc hq hN ok (pi_items pE hbase hline) (wi := iItems (wE X e)) (h.mono ?_) hs fun R R' hR hw => hw.mono fun x H1 ⟨d, o, kvs, ex, hx, r⟩ => ⟨d, o, kvs, ex, hx, hR _ _ r⟩
  rintro v H1 ⟨a, o, kvs, rfl, ha, hd⟩
  refine ⟨a, o, kvs, rfl, ha, fun D hD => ?_⟩
  obtain ⟨Pv, p0, hsq, hstep, hdone⟩ := hd D hD
  refine ⟨kvs.length, Pv, p0, fun i H p hi => ⟨hsq i H p, hi⟩, fun i H p hi => ⟨hsq i H p, hi⟩, fun i H x H' p hi y => ?_, hdone⟩
  obtain ⟨T, k, v, hk, rfl, hT, rfl⟩ := y
  exact hstep i H T k v p hk hT
/-! ### a dict that is done is locked -/
theorem wE_lock {e : Expr} {d : Addr} {u : HO} (h : H d = some u) (mu : Mut (some u)) (q : ∀ o, wE X e σ (upd H d (.frz o u)) Q) : wE X e σ H Q := fun pins s I => by
  obtain ⟨od, I'⟩ := I.lock h mu
  exact q od pins s I'
theorem wS_lock {st : Stmt} {D : Ends} {d : Addr} {u : HO} (h : H d = some u) (mu : Mut (some u)) (q : ∀ o, wS X st D σ (upd H d (.frz o u))) : wS X st D σ H := fun pins s I => by
  obtain ⟨od, I'⟩ := I.lock h mu
  exact q od pins s I'
theorem wB_lock {st : List Stmt} {D : Ends} {d : Addr} {u : HO} (h : H d = some u) (mu : Mut (some u)) (q : ∀ o, wB X st D σ (upd H d (.frz o u))) : wB X st D σ H := fun pins s I => by
  obtain ⟨od, I'⟩ := I.lock h mu
  exact q od pins s I'
/-- a value that comes is a dict or a list that is done: locked at once -/
theorem wE_locked {e : Expr} (h : wE X e σ H fun v H1 => ∃ d u, v = .ref d ∧ H1 d = some u ∧ Mut (some u) ∧ ∀ o, Q (.ref d) (upd H1 d (.frz o u))) : wE X e σ H Q := fun pins s I => by
  refine thn (h pins s I) fun w s1 ⟨v, H1, I1, r, d, u, ev, hd, mu, q⟩ => ?_
  subst ev
  obtain ⟨od, I2⟩ := I1.lock hd mu
  exact ⟨_, _, I2, r, q od⟩
end
/-- growth by locking a thing that is new -/
theorem Gr.lock {H H1 : Hp} {d : Addr} {u : HO} (g : Gr [] H H1) (hd : H d = none) (o : HO) : Gr [] H (upd H1 d o) := g.put (.inl hd)
end K6

/-! ## M1 -/
namespace K6
open PySem PySem.Spec PyProof.Rows L2
/-! ### lists of pairs, by names -/
abbrev Tm := List (Str × Str)
section
variable {β : Type}
def valA (ts : List (Str × β)) (n : Str) : Option β := (ts.find? fun p => decide (p.1 = n)).map (·.2)
def putA (ts : List (Str × β)) (n : Str) (c : β) : List (Str × β) := if (ts.any fun p => decide (p.1 = n)) = true then ts.map (fun p => if p.1 = n then (p.1, c) else p) else ts ++ [(n, c)]
def mergeA (ts mo : List (Str × β)) : List (Str × β) := mo.foldl (fun acc p => putA acc p.1 p.2) ts
abbrev nms (ts : List (Str × β)) : List Str := ts.map (·.1)
theorem valA_pos {p : Str × β} {r : List (Str × β)} {k : Str} (e : p.1 = k) : valA (p :: r) k = some p.2 := by simp [valA, List.find?_cons, e]
theorem valA_neg {p : Str × β} {r : List (Str × β)} {k : Str} (e : ¬ p.1 = k) : valA (p :: r) k = valA r k := by simp [valA, List.find?_cons, e]
theorem valA_mem {n : Str} : ∀ {ts : List (Str × β)}, (valA ts n).isSome = true ↔ n ∈ nms ts
  | [] => by simp [valA]
  | p :: r => by
    by_cases e : p.1 = n
    · simp [valA_pos e, e]
    · rw [valA_neg e, valA_mem]
      simp [Ne.symm e]
theorem valA_none {n : Str} {ts : List (Str × β)} : valA ts n = none ↔ n ∉ nms ts := by
  rw [← valA_mem (ts := ts)]
  cases valA ts n <;> simp
theorem valA_at {ts : List (Str × β)} {n : Str} {c : β} (h : valA ts n = some c) : (n, c) ∈ ts := by
  unfold valA at h
  obtain ⟨p, hp, rfl⟩ := Option.map_eq_some_iff.mp h
  have := List.find?_some hp
  have hm := List.mem_of_find?_eq_some hp
  rw [decide_eq_true_iff] at this
  subst this
  exact hm
theorem valA_of {n : Str} {c : β} : ∀ {ts : List (Str × β)}, (nms ts).Nodup → (n, c) ∈ ts → valA ts n = some c
  | [], _, h => absurd h (by simp)
  | p :: r, hn, h => by
    have hn' := List.nodup_cons.mp hn
    rcases List.mem_cons.mp h with e | h
    · subst e; exact valA_pos rfl
    · have : p.1 ≠ n := fun e => hn'.1 (by show p.1 ∈ _; rw [e]; exact List.mem_map.mpr ⟨_, h, rfl⟩)
      rw [valA_neg this]
      exact valA_of hn'.2 h
theorem any_mem {ts : List (Str × β)} {n : Str} : (ts.any fun p => decide (p.1 = n)) = true ↔ n ∈ nms ts := by
  rw [List.any_eq_true]
  constructor
  · rintro ⟨p, hp, e⟩; exact List.mem_map.mpr ⟨p, hp, of_decide_eq_true e⟩
  · intro h
    obtain ⟨p, hp, e⟩ := List.mem_map.mp h
    exact ⟨p, hp, decide_eq_true e⟩
theorem nms_put {ts : List (Str × β)} {n : Str} {c : β} : nms (putA ts n c) = if n ∈ nms ts then nms ts else nms ts ++ [n] := by
  unfold putA
  by_cases h : n ∈ nms ts
  · rw [if_pos (any_mem.mpr h), if_pos h]
    unfold nms
    rw [List.map_map]
    refine List.map_congr_left fun p _ => ?_
    simp only [Function.comp]
    split <;> rfl
  · rw [if_neg (fun z => h (any_mem.mp z)), if_neg h]
    simp [nms]
theorem nd_put {ts : List (Str × β)} {n : Str} {c : β} (h : (nms ts).Nodup) : (nms (putA ts n c)).Nodup := by
  rw [nms_put]
  split
  · exact h
  · rename_i hn
    rw [List.nodup_append]
    exact ⟨h, by simp, fun a ha b hb e => hn (by rw [List.mem_singleton.mp hb] at e; rw [← e]; exact ha)⟩
theorem mem_nms_put {ts : List (Str × β)} {n m : Str} {c : β} : m ∈ nms (putA ts n c) ↔ m = n ∨ m ∈ nms ts := by
  rw [nms_put]
  split
  · rename_i h
    constructor
    · exact .inr
    · rintro (rfl | h')
      · exact h
      · exact h'
  · rw [List.mem_append, List.mem_singleton]; exact Or.comm
theorem mem_put {ts : List (Str × β)} {n : Str} {c : β} {p : Str × β} (h : p ∈ putA ts n c) : p ∈ ts ∨ p = (n, c) := by
  unfold putA at h
  split at h
  · obtain ⟨q, hq, e⟩ := List.mem_map.mp h
    split at e
    · rename_i e'
      subst e'
      exact .inr e.symm
    · subst e; exact .inl hq
  · rcases List.mem_append.mp h with h | h
    · exact .inl h
    · exact .inr (List.mem_singleton.mp h)
end
/-! ### what a dict of the studio's holds, and one of the law's -/
theorem paired_get' {α β : Type} {F : α → β → Prop} : ∀ {xs : List α} {ys : List β}, Paired F xs ys → ∀ {i : Nat} {x : α}, xs[i]? = some x → ∃ y, ys[i]? = some y ∧ F x y
  | _, _, .nil, _, _, h => by simp at h
  | _, _, .cons r _, 0, x, h => by
    simp at h
    subst h
    exact ⟨_, rfl, r⟩
  | _, _, .cons _ t, i + 1, x, h => paired_get' t (i := i) (by simpa using h)
theorem paired_app {α β : Type} {F : α → β → Prop} : ∀ {xs xs' : List α} {ys ys' : List β}, Paired F xs ys → Paired F xs' ys' → Paired F (xs ++ xs') (ys ++ ys')
  | _, _, _, _, .nil, g => g
  | _, _, _, _, .cons r t, g => .cons r (paired_app t g)
/-- the dict's entries are those of ts, each value by R -/
abbrev DL (R : V → Str → Prop) : List (Key × V) → Tm → Prop := Paired fun kv p => kv.1 = Sum.inr p.1 ∧ R kv.2 p.2
section
variable {R R' : V → Str → Prop} {kvs more : List (Key × V)} {ts mo : Tm} {n c : Str} {v : V}
theorem DL.length (h : DL R kvs ts) : kvs.length = ts.length := Paired.length h
theorem DL.mono (h : DL R kvs ts) (k : ∀ v c, R v c → R' v c) : DL R' kvs ts := Paired.mapP h fun a b z => ⟨z.1, k _ _ z.2⟩
theorem DL.keys (h : DL R kvs ts) : kvs.map (·.1) = (nms ts).map Sum.inr := by
  induction h with
  | nil => rfl
  | cons r _ ih => simp only [List.map_cons, r.1, ih]
theorem DL.nodup (h : DL R kvs ts) (hn : (nms ts).Nodup) : (kvs.map (·.1)).Nodup := by
  rw [h.keys]
  unfold List.Nodup
  rw [List.pairwise_map]
  exact List.Pairwise.imp (fun {a b} (h : a ≠ b) e => h (Sum.inr.inj e)) hn
theorem DL.get (h : DL R kvs ts) {i : Nat} {k : Key} {v : V} (e : kvs[i]? = some (k, v)) : ∃ n c, ts[i]? = some (n, c) ∧ k = .inr n ∧ R v c := by
  obtain ⟨⟨n, c⟩, e2, r⟩ := paired_get' h e
  exact ⟨n, c, e2, r.1, r.2⟩
theorem DL.val (h : DL R kvs ts) (n : Str) : (valA ts n = none ∧ valV kvs (.inr n) = none) ∨ ∃ v c, valV kvs (.inr n) = some v ∧ valA ts n = some c ∧ R v c := by
  induction h with
  | nil => exact .inl ⟨rfl, rfl⟩
  | @cons kv p kvs ts r _ ih =>
    by_cases e : p.1 = n
    · refine .inr ⟨kv.2, p.2, valV_pos (by rw [r.1, e]), valA_pos e, r.2⟩
    · rw [valA_neg e, valV_neg (by rw [r.1]; exact fun z => e (Sum.inr.inj z))]
      exact ih
theorem DL.isSome (h : DL R kvs ts) (n : Str) : (valV kvs (.inr n)).isSome = (valA ts n).isSome := by
  rcases h.val n with ⟨a, b⟩ | ⟨v, c, a, b, _⟩ <;> rw [a, b] <;> rfl
theorem DL.put (h : DL R kvs ts) (r : R v c) : DL R (putK kvs (.inr n) v) (putA ts n c) := by
  have ha : (kvs.any fun kv => decide (kv.1 = Sum.inr n)) = ts.any fun p => decide (p.1 = n) := by
    rw [valV_any, h.isSome n]
    rw [Bool.eq_iff_iff, any_mem, valA_mem]
  unfold putK putA
  rw [ha]
  split
  · clear ha
    rename_i hh
    clear hh
    induction h with
    | nil => exact .nil
    | @cons kv p kvs ts rr _ ih =>
      refine .cons ?_ ih
      show (if kv.1 = Sum.inr n then (kv.1, v) else kv).1 = Sum.inr (if p.1 = n then (p.1, c) else p).1 ∧ R (if kv.1 = Sum.inr n then (kv.1, v) else kv).2 (if p.1 = n then (p.1, c) else p).2
      by_cases e : p.1 = n
      · rw [if_pos (show kv.1 = Sum.inr n by rw [rr.1, e]), if_pos e]
        exact ⟨rr.1, r⟩
      · rw [if_neg (show ¬ kv.1 = Sum.inr n by rw [rr.1]; exact fun z => e (Sum.inr.inj z)), if_neg e]
        exact rr
  · exact paired_app h (.cons ⟨rfl, r⟩ .nil)
theorem DL.merge (h : DL R kvs ts) (g : DL R more mo) : DL R (mergeK kvs more) (mergeA ts mo) := by
  unfold DL at g
  induction g generalizing kvs ts with
  | nil => exact h
  | @cons kv p more mo r _ ih =>
    have : DL R (putK kvs kv.1 kv.2) (putA ts p.1 p.2) := by rw [r.1]; exact h.put r.2
    exact ih this
theorem DL.filter (h : DL R kvs ts) (f : Key → Bool) (g : Str → Bool) (e : ∀ n, f (.inr n) = g n) : DL R (kvs.filter fun kv => f kv.1) (ts.filter fun p => g p.1) := by
  induction h with
  | nil => exact .nil
  | @cons kv p kvs ts r _ ih =>
    rw [List.filter_cons, List.filter_cons, r.1, e]
    split
    · exact .cons r ih
    · exact ih
end
end K6

/-! ## M2 -/
namespace K6
open PySem PySem.Spec PyProof.Rows L2
/-! ### names -/
def isLet (n : Nat) : Bool := decide (97 ≤ n) && decide (n ≤ 122)
/-- a name -/
def NameOk (z : Str) : Prop := 1 ≤ z.cps.size ∧ z.cps.size ≤ 8 ∧ z.cps.toList.all isLet = true
def Univ : List Str := ["a", "side", "longname", "z", "trial", "new", "deep", "only", "nobody"]
def Base4 : List Str := ["a", "side", "longname", "z"]
def Users : List Str := ["ann", "bob", "guest", "zoe"]
instance (z : Str) : Decidable (NameOk z) := by unfold NameOk; infer_instance
theorem univ_ok : ∀ n ∈ Univ, NameOk n := by decide +kernel
theorem users_ok : ∀ n ∈ Users, NameOk n := by decide +kernel
theorem base_univ : ∀ n ∈ Base4, n ∈ Univ := by decide +kernel
/-! ### deeds -/
inductive Ch where
  | put (n c : Str)
  | join (n : Str) (ps : List Str)
  | drop (n : Str)
def Ch.nm : Ch → Str
  | .put n _ => n
  | .join n _ => n
  | .drop n => n
inductive Rs where
  | ok (ts : Tm)
  | unk (n : Str)
  | lim
def joinS (l : List Str) : Str := ⟨(l.flatMap fun x => x.cps.toList).toArray⟩
def cat (ts : Tm) (ps : List Str) : Str := joinS (ps.map fun p => (valA ts p).getD ⟨#[]⟩)
def miss (ts : Tm) (ps : List Str) : Option Str := ps.find? fun p => !(valA ts p).isSome
def run (ts : Tm) : Ch → Rs
  | .put n c => .ok (putA ts n c)
  | .join n ps => match miss ts ps with
    | some m => .unk m
    | none => if (cat ts ps).cps.size ≤ 200 then .ok (putA ts n (cat ts ps)) else .lim
  | .drop n => if (valA ts n).isSome = true then .ok (ts.filter fun p => decide (p.1 ≠ n)) else .unk n
def runs : Tm → List Ch → Rs
  | ts, [] => .ok ts
  | ts, c :: cs => match run ts c with
    | .ok ts' => runs ts' cs
    | r => r
/-- the deeds that are done here -/
def ChOk : Ch → Prop
  | .put n c => n ∈ Univ ∧ Cmd c
  | .join n ps => n ∈ Univ ∧ ps ≠ [] ∧ ps.length ≤ 5 ∧ ∀ p ∈ ps, p ∈ Univ
  | .drop n => n ∈ Univ
structure Wf (ts : Tm) : Prop where
  nd : (nms ts).Nodup
  un : ∀ n ∈ nms ts, n ∈ Univ
  cm : ∀ p ∈ ts, Cmd p.2
theorem Wf.len {ts : Tm} (h : Wf ts) : ts.length ≤ 9 := by
  have := h.nd.length_le_of_subset (l₂ := Univ) h.un
  rw [List.length_map] at this
  exact this
theorem Wf.nil : Wf [] := ⟨List.nodup_nil, fun _ h => absurd h (by simp), fun _ h => absurd h (by simp)⟩
theorem Wf.put {ts : Tm} {n c : Str} (h : Wf ts) (hn : n ∈ Univ) (hc : Cmd c) : Wf (putA ts n c) := by
  refine ⟨nd_put h.nd, fun m hm => ?_, fun p hp => ?_⟩
  · rcases mem_nms_put.mp hm with rfl | hm
    · exact hn
    · exact h.un m hm
  · rcases mem_put hp with hp | rfl
    · exact h.cm p hp
    · exact hc
theorem Wf.filter {ts : Tm} (h : Wf ts) (f : Str × Str → Bool) : Wf (ts.filter f) := by
  have hs : (ts.filter f).Sublist ts := List.filter_sublist
  exact ⟨h.nd.sublist (hs.map _), fun n hn => h.un n ((hs.map _).subset hn), fun p hp => h.cm p (hs.subset hp)⟩
theorem Wf.val {ts : Tm} (h : Wf ts) {n c : Str} (e : valA ts n = some c) : Cmd c := h.cm _ (valA_at e)
theorem joinS_list (l : List Str) : (joinS l).cps.toList = l.flatMap fun x => x.cps.toList := by simp [joinS]
theorem joinS_snoc (l : List Str) (c : Str) : joinS (l ++ [c]) = joinS l ++ c := by
  have e : (joinS (l ++ [c])).cps.toList = (joinS l ++ c).cps.toList := by
    rw [str_app_list, joinS_list, joinS_list]
    simp
  have : (joinS (l ++ [c])).cps = (joinS l ++ c).cps := Array.toList_inj.mp e
  cases h1 : joinS (l ++ [c])
  cases h2 : joinS l ++ c
  rw [h1, h2] at this
  simp at this
  rw [this]
theorem joinS_one (c : Str) : joinS [c] = c := by
  cases c
  simp [joinS]
theorem joinS_le (l m : List Str) : (joinS l).cps.size ≤ (joinS (l ++ m)).cps.size := by
  rw [← Array.length_toList, ← Array.length_toList, joinS_list, joinS_list, List.flatMap_append, List.length_append]
  omega
theorem cat_cmd {ts : Tm} (h : Wf ts) (ps : List Str) : ∀ n ∈ (cat ts ps).cps.toList, isCmd n = true := by
  intro n hn
  unfold cat at hn
  rw [joinS_list] at hn
  obtain ⟨x, hx, hn⟩ := List.mem_flatMap.mp hn
  obtain ⟨p, _, rfl⟩ := List.mem_map.mp hx
  cases e : valA ts p with
  | none => rw [e] at hn; simp at hn
  | some c => rw [e] at hn; exact (h.val e).ok n hn
theorem run_wf {ts ts' : Tm} {c : Ch} (h : Wf ts) (hc : ChOk c) (e : run ts c = .ok ts') : Wf ts' := by
  cases c with
  | put n c => cases e; exact h.put hc.1 hc.2
  | join n ps =>
    simp only [run] at e
    split at e
    · cases e
    · split at e
      · cases e
        rename_i hz
        exact h.put hc.1 ⟨hz, cat_cmd h ps⟩
      · cases e
  | drop n =>
    simp only [run] at e
    split at e
    · cases e; exact h.filter _
    · cases e
theorem runs_wf {cs : List Ch} : ∀ {ts ts' : Tm}, Wf ts → (∀ c ∈ cs, ChOk c) → runs ts cs = .ok ts' → Wf ts' := by
  induction cs with
  | nil => intro ts ts' h _ e; cases e; exact h
  | cons c cs ih =>
    intro ts ts' h hc e
    simp only [runs] at e
    split at e
    · rename_i t1 e1
      exact ih (run_wf h (hc c List.mem_cons_self) e1) (fun c h => hc c (List.mem_cons_of_mem _ h)) e
    · rename_i r hr
      exact absurd e (hr _)
/-! ### sorted texts -/
theorem rising_pw : ∀ (l : List Str) (p : Str), risingS p l = true → (p :: l).Pairwise fun a b => a.cps.toList ≤ b.cps.toList
  | [], p, _ => by simp
  | x :: r, p, h => by
    simp only [risingS, Bool.and_eq_true, Bool.not_eq_true', ltCps_eq, decide_eq_false_iff_not, List.not_lt] at h
    have ih := rising_pw r x h.2
    refine List.pairwise_cons.mpr ⟨fun y hy => ?_, ih⟩
    rcases List.mem_cons.mp hy with rfl | hy
    · exact h.1
    · exact List.le_trans h.1 (List.rel_of_pairwise_cons ih hy)
theorem sorted_pw {l : List Str} (h : sortedS l = true) : l.Pairwise fun a b => a.cps.toList ≤ b.cps.toList := by
  cases l with
  | nil => exact List.Pairwise.nil
  | cons x r => exact rising_pw r x h
theorem str_ext {a b : Str} (h : a.cps.toList = b.cps.toList) : a = b := by
  cases a
  cases b
  congr
  exact Array.toList_inj.mp h
theorem sorted_uniq {a b : List Str} (ha : sortedS a = true) (hb : sortedS b = true) (p : a.Perm b) : a = b :=
  List.Perm.eq_of_pairwise (fun x y _ _ h1 h2 => str_ext (List.le_antisymm h1 h2)) (sorted_pw ha) (sorted_pw hb) p
/-- ys: the members of xs, once each, in order -/
structure IsSet (ys xs : List Str) : Prop where
  so : sortedS ys = true
  nd : ys.Nodup
  mem : ∀ a, a ∈ ys ↔ a ∈ xs
theorem IsSet.uniq {a b xs ys : List Str} (h : IsSet a xs) (g : IsSet b ys) (e : ∀ z, z ∈ xs ↔ z ∈ ys) : a = b :=
  sorted_uniq h.so g.so ((List.perm_ext_iff_of_nodup h.nd g.nd).mpr fun z => (h.mem z).trans ((e z).trans (g.mem z).symm))
theorem IsSet.of {ys xs : List Str} (h : ys.Perm xs) (s : sortedS ys = true) (n : xs.Nodup) : IsSet ys xs := ⟨s, h.nodup_iff.mpr n, fun a => h.mem_iff⟩
end K6

/-! ## S0 -/
namespace K6
open PySem PySem.Spec PyProof.Rows L2
abbrev cS (K : PySem.W.Frag) : Addr := ga K "Studio"
abbrev cT (K : PySem.W.Frag) : Addr := ga K "Step"
abbrev cR (K : PySem.W.Frag) : Addr := ga K "Trial"
/-- these fields are those of a thing that never changes -/
def fixd (ns : List Str) : Bool := decide (ns = ([Str.ofString "own_net", Str.ofString "own_commands", Str.ofString "own_moves", Str.ofString "own_places"] : List Str)) || decide (ns = ([Str.ofString "user", Str.ofString "touched", Str.ofString "before"] : List Str))
/-- what never changes here -/
def Pm (K : PySem.W.Frag) : HO → Prop
  | .tup _ => True
  | .frz _ _ => True
  | .ext _ => True
  | .ins _ _ fs => fixd (fs.map (·.1)) = true
  | _ => False
structure Gx (K : PySem.W.Frag) (H H' : Hp) : Prop where
  keep : ∀ a o, Pm K o → H a = some o → H' a = some o
  free : ∀ a, H' a = none → H a = none
section
variable {K : PySem.W.Frag} {H H1 H2 : Hp} {M : List Addr} {a p d l t x : Addr} {xs : List V} {k c : Str} {ts : Tm}
theorem Gx.refl : Gx K H H := ⟨fun _ _ _ h => h, fun _ h => h⟩
theorem Gx.trans (g : Gx K H H1) (h : Gx K H1 H2) : Gx K H H2 := ⟨fun a o m e => h.keep a o m (g.keep a o m e), fun a e => g.free a (h.free a e)⟩
theorem Gr.gx (g : Gr M H H1) (hm : ∀ a ∈ M, ∀ o, H a = some o → ¬ Pm K o) : Gx K H H1 := ⟨fun a o m e => g.keep a o (fun z => hm a z o e m) e, g.free⟩
theorem Gr.gx0 (g : Gr [] H H1) : Gx K H H1 := g.gx fun a h => absurd h (by simp)
theorem Gx.put {o : HO} (g : Gx K H H1) (hp : ∀ o, H1 p = some o → ¬ Pm K o) : Gx K H (upd H1 p o) := by
  refine g.trans ⟨fun a u m h => ?_, fun a h => ?_⟩
  · rw [upd_ne]
    · exact h
    · rintro rfl; exact hp u h m
  · by_cases e : a = p
    · subst e; rw [upd_same] at h; cases h
    · rwa [upd_ne e] at h
/-- an instance that may change is written -/
theorem Gx.fld {o : HO} {C dx : Addr} {fs : List (Str × V)} (g : Gx K H H1) (hp : H1 p = some (.ins C dx fs)) (hf : fixd (fs.map (·.1)) = false) : Gx K H (upd H1 p o) := g.put fun o e m => by
  rw [hp] at e
  cases e
  rw [show fixd (fs.map (·.1)) = true from m] at hf
  cases hf
theorem Gx.new {o : HO} (g : Gx K H H1) (hp : H1 p = none) : Gx K H (upd H1 p o) := g.put fun o e => by rw [hp] at e; cases e
theorem Gx.sqt (g : Gx K H H1) (h : SqT K H a xs) : SqT K H1 a xs := by
  rcases h with (h | ⟨u, h⟩) | h
  · exact .inl (.inl (g.keep _ _ trivial h))
  · exact .inl (.inr ⟨u, g.keep _ _ trivial h⟩)
  · exact .inr h
theorem WalkAt.gx (h : WalkAt K H p k c) (g : Gx K H H1) : WalkAt K H1 p k c := by
  obtain ⟨dx, m, q, h⟩ := h
  exact ⟨dx, m, q, g.keep _ _ (show fixd _ = true by rfl) h⟩
/-! ### dicts of walks, of texts -/
abbrev RW (K : PySem.W.Frag) (H : Hp) (k : Str) : V → Str → Prop := fun v c => ∃ p, v = .ref p ∧ WalkAt K H p k c
abbrev RT : V → Str → Prop := fun v c => v = .str c
def WD (K : PySem.W.Frag) (H : Hp) (d : Addr) (k : Str) (ts : Tm) : Prop := ∃ o kvs, H d = some (.frz o (.dK kvs)) ∧ DL (RW K H k) kvs ts
def TD (H : Hp) (d : Addr) (ts : Tm) : Prop := ∃ o kvs, H d = some (.frz o (.dK kvs)) ∧ DL RT kvs ts
theorem RW.gx {v : V} (h : RW K H k v c) (g : Gx K H H1) : RW K H1 k v c := by
  obtain ⟨p, e, h⟩ := h
  exact ⟨p, e, h.gx g⟩
theorem WD.gx (h : WD K H d k ts) (g : Gx K H H1) : WD K H1 d k ts := by
  obtain ⟨o, kvs, h, r⟩ := h
  exact ⟨o, kvs, g.keep _ _ trivial h, r.mono fun v c z => z.gx g⟩
theorem TD.gx (h : TD H d ts) (g : Gx K H H1) : TD H1 d ts := by
  obtain ⟨o, kvs, h, r⟩ := h
  exact ⟨o, kvs, g.keep _ _ trivial h, r⟩
/-! ### steps, studios -/
abbrev Sa := Str × List Str × Tm
def StepAt (K : PySem.W.Frag) (H : Hp) (p : Addr) (k : Str) (st : Sa) : Prop :=
  ∃ dx t d, H p = some (.ins (cT K) dx [("user", .str st.1), ("touched", .ref t), ("before", .ref d)]) ∧ SqT K H t (st.2.1.map V.str) ∧ WD K H d k st.2.2
def SL (K : PySem.W.Frag) (H : Hp) (l : Addr) (k : Str) (ss : List Sa) : Prop := ∃ o xs, H l = some (.frz o (.lst xs)) ∧ Paired (fun v st => ∃ p, v = V.ref p ∧ StepAt K H p k st) xs ss
def stf (k : Str) (d l : Addr) : List (Str × V) := [("own_net", .str k), ("walks", .ref d), ("steps", .ref l)]
def Std (K : PySem.W.Frag) (H : Hp) (x : Addr) (k : Str) (ts : Tm) (ss : List Sa) : Prop :=
  ∃ dx d l, H x = some (.ins (cS K) dx (stf k d l)) ∧ WD K H d k ts ∧ SL K H l k ss
theorem StepAt.gx {st : Sa} (h : StepAt K H p k st) (g : Gx K H H1) : StepAt K H1 p k st := by
  obtain ⟨dx, t, d, h, ht, hd⟩ := h
  exact ⟨dx, t, d, g.keep _ _ (show fixd _ = true by rfl) h, g.sqt ht, hd.gx g⟩
theorem SL.gx {ss : List Sa} (h : SL K H l k ss) (g : Gx K H H1) : SL K H1 l k ss := by
  obtain ⟨o, xs, h, r⟩ := h
  exact ⟨o, xs, g.keep _ _ trivial h, Paired.mapP r fun v st ⟨p, e, z⟩ => ⟨p, e, z.gx g⟩⟩
/-- a studio that is not written -/
theorem Std.gr {ss : List Sa} (h : Std K H x k ts ss) (g : Gr M H H1) (hx : x ∉ M) (gx : Gx K H H1) : Std K H1 x k ts ss := by
  obtain ⟨dx, d, l, h, hd, hl⟩ := h
  exact ⟨dx, d, l, g.keep _ _ hx h, hd.gx gx, hl.gx gx⟩
theorem Std.gr0 {ss : List Sa} (h : Std K H x k ts ss) (g : Gr [] H H1) : Std K H1 x k ts ss := h.gr g (by simp) g.gx0
/-! ### the law's past -/
def PastAt (K : PySem.W.Frag) (H : Hp) (p : Addr) (e : Sa) : Prop := ∃ t d, SqT K H p [.str e.1, .ref t, .ref d] ∧ SqT K H t (e.2.1.map V.str) ∧ TD H d e.2.2
abbrev PsL (K : PySem.W.Frag) (H : Hp) : List V → List Sa → Prop := Paired fun v e => ∃ p, v = V.ref p ∧ PastAt K H p e
def PL (K : PySem.W.Frag) (H : Hp) (l : Addr) (ps : List Sa) : Prop := ∃ o xs, H l = some (.frz o (.lst xs)) ∧ PsL K H xs ps
theorem PastAt.gx {e : Sa} (h : PastAt K H p e) (g : Gx K H H1) : PastAt K H1 p e := by
  obtain ⟨t, d, h, ht, hd⟩ := h
  exact ⟨t, d, g.sqt h, g.sqt ht, hd.gx g⟩
theorem PsL.gx {ps : List Sa} (h : PsL K H xs ps) (g : Gx K H H1) : PsL K H1 xs ps := Paired.mapP h fun v st ⟨p, e, z⟩ => ⟨p, e, z.gx g⟩
theorem PL.gx {ps : List Sa} (h : PL K H l ps) (g : Gx K H H1) : PL K H1 l ps := by
  obtain ⟨o, xs, h, r⟩ := h
  exact ⟨o, xs, g.keep _ _ trivial h, r.gx g⟩
end
/-- ns: the names, in their order, with what ts gives them -/
def look (ns : List Str) (ts : Tm) : Tm := ns.filterMap fun n => (valA ts n).map fun c => (n, c)
def stp (e : Sa) : Sa := (e.1, e.2.1, look e.2.1 e.2.2)
structure WfE (e : Sa) : Prop where
  us : e.1 ∈ Users
  nd : e.2.1.Nodup
  un : ∀ n ∈ e.2.1, n ∈ Univ
  bf : Wf e.2.2
theorem nms_look (ts : Tm) : ∀ ns : List Str, nms (look ns ts) = ns.filter fun n => (valA ts n).isSome
  | [] => rfl
  | n :: ns => by
    have ih := nms_look ts ns
    unfold look nms at ih ⊢
    rw [List.filterMap_cons]
    cases e : valA ts n with
    | none => simp [e, ih]
    | some c => simp [e, ih]
theorem Wf.look {ts : Tm} (h : Wf ts) {ns : List Str} (hn : ns.Nodup) : Wf (look ns ts) := by
  refine ⟨by rw [nms_look]; exact hn.filter _, fun n hm => ?_, fun p hp => ?_⟩
  · rw [nms_look] at hm
    exact h.un n (valA_mem.mp (List.mem_filter.mp hm).2)
  · unfold K6.look at hp
    obtain ⟨n, _, e⟩ := List.mem_filterMap.mp hp
    obtain ⟨c, hc, rfl⟩ := Option.map_eq_some_iff.mp e
    exact h.val hc
theorem WfE.stp {e : Sa} (h : WfE e) : WfE (stp e) := ⟨h.us, h.nd, h.un, h.bf.look h.nd⟩
end K6

/-! ## S1 -/
namespace K6
open PySem PySem.Spec PyProof.Rows L2
structure Ts (K : PySem.W.Frag) (w : World) (mg : Str → Option Value) : Prop extends Tz K w mg where
  letG : ∃ t, mg "LETTERS" = some (.str "abcdefghijklmnopqrstuvwxyz" t)
  maxG : ∃ t, mg "MAX_LETTERS" = some (.int 8 t)
  gstG : ∃ t, mg "GUEST" = some (.str "guest" t)
  tupN : mg "tuple" = none
  d36 : Dt K mg "is_name" 36
  d37 : Dt K mg "check_name" 37
  d38 : Dt K mg "check_user" 38
  d39 : Dt K mg "has_change_form" 39
  d40 : Dt K mg "joined" 40
  d41 : Dt K mg "fitting" 41
  d42 : Dt K mg "changed" 42
/-! ### dicts, one piece of text at a time -/
section
variable {X : Cx} {σ : St} {H : Hp} {Q : VK} {QT : Bool → Hp → Prop} {o i e a b c : Expr} {pos p : Pos} {k : Nat}
theorem w_dget (hr : L2H.RoomH k X.A) (h : wE X o σ H fun x H1 => wE X i σ H1 fun y H2 => ∃ d v, x = .ref d ∧ DGet H2 d y (some v) ∧ Q v H2) (hs : NoSl i := by exact fun _ _ => rfl) : wE X (.Subscript o i pos) σ H Q :=
  PE.w (pe_dget (by have := RoomH.u hr; omega) pE pE hs) h
theorem w_din (hr : L2H.RoomH k X.A) (h : wE X i σ H fun y H1 => wE X o σ H1 fun x H2 => ∃ d r, x = .ref d ∧ DGet H2 d y r ∧ Q (.bl r.isSome) H2) (hm : behindInMarks .In o = false := by rfl) : wE X (.Compare i [.In] [o] pos) σ H Q :=
  PE.w (L2.pe_cmp (pc_din (by have := RoomH.u hr; omega) pE pE) hm) h
theorem wt_din (hr : L2H.RoomH k X.A) (h : wE X i σ H fun y H1 => wE X o σ H1 fun x H2 => ∃ d r, x = .ref d ∧ DGet H2 d y r ∧ QT r.isSome H2) (hm : behindInMarks .In o = false := by rfl) : wT X (.Compare i [.In] [o] pos) σ H QT :=
  PT.w (L2.pt_cmp (pc_din (by have := RoomH.u hr; omega) pE pE) hm) (h.mono fun y H1 z => z.mono fun x H2 ⟨d, r, e, g, q⟩ => ⟨d, r, e, g, _, rfl, q⟩)
theorem wt_dnotin (hr : L2H.RoomH k X.A) (h : wE X i σ H fun y H1 => wE X o σ H1 fun x H2 => ∃ d r, x = .ref d ∧ DGet H2 d y r ∧ QT (!r.isSome) H2) (hm : behindInMarks .NotIn o = false := by rfl) : wT X (.Compare i [.NotIn] [o] pos) σ H QT :=
  PT.w (L2.pt_cmp (pc_dnotin (by have := RoomH.u hr; omega) pE pE) hm) (h.mono fun y H1 z => z.mono fun x H2 ⟨d, r, e, g, q⟩ => ⟨d, r, e, g, _, rfl, q⟩)
theorem w_chain {op op' : CmpOp} {r r' : R2} (ho : OpR X (compareOp op) r) (ho' : OpR X (compareOp op') r')
    (h : wE X a σ H fun x H1 => wE X b σ H1 fun y H2 => r x y H2 fun z H3 => ∃ k, z = .bl k ∧ if k = true then wE X c σ H3 (fun w' H4 => r' y w' H4 Q) else Q (.bl false) H3)
    (hm : lastMarks [op, op'] [b, c] = false := by with_unfolding_all rfl) : wE X (.Compare a [op, op'] [b, c] pos) σ H Q := PE.w (pe_chain ho ho' pE pE pE hm) h
theorem w_slice {r : V → Option Int → Option Int → Hp → VK → Prop} (hr : SlR X r) {lo : Expr} {p2 : Pos} (h : wE X e σ H fun x H1 => wE X lo σ H1 fun l H2 => ∃ i, l = .int i ∧ r x (some i) none H2 Q) : wE X (.Subscript e (.Slice (some lo) none none p2) pos) σ H Q :=
  PE.w (pe_slice hr pE (po_some pE) po_none) h
end
theorem WD.get {K : PySem.W.Frag} {H : Hp} {d : Addr} {k : Str} {ts : Tm} (h : WD K H d k ts) (n : Str) : (valA ts n = none ∧ DGet H d (.str n) none) ∨ ∃ p c, valA ts n = some c ∧ DGet H d (.str n) (some (.ref p)) ∧ WalkAt K H p k c := by
  obtain ⟨o, kvs, h, r⟩ := h
  rcases r.val n with ⟨a, b⟩ | ⟨v, c, a, b, p, rfl, hw⟩
  · exact .inl ⟨a, .inl ⟨kvs, .inr n, .inr ⟨o, h⟩, rfl, b.symm⟩⟩
  · exact .inr ⟨p, c, b, .inl ⟨kvs, .inr n, .inr ⟨o, h⟩, rfl, a.symm⟩, hw⟩
section
variable {P : Program} {w : World} {K : PySem.W.Frag} {mg : Str → Option Value} {base : Heap}
/-! ### is_name -/
theorem sc36 : FnScope ["obj", "letter"] ["obj"] (defScope (topS 36)) := ⟨rfl, rfl, rfl, by decide +kernel, rfl, by decide +kernel, by decide +kernel⟩
def spIsName : Sp := fun vs H Q _ => ∃ z, vs = [.str z] ∧ NameOk z ∧ ∀ H', Gr [] H H' → Q (.bl true) H'
theorem is_name (T : Ts K w mg) : Fb true P w K mg base 1 (ga K "is_name") spIsName := by
  obtain ⟨fd, F⟩ := T.d36.fn
  refine fn_b F sc36 (fun vs H Q E h => by obtain ⟨k, rfl, _⟩ := h; rfl) (fun _ _ _ _ _ _ us hl => match us, hl with | [_], _ => rfl) ?_
  intro pz cdv A outer s H vs Q E hp hq hr h
  obtain ⟨z, rfl, ⟨h1, h2, h3⟩, q⟩ := h
  obtain ⟨t1, hL⟩ := T.letG
  obtain ⟨t2, hM⟩ := T.maxG
  refine wb_one (ws_ret ?_)
  refine w_and (w_blt (call_isc (.type "str")) T.isi rfl (wa_cons (w_var 0 ⟨_, rfl, wa_cons (w_bname (v := .ty "str") T.str rfl rfl (wa_nil ?_))⟩)))
  refine ⟨_, _, _, _, rfl, fun _ h => h, .base (.str z), by rfl, true, rfl, iteT ?_⟩
  refine w_and (w_chain op_le op_le (w_int (w_blt call_len T.len rfl (wa_cons (w_var 0 ⟨_, rfl, wa_nil ⟨_, z.length, rfl, ⟨szm (show z.cps.size ≤ _ by omega), rfl⟩, _, _, rfl, rfl, _, rfl, ?_⟩⟩)))))
  rw [show decide ((1 : Int) ≤ (z.length : Nat)) = true from decide_eq_true (by have : 1 ≤ z.length := h1; omega)]
  refine iteT (w_glob (v := .int 8) hM ⟨t2, rfl⟩ rfl ⟨_, _, rfl, rfl, _, rfl, ?_⟩)
  rw [show decide (((z.length : Nat) : Int) ≤ 8) = true from decide_eq_true (by have : z.length ≤ 8 := h2; omega)]
  refine iteT (w_one (w_blt (call_allQ hq) T.all rfl (wa_cons (w_lc (own := [("letter", 1)]) hq sc36.nd (blkOk (N := ["obj", "letter"]) (sc := defScope (topS 36))) (wi_str (w_var 0 ⟨_, rfl, z, rfl, fun J wk => ?_⟩))))))
  refine lc_map wk (fun _ => .bl true) (fun _ _ => trivial) (by simp [signs]; omega) ?_ ?_
  · intro s0 H0 C cl fp y H' hy g
    obtain ⟨i, hi⟩ := List.mem_iff_getElem?.mp hy
    obtain ⟨m, hm, rfl⟩ := signs_get hi
    refine w_gname 1 ⟨rfl, ?_⟩ sc36.nd
    refine w_cmp op_inS (w_var 1 ⟨_, rfl, w_glob (v := .str "abcdefghijklmnopqrstuvwxyz") hL ⟨t1, rfl⟩ rfl ?_⟩)
    refine ⟨m, _, rfl, rfl, ?_, Gr.refl⟩
    have := List.all_eq_true.mp h3 m hm
    unfold isLet at this
    simp only [Bool.and_eq_true, decide_eq_true_eq] at this
    rw [show decide (m ∈ (Str.cps "abcdefghijklmnopqrstuvwxyz").toList) = true from ?_]
    rw [decide_eq_true_eq]
    rw [show (Str.cps "abcdefghijklmnopqrstuvwxyz").toList = List.range' 97 26 from by decide +kernel]
    rw [List.mem_range'_1]
    omega
  intro D1 H1 hD1 g1 hl1
  refine wa_nil ⟨D1, (signs z).map fun _ => true, rfl, .of (by rw [hl1, List.map_map] <;> rfl), ?_⟩
  rw [show ((signs z).map fun _ => true).all id = true from by simp]
  exact q H1 g1
/-! ### check_name, check_user -/
theorem sc37 : FnScope ["obj"] ["obj"] (defScope (topS 37)) := ⟨rfl, rfl, rfl, by decide +kernel, rfl, by decide +kernel, by decide +kernel⟩
theorem sc38 : FnScope ["obj"] ["obj"] (defScope (topS 38)) := ⟨rfl, rfl, rfl, by decide +kernel, rfl, by decide +kernel, by decide +kernel⟩
def spCheckName : Sp := fun vs H Q _ => ∃ z, vs = [.str z] ∧ NameOk z ∧ ∀ H', Gr [] H H' → Q .non H'
theorem check_name (T : Ts K w mg) : Fb true P w K mg base 2 (ga K "check_name") spCheckName := by
  obtain ⟨fd, F⟩ := T.d37.fn
  refine fn_b F sc37 (fun vs H Q E h => by obtain ⟨k, rfl, _⟩ := h; rfl) (fun _ _ _ _ _ _ us hl => match us, hl with | [_], _ => rfl) ?_
  intro pz cdv A outer s H vs Q E hp hq hr h
  obtain ⟨z, rfl, hz, q⟩ := h
  exact wb_one (ws_if (wt_not (wt_val (w_call (is_name T) hq hr (T.d36.df rfl rfl) paF rfl (wa_cons (w_var 0 ⟨_, rfl, wa_nil ⟨z, rfl, hz, fun H' g => ⟨true, rfl, iteF (wb_nil (q H' g))⟩⟩⟩))))))
theorem check_user (T : Ts K w mg) : Fb true P w K mg base 2 (ga K "check_user") spCheckName := by
  obtain ⟨fd, F⟩ := T.d38.fn
  refine fn_b F sc38 (fun vs H Q E h => by obtain ⟨k, rfl, _⟩ := h; rfl) (fun _ _ _ _ _ _ us hl => match us, hl with | [_], _ => rfl) ?_
  intro pz cdv A outer s H vs Q E hp hq hr h
  obtain ⟨z, rfl, hz, q⟩ := h
  exact wb_one (ws_if (wt_not (wt_val (w_call (is_name T) hq hr (T.d36.df rfl rfl) paF rfl (wa_cons (w_var 0 ⟨_, rfl, wa_nil ⟨z, rfl, hz, fun H' g => ⟨true, rfl, iteF (wb_nil (q H' g))⟩⟩⟩))))))
end
end K6

/-! ## S2 -/
namespace K6
open PySem PySem.Spec PyProof.Rows L2
section
variable {P : Program} {w : World} {K : PySem.W.Frag} {mg : Str → Option Value} {base : Heap} {N : List Str} {qual : Str} {scope : Scope} {f : Addr} {cd : Value} {A : Around} {outer : List Env} {s : Shared} {H : Hp} {E : XK} {pz : Option (Addr × Obj)} {σ : St}
theorem paQ : PaX (cxQ P w K mg base N qual scope f cd A outer s H E pz) σ E := paT takesQ
end
/-- a change, as it stands -/
def ChAt (K : PySem.W.Frag) (H : Hp) (k : Str) (p : Addr) : Ch → Prop
  | .put n c => ∃ q, H p = some (.tup [.str "put", .str n, .ref q]) ∧ WalkAt K H q k c
  | .join n ps => ∃ t, H p = some (.tup [.str "join", .str n, .ref t]) ∧ H t = some (.tup (ps.map V.str))
  | .drop n => H p = some (.tup [.str "drop", .str n])
def ChV : V → Prop
  | _ => True
theorem ChAt.gx {K : PySem.W.Frag} {H H1 : Hp} {k : Str} {p : Addr} {c : Ch} (h : ChAt K H k p c) (g : Gx K H H1) : ChAt K H1 k p c := by
  cases c with
  | put n c =>
    obtain ⟨q, h, hw⟩ := h
    exact ⟨q, g.keep _ _ trivial h, hw.gx g⟩
  | join n ps =>
    obtain ⟨t, h, ht⟩ := h
    exact ⟨t, g.keep _ _ trivial h, g.keep _ _ trivial ht⟩
  | drop n => exact g.keep p _ trivial (show H p = some (.tup [.str "drop", .str n]) from h)
/-- its word and what follows -/
theorem ChAt.ex {K : PySem.W.Frag} {H : Hp} {k : Str} {p : Addr} {c : Ch} (h : ChAt K H k p c) : ∃ wd rest, H p = some (.tup (.str wd :: .str c.nm :: rest)) ∧
    match c with
    | .put _ c => wd = "put" ∧ ∃ q, rest = [.ref q] ∧ WalkAt K H q k c
    | .join _ ps => wd = "join" ∧ ∃ t, rest = [.ref t] ∧ H t = some (.tup (ps.map V.str))
    | .drop _ => wd = "drop" ∧ rest = [] := by
  cases c with
  | put n c => obtain ⟨q, h, hw⟩ := h; exact ⟨_, _, h, rfl, q, rfl, hw⟩
  | join n ps => obtain ⟨t, h, ht⟩ := h; exact ⟨_, _, h, rfl, t, rfl, ht⟩
  | drop n => exact ⟨_, _, h, rfl, rfl⟩
section
variable {P : Program} {w : World} {K : PySem.W.Frag} {mg : Str → Option Value} {base : Heap}
/-! ### has_change_form -/
theorem sc39 : FnScope ["obj"] ["obj"] (defScope (topS 39)) := ⟨rfl, rfl, rfl, by decide +kernel, rfl, by decide +kernel, by decide +kernel⟩
def spForm (K : PySem.W.Frag) : Sp := fun vs H Q _ => ∃ p k c, vs = [.ref p] ∧ ChAt K H k p c ∧ (∀ n ps, c = .join n ps → ps ≠ [] ∧ ps.length ≤ 5) ∧ Q (.bl true) H
theorem has_form (T : Ts K w mg) : Fb false P w K mg base 1 (ga K "has_change_form") (spForm K) := by
  obtain ⟨fd, F⟩ := T.d39.fn
  refine fn_b F sc39 (fun vs H Q E h => by obtain ⟨p, k, c, rfl, _⟩ := h; rfl) (fun _ _ _ _ _ _ us hl => match us, hl with | [_], _ => rfl) ?_
  intro pz cdv A outer s H vs Q E hp hq hr h
  obtain ⟨p, k, c, rfl, hc, hj, q⟩ := h
  obtain ⟨wd, rest, hp', hm⟩ := hc.ex
  have sq : SqT K H p (.str wd :: .str c.nm :: rest) := .of hp'
  have ln : (V.str wd :: V.str c.nm :: rest).length ≤ 1000 := by
    cases c with
    | put n c => obtain ⟨_, q, rfl, _⟩ := hm; show 3 ≤ 1000; decide
    | join n ps => obtain ⟨_, q, rfl, _⟩ := hm; show 3 ≤ 1000; decide
    | drop n => obtain ⟨_, rfl⟩ := hm; show 2 ≤ 1000; decide
  refine wb_cons (ws_if (wt_or3 (wt_not (wt_val (w_blt (call_isc (.type "tuple")) T.isi rfl (wa_cons (w_var 0 ⟨_, rfl, wa_cons (w_bname (v := .ty "tuple") T.tupN rfl rfl (wa_nil ?_))⟩)))))))
  refine ⟨_, _, _, _, rfl, fun _ h => h, .base (.tup hp'), by rfl, true, rfl, iteF ?_⟩
  refine wt_cmp op_eq (w_blt call_len T.len rfl (wa_cons (w_var 0 ⟨_, rfl, wa_nil ⟨_, _, rfl, .inr ⟨_, sq, rfl⟩, w_int ⟨rfl, _, rfl, ?_⟩⟩⟩)))
  rw [show decide (V.int ((V.str wd :: V.str c.nm :: rest).length : Nat) = V.int 0) = false from decide_eq_false (fun h => by have := V.int.inj h; simp at this; omega)]
  refine iteF (wt_not (wt_val (w_blt (call_isc (.type "str")) T.isi rfl (wa_cons (w_ix ix_tup (w_var 0 ⟨_, rfl, w_int ⟨p, _, 0, .str wd, rfl, rfl, sq, atI_nat (j := 0) rfl, wa_cons (w_bname (v := .ty "str") T.str rfl rfl (wa_nil ?_))⟩⟩))))))
  refine ⟨_, _, _, _, rfl, fun _ h => h, .base (.str wd), by rfl, true, rfl, iteF (wb_nil ?_)⟩
  refine wb_cons (ws_if (wt_cmp op_eq (w_ix ix_tup (w_var 0 ⟨_, rfl, w_int ⟨p, _, 0, .str wd, rfl, rfl, sq, atI_nat (j := 0) rfl, w_str ⟨rfl, _, rfl, ?_⟩⟩⟩))))
  cases c with
  | put n c =>
    obtain ⟨rfl, w', rfl, hw⟩ := hm
    refine iteF (wb_nil (wb_one (ws_ret ?_)))
    refine w_or (w_and (w_cmp op_eq (w_ix ix_tup (w_var 0 ⟨_, rfl, w_int ⟨p, _, 0, .str "put", rfl, rfl, sq, rfl, w_str ⟨rfl, true, rfl, iteT ?_⟩⟩⟩))))
    refine w_one (w_cmp op_eq (w_blt call_len T.len rfl (wa_cons (w_var 0 ⟨_, rfl, wa_nil ⟨_, _, rfl, .inr ⟨_, sq, rfl⟩, w_int ⟨rfl, true, rfl, iteT q⟩⟩⟩))))
  | join n ps =>
    obtain ⟨rfl, t, rfl, ht⟩ := hm
    obtain ⟨j1, j2⟩ := hj n ps rfl
    refine iteT (wb_one (ws_ret ?_))
    refine w_and (w_cmp op_eq (w_blt call_len T.len rfl (wa_cons (w_var 0 ⟨_, rfl, wa_nil ⟨_, _, rfl, .inr ⟨_, sq, rfl⟩, w_int ⟨rfl, true, rfl, iteT ?_⟩⟩⟩))))
    refine w_and (w_blt (call_isc (.type "tuple")) T.isi rfl (wa_cons (w_ix ix_tup (w_var 0 ⟨_, rfl, w_int ⟨p, _, 2, .ref t, rfl, rfl, sq, rfl, wa_cons (w_bname (v := .ty "tuple") T.tupN rfl rfl (wa_nil ?_))⟩⟩))))
    refine ⟨_, _, _, _, rfl, fun _ h => h, .base (.tup ht), by rfl, true, rfl, iteT ?_⟩
    refine w_one (w_cmp op_gt (w_blt call_len T.len rfl (wa_cons (w_ix ix_tup (w_var 0 ⟨_, rfl, w_int ⟨p, _, 2, .ref t, rfl, rfl, sq, rfl, wa_nil ⟨_, _, rfl, .inr ⟨_, .of ht, rfl⟩, w_int ⟨_, _, rfl, rfl, ?_⟩⟩⟩⟩)))))
    show Q (.bl (decide ((0 : Int) < (((ps.map V.str).length : Nat) : Int)))) H
    rw [show decide ((0 : Int) < (((ps.map V.str).length : Nat) : Int)) = true from decide_eq_true (by rw [List.length_map]; have := List.length_pos_iff.mpr j1; omega)]
    exact q
  | drop n =>
    obtain ⟨rfl, rfl⟩ := hm
    refine iteF (wb_nil (wb_one (ws_ret ?_)))
    refine w_or (w_and (w_cmp op_eq (w_ix ix_tup (w_var 0 ⟨_, rfl, w_int ⟨p, _, 0, .str "drop", rfl, rfl, sq, rfl, w_str ⟨rfl, false, rfl, iteF ⟨false, rfl, iteF ?_⟩⟩⟩⟩))))
    refine w_one (w_and (w_cmp op_eq (w_ix ix_tup (w_var 0 ⟨_, rfl, w_int ⟨p, _, 0, .str "drop", rfl, rfl, sq, rfl, w_str ⟨rfl, true, rfl, iteT ?_⟩⟩⟩))))
    refine w_one (w_cmp op_eq (w_blt call_len T.len rfl (wa_cons (w_var 0 ⟨_, rfl, wa_nil ⟨_, _, rfl, .inr ⟨_, sq, rfl⟩, w_int ⟨rfl, q⟩⟩⟩))))
/-! ### joined -/
abbrev N40 : List Str := ["walks", "parts", "name", "result"]
theorem sc40 : FnScope N40 ["walks", "parts"] (defScope (topS 40)) := ⟨rfl, rfl, rfl, by decide +kernel, rfl, by decide +kernel, by decide +kernel⟩
/-- what the texts of the parts come to -/
def JoOut (K : PySem.W.Frag) (k : Str) (ts : Tm) (ps : List Str) (H : Hp) (Q : VK) (E : XK) : Prop :=
  (∀ m, miss ts ps = some m → XR K "UnknownName" "name" (.str m) [] H E) ∧ (miss ts ps = none → (cat ts ps).cps.size ≤ 200 → ∀ p H2, Gr [] H H2 → WalkAt K H2 p k (cat ts ps) → Q (.ref p) H2) ∧
  (miss ts ps = none → 200 < (cat ts ps).cps.size → XR K "LimitExceeded" "limit" (.int 200) [] H E)
def spJoined (K : PySem.W.Frag) : Sp := fun vs H Q E => ∃ d t k ts ps, vs = [.ref d, .ref t] ∧ WD K H d k ts ∧ SqT K H t (ps.map V.str) ∧ Kind k ∧ Wf ts ∧ ps ≠ [] ∧ ps.length ≤ 5 ∧ JoOut K k ts ps H Q E
theorem cat_take {ts : Tm} {ps : List Str} {i : Nat} {p : Str} {c : Str} (h : ps[i]? = some p) (e : valA ts p = some c) : cat ts (ps.take (i + 1)) = cat ts (ps.take i) ++ c := by
  unfold cat
  rw [List.take_add_one, h, List.map_append]
  show joinS (_ ++ [(valA ts p).getD _]) = _
  rw [e, joinS_snoc] <;> rfl
theorem cat_le {ts : Tm} {ps : List Str} (i : Nat) : (cat ts (ps.take i)).cps.size ≤ (cat ts ps).cps.size := by
  have := joinS_le ((ps.take i).map fun p => (valA ts p).getD ⟨#[]⟩) ((ps.drop i).map fun p => (valA ts p).getD ⟨#[]⟩)
  rw [← List.map_append, List.take_append_drop] at this
  exact this
theorem miss_none {ts : Tm} {ps : List Str} (h : miss ts ps = none) {p : Str} (hp : p ∈ ps) : ∃ c, valA ts p = some c := by
  have := List.find?_eq_none.mp h p hp
  cases e : valA ts p with
  | none => rw [e] at this; simp at this
  | some c => exact ⟨c, rfl⟩
theorem miss_at {ts : Tm} {ps : List Str} {i : Nat} {p : Str} (h : ps[i]? = some p) (e : valA ts p = none) (hb : ∀ j q, j < i → ps[j]? = some q → (valA ts q).isSome = true) : miss ts ps = some p := by
  unfold miss
  have hi : i < ps.length := (List.getElem?_eq_some_iff.mp h).1
  have e1 : ps = ps.take i ++ p :: ps.drop (i + 1) := by
    have e2 : ps.drop i = ps[i] :: ps.drop (i + 1) := List.drop_eq_getElem_cons hi
    rw [(List.getElem?_eq_some_iff.mp h).2] at e2
    rw [← e2, List.take_append_drop]
  rw [e1, List.find?_append]
  have e2 : (ps.take i).find? (fun p => !(valA ts p).isSome) = none := by
    rw [List.find?_eq_none]
    intro q hq
    obtain ⟨j, hj⟩ := List.mem_iff_getElem?.mp hq
    rw [List.getElem?_take] at hj
    split at hj
    · rename_i hlt
      simp [hb j q hlt hj]
    · cases hj
  rw [e2]
  simp [List.find?_cons, e]
theorem cut_from {xs : List V} {j : Nat} : cutV xs (some (j : Int)) none = xs.drop j := by
  unfold cutV
  rw [HT.sIx_nat, HT.sIx_none]
  by_cases h : j ≤ xs.length
  · rw [Nat.min_eq_left h]
    exact List.take_of_length_le (by simp)
  · rw [Nat.min_eq_right (by omega), List.drop_eq_nil_of_le (Nat.le_refl _), List.drop_eq_nil_of_le (by omega)]
    simp
theorem cut_to {xs : List V} {j : Nat} : cutV xs none (some (j : Int)) = xs.take j := by
  unfold cutV
  rw [HT.sIx_nat, HT.sIx_none, List.drop_zero, Nat.sub_zero, List.take_eq_take_iff]
  omega
theorem str_get {ps : List Str} {i : Nat} {x : V} (h : (ps.map V.str)[i]? = some x) : ∃ p, ps[i]? = some p ∧ x = .str p := by
  rw [List.getElem?_map] at h
  obtain ⟨p, hp, rfl⟩ := Option.map_eq_some_iff.mp h
  exact ⟨p, hp, rfl⟩
theorem joined (T : Ts K w mg) : Fb false P w K mg base 7 (ga K "joined") (spJoined K) := by
  obtain ⟨fd, F⟩ := T.d40.fn
  refine fn_b F sc40 (fun vs H Q E h => by obtain ⟨d, t, k, ts, ps, rfl, _⟩ := h; rfl) (fun _ _ _ _ _ _ us hl => match us, hl with | [_, _], _ => rfl) ?_
  intro pz cdv A outer s H vs Q E hp hq hr h
  obtain ⟨d, t, k, ts, ps, rfl, hd, ht, hk, hw, hne, hlen, q1, q2, q3⟩ := h
  -- each part is there
  refine wb_cons (w_for ownsQ hq (wi_tup (w_var 1 ⟨_, rfl, t, _, rfl, ht, fun J wk => ?_⟩)))
  refine for_wk wk (fun i σ H' => ∃ s2 : Option V, σ = [some (.ref d), some (.ref t), s2, none] ∧ H' = H ∧ ∀ j q, j < i → ps[j]? = some q → (valA ts q).isSome = true) ⟨none, rfl, rfl, fun j q h => absurd h (by simp)⟩ (fun i σ H' ⟨_, _, e, _⟩ => by rw [e]; exact ht) ?_ ?_
  · rintro i x σ H' hx ⟨s2, rfl, rfl, hall⟩
    obtain ⟨p, hpx, rfl⟩ := str_get hx
    refine w_gname 2 ?_ sc40.nd
    refine wb_one (ws_if (wt_dnotin hr (w_var 2 ⟨_, rfl, w_var 0 ⟨_, rfl, ?_⟩⟩)))
    rcases hd.get p with ⟨hv, hg⟩ | ⟨q, c, hv, hg, _⟩
    · refine ⟨d, _, rfl, hg, iteT (wb_one (ws_raise takesQ xKey T.eUnk.xc (init_unk T.toTz) hq (hr.mono (by decide)) rfl (wa_cons (w_var 2 ⟨_, rfl, wa_nil ⟨_, rfl, fun d' hd' => ?_⟩⟩))))⟩
      exact (q1 p (miss_at hpx hv hall)).now hd'
    · refine ⟨d, _, rfl, hg, iteF (wb_nil ⟨_, rfl, rfl, fun j q' hj hq' => ?_⟩)⟩
      rcases Nat.lt_succ_iff_lt_or_eq.mp hj with h | h
      · exact hall j q' h hq'
      · subst h
        rw [hpx] at hq'
        cases hq'
        rw [hv] <;> rfl
  rintro σ H' ⟨s2, rfl, rfl, hall⟩
  have hm : miss ts ps = none := by
    rw [miss, List.find?_eq_none]
    intro q hq'
    obtain ⟨j, hj⟩ := List.mem_iff_getElem?.mp hq'
    simp [hall j q (by rw [List.length_map]; exact (List.getElem?_eq_some_iff.mp hj).1) hj]
  -- the first
  obtain ⟨p0, rest, rfl⟩ : ∃ p0 rest, ps = p0 :: rest := List.exists_cons_of_ne_nil hne
  obtain ⟨c0, hc0⟩ := miss_none hm (List.mem_cons_self (a := p0) (l := rest))
  refine wb_cons (ws_set 3 sc40.nd (w_dget hr (w_var 0 ⟨_, rfl, w_ix ix_tup (w_var 1 ⟨_, rfl, w_int ⟨t, _, 0, .str p0, rfl, rfl, ht, atI_nat (j := 0) rfl, ?_⟩⟩)⟩)))
  rcases hd.get p0 with ⟨hv, hg⟩ | ⟨w0, c, hv, hg, hw0⟩
  · rw [hc0] at hv; cases hv
  rw [hc0] at hv
  cases hv
  refine ⟨d, .ref w0, rfl, hg, ?_⟩
  -- the others
  refine wb_cons (w_for ownsQ hq (wi_tup (w_slice sl_tup (w_var 1 ⟨_, rfl, w_int ⟨1, rfl, t, _, rfl, ht, ?_, fun t2 ht2 => ⟨t2, _, rfl, .of upd_same, fun J wk => ?_⟩⟩⟩))))
  · rw [show ((1 : Int)) = ((1 : Nat) : Int) from rfl, HT.sIx_nat, List.length_map]
    show ¬ (min 1 (rest.length + 1) = 0 ∧ _)
    omega
  have ecut : cutV ((p0 :: rest).map V.str) (some 1) none = rest.map V.str := cut_from (j := 1)
  rw [ecut] at wk ⊢
  refine for_wk wk (fun i σ H2 => ∃ (s2 : Option V) (pw : Addr), σ = [some (.ref d), some (.ref t), s2, some (.ref pw)] ∧ Gr [] H' H2 ∧ H2 t2 = some (.tup (rest.map V.str)) ∧ WalkAt K H2 pw k (cat ts ((p0 :: rest).take (i + 1))) ∧ (cat ts ((p0 :: rest).take (i + 1))).cps.size ≤ 200 ∧ i ≤ rest.length) ?_ (fun i σ H2 ⟨_, _, _, _, e, _⟩ => .of e) ?_ ?_
  · have e0 : cat ts ((p0 :: rest).take (0 + 1)) = c0 := by
      show joinS [(valA ts p0).getD _] = c0
      rw [hc0, joinS_one] <;> rfl
    have g0 : Gr [] H' (upd H' t2 (.tup (rest.map V.str))) := Gr.refl.new ht2
    refine ⟨s2, w0, rfl, g0, upd_same, ?_, ?_, Nat.zero_le _⟩
    · rw [e0]; exact hw0.gx g0.gx0
    · rw [e0]; exact (hw.val hc0).len
  · rintro i x σ H2 hx ⟨s2', pw, rfl, g, h2, hpw, hsz, hi⟩
    obtain ⟨p, hpx, rfl⟩ := str_get hx
    have hi' : i < rest.length := (List.getElem?_eq_some_iff.mp hpx).1
    have hpx' : (p0 :: rest)[i + 1]? = some p := hpx
    obtain ⟨c, hc⟩ := miss_none hm (List.mem_of_getElem? hpx')
    have ec := cat_take hpx' hc
    refine w_gname 2 ?_ sc40.nd
    have hd2 := hd.gx g.gx0
    refine wb_one (ws_set 3 sc40.nd (w_op (op_addO (walk_add T.toTz) hq hr T.w_addM T.w_first fun _ => paQ) (w_var 3 ⟨_, rfl, w_dget hr (w_var 0 ⟨_, rfl, w_var 2 ⟨_, rfl, ?_⟩⟩)⟩)))
    rcases hd2.get p with ⟨hv, hg⟩ | ⟨w1, c1, hv, hg, hw1⟩
    · rw [hc] at hv; cases hv
    rw [hc] at hv
    cases hv
    refine ⟨d, .ref w1, rfl, hg, ?_⟩
    obtain ⟨dx, m1, m2, ha⟩ := id hpw
    obtain ⟨dy, m3, m4, hb⟩ := id hw1
    refine ⟨pw, dx, _, w1, dy, _, rfl, rfl, ha, hb, pw, w1, k, _, c, rfl, hpw, hw1, hk, ⟨hsz, fun n hn => ?_⟩, hw.val hc, ?_, ?_⟩
    · exact cat_cmd hw _ n hn
    · intro hz p' H3 hp' g3 hw3
      refine ⟨_, p', rfl, g.trans g3, g3.at h2, ?_, ?_, hi'⟩
      · rw [ec]; exact hw3
      · rw [ec]; exact hz
    · intro hz
      refine Gr.xr (q3 hm ?_) g
      refine Nat.lt_of_lt_of_le hz ?_
      rw [← ec]
      exact cat_le _
  · rintro σ H2 ⟨s2', pw, rfl, g, h2, hpw, hsz, hi⟩
    have e1 : (p0 :: rest).take ((rest.map V.str).length + 1) = p0 :: rest := List.take_of_length_le (by simp)
    rw [e1] at hpw hsz
    exact wb_one (ws_ret (w_var 3 ⟨_, rfl, q2 hm hsz pw H2 g hpw⟩))
/-! ### fitting -/
theorem sc41 : FnScope ["net", "obj"] ["net", "obj"] (defScope (topS 41)) := ⟨rfl, rfl, rfl, by decide +kernel, rfl, by decide +kernel, by decide +kernel⟩
def spFit (K : PySem.W.Frag) : Sp := fun vs H Q _ => ∃ k p c, vs = [.str k, .ref p] ∧ WalkAt K H p k c ∧ Q (.ref p) H
theorem fitting (T : Ts K w mg) : Fb false P w K mg base 4 (ga K "fitting") (spFit K) := by
  obtain ⟨fd, F⟩ := T.d41.fn
  refine fn_b F sc41 (fun vs H Q E h => by obtain ⟨k, p, c, rfl, _⟩ := h; rfl) (fun _ _ _ _ _ _ us hl => match us, hl with | [_, _], _ => rfl) ?_
  intro pz cdv A outer s H vs Q E hp hq hr h
  obtain ⟨k, p, c, rfl, ha, q⟩ := h
  have ty := walk_ty T.toTx ha
  obtain ⟨dx, m, q', hb⟩ := id ha
  refine wb_cons (ws_if (wt_not (wt_val (w_blt (call_isc (.ref (cW K))) T.isi rfl (wa_cons (w_var 1 ⟨_, rfl, wa_cons (w_glob (v := .ref (cW K)) T.wal.mg rfl rfl (wa_nil ?_))⟩))))))
  refine ⟨_, _, _, _, rfl, fun _ h => h, .base ty, T.w_isiW, true, rfl, iteF (wb_nil ?_)⟩
  refine wb_cons (ws_if (wt_cmp op_ne (w_prop (walk_net T.toTx) hq.up (hr.mono (by decide)) T.wal.cl T.w_netP (w_var 1 ⟨_, rfl, p, dx, _, rfl, hb, p, k, c, rfl, ha, w_var 0 ⟨_, rfl, rfl, _, rfl, ?_⟩⟩))))
  rw [show (!decide (V.str k = V.str k)) = false from by simp]
  exact iteF (wb_nil (wb_one (ws_ret (w_var 1 ⟨_, rfl, q⟩))))
end
end K6

/-! ## S3 -/
namespace K6
open PySem PySem.Spec PyProof.Rows L2
theorem valV_no {κ : Type} [DecidableEq κ] {kvs : List (κ × V)} {k : κ} (h : k ∉ kvs.map (·.1)) : valV kvs k = none := by
  cases e : valV kvs k with
  | none => rfl
  | some v => exact absurd (valV_in e) h
/-- a dict filled in order, by a test -/
theorem filt_yes {kvs : List (Key × V)} {f : Key → Bool} {i : Nat} {k : Key} {v : V} (hn : (kvs.map (·.1)).Nodup) (h : kvs[i]? = some (k, v)) (hf : f k = true) :
    putK ((kvs.take i).filter fun kv => f kv.1) k v = (kvs.take (i + 1)).filter fun kv => f kv.1 := by
  have hk : k ∉ ((kvs.take i).filter fun kv => f kv.1).map (·.1) := by
    intro hm
    obtain ⟨p, hp, rfl⟩ := List.mem_map.mp hm
    have hp1 := (List.mem_filter.mp hp).1
    obtain ⟨j, hj⟩ := List.mem_iff_getElem?.mp hp1
    rw [List.getElem?_take] at hj
    split at hj
    · rename_i hlt
      have hi := (List.getElem?_eq_some_iff.mp h)
      have hj' := (List.getElem?_eq_some_iff.mp hj)
      have := (List.pairwise_iff_getElem.mp (show (kvs.map (·.1)).Pairwise (· ≠ ·) from hn)) j i (by simp; exact hj'.1) (by simp; exact hi.1) hlt
      rw [List.getElem_map, List.getElem_map, hi.2, hj'.2] at this
      exact this rfl
    · cases hj
  rw [putK_new _ (valV_no hk), List.take_add_one, h, List.filter_append]
  simp [hf]
theorem filt_no {kvs : List (Key × V)} {f : Key → Bool} {i : Nat} {k : Key} {v : V} (h : kvs[i]? = some (k, v)) (hf : f k = false) : (kvs.take (i + 1)).filter (fun kv => f kv.1) = (kvs.take i).filter fun kv => f kv.1 := by
  rw [List.take_add_one, h, List.filter_append]
  simp [hf]
section
variable {X : Cx} {σ : St} {H : Hp} {Q : VK}
theorem Qk.blk {X : Cx} (h : Qk false X) {s : Shared} {H : Hp} {scope : Scope} {C : Addr} {cl : List (Str × Addr)} {fp : List Addr} : Qk false (blkD X s H scope C cl fp) := .inl h.calm
/-- {**walks, name: walk}, done -/
theorem w_putW {ts : Tm} {k n : Str} {d : Addr} {a ke ve : Expr} {pos : Pos} (hd : WD X.K H d k ts) (hw : Wf ts) (ha : ∀ H', wE X a σ H' fun v H'' => v = .ref d ∧ H'' = H') (hke : ∀ H', wE X ke σ H' fun v H'' => v = .str n ∧ H'' = H')
    (hve : ∀ H1, Gr [] H H1 → wE X ve σ H1 fun z H2 => Gr [] H1 H2 ∧ ∃ p c, z = .ref p ∧ WalkAt X.K H2 p k c ∧ ∀ D H3, Gr [] H H3 → WD X.K H3 D k (putA ts n c) → Q (.ref D) H3) : wE X (.Dict [none, some ke] [a, ve] pos) σ H Q := by
  obtain ⟨o, kvs, ho, r⟩ := hd
  have e1 : mergeK [] kvs = kvs := mergeK_nil (r.nodup hw.nd)
  refine wE_locked (w_dput fun D hD => (ha _).mono ?_)
  rintro x H1 ⟨rfl, rfl⟩
  have nd : D ≠ d := (ne_of_none ho hD).symm
  have lz : kvs.length ≤ 1000 := by have := hw.len; rw [r.length]; omega
  refine ⟨d, kvs, rfl, .inr ⟨o, by rw [upd_ne (Ne.symm nd)]; exact ho⟩, nd, upd_same, lz, fun S hS => ?_⟩
  rw [e1, upd_upd] at hS ⊢
  refine (hke _).mono ?_
  rintro y H2 ⟨rfl, rfl⟩
  have g2 : Gr [] H (upd (upd H D (.dK kvs)) S (.dK [])) := (Gr.refl.new hD).new hS
  refine (hve _ g2).mono ?_
  rintro z H4 ⟨g4, p, c, rfl, hwk, q⟩
  have hDS : D ≠ S := by
    rintro rfl
    rw [upd_same] at hS
    cases hS
  have hS0 : H S = none := by
    rw [upd_ne (Ne.symm hDS)] at hS
    exact hS
  refine ⟨.inr n, rfl, g4.at upd_same, g4.at (by rw [upd_ne hDS, upd_same]), hDS, D, _, rfl, upd_same, trivial, fun ob => ?_⟩
  have g5 : Gr [] H (upd (upd (upd H4 S (.dK [(.inr n, .ref p)])) D (.dK (putK kvs (.inr n) (.ref p)))) D (.frz ob (.dK (putK kvs (.inr n) (.ref p))))) := (((g2.trans g4).put (.inl hS0)).put (.inl hD)).put (.inl hD)
  refine q D _ g5 ⟨ob, _, upd_same, DL.put (R := RW X.K _ k) (r.mono fun v c z => z.gx g5.gx0) ⟨p, rfl, ?_⟩⟩
  obtain ⟨dx, m, q', hp⟩ := hwk
  refine ⟨dx, m, q', ?_⟩
  have np : p ≠ D := by
    rintro rfl
    rw [g4.at (by rw [upd_ne hDS, upd_same])] at hp
    cases hp
  have np2 : p ≠ S := by
    rintro rfl
    rw [g4.at upd_same] at hp
    cases hp
  rw [upd_ne np, upd_ne np, upd_ne np2]
  exact hp
end
theorem mc_yes {X : Cx} {σ : St} {H : Hp} {D : Ends} {z : Str} {j : Nat} {p p' : Pos} {body : List Stmt} {rest : List MatchCase} (h : wB X body D σ H) : wMC X (⟨.MatchValue (.Constant (.str z) j p) p', none, body⟩ :: rest) z D σ H := mc_str (by rw [if_pos rfl]; exact h)
theorem mc_no {X : Cx} {σ : St} {H : Hp} {D : Ends} {y z : Str} {j : Nat} {p p' : Pos} {body : List Stmt} {rest : List MatchCase} (h : wMC X rest y D σ H) (hn : y ≠ z := by decide) : wMC X (⟨.MatchValue (.Constant (.str z) j p) p', none, body⟩ :: rest) y D σ H := mc_str (by rw [if_neg hn]; exact h)
section
variable {P : Program} {w : World} {K : PySem.W.Frag} {mg : Str → Option Value} {base : Heap}
/-! ### changed -/
abbrev N42 : List Str := ["net", "walks", "change", "word", "name", "given", "part", "other", "walk"]
theorem sc42 : FnScope N42 ["net", "walks", "change"] (defScope (topS 42)) := ⟨rfl, rfl, rfl, by decide +kernel, rfl, by decide +kernel, by decide +kernel⟩
/-- what comes of deeds: a new dict, or an exception -/
def RsOut (K : PySem.W.Frag) (k : Str) (r : Rs) (H : Hp) (Q : VK) (E : XK) : Prop :=
  match r with
  | .ok ts => ∀ D H2, Gr [] H H2 → WD K H2 D k ts → Q (.ref D) H2
  | .unk n => XR K "UnknownName" "name" (.str n) [] H E
  | .lim => XR K "LimitExceeded" "limit" (.int 200) [] H E
def spChanged (K : PySem.W.Frag) : Sp := fun vs H Q E => ∃ k d p ts c, vs = [.str k, .ref d, .ref p] ∧ WD K H d k ts ∧ ChAt K H k p c ∧ ChOk c ∧ Kind k ∧ Wf ts ∧ RsOut K k (run ts c) H Q E
theorem changed (T : Ts K w mg) : Fb false P w K mg base 8 (ga K "changed") (spChanged K) := by
  obtain ⟨fd, F⟩ := T.d42.fn
  refine fn_b F sc42 (fun vs H Q E h => by obtain ⟨k, d, p, ts, c, rfl, _⟩ := h; rfl) (fun _ _ _ _ _ _ us hl => match us, hl with | [_, _, _], _ => rfl) ?_
  intro pz cdv A outer s H vs Q E hp hq hr h
  obtain ⟨k, d, p, ts, c, rfl, hd, hc, ok, hk, hw, q⟩ := h
  have hnm : NameOk c.nm := by
    cases c with
    | put n c => exact univ_ok _ ok.1
    | join n ps => exact univ_ok _ ok.1
    | drop n => exact univ_ok _ ok
  have hjo : ∀ n ps, c = .join n ps → ps ≠ [] ∧ ps.length ≤ 5 := fun n ps e => by subst e; exact ⟨ok.2.1, ok.2.2.1⟩
  refine wb_cons (ws_if (wt_not (wt_val (w_call (has_form T) hq (hr.mono (by decide)) (T.d39.df rfl rfl) paF rfl (wa_cons (w_var 2 ⟨_, rfl, wa_nil ⟨p, k, c, rfl, hc, hjo, true, rfl, iteF (wb_nil ?_)⟩⟩))))))
  obtain ⟨wd, rest, hp', hm⟩ := hc.ex
  refine wb_cons (ws_asg (w_var 2 ⟨_, rfl, w_gstar hq ⟨p, _, _, rest, rfl, .of hp', fun l hl => w_gcons (w_gname 3 (w_gcons (w_gname 4 (w_gcstar (w_gname 5 (w_gnil ?_) sc42.nd)) sc42.nd)) sc42.nd)⟩⟩))
  have g1 : Gr [] H (upd H l (.lst rest)) := Gr.refl.new hl
  refine wb_cons (ws_expr (w_call (check_name T) hq.up (hr.mono (by decide)) (T.d37.df rfl rfl) paF rfl (wa_cons (w_var 4 ⟨_, rfl, wa_nil ⟨_, rfl, hnm, fun H2 g2 => ?_⟩⟩))))
  have g12 := g1.trans g2
  have hl2 : H2 l = some (.lst rest) := g2.at upd_same
  have hd2 := hd.gx g12.gx0
  refine wb_one (ws_match (w_var 3 ⟨_, rfl, wd, rfl, ?_⟩))
  cases c with
  | put n c =>
    obtain ⟨rfl, w', rfl, hwk⟩ := hm
    refine mc_yes (wb_one (ws_ret ?_))
    refine w_putW hd2 hw (fun H' => w_var 1 ⟨_, rfl, rfl, rfl⟩) (fun H' => w_var 4 ⟨_, rfl, rfl, rfl⟩) fun H3 g3 => ?_
    have hwk3 := (hwk.gx g12.gx0).gx g3.gx0
    refine w_call (fitting T) hq (hr.mono (by decide)) (T.d41.df rfl rfl) paF rfl (wa_cons (w_var 0 ⟨_, rfl, wa_cons (w_ix ix_list (w_var 5 ⟨_, rfl, w_int ⟨l, _, 0, .ref w', rfl, rfl, .of (g3.at hl2), rfl, wa_nil ?_⟩⟩))⟩))
    exact ⟨k, w', c, rfl, hwk3, Gr.refl, w', c, rfl, hwk3, fun D H4 g4 hD => q D H4 (g12.trans g4) hD⟩
  | join n ps =>
    obtain ⟨rfl, t, rfl, ht⟩ := hm
    obtain ⟨_, j1, j2, j3⟩ := ok
    refine mc_no (mc_yes ?_)
    refine wb_cons (w_for ownsQ hq (wi_tup (w_ix ix_list (w_var 5 ⟨_, rfl, w_int ⟨l, _, 0, .ref t, rfl, rfl, .of hl2, rfl, t, _, rfl, .of (g12.at ht), fun J wk => ?_⟩⟩))))
    refine for_wk wk (fun i σ H3 => ∃ s6 : Option V, σ = [some (.str k), some (.ref d), some (.ref p), some (.str "join"), some (.str n), some (.ref l), s6, none, none] ∧ Gr [] H2 H3) ⟨none, rfl, Gr.refl⟩ (fun i σ H3 ⟨_, _, g⟩ => .of (g.at (g12.at ht))) ?_ ?_
    · rintro i x σ H3 hx ⟨s6, rfl, g3⟩
      obtain ⟨z, hz, rfl⟩ := str_get hx
      refine w_gname 6 ?_ sc42.nd
      refine wb_one (ws_expr (w_call (check_name T) hq.up (hr.mono (by decide)) (T.d37.df rfl rfl) paF rfl (wa_cons (w_var 6 ⟨_, rfl, wa_nil ⟨_, rfl, univ_ok _ (j3 z (List.mem_of_getElem? hz)), fun H4 g4 => ⟨_, rfl, g3.trans g4⟩⟩⟩))))
    · rintro σ H3 ⟨s6, rfl, g3⟩
      have g13 := g12.trans g3
      refine wb_one (ws_ret (w_putW (hd2.gx g3.gx0) hw (fun H' => w_var 1 ⟨_, rfl, rfl, rfl⟩) (fun H' => w_var 4 ⟨_, rfl, rfl, rfl⟩) fun H4 g4 => ?_))
      have g14 := g13.trans g4
      refine w_call (joined T) hq hr (T.d40.df rfl rfl) paQ rfl (wa_cons (w_var 1 ⟨_, rfl, wa_cons (w_ix ix_list (w_var 5 ⟨_, rfl, w_int ⟨l, _, 0, .ref t, rfl, rfl, .of (g4.at (g3.at hl2)), rfl, wa_nil ?_⟩⟩))⟩))
      refine ⟨d, t, k, ts, ps, rfl, hd.gx g14.gx0, .of (g14.at ht), hk, hw, j1, j2, fun m hm => ?_, fun hm hz p' H5 g5 hw5 => ?_, fun hm hz => ?_⟩
      · simp only [run, hm] at q
        exact Gr.xr q g14
      · simp only [run, hm, hz, if_true] at q
        exact ⟨g5, p', _, rfl, hw5, fun D H6 g6 hD => q D H6 (g13.trans g6) hD⟩
      · simp only [run, hm] at q
        rw [if_neg (by omega)] at q
        exact Gr.xr q g14
  | drop n =>
    obtain ⟨rfl, rfl⟩ := hm
    refine mc_no (mc_no (mc_any ?_))
    refine wb_cons (ws_if (wt_dnotin hr (w_var 4 ⟨_, rfl, w_var 1 ⟨_, rfl, ?_⟩⟩)))
    have hv := hd2.get n
    rcases hv with ⟨hv, hg⟩ | ⟨w0, c0, hv, hg, _⟩
    · refine ⟨d, _, rfl, hg, iteT (wb_one (ws_raise takesQ xKey T.eUnk.xc (init_unk T.toTz) hq (hr.mono (by decide)) rfl (wa_cons (w_var 4 ⟨_, rfl, wa_nil ⟨_, rfl, fun d' hd' => ?_⟩⟩))))⟩
      simp only [run, hv] at q
      exact XR.now (Gr.xr (show XR K "UnknownName" "name" (.str n) [] H E from q) g12) hd'
    refine ⟨d, _, rfl, hg, iteF (wb_nil (wb_one (ws_ret ?_)))⟩
    simp only [run, hv] at q
    obtain ⟨o, kvs, ho, r⟩ := hd2
    have hnd := r.nodup hw.nd
    refine wE_locked (w_dcItems (own := [("other", 7), ("walk", 8)]) hq sc42.nd (blkOk (N := N42) (sc := defScope (topS 42))) (w_var 1 ⟨_, rfl, d, o, kvs, rfl, ho, fun D hD => ?_⟩))
    refine ⟨fun i H' => Gr [] H2 H' ∧ H' D = some (.dK ((kvs.take i).filter fun kv => decide (kv.1 ≠ Sum.inr n))) ∧ i ≤ kvs.length, ⟨Gr.refl.new hD, upd_same, Nat.zero_le _⟩, fun i H' h => h.1.at ho, ?_, ?_⟩
    · rintro i H' T' k' v' ⟨g, hD', hi⟩ hkv hT s0 H0 C cl fp
      obtain ⟨m, c', hts, rfl, _⟩ := r.get hkv
      have hlt : i < kvs.length := (List.getElem?_eq_some_iff.mp hkv).1
      refine w_gtup (n := 2) hq.blk ⟨T', _, rfl, .of upd_same, rfl, w_gcons (w_gname 7 (w_gcons (w_gname 8 (w_gnil ⟨rfl, fun s0 H0 C cl fp => ?_⟩) sc42.nd)) sc42.nd)⟩
      have nDT : D ≠ T' := ne_of_none hD' hT
      have gT : Gr [] H2 (upd H' T' (.tup [kV (Sum.inr m), v'])) := g.new hT
      refine wts_one (wt_cmp op_ne (w_var 7 ⟨_, rfl, w_var 4 ⟨_, rfl, rfl, _, rfl, ?_⟩⟩))
      rw [show decide (kV (Sum.inr m) = V.str (Ch.drop n).nm) = decide (m = n) from decide_eq_decide.mpr ⟨fun h => V.str.inj h, fun h => by rw [h] <;> rfl⟩]
      by_cases e : m = n
      · rw [decide_eq_true e]
        refine iteF ⟨gT, ?_, hlt⟩
        rw [filt_no (f := fun k => decide (k ≠ Sum.inr n)) hkv (by simp [e]), upd_ne nDT]
        exact hD'
      · rw [decide_eq_false e]
        refine iteT fun s0 H0 C cl fp => w_var 7 ⟨_, rfl, fun s0 H0 C cl fp => w_var 8 ⟨_, rfl, _, .inr m, rfl, by rw [upd_ne nDT]; exact hD', ?_, gT.put (.inl (by exact hD)), ?_, hlt⟩⟩
        · refine Nat.lt_of_le_of_lt (List.length_filter_le _ _) ?_
          have := hw.len
          have := r.length
          rw [List.length_take]
          exact szl (by omega)
        · rw [upd_same, filt_yes (f := fun k => decide (k ≠ Sum.inr n)) hnd hkv (by simp [e])]
    · rintro H' ⟨g, hD', _⟩
      rw [List.take_length] at hD'
      refine ⟨D, _, rfl, hD', trivial, fun ob => ?_⟩
      have g6 : Gr [] H2 (upd H' D (.frz ob (.dK (kvs.filter fun kv => decide (kv.1 ≠ Sum.inr n))))) := g.put (.inl hD)
      refine q D _ (g12.trans g6) ⟨ob, _, upd_same, DL.filter (R := RW K _ k) (r.mono fun v c z => z.gx g6.gx0) (fun k => decide (k ≠ Sum.inr n)) (fun m => decide (m ≠ n)) fun m => ?_⟩
      exact decide_eq_decide.mpr ⟨fun h e => h (by rw [e]), fun h e => h (Sum.inr.inj e)⟩
end
end K6

/-! ## KS -/
namespace K6
open PySem PySem.Spec PyProof.Rows L2 PySem.Froz
/-! ### sets of texts that can be walked -/
/-- the set at a holds the texts l, and its table can be walked -/
def StrS (P : Program) (w : World) (h : Heap) (a : Addr) (l : List Str) : Prop :=
  ∃ D : SD, h.get? a = some (sObj "set" D) ∧ TxOk P w D l ∧ l.Nodup ∧ L2.Ris D.2.2.place.toList ∧ (w.params.followText "set-order" = true ∨ D.2.2.led = true)
section
variable {P : Program} {w : World} {A : Around} {E : Value → Shared → Prop} {s : Shared} {a : Addr} {l : List Str} {k : Str} {u : Tok}
theorem set_tail {w : World} {ep : Nat} {es1 : Array (Int × Value)} {t2 : SetTable} {b : Bool} (r : L2.Ris t2.place.toList) (e : w.params.followText "set-order" = true ∨ t2.led = true) :
    L2.Ris (tailTx ep es1 t2 b).2.2.place.toList ∧ (w.params.followText "set-order" = true ∨ (tailTx ep es1 t2 b).2.2.led = true) := by
  unfold tailTx
  split
  · exact ⟨L2.relayAll_ris t2 es1 _, e.imp id fun z => (L2.relayAll_led t2 es1 _).trans z⟩
  · exact ⟨r, e⟩
theorem set_add1 {w : World} {D : SD} {h : Int} {v : Value} (r : L2.Ris D.2.2.place.toList) (e : w.params.followText "set-order" = true ∨ D.2.2.led = true) :
    L2.Ris (addTx h v D).2.2.place.toList ∧ (w.params.followText "set-order" = true ∨ (addTx h v D).2.2.led = true) := by
  have r1 := L2.layNew_ris D.2.2 D.1 h v r
  have e1 : w.params.followText "set-order" = true ∨ (layNew D.2.2 D.1 h v).2.1.led = true := e.imp id fun z => (L2.layNew_led D.2.2 D.1 h v).trans z
  unfold addTx
  split
  · exact set_tail r1 e1
  · exact set_tail r1 e1
/-- a text goes into the set -/
theorem add_any {Q : Bool → Shared → Prop} (R : StrS P w s.heap a l) (hb : l.length + 1 < scanBound)
    (hQ : ∀ h' b, Heap.SameBut a s.heap h' → StrS P w h' a (if k ∈ l then l else k :: l) → Q b { s with heap := h' }) : wpAny (model P w) A (setAddHashed a (.str k u) (hashStr w k)) Q E s := by
  obtain ⟨D, ho, F, nd, r, e⟩ := R
  by_cases hk : k ∈ l
  · have q := hQ s.heap false (Heap.SameBut.refl a s.heap) (by rw [if_pos hk]; exact ⟨D, ho, F, nd, r, e⟩)
    obtain ⟨es, ep, t⟩ := D
    have hd : (sObj "set" (es, ep, t)).data = .set es ep t := rfl
    have hel : ElemsOf (strKind P w) es.toList := F.el
    have hf : t.fits es.size = true := F.fit
    have hsz : es.size = l.length := F.sz
    obtain ⟨y, hy, hyk⟩ := (F.mem k).mp hk
    unfold setAddHashed setAddHashedIn
    refine wpAny_holding (wpAny_bind (wpAny_setState_of ho hd hf ?_))
    dsimp only
    rw [byScan_of rfl (by omega) hel]
    simp only [↓reduceIte]
    unfold setAddByScan
    refine wpAny_bind (wpAny_bind (wpAny_rule (wpAny_bind (wpAny_setScan_of (knd := strKind P w) (k := k) (is_str k u) ho hd hf hel ?_))))
    cases hfi : List.findIdx? (fun e => (strKind P w).is k e.2) es.toList with
    | some j => exact wpAny_pure (wpAny_pure q)
    | none =>
      have c := List.findIdx?_eq_none_iff.mp hfi y hy
      rw [hyk] at c
      cases c
  · refine add_x ho F hk hb (hQ _ true ?_ ?_)
    · exact Heap.SameBut.update ..
    · rw [if_neg hk]
      have z := set_add1 (w := w) (h := hashStr w k) (v := .str k u) r e
      exact ⟨_, get_upd _ ho rfl, add_ok u F, List.nodup_cons.mpr ⟨hk, nd⟩, z.1, z.2⟩
theorem StrS.at {h h' : Heap} (R : StrS P w h a l) (k : ∀ o, h.get? a = some o → h'.get? a = some o) : StrS P w h' a l := by
  obtain ⟨D, ho, r⟩ := R
  exact ⟨D, k _ ho, r⟩
theorem StrS.new {h : Heap} (w : World) : StrS P w (h.push { cls := .type "set", dict := none, data := .set #[] 0 (.fresh 0 0 (!w.params.followText "set-order")) }) h.objs.size [] := by
  refine ⟨(#[], 0, .fresh 0 0 (!w.params.followText "set-order")), Heap.get?_push_size _ rfl, TxOk.nil (by rfl), List.nodup_nil, List.Pairwise.nil, ?_⟩
  show _ ∨ (!w.params.followText "set-order") = true
  cases w.params.followText "set-order"
  · exact .inr rfl
  · exact .inl rfl
theorem StrS.typeIs (R : StrS P w s.heap a l) : s.TypeIs (.ref a) "set" := by
  obtain ⟨D, ho, _⟩ := R
  exact ⟨_, ho, rfl⟩
/-- set.add -/
theorem call_addT {Q : Value → Shared → Prop} (R : StrS P w s.heap a l) (hb : l.length + 1 < scanBound)
    (hQ : ∀ h' tk, Heap.SameBut a s.heap h' → StrS P w h' a (if k ∈ l then l else k :: l) → Q .none { s with heap := h', toks := tk }) : wpAny (model P w) A (call (.builtin "set.add") [.ref a, .str k u]) Q E s := by
  refine wpAny_call_entry PySem.F.slot_set_add R.typeIs PySem.F.entry_set_add ?_ (PySem.F.args_set_add_2 _ _)
  unfold Builtin.«set.add» Builtin.Frozenset.oneOther
  simp only [List.isEmpty_nil, bind_assoc]
  unfold Builtin.Frozenset.addrOf setAdd
  refine wpAny_bind (wpAny_pure ?_)
  try dsimp only
  refine wpAny_bind (wpAny_pure ?_)
  try dsimp only
  refine wpAny_bind (wpAny_holding (wpAny_bind ((strKind P w).pyHash (is_str k u) ?_)))
  refine add_any (s := { s with toks := s.toks + 1 }) R hb fun h' b sb r => ?_
  show wpAny _ _ (ret Value.none) _ _ _
  exact wpAny_pure ⟨_, rfl, hQ h' _ sb r⟩
end
/-- a set of texts, as a thing of the heap -/
def StrO (P : Program) (w : World) (a : Addr) (l : List Str) : HO := .ext fun h => StrS P w h a l
theorem strO_ok {P : Program} {w : World} {H : Hp} {h : Heap} {a : Addr} {l : List Str} (R : StrS P w h a l) : ObjOk P w H h a (StrO P w a l) := by
  obtain ⟨D, ho, _⟩ := id R
  exact ⟨R, ⟨_, ho⟩, fun h1 h2 p k => StrS.at p k⟩
section
variable {X : Cx} {pins : List (Addr × Obj)} {σ : St} {H : Hp} {s : Shared}
theorem strO_get {a : Addr} {l : List Str} (I : Inv X pins σ H s) (ha : H a = some (StrO X.prog X.w a l)) : StrS X.prog X.w s.heap a l := (I.hok a _ ha).1
theorem perm_of_sub {α : Type} [DecidableEq α] : ∀ (l m : List α), l.Nodup → (∀ x ∈ l, x ∈ m) → m.length ≤ l.length → m.Perm l
  | [], m, _, _, h => by
    have : m = [] := List.eq_nil_of_length_eq_zero (Nat.le_zero.mp h)
    rw [this]
  | a :: l, m, hn, hs, hl => by
    have hn' := List.nodup_cons.mp hn
    have ha := hs a List.mem_cons_self
    have p := List.perm_cons_erase ha
    have hlen := p.length_eq
    rw [List.length_cons] at hlen hl
    refine p.trans ((perm_of_sub l (m.erase a) hn'.2 (fun x hx => ?_) (by omega)).cons a)
    have hxa : x ≠ a := fun e => hn'.1 (e ▸ hx)
    exact (List.mem_erase_of_ne hxa).mpr (hs x (List.mem_cons_of_mem _ hx))
/-- sorted(s), few texts -/
theorem call_sortT (hc : X.calm = true) : CallR X (.builtin "sorted") (fun xs H Q => ∃ (a : Addr) (l : List Str), xs = [.ref a] ∧ H a = some (StrO X.prog X.w a l) ∧ l.length < 64 ∧
    ∀ ys p, IsSet ys l → H p = none → Q (.ref p) (upd H p (.lst (ys.map V.str)))) := by
  intro pins s σ H xs us Q I r q
  obtain ⟨a, l, ex, hd, h64, q⟩ := q
  subst ex
  obtain ⟨u, eu, rx⟩ := vals1 r
  subst eu
  cases rx
  obtain ⟨⟨es, ep, t⟩, ho, F, nd, rs, led⟩ := strO_get I hd
  have hsz : es.size = l.length := F.sz
  have hel : ElemsOf (strKind X.prog X.w) es.toList := F.el
  have hsb : es.size < scanBound := by
    have : 64 ≤ scanBound := by decide
    omega
  refine Calls.call_function_entry PyProof.Rows.kind_sorted PyProof.Rows.plain_sorted PyProof.Rows.entry_sorted (PyProof.Rows.args_sorted1 _) ?_
  unfold Builtin.«sorted»
  refine wpAny_bind (m := checkCount "sorted" 1 1 _) (wpAny_pure ?_)
  refine wpAny_bind (L2.collect_set (A := X.A.in1) (I.ok.hd hc) ⟨_, ho, rfl, rfl⟩ F.fit hsb rs led fun s1 vs k1 hz g1 o1 pm => ?_)
  have hvl : vs.length = l.length := by rw [pm.length_eq, List.length_map, Array.length_toList]; exact hsz
  have hstr : ∀ v ∈ vs, ∃ x t, v = Value.str x t ∧ x ∈ l := fun v hv => by
    obtain ⟨e, he, rfl⟩ := List.mem_map.mp (pm.mem_iff.mp hv)
    obtain ⟨⟨k, hk, _⟩, _⟩ := hel e he
    obtain ⟨t, ev⟩ := Value.isStrOf_shape (x := k) (v := e.2) hk
    exact ⟨k, t, ev, (F.mem k).mpr ⟨e, he, hk⟩⟩
  have hS : StrsAre vs (vs.map strOf) := strsAre_map vs fun v hv => by
    obtain ⟨x, t, e, _⟩ := hstr v hv
    exact ⟨x, t, e⟩
  have pl : (vs.map strOf).Perm l := by
    refine perm_of_sub l _ nd (fun x hx => ?_) (Nat.le_of_eq (by rw [List.length_map, hvl]))
    obtain ⟨e, he, hk⟩ := (F.mem x).mp hx
    obtain ⟨t, ev⟩ := Value.isStrOf_shape (x := x) (v := e.2) hk
    exact List.mem_map.mpr ⟨e.2, pm.mem_iff.mpr (List.mem_map.mpr ⟨e, he, rfl⟩), by rw [ev] <;> rfl⟩
  have I1 : Inv X pins σ H s1 := I.call' (ch := []) o1 (Un.kept k1) (I.hok.kept k1) (by rw [g1]; exact I.bare) (fun _ z => nomatch z)
  refine wpAny_bind (wpAny_newList ?_ (by rw [hvl, sizeLine_eq]; omega))
  have hoL : (s1.heap.push (seqObj "list" vs.toArray 0)).get? s1.heap.objs.size = some (seqObj "list" vs.toArray 0) := Heap.get?_push_size _ rfl
  refine wpAny_bind (wpAny_holding (wpAny_call_entry PyProof.Rows.slot_list_sort ⟨_, hoL, rfl⟩ PyProof.Rows.entry_list_sort
    (list_sort_treeK strKind_oneLt (s := { s1 with heap := s1.heap.push (seqObj "list" vs.toArray 0) }) hoL hS.keysOf (fun v₁ v₂ rest e => keyKind_strs (by rw [← e]; exact hS)) (by rw [hvl]; exact h64) fun st' hp hs => ⟨_, rfl, ?_⟩)
    (PyProof.Rows.args_list_sort _)))
  obtain ⟨ys, g1', g2, g3⟩ := sorted_out_str hS hp hs
  obtain ⟨e', he'⟩ := PyProof.Rows.sortedHeap_at (vs := vs) (out := (arrOf st').map (·.2)) hoL
  have py := g2.trans pl
  have hlen : (ys.map V.str).length ≤ sizeLine := by
    rw [List.length_map, py.length_eq]
    exact Nat.le_trans (Nat.le_of_lt h64) (by decide)
  refine wpAny_pure ⟨_, rfl, .ref s1.heap.objs.size, upd H s1.heap.objs.size (.lst (ys.map V.str)), I1.laid (t' := s1.toks) (fun b u e => ?_) (Nat.le_refl _)
    (show ObjOk X.prog X.w _ _ _ (.lst (ys.map V.str)) from ⟨hlen, ((arrOf st').map (·.2)).toList, e', vals_of_strs g1', by rw [Array.toArray_toList]; exact he'⟩), rfl, q ys _ (IsSet.of py g3 nd) (I1.hok.fresh (Nat.le_refl _))⟩
  have hb : b < s1.heap.objs.size := Heap.lt_size e
  rw [PyProof.Rows.sortedHeap_old (Nat.ne_of_lt hb) (by rw [size_push']; exact Nat.lt_succ_of_lt hb)]
  exact Heap.get?_push_of_some _ e
/-! ### {x for .. in t}, the items texts -/
/-- what a set comprehension asks of its walk: D is the new set -/
def ScW (X : Cx) (tg : Expr) (ifs : List Expr) (elt : Expr) (scope : Scope) (vs : List Nat) (Q : VK) (σ : St) (J : It) (H1 : Hp) : Prop :=
  ∀ D, H1 D = none → ∃ W : Nat → Nat → Hp → Prop, (∃ m, W 0 m (upd H1 D (StrO X.prog X.w D []))) ∧ ∀ (s0 : Shared) (H0 : Hp) (C : Addr) (cl : List (Str × Addr)) (fp : List Addr) i m H, W i m H →
    (J.stop i H ∧ Q (.ref D) H) ∨ (J.go i H ∧ ∃ Nx : Hp → Prop, (∀ H', Nx H' → ∃ m', m' < m ∧ W (i + 1) m' H') ∧ ∀ x H', J.yld i H x H' →
      wG (blkQ X s0 H0 scope (compEnvC scope cl C X.env) fp) tg x (wipe σ vs) H' fun σ2 H2 => wipe σ2 vs = wipe σ vs ∧ wTs (blkQ X s0 H0 scope (compEnvC scope cl C X.env) fp) ifs σ2 H2 fun b H3 =>
        if b = true then wE (blkQ X s0 H0 scope (compEnvC scope cl C X.env) fp) elt σ2 H3 fun y H4 => ∃ k l, y = .str k ∧ H4 D = some (StrO X.prog X.w D l) ∧ l.length + 1 < scanBound ∧ Nx (upd H4 D (StrO X.prog X.w D (if k ∈ l then l else k :: l))) else Nx H3)
theorem scQ {h : Bool} {Q : VK} {elt tg iter : Expr} {ifs : List Expr} {scope : Scope} {own : List (Str × Nat)} {pos pos' : Pos} {use : Option (Value → Sem Unit)} {Qf : Value → Shared → Prop}
    (hq : Qk h X) (hN : X.N.Nodup) (I : Inv X pins σ H s) (ok : BlkOk X.N X.env.scope scope own) (hs : ∀ x, foldedSetIterable iter X.env x = pure x) (hw : wI h X tg iter σ H (ScW X tg ifs elt scope (own.map (·.2)) Q σ))
    (hRR : ∀ D C s' m H', Inv X pins σ H' s' → Q (.ref D) H' → s'.heap.Ns C m → FpOk X pins H' C → compPost (model X.prog X.w) X.A X.xe use Qf (.ref D) C (.ok .next) s') :
    wpAny (model X.prog X.w) X.A (comprehension (.SetComp elt [⟨tg, iter, ifs, 0⟩] scope pos) scope X.env pos' (newSet (.type "set")) false (eval iter X.env) use) Qf X.xe s := by
  have hfree : ∀ y ∈ scope.names, y.2 = .free → ∃ c, X.env.cells.lookup y.1 = some c := fun y hy e => (ok.free y hy e).elim (fun k => I.ok.has _ (.inl k)) fun k => I.ok.has _ (.inr k)
  refine wpAny_comprehension_free (use := use) rfl hs (closure_ok hfree) ok.kind (fun y hy e => by rw [ok.uniq y hy, e]) (thn (hw pins s I) fun xv s1 hx => thn hx fun itv s2 h2 => ?_)
  obtain ⟨it, fp, tn, J, H2, e, I2, T, st2, f2, q⟩ := h2
  subst e
  refine PpSet.newSet_ok (newEnv_comp ?_)
  generalize hD : s2.heap.objs.size = D
  have hDn : H2 D = none := I2.hok.fresh (Nat.le_of_eq hD)
  obtain ⟨W, ⟨m0, w0⟩, turn⟩ := q D hDn
  generalize hs3 : ({ s2 with heap := s2.heap.push { cls := .type "set", dict := none, data := .set #[] 0 (.fresh 0 0 (!X.w.params.followText "set-order")) } } : Shared) = s3
  have I3 : Inv X pins σ (upd H2 D (StrO X.prog X.w D [])) s3 := by
    rw [← hs3]
    refine I2.laid (t' := s2.toks) (fun b o e => Heap.get?_push_of_some _ e) (Nat.le_of_eq hD) ?_
    rw [← hD]
    exact strO_ok (StrS.new X.w)
  have h3 : s3.heap = s2.heap.push { cls := .type "set", dict := none, data := .set #[] 0 (.fresh 0 0 (!X.w.params.followText "set-order")) } := by rw [← hs3]
  have sz : ∀ b ∈ fp, b < s2.heap.objs.size := fun b hb => by
    obtain ⟨o, e, _⟩ := T.obj _ _ st2 b hb
    exact Heap.lt_size e
  have f3 : ∀ b ∈ fp, FpOk X pins (upd H2 D (StrO X.prog X.w D [])) b ∧ b < s3.heap.objs.size := fun b hb => by
    have hlt := sz b hb
    refine ⟨⟨?_, (f2 b hb).2⟩, by rw [h3, Heap.size_push]; exact Nat.lt_succ_of_lt hlt⟩
    rw [upd_ne (by rw [← hD]; exact Nat.ne_of_lt hlt)]
    exact (f2 b hb).1
  have st3 : tn 0 s3.heap := T.keep _ _ _ st2 fun b _ o e => by rw [h3]; exact Heap.get?_push_of_some _ e
  have I4 := block_startQ I3 ok hN f3
  replace turn := turn s3 (upd H2 D (StrO X.prog X.w D [])) s3.heap.objs.size (cellsFrom (s3.heap.objs.size + 1) scope.names (cloFrom X.env.cells scope.names [])) fp
  show codeAny _ _ (.compStart (.SetComp elt [⟨tg, iter, ifs, 0⟩] scope pos) 0 (.ref it) (.ref D) (compEnvC scope (cellsFrom (s3.heap.objs.size + 1) scope.names (cloFrom X.env.cells scope.names [])) s3.heap.objs.size X.env)) (compPost (model X.prog X.w) X.A X.xe use Qf (.ref D) s3.heap.objs.size) { s3 with heap := pushCells (s3.heap.push { cls := .type "dict", data := .dict #[] }) scope.names }
  have nfp : ∀ b ∈ fp, (upd H2 D (StrO X.prog X.w D [])) b = none := fun b hb => (f3 b hb).1.1
  generalize hce : compEnvC scope (cellsFrom (s3.heap.objs.size + 1) scope.names (cloFrom X.env.cells scope.names [])) s3.heap.objs.size X.env = ce at I4 turn ⊢
  have cL : ce.locals = s3.heap.objs.size := by subst hce; rfl
  generalize hH3 : upd H2 D (StrO X.prog X.w D []) = H3 at I3 I4 turn w0 nfp f3
  generalize hs4 : ({ s3 with heap := pushCells (s3.heap.push { cls := .type "dict", data := .dict #[] }) scope.names } : Shared) = s4 at I4 ⊢
  have st4 : tn 0 s4.heap := T.keep _ _ _ st3 fun b _ o e => by rw [← hs4]; exact pushCells_keeps _ _ _ _ (Heap.get?_push_of_some _ e)
  have qY : Qk h (blkQ X s3 H3 scope ce fp) := hq
  have stat : ∀ {σ' : St} {H' : Hp} {s' : Shared}, Inv (blkQ X s3 H3 scope ce fp) [] σ' H' s' → (∀ b ∈ fp, H' b = none) → ∀ b ∈ fp, FpOk (blkQ X s3 H3 scope ce fp) [] H' b := fun {σ' H' s'} I' hn b hb =>
    ⟨hn b hb, (I'.ok.exf b hb).1, I'.ok.exfs b hb, .inl hb, fun x c e => (I'.ok.exf b hb).2 x c e, fun p hp => by
      have hp' : p ∈ X.pn := by simpa using (show p ∈ X.pn ++ [] from hp)
      exact (f3 b hb).1.2.2.2.2.2 p (List.mem_append_left _ hp')⟩
  have loop : codeAny (model X.prog X.w) X.A (.compLoop (.SetComp elt [⟨tg, iter, ifs, 0⟩] scope pos) 0 (.ref it) (.ref D) ce) (compPost (model X.prog X.w) X.A X.xe use Qf (.ref D) s3.heap.objs.size) s4 := by
    refine PpSet.compLoopS_any (fun n s' => ∃ i H', Inv (blkQ X s3 H3 scope ce fp) [] (wipe σ (own.map (·.2))) H' s' ∧ tn i s'.heap ∧ (∀ b ∈ fp, H' b = none) ∧ W i n H') ?_ m0 ⟨0, H3, I4, st4, nfp, w0⟩
    rintro n s5 ⟨i, H5, I5, st5, n5, w5⟩
    rcases turn i n H5 w5 with ⟨stop, qq⟩ | ⟨go, Nx, hNx, step⟩
    · refine thnF (T.done (blkQ X s3 H3 scope ce fp) rfl rfl rfl qY i [] s5 _ H5 (fun _ _ => False) I5 (stat I5 n5) st5 stop) fun r s6 ⟨hr, I6⟩ => ?_
      subst hr
      have I7 : Inv X pins σ H5 s6 := I3.call' (ch := fp) I6.os I6.base I6.hok I6.bare fun b hb => ⟨(f3 b hb).1.2.2.2.1, (f3 b hb).1.2.1, (f3 b hb).1.2.2.2.2.1, (f3 b hb).1.2.2.2.2.2⟩
      have nC : H5 s3.heap.objs.size = none := cL ▸ (show H5 ce.locals = none from I6.free)
      obtain ⟨m, hn, _⟩ := I6.loc
      replace hn : s6.heap.Ns ce.locals m := hn
      rw [cL] at hn
      exact hRR D s3.heap.objs.size s6 m H5 I7 qq hn (I3.fpOk (Nat.le_refl _) nC)
    · refine thnF (T.item (blkQ X s3 H3 scope ce fp) rfl rfl rfl qY i [] s5 _ H5 (fun _ _ => False) I5 (stat I5 n5) st5 go) fun r s6 ⟨u, hr, h6⟩ => ?_
      subst hr
      refine thnF h6 fun _ s7 ⟨x, H7, I7, r7, y7, st7, n7⟩ => ?_
      have I7' := I7.pinned (stat I7 n7) (T.obj _ _ st7)
      refine thnF (step x H7 y7 _ s7 u I7' r7) fun _ s8 ⟨σ8, H8, I8, hw8, q8⟩ => ?_
      refine thnF (q8 _ s8 I8) fun b s9 ⟨H9, I9, q9⟩ => ?_
      have fin : ∀ {s' : Shared} {H' : Hp}, Inv (blkQ X s3 H3 scope ce fp) ([] ++ pinsAt fp s7.heap) σ8 H' s' → Nx H' → ∃ m, m < n ∧ ∃ i H', Inv (blkQ X s3 H3 scope ce fp) [] (wipe σ (own.map (·.2))) H' s' ∧ tn i s'.heap ∧ (∀ b ∈ fp, H' b = none) ∧ W i m H' := fun {s' H'} I' nx => by
        obtain ⟨m', hm, w'⟩ := hNx H' nx
        have pin' : ∀ b ∈ fp, ∀ o, s7.heap.get? b = some o → s'.heap.get? b = some o ∧ H' b = none := fun b hb o e =>
          let z := I'.pin (b, o) (List.mem_append_right _ (List.mem_append_right _ (mem_pinsAt hb e)))
          ⟨z.1, z.2.1⟩
        have hl : (wipe σ (own.map (·.2))).length = σ8.length := by rw [← hw8, wipe_length]
        refine ⟨m', hm, i + 1, H', (I'.unpinned (pins := [])).weak hl (fun j v e => ?_), T.keep _ _ _ st7 fun b hb o e => (pin' b hb o e).1, fun b hb => ?_, w'⟩
        · rw [← hw8] at e
          exact (wipe_some e).1
        · obtain ⟨o, e, _⟩ := T.obj _ _ st7 b hb
          exact (pin' b hb o e).2
      cases b with
      | false =>
        simp only [Bool.false_eq_true, if_false] at q9 ⊢
        exact fin I9 q9
      | true =>
        simp only [if_true] at q9 ⊢
        refine thnF (q9 _ s9 I9) fun z s10 ⟨yv, H10, I10, r10, k, l, ek, hD10, hz10, nx⟩ => ?_
        subst ek
        obtain ⟨t, rfl⟩ := (show ∃ t, z = Value.str k t from r10)
        refine call_addT (strO_get (X := blkQ X s3 H3 scope ce fp) I10 hD10) hz10 fun h' tk sb R => ?_
        have he : ∃ u, h'.get? D = some u := by
          obtain ⟨D', ho, _⟩ := R
          exact ⟨_, ho⟩
        exact fin (I10.write (e := D) (t' := tk) (by rw [hD10]; trivial) (.inl rfl) (fun b u hb hu => (sb.2 b hb).trans hu) he (strO_ok R)) nx
  exact PpSet.codeAny_compStart_set loop (T.self X.A 0 _ _ _ st4 loop)
theorem w_sc {h : Bool} {elt tg iter : Expr} {ifs : List Expr} {scope : Scope} {own : List (Str × Nat)} {pos : Pos} {Q : VK} (hq : Qk h X) (hN : X.N.Nodup) (ok : BlkOk X.N X.env.scope scope own) (hw : wI h X tg iter σ H (ScW X tg ifs elt scope (own.map (·.2)) Q σ))
    (hs : ∀ x, foldedSetIterable iter X.env x = pure x := by intro _; rfl) : wE X (.SetComp elt [⟨tg, iter, ifs, 0⟩] scope pos) σ H Q := fun pins s I => by
  rw [PpSet.eval_SetComp]
  refine scQ hq hN I ok hs hw fun D C s' m H' I' q hn f => ⟨m, hn, fun h'' sb => ?_⟩
  obtain ⟨f0, f1, f2, f3, f4, f5⟩ := f
  exact ⟨.ref D, H', I'.turned (t' := s'.toks) (fun b o hb e => (sb.2 b hb).trans e) f0 f1 f3 f4 f5, rfl, q⟩
/-- over known values, each giving a text; nothing else changes -/
theorem sc_wk {J : It} {xs : List V} {C : Hp → Prop} {tg elt : Expr} {scope : Scope} {vs : List Nat} {Q : VK} (f : Nat → Str) (wk : Wk J xs C) (hC : ∀ H', Gr [] H H' → C H') (hlen : xs.length ≤ 1000)
    (step : ∀ (s0 : Shared) (H0 : Hp) (C : Addr) (cl : List (Str × Addr)) (fp : List Addr) i x H', xs[i]? = some x → Gr [] H H' →
      wG (blkQ X s0 H0 scope (compEnvC scope cl C X.env) fp) tg x (wipe σ vs) H' fun σ2 H2 => wipe σ2 vs = wipe σ vs ∧ wE (blkQ X s0 H0 scope (compEnvC scope cl C X.env) fp) elt σ2 H2 fun y H3 => y = .str (f i) ∧ Gr [] H' H3)
    (done : ∀ D H' l, H D = none → Gr [] H H' → H' D = some (StrO X.prog X.w D l) → (∀ z, z ∈ l ↔ ∃ i, i < xs.length ∧ z = f i) → l.length ≤ xs.length → Q (.ref D) H') : ScW X tg [] elt scope vs Q σ J H := by
  intro D hD
  refine ⟨fun i m H' => m = xs.length - i ∧ i ≤ xs.length ∧ Gr [] H H' ∧ ∃ l, H' D = some (StrO X.prog X.w D l) ∧ (∀ z, z ∈ l ↔ ∃ j, j < i ∧ z = f j) ∧ l.length ≤ i, ⟨_, rfl, Nat.zero_le _, Gr.refl.new hD, [], upd_same, fun z => by simp, Nat.le_refl _⟩, ?_⟩
  rintro s0 H0 c cl fp i m H' ⟨rfl, hi, g, l, hl, hm, hz⟩
  by_cases hlt : i < xs.length
  · refine .inr ⟨wk.go i H' (hC H' g) hlt, fun H2 => i < xs.length ∧ Gr [] H H2 ∧ ∃ l, H2 D = some (StrO X.prog X.w D l) ∧ (∀ z, z ∈ l ↔ ∃ j, j < i + 1 ∧ z = f j) ∧ l.length ≤ i + 1, fun H2 ⟨p1, p2, p3⟩ => ⟨xs.length - (i + 1), by omega, rfl, hlt, p2, p3⟩, fun x H2 y => ?_⟩
    obtain ⟨rfl, hx⟩ := wk.yld i H' x H2 (hC H' g) hlt y
    refine fun pins s u I r => thn (step s0 H0 c cl fp i x _ hx g pins s u I r) ?_
    rintro _ s' ⟨σ2, H3, I2, e2, h2⟩
    refine ⟨σ2, H3, I2, e2, wts_nil ?_⟩
    show (if true = true then _ else _)
    refine iteT (h2.mono ?_)
    rintro y' H4 ⟨rfl, g4⟩
    have hsb : (1001 : Nat) < scanBound := by decide
    refine ⟨f i, l, rfl, g4.at hl, by omega, hlt, (g.trans g4).put (.inl hD), _, upd_same, fun z => ?_, ?_⟩
    · have e1 : (z ∈ if f i ∈ l then l else f i :: l) ↔ z = f i ∨ z ∈ l := by
        split
        · rename_i hh
          exact ⟨.inr, fun h => h.elim (fun e => e ▸ hh) id⟩
        · exact List.mem_cons
      rw [e1, hm z]
      constructor
      · rintro (rfl | ⟨j, hj, rfl⟩)
        · exact ⟨i, Nat.lt_succ_self _, rfl⟩
        · exact ⟨j, Nat.lt_succ_of_lt hj, rfl⟩
      · rintro ⟨j, hj, rfl⟩
        rcases Nat.lt_succ_iff_lt_or_eq.mp hj with h | h
        · exact .inr ⟨j, h, rfl⟩
        · subst h; exact .inl rfl
    · split
      · omega
      · rw [List.length_cons]; omega
  · obtain rfl : i = xs.length := by omega
    exact .inl ⟨wk.stop _ H' (hC H' g) (Nat.le_refl _), done D H' l hD g hl hm hz⟩
end
end K6

/-! ## S4 -/
namespace K6
open PySem PySem.Spec PyProof.Rows L2
structure Tw (K : PySem.W.Frag) (w : World) (mg : Str → Option Value) : Prop extends Ts K w mg where
  stp : Ct K mg "Step"
  stu : Ct K mg "Studio"
  s_init : Mt K "__init__" "Step.__init__" 43 0 (mt K "Step" "__init__")
  s_n1 : Na K "Step" "user"
  s_n2 : Na K "Step" "touched"
  s_n3 : Na K "Step" "before"
  u_init : Mt K "__init__" "Studio.__init__" 45 0 (mt K "Studio" "__init__")
  u_net : Mt K "net" "Studio.net" 45 1 (pt K "Studio" "net")
  u_names : Mt K "names" "Studio.names" 45 2 (pt K "Studio" "names")
  u_latest : Mt K "latest" "Studio.latest" 45 4 (mt K "Studio" "latest")
  u_undo : Mt K "undo" "Studio.undo" 45 5 (mt K "Studio" "undo")
  u_copy : Mt K "copy" "Studio.copy" 45 9 (mt K "Studio" "copy")
  u_len : Mt K "__len__" "Studio.__len__" 45 10 (mt K "Studio" "__len__")
  u_eq : Mt K "__eq__" "Studio.__eq__" 45 11 (mt K "Studio" "__eq__")
  u_has : Mt K "__contains__" "Studio.__contains__" 45 12 (mt K "Studio" "__contains__")
  u_get : Mt K "__getitem__" "Studio.__getitem__" 45 13 (mt K "Studio" "__getitem__")
  u_netP : PropOf K (ga K "Studio") "net" (mt K "Studio" "net") (pt K "Studio" "net")
  u_namesP : PropOf K (ga K "Studio") "names" (mt K "Studio" "names") (pt K "Studio" "names")
  u_latestM : Meth K (ga K "Studio") "latest" (mt K "Studio" "latest")
  u_undoM : Meth K (ga K "Studio") "undo" (mt K "Studio" "undo")
  u_copyM : Meth K (ga K "Studio") "copy" (mt K "Studio" "copy")
  u_lenM : Sm K (ga K "Studio") "__len__" (mt K "Studio" "__len__")
  u_eqM : Sm K (ga K "Studio") "__eq__" (mt K "Studio" "__eq__")
  u_hasM : Sm K (ga K "Studio") "__contains__" (mt K "Studio" "__contains__")
  u_getM : Sm K (ga K "Studio") "__getitem__" (mt K "Studio" "__getitem__")
  u_getF : PySem.W.fnIn K (mt K "Studio" "__getitem__") = true
  u_n1 : Na K "Studio" "own_net"
  u_n2 : Na K "Studio" "walks"
  u_n3 : Na K "Studio" "steps"
section
variable {P : Program} {w : World} {K : PySem.W.Frag} {mg : Str → Option Value} {base : Heap}
/-! ### Step -/
abbrev N43 : List Str := ["self", "user", "names", "walks", "name"]
theorem sc43 : FnScope N43 ["self", "user", "names", "walks"] (defScope (inClass (topS 43) 0)) := ⟨rfl, rfl, rfl, by decide +kernel, rfl, by decide +kernel, by decide +kernel⟩
def spStepI (K : PySem.W.Frag) : Sp := fun vs H Q _ => ∃ x u t d dx k ns ts, vs = [.ref x, .str u, .ref t, .ref d] ∧ H x = some (.ins (cT K) dx []) ∧ SqT K H t (ns.map V.str) ∧ WD K H d k ts ∧ Wf ts ∧ ns.Nodup ∧ ns.length ≤ 9 ∧
  ∀ H', Gr [x] H H' → StepAt K H' x k (u, ns, look ns ts) → Q .non H'
theorem look_snoc {ns : List Str} {ts : Tm} {i : Nat} {n : Str} (h : ns[i]? = some n) : look (ns.take (i + 1)) ts = look (ns.take i) ts ++ ((valA ts n).map fun c => (n, c)).toList := by
  unfold look
  rw [List.take_add_one, h, List.filterMap_append]
  simp only [Option.toList_some, List.filterMap_cons, List.filterMap_nil]
  cases valA ts n <;> rfl
theorem look_len (ns : List Str) (ts : Tm) : (look ns ts).length ≤ ns.length := List.length_filterMap_le _ _
theorem putA_new {ts : Tm} {n c : Str} (h : n ∉ nms ts) : putA ts n c = ts ++ [(n, c)] := by
  unfold putA
  rw [if_neg fun z => h (any_mem.mp z)]
theorem mem_look {ns : List Str} {ts : Tm} {n : Str} (h : n ∈ nms (look ns ts)) : n ∈ ns := by
  rw [nms_look] at h
  exact (List.mem_filter.mp h).1
theorem nodup_take {ns : List Str} {i : Nat} {n : Str} (hn : ns.Nodup) (h : ns[i]? = some n) : n ∉ ns.take i := by
  intro hm
  obtain ⟨j, hj⟩ := List.mem_iff_getElem?.mp hm
  rw [List.getElem?_take] at hj
  split at hj
  · rename_i hlt
    have h1 := List.getElem?_eq_some_iff.mp h
    have h2 := List.getElem?_eq_some_iff.mp hj
    have := (List.pairwise_iff_getElem.mp (show ns.Pairwise (· ≠ ·) from hn)) j i h2.1 h1.1 hlt
    rw [h1.2, h2.2] at this
    exact this rfl
  · cases hj
theorem pfu1 {v : V} : putF "user" v [] = ([("user", v)] : List (Str × V)) := by rfl
theorem pfu2 {v v1 : V} : putF "touched" v ([("user", v1)] : List (Str × V)) = ([("user", v1), ("touched", v)] : List (Str × V)) := by rfl
theorem pfu3 {v v1 v2 : V} : putF "before" v ([("user", v1), ("touched", v2)] : List (Str × V)) = ([("user", v1), ("touched", v2), ("before", v)] : List (Str × V)) := by rfl
theorem step_init (T : Tw K w mg) : Fb false P w K mg base 1 (mt K "Step" "__init__") (spStepI K) := by
  obtain ⟨fd, F⟩ := T.s_init
  refine fn_b F sc43 (fun vs H Q E h => by obtain ⟨x, u, t, d, dx, k, ns, ts, rfl, _⟩ := h; rfl) (fun _ _ _ _ _ _ us hl => match us, hl with | [_, _, _, _], _ => rfl) ?_
  intro pz cdv A outer s H vs Q E hp hq hr h
  obtain ⟨x, u, t, d, dx, k, ns, ts, rfl, hx, ht, hd, hw, hn, hl8, q⟩ := h
  have cl := T.stp.cl
  refine wb_cons (ws_fld (w_var 1 ⟨_, rfl, w_var 0 ⟨_, rfl, x, _, _, _, rfl, hx, cl, T.s_n1, fsz (by simp), ?_⟩⟩))
  rw [pfu1]
  refine wb_cons (ws_fld (w_var 2 ⟨_, rfl, w_var 0 ⟨_, rfl, x, _, _, _, rfl, upd_same, cl, T.s_n2, fsz (by simp), ?_⟩⟩))
  rw [upd_upd, pfu2]
  have g0 : Gr [x] H (upd H x (.ins (cT K) dx [("user", .str u), ("touched", .ref t)])) := Gr.refl.put (.inr (by simp))
  have gx0 : Gx K H (upd H x (.ins (cT K) dx [("user", .str u), ("touched", .ref t)])) := Gx.refl.fld hx rfl
  generalize hH1 : upd H x (.ins (cT K) dx [("user", .str u), ("touched", .ref t)]) = H1 at g0 gx0 ⊢
  have hx1 : H1 x = some (.ins (cT K) dx [("user", .str u), ("touched", .ref t)]) := by rw [← hH1, upd_same]
  have ht1 : SqT K H1 t (ns.map V.str) := gx0.sqt ht
  have hd1 : WD K H1 d k ts := hd.gx gx0
  refine wb_one (ws_fld (wE_locked (w_dcTup (own := [("name", 4)]) hq sc43.nd (blkOk (N := N43) (sc := defScope (inClass (topS 43) 0))) (w_var 2 ⟨_, rfl, t, _, rfl, ht1, fun D hD => ?_⟩))))
  refine ⟨fun i H' => Gr [] H1 H' ∧ ∃ kvs, H' D = some (.dK kvs) ∧ DL (RW K H1 k) kvs (look (ns.take i) ts), ⟨Gr.refl.new hD, [], upd_same, .nil⟩, fun i H' h => h.1.tup ht1, ?_, ?_⟩
  · rintro i H' y ⟨g, kvs, hD', r⟩ hy s0 H0 C cl' fp
    obtain ⟨n, hn', rfl⟩ := str_get hy
    have hi8 : i < ns.length := (List.getElem?_eq_some_iff.mp hn').1
    have hd' := hd1.gx g.gx0
    refine w_gname 4 ⟨rfl, fun s0 H0 C cl fp => ?_⟩ sc43.nd
    refine wts_one (wt_din hr (w_var 4 ⟨_, rfl, w_var 3 ⟨_, rfl, ?_⟩⟩))
    rcases hd'.get n with ⟨hv, hg⟩ | ⟨p, c, hv, hg, hwk⟩
    · refine ⟨d, _, rfl, hg, iteF ⟨g, kvs, hD', ?_⟩⟩
      rw [look_snoc hn', hv]
      simpa using r
    · refine ⟨d, _, rfl, hg, iteT fun s0 H0 C cl fp => w_var 4 ⟨_, rfl, fun s0 H0 C cl fp => w_dget hr (w_var 3 ⟨_, rfl, w_var 4 ⟨_, rfl, ?_⟩⟩)⟩⟩
      obtain ⟨o, kv0, ho, r0⟩ := hd1
      have hwk1 : WalkAt K H1 p k c := by
        rcases r0.val n with ⟨a, b⟩ | ⟨v, c', a, b, p', rfl, hw'⟩
        · rw [hv] at a; cases a
        · rw [hv] at b
          cases b
          have : DGet H' d (.str n) (some (.ref p')) := .inl ⟨kv0, .inr n, .inr ⟨o, g.at ho⟩, rfl, a.symm⟩
          rcases hg with ⟨kv1, k1, h1, h2, h3⟩ | ⟨kv1, k1, b1, h1, h2, h3, h4⟩
          · have e1 : H' d = some (.frz o (.dK kv0)) := g.at ho
            rcases h1 with h1 | ⟨o1, h1⟩
            · rw [e1] at h1; cases h1
            · rw [e1] at h1
              cases h1
              have := kV_inj (show kV (Sum.inr n) = kV k1 from h2)
              subst this
              rw [a] at h3
              cases h3
              exact hw'
          · cases h2
      refine ⟨d, .ref p, rfl, hg, kvs, .inr n, rfl, hD', ?_, g.put (.inl hD), _, upd_same, ?_⟩
      · have e1 := r.length
        have e2 := look_len (ns.take i) ts
        rw [List.length_take] at e2
        exact szl (by omega)
      · rw [look_snoc hn', hv]
        have := DL.put (n := n) r (v := .ref p) (c := c) ⟨p, rfl, hwk1⟩
        rw [putA_new (fun hm => nodup_take hn hn' (mem_look hm))] at this
        exact this
  · rintro H' ⟨g, kvs, hD', r⟩
    rw [List.length_map, List.take_length] at r
    refine ⟨D, _, rfl, hD', trivial, fun ob => ?_⟩
    have g2 : Gr [] H1 (upd H' D (.frz ob (.dK kvs))) := g.put (.inl hD)
    refine w_var 0 ⟨_, rfl, x, _, _, _, rfl, g2.at hx1, cl, T.s_n3, fsz (by simp), ?_⟩
    rw [pfu3]
    have nxD : x ≠ D := by
      rintro rfl
      rw [hx1] at hD
      cases hD
    have gF : Gr [x] H (upd (upd H' D (.frz ob (.dK kvs))) x (.ins (cT K) dx [("user", .str u), ("touched", .ref t), ("before", .ref D)])) := (g0.trans g2.up).put (.inr (by simp))
    have gxF : Gx K H1 (upd (upd H' D (.frz ob (.dK kvs))) x (.ins (cT K) dx [("user", .str u), ("touched", .ref t), ("before", .ref D)])) := g2.gx0.fld (g2.at hx1) rfl
    exact q _ gF ⟨dx, t, D, upd_same, gxF.sqt ht1, ob, kvs, by rw [upd_ne (Ne.symm nxD), upd_same], r.mono fun v c z => z.gx gxF⟩
end
end K6

/-! ## KQ -/
namespace K6
open PySem PySem.Spec PyProof.Rows L2
section
variable {X : Cx} {pins : List (Addr × Obj)} {σ : St} {H : Hp} {s : Shared} {A : Around} {E : Value → Shared → Prop}
/-- two locked dicts of unlike length -/
theorem same_len {nm : String} {a b : Addr} {oa ob : Obj} {ka kb : List (Key × V)} {Q : Bool → Shared → Prop} (I : Inv X pins σ H s) (ha : H a = some (.frz oa (.dK ka))) (hb : H b = some (.frz ob (.dK kb))) (hl : ka.length ≠ kb.length) (h : Q false s) :
    wpAny (model X.prog X.w) A (Builtin.Dict.samePairs nm a b) Q E s := by
  obtain ⟨_, la, va, ra, da⟩ := dk_rd I.hok (.inr ⟨oa, ha⟩)
  obtain ⟨_, lb, vb, rb, db⟩ := dk_rd I.hok (.inr ⟨ob, hb⟩)
  have hl' : va.length ≠ vb.length := by rw [← ra.length, ← rb.length]; exact hl
  exact PySem.W.keq_samePairs (r := false) la lb da db (fun e => absurd e hl') (by rw [Bool.and_false]; exact h)
/-- two locked dicts: each value of the one is equal to the other's -/
theorem same_all {nm : String} {a b : Addr} {oa ob : Obj} {ka kb : List (Key × V)} {Q : Bool → Shared → Prop} (I : Inv X pins σ H s) (ha : H a = some (.frz oa (.dK ka))) (hb : H b = some (.frz ob (.dK kb))) (hl : ka.length = kb.length)
    (hv : ∀ k v, (k, v) ∈ ka → ∃ y, valV kb k = some y ∧ ∀ s' u u' (Q' : Bool → Shared → Prop), Inv X pins σ H s' → RelV v u → RelV y u' → (∀ s'', Inv X pins σ H s'' → Q' true s'') → wpAny (model X.prog X.w) A (eqBool u u') Q' E s')
    (h : ∀ s', Inv X pins σ H s' → Q true s') : wpAny (model X.prog X.w) A (Builtin.Dict.samePairs nm a b) Q E s := by
  obtain ⟨_, la, va, ra, da⟩ := dk_rd I.hok (.inr ⟨oa, ha⟩)
  obtain ⟨_, lb, vb, rb, db⟩ := dk_rd I.hok (.inr ⟨ob, hb⟩)
  obtain ⟨oa', es, ep, hoa, _, hda, hka, hpa, _⟩ := da
  obtain ⟨ob', es', ep', hob, _, hdb, hkb, hpb, _⟩ := db
  have ga : ∀ {s' : Shared}, Inv X pins σ H s' → s'.heap.get? a = some oa := fun {s'} I' => (show ObjOk X.prog X.w H s'.heap a (.frz oa (.dK ka)) from I'.hok a _ ha).1
  have gb : ∀ {s' : Shared}, Inv X pins σ H s' → s'.heap.get? b = some ob := fun {s'} I' => (show ObjOk X.prog X.w H s'.heap b (.frz ob (.dK kb)) from I'.hok b _ hb).1
  have ea := ga I
  have eb := gb I
  rw [ea] at hoa
  rw [eb] at hob
  cases hoa
  cases hob
  have hla : va.length = es.size := by rw [← hpa.length]; exact Array.length_toList
  have hlb : vb.length = es'.size := by rw [← hpb.length]; exact Array.length_toList
  have hsz : es.size = es'.size := by rw [← hla, ← hlb, ← ra.length, ← rb.length]; exact hl
  have hfind : ∀ k, findBy (mixKind X.prog X.w).is es' k = valueAt vb k := fun k => by
    rw [← hpb.find k]
    clear hlb hpb hkb hdb hsz
    obtain ⟨l⟩ := es'
    simp [findBy]
  unfold Builtin.Dict.samePairs Builtin.Dict.showsAll
  rw [if_neg (show ¬ (a == sysModules) = true by rw [la]; exact Bool.false_ne_true), if_neg (show ¬ (b == sysModules) = true by rw [lb]; exact Bool.false_ne_true)]
  refine wpAny_bind (wpAny_pure (wpAny_bind (wpAny_pure ?_)))
  refine wpAny_bind (wpAny_dictEntries ea hda ?_)
  dsimp only
  refine wpAny_bind (wpAny_dictEntries eb hdb ?_)
  rw [if_neg (by rw [hsz]; simp)]
  refine wpAny_bind (wpAny_dictEpoch ea hda ?_)
  refine wpAny_bind ?_
  rw [Std.Legacy.Range.forIn_eq_forIn_range']
  simp only [Std.Legacy.Range.size, Nat.sub_zero, Nat.add_sub_cancel, Nat.div_one]
  refine wpAny_forIn_list _ (fun rest q s' => Inv X pins σ H s' ∧ q = (none, ()) ∧ ∃ i, rest = List.range' i (es.size - i) ∧ i ≤ es.size) _ ?_ ?_ _ _ ⟨I, rfl, 0, by simp, Nat.zero_le _⟩
  · rintro x rest q s' ⟨I', rfl, i, hr, hi⟩
    have hlt : i < es.size := by
      rcases Nat.lt_or_ge i es.size with h | h
      · exact h
      · rw [Nat.sub_eq_zero_of_le h] at hr
        simp at hr
    obtain ⟨rfl, hrest⟩ : x = i ∧ rest = List.range' (i + 1) (es.size - (i + 1)) := by
      have e : es.size - i = (es.size - (i + 1)) + 1 := by omega
      rw [e, List.range'_succ] at hr
      injection hr with h1 h2
      exact ⟨h1, h2⟩
    refine wpAny_bind (wpAny_dictEntries (ga I') hda ?_)
    rw [Array.getElem?_eq_getElem hlt]
    have hlt' : x < va.length := by rw [hla]; exact hlt
    have hltk : x < ka.length := by rw [ra.length]; exact hlt'
    have hge : ka[x]? = some ka[x] := List.getElem?_eq_getElem hltk
    obtain ⟨⟨k, u⟩, hgu, hk1, hk2⟩ := paired_get' ra hge
    obtain ⟨hkey, hval⟩ := hpa.get? (i := x) (e := es[x]) (k := k) (v := u) (by rw [Array.getElem?_toList]; exact Array.getElem?_eq_getElem hlt) hgu
    obtain ⟨k', hk', hh⟩ := hka es[x] (Array.getElem_mem hlt)
    have ekk : k' = k := (mixKind X.prog X.w).inj _ _ _ hk' hkey
    rw [ekk] at hh
    obtain ⟨y, hy, hcmp⟩ := hv ka[x].1 ka[x].2 (List.getElem_mem hltk)
    have hk1' : ka[x].1 = k := hk1
    rw [hk1'] at hy
    have rr : RelO (some y) (valueAt vb k) := by rw [← hy]; exact rb.val k
    obtain ⟨u', hu', ru'⟩ : ∃ u', valueAt vb k = some u' ∧ RelV y u' := by
      cases e : valueAt vb k with
      | none => rw [e] at rr; exact rr.elim
      | some u' => rw [e] at rr; exact ⟨u', rfl, rr⟩
    show wpAny _ _ (holding [es[x].key, es[x].val] _ >>= _) _ _ _
    rw [hh]
    refine wpAny_bind (wpAny_holding (wpAny_bind (wpAny_dictFind_of hkey (gb I') hdb hkb ?_)))
    cases hj : es'.findIdx? fun e => (mixKind X.prog X.w).is k e.key with
    | none =>
      have hn : valueAt vb k = none := by rw [← hfind k, findBy_of_findIdx?, hj]
      rw [hn] at hu'
      cases hu'
    | some j =>
      obtain ⟨hjlt, _, _⟩ := Array.findIdx?_eq_some_iff_getElem.mp hj
      have hv' : valueAt vb k = some es'[j].val := by
        rw [← hfind k, findBy_of_findIdx?, hj]
        simp [Array.getElem?_eq_getElem hjlt]
      refine wpAny_bind (wpAny_dictEntries (gb I') hdb ?_)
      rw [Array.getElem?_eq_getElem hjlt]
      have ey : es'[j].val = u' := Option.some.inj (hv'.symm.trans hu')
      dsimp only
      rw [ey, hval]
      refine wpAny_holding (hcmp s' u u' _ I' hk2 ru' fun s'' I'' => ?_)
      show wpAny _ _ (if (!true) = true then _ else _) _ _ _
      rw [if_neg (by decide)]
      refine wpAny_bind (wpAny_dictEpoch (ga I'') hda ?_)
      rw [if_neg (by simp)]
      exact wpAny_pure ⟨I'', rfl, x + 1, hrest, hlt⟩
  · rintro q s' ⟨I', rfl, i, hr, hi⟩
    exact wpAny_pure (h s' I')
theorem rich_eqO {A : Around} {h : Bool} {k : Nat} {g C a dx : Addr} {sp : Sp} {E : XK} {Q : VK} {fs : List (Str × V)} {y : V} {u t : Value} (F : FbX h X k g sp) (q : Qk h X) (hh : A.handled = X.A.handled) (hf : A.frames = X.A.frames) (hr : L2H.RoomH k A) (sm : Sm X.K C "__eq__" g) (hx : PaX X σ E)
    (I : Inv X pins σ H s) (ea : H a = some (.ins C dx fs)) (ry : RelV y u) (ty : TyOf X.K H y t) (hn : PySem.W.notFirst X.K C t = true) (z : sp [.ref a, y] H Q E) : wpAny (model X.prog X.w) A (richCompare .Eq (.ref a) u) (EP X pins σ Q) X.xe s := by
  obtain ⟨od, J⟩ := inst_at I ea
  obtain ⟨m, hF⟩ := I.fr
  refine PySem.W.cmp_K (op := .Eq) (tb := t) (by have := RoomH.u hr; omega) hF I.ok.mod.kin J (ty_look I ry ty) hn sm.at_ sm.fn ?_
  refine thn (call_at (us := [.ref a, u]) F q hh hf hr hx I (.cons rref (.cons ry .nil)) z) fun w s' ⟨z', H', I', rz, qz⟩ => ?_
  exact SlX.cmpback rz ⟨z', H', I', rz, qz⟩
/-- == of two walks inside a builtin -/
theorem eqBool_walk {A : Around} (T : Tx X.K X.w X.mg) (hq : Qk true X) (hh : A.handled = X.A.handled) (hf : A.frames = X.A.frames) (hr : L2H.RoomH 1 A) (I : Inv X pins σ H s) {p q : Addr} {k c : Str} (hp : WalkAt X.K H p k c) (hw : WalkAt X.K H q k c)
    {Q : Bool → Shared → Prop} (h : ∀ s', Inv X pins σ H s' → Q true s') : wpAny (model X.prog X.w) A (eqBool (.ref p) (.ref q)) Q X.xe s := by
  by_cases e : p = q
  · subst e
    exact SeqAt.EqAt.same (A := A) (s := s) (.ref p) X.prog X.w X.xe _ (h s I)
  · have ty := walk_ty T hw
    obtain ⟨dx, m1, m2, ha⟩ := id hp
    refine GQ.eqBool_refG e (thn (rich_eqO (Q := fun v H' => v = .bl true ∧ H' = H) (walk_eq (P := X.prog) (base := X.base) T) hq hh hf hr T.w_eqM (paF (σ := σ)) I ha (rref (a := q)) ty T.w_notF ⟨p, q, k, c, k, c, rfl, hp, hw, by simp⟩) ?_)
    rintro v s' ⟨y, H', I', r, rfl, rfl⟩
    exact ⟨true, r, h s' I'⟩
end
section
variable {X : Cx}
/-- == of two dicts of walks -/
theorem op_eqW (T : Tx X.K X.w X.mg) (hq : Qk true X) (hr : L2H.RoomH 2 X.A) : OpR X (compareOp .Eq) (fun x y H Q => ∃ a b k ta tb, x = .ref a ∧ y = .ref b ∧ WD X.K H a k ta ∧ WD X.K H b k tb ∧
    ((ta.length ≠ tb.length ∧ Q (.bl false) H) ∨ (ta.length = tb.length ∧ (∀ p ∈ ta, valA tb p.1 = some p.2) ∧ Q (.bl true) H))) := by
  intro pins s σ H x y v u Q I rx ry hh
  obtain ⟨a, b, k, ta, tb, rfl, rfl, ⟨oa, ka, ha, ra⟩, ⟨ob, kb, hb, rb⟩, q⟩ := hh
  obtain rfl : v = Value.ref a := rx
  obtain rfl : u = Value.ref b := ry
  obtain ⟨_, la, va, ra', da⟩ := dk_rd I.hok (.inr ⟨oa, ha⟩)
  obtain ⟨_, lb, vb, rb', db⟩ := dk_rd I.hok (.inr ⟨ob, hb⟩)
  refine wpAny_richCompare_same_room (op := .Eq) da.typeIs db.typeIs PySem.F.slot_dict_eq (wpAny_call_entry PySem.F.slot_dict_eq da.typeIs PySem.F.entry_dict_eq ?_ (PySem.F.args_dict_eq_2 _ _)) (by have := RoomH.u hr; omega)
  show wpAny _ _ (Builtin.Dict.dictSlotArgs "__eq__" ⟨[.ref a, .ref b], []⟩ >>= _) _ _ s
  refine wpAny_bind ?_
  unfold Builtin.Dict.dictSlotArgs
  refine wpAny_bind (wpAny_notOrdered_dict da.typeIs ?_)
  show wpAny _ _ (pure (Value.ref a, Value.ref b)) _ _ s
  refine wpAny_pure ?_
  refine wpAny_bind (wpAny_isInstance (T := "dict") db.typeIs PySem.F.sub_dict_dict ?_)
  simp only [Bool.not_true, Bool.false_eq_true, if_false]
  refine wpAny_bind (wpAny_pure (wpAny_bind (wpAny_pure ?_)))
  rcases q with ⟨hl, q⟩ | ⟨hl, hall, q⟩
  · refine wpAny_bind (same_len I ha hb (by rw [ra.length, rb.length]; exact hl) ?_)
    exact wpAny_pure ⟨_, rfl, (fun x => nomatch x), .bl false, H, I, rfl, q⟩
  · refine wpAny_bind (same_all I ha hb (by rw [ra.length, rb.length]; exact hl) (fun kk v hm => ?_) fun s' I' => ?_)
    · obtain ⟨i, hi⟩ := List.mem_iff_getElem?.mp hm
      obtain ⟨n, c, hn, rfl, p, rfl, hp⟩ := ra.get hi
      have hv := hall (n, c) (List.mem_of_getElem? hn)
      rcases rb.val n with ⟨z, _⟩ | ⟨y, c', hy, hc', p', rfl, hp'⟩
      · rw [z] at hv; cases hv
      · rw [hv] at hc'
        cases hc'
        refine ⟨_, hy, fun s' u u' Q' I' r1 r2 k' => ?_⟩
        obtain rfl : u = Value.ref p := r1
        obtain rfl : u' = Value.ref p' := r2
        exact eqBool_walk (A := X.A.in1) T hq rfl rfl (RoomH.in1 hr) I' hp hp' k'
    · exact wpAny_pure ⟨_, rfl, (fun x => nomatch x), .bl true, H, I', rfl, q⟩
/-- len of a dict that is read -/
theorem call_lenR : CallR X (.builtin "len") (fun xs H Q => ∃ a kvs, xs = [V.ref a] ∧ Rd H a (.dK kvs) ∧ Q (.int (kvs.length : Nat)) H) := by
  intro pins s σ H xs us Q I r hh
  obtain ⟨a, kvs, rfl, ha, q⟩ := hh
  obtain ⟨u, rfl, ru⟩ := vals1 r
  obtain rfl : u = Value.ref a := ru
  exact d_len I ha fun t s' I' => ⟨.int (kvs.length : Nat), H, I', ⟨t, rfl⟩, q⟩
end
end K6

/-! ## S5 -/
namespace K6
open PySem PySem.Spec PyProof.Rows L2
theorem inV_str (n : Str) (ns : List Str) : inV (.str n) (ns.map V.str) = decide (n ∈ ns) := by
  unfold inV
  rw [List.any_map, Bool.eq_iff_iff, List.any_eq_true, decide_eq_true_eq]
  constructor
  · rintro ⟨m, hm, e⟩
    have : m = n := eq_of_beq (show (m == n) = true from e)
    exact this ▸ hm
  · intro h
    exact ⟨n, h, show (n == n) = true from beq_self_eq_true n⟩
theorem flat_strs (ns : List Str) : (ns.map V.str).all flatV = true := by
  rw [List.all_map, List.all_eq_true]
  intro _ _
  rfl
/-! ### the last step of a user -/
section
variable {β : Type}
def lat (u : Str) (ss : List (Str × β)) : Option Nat := (List.range ss.length).reverse.find? fun i => decide ((ss[i]?.map (·.1)) = some u)
theorem lat_some {u : Str} {ss : List (Str × β)} {i : Nat} {st : Str × β} (hi : ss[i]? = some st) (hu : st.1 = u) (hl : ∀ j, i < j → ∀ st', ss[j]? = some st' → st'.1 ≠ u) : lat u ss = some i := by
  have hlt : i < ss.length := (List.getElem?_eq_some_iff.mp hi).1
  unfold lat
  rw [List.find?_eq_some_iff_append]
  refine ⟨by rw [hi]; simp [hu], (List.range' (i + 1) (ss.length - (i + 1))).reverse, (List.range i).reverse, ?_, ?_⟩
  · have e : List.range ss.length = List.range i ++ i :: List.range' (i + 1) (ss.length - (i + 1)) := by
      rw [List.range_eq_range', List.range_eq_range', ← List.range'_succ]
      have := List.range'_append (s := 0) (m := i) (n := ss.length - (i + 1) + 1) (step := 1)
      rw [Nat.zero_add, Nat.one_mul] at this
      rw [this]
      congr 1
      omega
    rw [e]
    simp
  · intro j hj
    rw [List.mem_reverse, List.mem_range'_1] at hj
    cases e : ss[j]? with
    | none => simp
    | some st' => simp [hl j (by omega) st' e]
theorem lat_none {u : Str} {ss : List (Str × β)} (hl : ∀ (j : Nat) (st' : Str × β), ss[j]? = some st' → st'.1 ≠ u) : lat u ss = none := by
  unfold lat
  rw [List.find?_eq_none]
  intro j _
  cases e : ss[j]? with
  | none => simp
  | some st' => simp [hl j st' e]
theorem lat_at {u : Str} {ss : List (Str × β)} {i : Nat} (h : lat u ss = some i) : ∃ st, ss[i]? = some st ∧ st.1 = u := by
  have := List.find?_some h
  simp only [decide_eq_true_eq] at this
  obtain ⟨st, h1, h2⟩ := Option.map_eq_some_iff.mp this
  exact ⟨st, h1, h2⟩
end
section
variable {P : Program} {w : World} {K : PySem.W.Frag} {mg : Str → Option Value} {base : Heap}
theorem std_ty (T : Tw K w mg) {H : Hp} {x : Addr} {k : Str} {ts : Tm} {ss : List Sa} (h : Std K H x k ts ss) : TyOf K H (.ref x) (.ref (cS K)) := by
  obtain ⟨dx, d, l, h, _⟩ := h
  exact .ins h T.stu.cl T.stu.ca T.cg T.ct T.stu.cm
/-! ### Studio.__init__ -/
abbrev scU (j : Nat) : Scope := defScope (inClass (topS 45) j)
theorem sc45_0 : FnScope ["self", "net"] ["self", "net"] (scU 0) := ⟨rfl, rfl, rfl, by decide +kernel, rfl, by decide +kernel, by decide +kernel⟩
def spStudioI (K : PySem.W.Frag) : Sp := fun vs H Q _ => ∃ x k dx, vs = [.ref x, .str k] ∧ H x = some (.ins (cS K) dx []) ∧ Kind k ∧ ∀ H', Gr [x] H H' → Std K H' x k [] [] → Q .non H'
theorem pfs1 {v : V} : putF "own_net" v [] = ([("own_net", v)] : List (Str × V)) := by rfl
theorem pfs2 {v v1 : V} : putF "walks" v ([("own_net", v1)] : List (Str × V)) = ([("own_net", v1), ("walks", v)] : List (Str × V)) := by rfl
theorem pfs3 {v v1 v2 : V} : putF "steps" v ([("own_net", v1), ("walks", v2)] : List (Str × V)) = ([("own_net", v1), ("walks", v2), ("steps", v)] : List (Str × V)) := by rfl
theorem studio_init (T : Tw K w mg) : Fb false P w K mg base 3 (mt K "Studio" "__init__") (spStudioI K) := by
  obtain ⟨fd, F⟩ := T.u_init
  refine fn_b F sc45_0 (fun vs H Q E h => by obtain ⟨x, k, dx, rfl, _⟩ := h; rfl) (fun _ _ _ _ _ _ us hl => match us, hl with | [_, _], _ => rfl) ?_
  intro pz cdv A outer s H vs Q E hp hq hr h
  obtain ⟨x, k, dx, rfl, hx, hk, q⟩ := h
  have cl := T.stu.cl
  refine wb_cons (ws_expr (w_call (check_net T.toTx) hq.up (hr.mono (by decide)) (T.d21.df rfl rfl) paF rfl (wa_cons (w_var 1 ⟨_, rfl, wa_nil ⟨k, rfl, hk, ?_⟩⟩))))
  refine wb_cons (ws_fld (w_var 1 ⟨_, rfl, w_var 0 ⟨_, rfl, x, _, _, _, rfl, hx, cl, T.u_n1, fsz (by simp), ?_⟩⟩))
  rw [pfs1]
  have hx1 : (upd H x (.ins (cS K) dx [("own_net", .str k)])) x = some (.ins (cS K) dx [("own_net", .str k)]) := upd_same
  have g1 : Gr [x] H (upd H x (.ins (cS K) dx [("own_net", .str k)])) := Gr.refl.put (.inr (by simp))
  generalize upd H x (.ins (cS K) dx [("own_net", .str k)]) = H1 at hx1 g1 ⊢
  refine wb_cons (ws_fld (wE_locked (PE.w pe_dnewK fun d hd => ⟨d, _, rfl, upd_same, trivial, fun o => ?_⟩)))
  have nxd : x ≠ d := ne_of_none hx1 hd
  rw [upd_upd]
  refine w_var 0 ⟨_, rfl, x, _, _, _, rfl, by rw [upd_ne nxd]; exact hx1, cl, T.u_n2, fsz (by simp), ?_⟩
  rw [pfs2]
  have g2 : Gr [x] H (upd (upd H1 d (.frz o (.dK []))) x (.ins (cS K) dx [("own_net", .str k), ("walks", .ref d)])) := (g1.new hd).put (.inr (by simp))
  have hx2 : (upd (upd H1 d (.frz o (.dK []))) x (.ins (cS K) dx [("own_net", .str k), ("walks", .ref d)])) x = some (.ins (cS K) dx [("own_net", .str k), ("walks", .ref d)]) := upd_same
  have hd2 : (upd (upd H1 d (.frz o (.dK []))) x (.ins (cS K) dx [("own_net", .str k), ("walks", .ref d)])) d = some (.frz o (.dK [])) := by rw [upd_ne (Ne.symm nxd), upd_same]
  generalize upd (upd H1 d (.frz o (.dK []))) x (.ins (cS K) dx [("own_net", .str k), ("walks", .ref d)]) = H2 at g2 hx2 hd2 ⊢
  refine wb_one (ws_fld (wE_locked (w_lst (wa_nil ⟨Nat.zero_le _, fun l hl => ⟨l, _, rfl, upd_same, trivial, fun o2 => ?_⟩⟩))))
  have nxl : x ≠ l := ne_of_none hx2 hl
  rw [upd_upd]
  refine w_var 0 ⟨_, rfl, x, _, _, _, rfl, by rw [upd_ne nxl]; exact hx2, cl, T.u_n3, fsz (by simp), ?_⟩
  rw [pfs3]
  refine q _ ((g2.new hl).put (.inr (by simp))) ⟨dx, d, l, upd_same, ⟨o, [], ?_, .nil⟩, o2, [], ?_, .nil⟩
  · rw [upd_ne (Ne.symm nxd), upd_ne (ne_of_none hd2 hl)]
    exact hd2
  · rw [upd_ne (Ne.symm nxl), upd_same]
/-- Studio(k) -/
theorem w_studio {X : Cx} {σ : St} {H : Hp} {Q : VK} {e : Expr} {p pos : Pos} (T : Tw X.K X.w X.mg) (hq : Qk false X) (hr : L2H.RoomH 4 X.A) (hg : Gl X "Studio")
    (hw : wA X [e] σ H fun vs H1 => ∃ k, vs = [.str k] ∧ Kind k ∧ ∀ p H2, H1 p = none → Gr [] H1 H2 → Std X.K H2 p k [] [] → Q (.ref p) H2)
    (he : starEach [e] X.env = (false, eval e X.env) :: starEach [] X.env := by rfl) (hpl : (backTo pos (starEach [] X.env)).any (·.1) = false := by rfl) : wE X (.Call (.Name "Studio" p) [e] [] pos) σ H Q := by
  refine w_make T.stu.mkr (studio_init (P := X.prog) (base := X.base) T) hq hr T.stu.mg paF hg (hw.mono fun vs H1 => ?_) (by decide) he hpl
  rintro ⟨k, rfl, hk, q⟩ x dx hx hdx hne
  refine ⟨x, k, dx, rfl, upd_same, hk, fun H' g hx' => ⟨rfl, ?_⟩⟩
  have hx1 : (upd H1 dx (.own x)) x = none := by rw [upd_ne (Ne.symm hne)]; exact hx
  exact q x H' hx ((Gr.refl.new hdx).trans (g.of_new hx1)) hx'
/-! ### net, names, len -/
theorem sc45_1 : FnScope ["self"] ["self"] (scU 1) := ⟨rfl, rfl, rfl, by decide +kernel, rfl, by decide +kernel, by decide +kernel⟩
theorem sc45_2 : FnScope ["self"] ["self"] (scU 2) := ⟨rfl, rfl, rfl, by decide +kernel, rfl, by decide +kernel, by decide +kernel⟩
theorem sc45_10 : FnScope ["self"] ["self"] (scU 10) := ⟨rfl, rfl, rfl, by decide +kernel, rfl, by decide +kernel, by decide +kernel⟩
def spUNet (K : PySem.W.Frag) : Sp := fun vs H Q _ => ∃ x k ts ss, vs = [.ref x] ∧ Std K H x k ts ss ∧ Q (.str k) H
theorem studio_net (T : Tw K w mg) : Fb true P w K mg base 1 (pt K "Studio" "net") (spUNet K) := by
  obtain ⟨fd, F⟩ := T.u_net
  refine fn_b F sc45_1 (fun vs H Q E h => by obtain ⟨x, k, ts, ss, rfl, _⟩ := h; rfl) (fun _ _ _ _ _ _ us hl => match us, hl with | [_], _ => rfl) ?_
  intro pz cdv A outer s H vs Q E hp hq hr h
  obtain ⟨x, k, ts, ss, rfl, ⟨dx, d, l, hx, _⟩, q⟩ := h
  exact wb_one (ws_ret (w_fld (w_var 0 ⟨_, rfl, x, _, _, _, .str k, rfl, hx, T.stu.cl, T.u_n1, rfl, q⟩)))
def spUNames (K : PySem.W.Frag) : Sp := fun vs H Q _ => ∃ x k ts ss, vs = [.ref x] ∧ Std K H x k ts ss ∧ Wf ts ∧ ∀ ys H' p, IsSet ys (nms ts) → Gr [] H H' → H p = none → H' p = some (.lst (ys.map V.str)) → Q (.ref p) H'
theorem studio_names (T : Tw K w mg) : Fb true P w K mg base 1 (pt K "Studio" "names") (spUNames K) := by
  obtain ⟨fd, F⟩ := T.u_names
  refine fn_b F sc45_2 (fun vs H Q E h => by obtain ⟨x, k, ts, ss, rfl, _⟩ := h; rfl) (fun _ _ _ _ _ _ us hl => match us, hl with | [_], _ => rfl) ?_
  intro pz cdv A outer s H vs Q E hp hq hr h
  obtain ⟨x, k, ts, ss, rfl, ⟨dx, d, l, hx, ⟨o, kvs, ho, r⟩, _⟩, hw, q⟩ := h
  refine wb_one (ws_ret (w_blt (call_sortedQ hq) T.srt rfl (wa_cons (w_fld (w_var 0 ⟨_, rfl, x, _, _, _, .ref d, rfl, hx, T.stu.cl, T.u_n2, rfl, wa_nil ⟨d, kvs, nms ts, rfl, .inr ⟨o, ho⟩, r.keys, ?_, fun ys p hp hs hn => ?_⟩⟩)))))
  · have := hw.len
    rw [List.length_map]
    omega
  · exact q ys _ p (IsSet.of hp hs hw.nd) (Gr.refl.new hn) hn upd_same
def spULen (K : PySem.W.Frag) : Sp := fun vs H Q _ => ∃ x k ts ss, vs = [.ref x] ∧ Std K H x k ts ss ∧ Q (.int (ts.length : Nat)) H
theorem studio_len (T : Tw K w mg) : Fb true P w K mg base 1 (mt K "Studio" "__len__") (spULen K) := by
  obtain ⟨fd, F⟩ := T.u_len
  refine fn_b F sc45_10 (fun vs H Q E h => by obtain ⟨x, k, ts, ss, rfl, _⟩ := h; rfl) (fun _ _ _ _ _ _ us hl => match us, hl with | [_], _ => rfl) ?_
  intro pz cdv A outer s H vs Q E hp hq hr h
  obtain ⟨x, k, ts, ss, rfl, ⟨dx, d, l, hx, ⟨o, kvs, ho, r⟩, _⟩, q⟩ := h
  refine wb_one (ws_ret (w_blt call_lenR T.len rfl (wa_cons (w_fld (w_var 0 ⟨_, rfl, x, _, _, _, .ref d, rfl, hx, T.stu.cl, T.u_n2, rfl, wa_nil ⟨d, kvs, rfl, .inr ⟨o, ho⟩, ?_⟩⟩)))))
  rw [r.length]
  exact q
/-! ### in, [] -/
theorem sc45_12 : FnScope ["self", "obj"] ["self", "obj"] (scU 12) := ⟨rfl, rfl, rfl, by decide +kernel, rfl, by decide +kernel, by decide +kernel⟩
theorem sc45_13 : FnScope ["self", "name"] ["self", "name"] (scU 13) := ⟨rfl, rfl, rfl, by decide +kernel, rfl, by decide +kernel, by decide +kernel⟩
def spUHas (K : PySem.W.Frag) : Sp := fun vs H Q _ => ∃ x n k ts ss, vs = [.ref x, .str n] ∧ Std K H x k ts ss ∧ NameOk n ∧ ∀ H', Gr [] H H' → Q (.bl (valA ts n).isSome) H'
theorem studio_has (T : Tw K w mg) : Fb true P w K mg base 2 (mt K "Studio" "__contains__") (spUHas K) := by
  obtain ⟨fd, F⟩ := T.u_has
  refine fn_b F sc45_12 (fun vs H Q E h => by obtain ⟨x, n, k, ts, ss, rfl, _⟩ := h; rfl) (fun _ _ _ _ _ _ us hl => match us, hl with | [_, _], _ => rfl) ?_
  intro pz cdv A outer s H vs Q E hp hq hr h
  obtain ⟨x, n, k, ts, ss, rfl, hS, hn, q⟩ := h
  refine wb_one (ws_ret (w_and (w_call (is_name T.toTs) hq hr (T.d36.df rfl rfl) paF rfl (wa_cons (w_var 1 ⟨_, rfl, wa_nil ⟨n, rfl, hn, fun H1 g1 => ⟨true, rfl, iteT (w_one ?_)⟩⟩⟩)))))
  obtain ⟨dx, d, l, hx, hd, _⟩ := hS.gr0 g1
  refine w_din hr (w_var 1 ⟨_, rfl, w_fld (w_var 0 ⟨_, rfl, x, _, _, _, .ref d, rfl, hx, T.stu.cl, T.u_n2, rfl, ?_⟩)⟩)
  rcases hd.get n with ⟨hv, hg⟩ | ⟨p, c, hv, hg, _⟩
  · refine ⟨d, _, rfl, hg, ?_⟩
    have := q H1 g1
    rw [hv] at this
    exact this
  · refine ⟨d, _, rfl, hg, ?_⟩
    have := q H1 g1
    rw [hv] at this
    exact this
def spUGet (K : PySem.W.Frag) : Sp := fun vs H Q _ => ∃ x n c k ts ss, vs = [.ref x, .str n] ∧ Std K H x k ts ss ∧ NameOk n ∧ valA ts n = some c ∧ ∀ H' p, Gr [] H H' → WalkAt K H' p k c → Q (.ref p) H'
theorem studio_get (T : Tw K w mg) : Fb true P w K mg base 2 (mt K "Studio" "__getitem__") (spUGet K) := by
  obtain ⟨fd, F⟩ := T.u_get
  refine fn_b F sc45_13 (fun vs H Q E h => by obtain ⟨x, n, c, k, ts, ss, rfl, _⟩ := h; rfl) (fun _ _ _ _ _ _ us hl => match us, hl with | [_, _], _ => rfl) ?_
  intro pz cdv A outer s H vs Q E hp hq hr h
  obtain ⟨x, n, c, k, ts, ss, rfl, hS, hn, hv0, q⟩ := h
  refine wb_cons (ws_if (wt_or2 (wt_not (wt_val (w_call (is_name T.toTs) hq hr (T.d36.df rfl rfl) paF rfl (wa_cons (w_var 1 ⟨_, rfl, wa_nil ⟨n, rfl, hn, fun H1 g1 => ⟨true, rfl, iteF ?_⟩⟩⟩)))))))
  obtain ⟨dx, d, l, hx, hd, _⟩ := hS.gr0 g1
  refine wt_dnotin hr (w_var 1 ⟨_, rfl, w_fld (w_var 0 ⟨_, rfl, x, _, _, _, .ref d, rfl, hx, T.stu.cl, T.u_n2, rfl, ?_⟩)⟩)
  rcases hd.get n with ⟨hv, hg⟩ | ⟨p, c', hv, hg, hw⟩
  · rw [hv0] at hv; cases hv
  rw [hv0] at hv
  cases hv
  refine ⟨d, _, rfl, hg, iteF (wb_nil (wb_one (ws_ret (w_dget hr (w_fld (w_var 0 ⟨_, rfl, x, _, _, _, .ref d, rfl, hx, T.stu.cl, T.u_n2, rfl, w_var 1 ⟨_, rfl, d, .ref p, rfl, hg, q H1 p g1 hw⟩⟩))))))⟩
def spUMiss (K : PySem.W.Frag) : Sp := fun vs H Q E => ∃ x n k ts ss, vs = [.ref x, .str n] ∧ Std K H x k ts ss ∧ NameOk n ∧ valA ts n = none ∧ XR K "UnknownName" "name" (.str n) [] H E
theorem studio_miss (T : Tw K w mg) : Fb false P w K mg base 3 (mt K "Studio" "__getitem__") (spUMiss K) := by
  obtain ⟨fd, F⟩ := T.u_get
  refine fn_b F sc45_13 (fun vs H Q E h => by obtain ⟨x, n, k, ts, ss, rfl, _⟩ := h; rfl) (fun _ _ _ _ _ _ us hl => match us, hl with | [_, _], _ => rfl) ?_
  intro pz cdv A outer s H vs Q E hp hq hr h
  obtain ⟨x, n, k, ts, ss, rfl, hS, hn, hv0, q⟩ := h
  refine wb_cons (ws_if (wt_or2 (wt_not (wt_val (w_call (is_name T.toTs) hq.up (hr.mono (by decide)) (T.d36.df rfl rfl) paF rfl (wa_cons (w_var 1 ⟨_, rfl, wa_nil ⟨n, rfl, hn, fun H1 g1 => ⟨true, rfl, iteF ?_⟩⟩⟩)))))))
  obtain ⟨dx, d, l, hx, hd, _⟩ := hS.gr0 g1
  refine wt_dnotin hr (w_var 1 ⟨_, rfl, w_fld (w_var 0 ⟨_, rfl, x, _, _, _, .ref d, rfl, hx, T.stu.cl, T.u_n2, rfl, ?_⟩)⟩)
  rcases hd.get n with ⟨hv, hg⟩ | ⟨p, c', hv, hg, hw⟩
  · refine ⟨d, _, rfl, hg, iteT (wb_one (ws_raise takesQ xKey T.eUnk.xc (init_unk T.toTz) hq hr rfl (wa_cons (w_var 1 ⟨_, rfl, wa_nil ⟨_, rfl, fun d' hd' => ?_⟩⟩))))⟩
    exact (Gr.xr q g1).now hd'
  · rw [hv0] at hv; cases hv
end
end K6

/-! ## S6 -/
namespace K6
open PySem PySem.Spec PyProof.Rows L2
structure Tv (K : PySem.W.Frag) (w : World) (mg : Str → Option Value) : Prop extends Tw K w mg where
  anyN : mg "any" = none
  u_isiU : PySem.W.kitOne K (.ref (ga K "Studio")) (.ref (ga K "Studio")) = some true
  u_isiD : PySem.W.kitOne K (.type "dict") (.ref (ga K "Studio")) = some false
section
variable {X : Cx} {pins : List (Addr × Obj)} {σ : St} {H : Hp} {s : Shared}
/-- what == of an instance asks of the other's type -/
def TyR (K : PySem.W.Frag) (H : Hp) (y : V) (t : Value) : Prop := TyOf K H y t ∨ ∃ a o kvs, y = .ref a ∧ H a = some (.frz o (.dK kvs)) ∧ t = .type "dict"
theorem ty_lookR {y : V} {u t : Value} (I : Inv X pins σ H s) (r : RelV y u) (ty : TyR X.K H y t) : PySem.W.Looks (model X.prog X.w) s.heap (typeOf u) t := by
  rcases ty with ty | ⟨a, o, kvs, rfl, ha, rfl⟩
  · exact ty_look I r ty
  · obtain rfl : u = Value.ref a := r
    obtain ⟨_, _, _, _, o', _, _, h1, hc, _⟩ := dk_rd I.hok (.inr ⟨o, ha⟩)
    exact fun A Q E s k q => wpAny_typeOf_ref (k _ _ h1) (by rw [hc.1]; exact q)
theorem op_eqR {h : Bool} {k : Nat} {g C : Addr} {sp : Sp} {E : XK} (F : FbX h X k g sp) (q : Qk h X) (hr : L2H.RoomH k X.A) (sm : Sm X.K C "__eq__" g) (hx : ∀ σ, PaX X σ E) :
    OpR X (compareOp .Eq) (fun x y H Q => ∃ a dx fs t, x = .ref a ∧ H a = some (.ins C dx fs) ∧ TyR X.K H y t ∧ PySem.W.notFirst X.K C t = true ∧ sp [x, y] H Q E) := by
  intro pins s σ H x y v u Q I rx ry hh
  obtain ⟨a, dx, fs, t, rfl, ea, ty, hn, z⟩ := hh
  obtain rfl : v = Value.ref a := rx
  obtain ⟨od, J⟩ := inst_at I ea
  obtain ⟨m, hF⟩ := I.fr
  show wpAny _ _ (richCompare .Eq (.ref a) u) _ _ _
  refine PySem.W.cmp_K (op := .Eq) (tb := t) (by have := RoomH.u hr; omega) hF I.ok.mod.kin J (ty_lookR I ry ty) hn sm.at_ sm.fn ?_
  refine thn (call_at (us := [.ref a, u]) F q rfl rfl hr (hx σ) I (.cons rref (.cons ry .nil)) z) fun w s' ⟨z', H', I', rz, qz⟩ => ?_
  exact SlX.cmpback rz ⟨z', H', I', rz, qz⟩
end
section
variable {P : Program} {w : World} {K : PySem.W.Frag} {mg : Str → Option Value} {base : Heap}
/-! ### == -/
theorem sc45_11 : FnScope ["self", "other"] ["self", "other"] (scU 11) := ⟨rfl, rfl, rfl, by decide +kernel, rfl, by decide +kernel, by decide +kernel⟩
def spUEq (K : PySem.W.Frag) : Sp := fun vs H Q _ => ∃ x k ts ss y, vs = [.ref x, y] ∧ Std K H x k ts ss ∧ ((∃ z k' ts' ss', y = .ref z ∧ Std K H z k' ts' ss' ∧
  ((k ≠ k' ∧ Q (.bl false) H) ∨ (k = k' ∧ ts.length ≠ ts'.length ∧ Q (.bl false) H) ∨ (k = k' ∧ ts.length = ts'.length ∧ (∀ p ∈ ts, valA ts' p.1 = some p.2) ∧ Q (.bl true) H))) ∨ ∃ d ts', y = .ref d ∧ TD H d ts' ∧ Q (.bl false) H)
theorem studio_eq (T : Tv K w mg) : Fb false P w K mg base 3 (mt K "Studio" "__eq__") (spUEq K) := by
  obtain ⟨fd, F⟩ := T.u_eq
  refine fn_b F sc45_11 (fun vs H Q E h => by obtain ⟨x, k, ts, ss, y, rfl, _⟩ := h; rfl) (fun _ _ _ _ _ _ us hl => match us, hl with | [_, _], _ => rfl) ?_
  intro pz cdv A outer s H vs Q E hp hq hr h
  obtain ⟨x, k, ts, ss, y, rfl, hS, q⟩ := h
  have cl := T.stu.cl
  obtain ⟨dx, d, l, hx, hd, _⟩ := hS
  refine wb_one (ws_ret (w_and (w_blt (call_isc (.ref (cS K))) T.isi rfl (wa_cons (w_var 1 ⟨_, rfl, wa_cons (w_glob (v := .ref (cS K)) T.stu.mg rfl rfl (wa_nil ?_))⟩)))))
  rcases q with ⟨z, k', ts', ss', rfl, hZ, q⟩ | ⟨d', ts', rfl, ⟨o, kvs, ho, _⟩, q⟩
  · refine ⟨_, _, _, _, rfl, fun _ h => h, .base (std_ty T.toTw hZ), T.u_isiU, true, rfl, iteT ?_⟩
    obtain ⟨dz, d', l', hz, hd', _⟩ := hZ
    refine w_and (w_cmp op_eq (w_fld (w_var 0 ⟨_, rfl, x, _, _, _, .str k, rfl, hx, cl, T.u_n1, rfl, w_fld (w_var 1 ⟨_, rfl, z, _, _, _, .str k', rfl, hz, cl, T.u_n1, rfl, rfl, _, rfl, ?_⟩)⟩)))
    rcases q with ⟨hk, q⟩ | q
    · rw [decide_eq_false (fun e => hk (V.str.inj e))]
      exact iteF q
    · obtain ⟨rfl, q'⟩ : k = k' ∧ ((ts.length ≠ ts'.length ∧ Q (.bl false) H) ∨ (ts.length = ts'.length ∧ (∀ p ∈ ts, valA ts' p.1 = some p.2) ∧ Q (.bl true) H)) := by
        rcases q with ⟨e, a, b⟩ | ⟨e, a, b⟩
        · exact ⟨e, .inl ⟨a, b⟩⟩
        · exact ⟨e, .inr ⟨a, b⟩⟩
      rw [decide_eq_true rfl]
      refine iteT (w_one (w_cmp (op_eqW T.toTx hq.up hr) (w_fld (w_var 0 ⟨_, rfl, x, _, _, _, .ref d, rfl, hx, cl, T.u_n2, rfl, w_fld (w_var 1 ⟨_, rfl, z, _, _, _, .ref d', rfl, hz, cl, T.u_n2, rfl, d, d', k, ts, ts', rfl, rfl, hd, hd', q'⟩)⟩))))
  · refine ⟨_, _, _, _, rfl, fun _ h => h, .fDict ho, T.u_isiD, false, rfl, iteF q⟩
/-! ### copy -/
theorem sc45_9 : FnScope ["self", "result"] ["self"] (scU 9) := ⟨rfl, rfl, rfl, by decide +kernel, rfl, by decide +kernel, by decide +kernel⟩
def spUCopy (K : PySem.W.Frag) : Sp := fun vs H Q _ => ∃ x k ts ss, vs = [.ref x] ∧ Std K H x k ts ss ∧ Kind k ∧ ∀ H' p, Gr [] H H' → H p = none → Std K H' p k ts ss → Q (.ref p) H'
theorem pfw {k : Str} {a b c : V} : putF "walks" c ([("own_net", .str k), ("walks", a), ("steps", b)] : List (Str × V)) = ([("own_net", .str k), ("walks", c), ("steps", b)] : List (Str × V)) := by rfl
theorem pfss {k : Str} {a b c : V} : putF "steps" c ([("own_net", .str k), ("walks", a), ("steps", b)] : List (Str × V)) = ([("own_net", .str k), ("walks", a), ("steps", c)] : List (Str × V)) := by rfl
theorem studio_copy (T : Tv K w mg) : Fb false P w K mg base 5 (mt K "Studio" "copy") (spUCopy K) := by
  obtain ⟨fd, F⟩ := T.u_copy
  refine fn_b F sc45_9 (fun vs H Q E h => by obtain ⟨x, k, ts, ss, rfl, _⟩ := h; rfl) (fun _ _ _ _ _ _ us hl => match us, hl with | [_], _ => rfl) ?_
  intro pz cdv A outer s H vs Q E hp hq hr h
  obtain ⟨x, k, ts, ss, rfl, hS, hk, q⟩ := h
  have cl := T.stu.cl
  obtain ⟨dx, d, l, hx, hd, hl⟩ := hS
  refine wb_cons (ws_set 1 sc45_9.nd (w_studio T.toTw hq hr rfl (wa_cons (w_fld (w_var 0 ⟨_, rfl, x, _, _, _, .str k, rfl, hx, cl, T.u_n1, rfl, wa_nil ⟨k, rfl, hk, fun p H1 hp g1 hP => ?_⟩⟩)))))
  obtain ⟨dp, d1, l1, hpp, _, _⟩ := hP
  have nxp : x ≠ p := ne_of_none hx hp
  refine wb_cons (ws_fld (w_fld (w_var 0 ⟨_, rfl, x, _, _, _, .ref d, rfl, g1.at hx, cl, T.u_n2, rfl, w_var 1 ⟨_, rfl, p, _, _, _, rfl, hpp, cl, T.u_n2, fsz (by simp [stf]), ?_⟩⟩)))
  rw [show stf k d1 l1 = ([("own_net", .str k), ("walks", .ref d1), ("steps", .ref l1)] : List (Str × V)) from rfl, pfw]
  refine wb_cons (ws_fld (w_fld (w_var 0 ⟨_, rfl, x, _, _, _, .ref l, rfl, by rw [upd_ne nxp]; exact g1.at hx, cl, T.u_n3, rfl, w_var 1 ⟨_, rfl, p, _, _, _, rfl, upd_same, cl, T.u_n3, fsz (by simp), ?_⟩⟩)))
  rw [pfss, upd_upd]
  refine wb_one (ws_ret (w_var 1 ⟨_, rfl, ?_⟩))
  have g2 : Gr [] H (upd H1 p (.ins (cS K) dp [("own_net", .str k), ("walks", .ref d), ("steps", .ref l)])) := g1.put (.inl hp)
  exact q _ p g2 hp ⟨dp, d, l, upd_same, hd.gx g2.gx0, hl.gx g2.gx0⟩
/-! ### latest -/
theorem sc45_4 : FnScope ["self", "user", "index"] ["self", "user"] (scU 4) := ⟨rfl, rfl, rfl, by decide +kernel, rfl, by decide +kernel, by decide +kernel⟩
def spULatest (K : PySem.W.Frag) : Sp := fun vs H Q _ => ∃ x u k ts ss, vs = [.ref x, .str u] ∧ Std K H x k ts ss ∧ ss.length ≤ 1000 ∧ Q (match lat u ss with | some i => .int (i : Nat) | none => .non) H
theorem SL.get {H : Hp} {l : Addr} {k : Str} {ss : List Sa} (h : SL K H l k ss) : ∃ xs, SqL K H l xs ∧ xs.length = ss.length ∧ ∀ (i : Nat) (st : Sa), ss[i]? = some st → ∃ p, xs[i]? = some (V.ref p) ∧ StepAt K H p k st := by
  obtain ⟨o, xs, h, r⟩ := h
  refine ⟨xs, .inl (.inr ⟨o, h⟩), Paired.length r, fun i st e => ?_⟩
  have hi : i < xs.length := by rw [Paired.length r]; exact (List.getElem?_eq_some_iff.mp e).1
  obtain ⟨st', e', p, ep, hp⟩ := paired_get' r (List.getElem?_eq_getElem hi)
  rw [e] at e'
  cases e'
  exact ⟨p, by rw [List.getElem?_eq_getElem hi, ep], hp⟩
theorem studio_latest (T : Tv K w mg) : Fb false P w K mg base 1 (mt K "Studio" "latest") (spULatest K) := by
  obtain ⟨fd, F⟩ := T.u_latest
  refine fn_b F sc45_4 (fun vs H Q E h => by obtain ⟨x, u, k, ts, ss, rfl, _⟩ := h; rfl) (fun _ _ _ _ _ _ us hl => match us, hl with | [_, _], _ => rfl) ?_
  intro pz cdv A outer s H vs Q E hp hq hr h
  obtain ⟨x, u, k, ts, ss, rfl, hS, hz, q⟩ := h
  have cl := T.stu.cl
  obtain ⟨dx, d, l, hx, hd, hl⟩ := hS
  obtain ⟨xs, hxs, hlen, hget⟩ := hl.get
  have len1 : xs.length ≤ sizeLine := szm (by omega)
  refine wb_cons (w_for ownsQ hq (PI.wq (pi_range3 rfl T.rng pA) (wa_cons (w_op op_sub (w_blt call_len T.len rfl (wa_cons (w_fld (w_var 0 ⟨_, rfl, x, _, _, _, .ref l, rfl, hx, cl, T.u_n3, rfl, wa_nil ⟨_, _, rfl, .inl ⟨xs, hxs, rfl⟩, ?_⟩⟩))))))))
  refine w_int ⟨_, _, rfl, rfl, wa_cons (w_un un_neg (w_int ⟨_, rfl, wa_cons (w_un un_neg (w_int ⟨_, rfl, wa_nil ?_⟩))⟩))⟩
  refine ⟨((xs.length : Nat) : Int) - 1, -1, -1, ss.length, rfl, ?_, ?_⟩
  · have := RgC.neg (i := ((xs.length : Nat) : Int) - 1) (j := -1) (by omega) (by omega) (by omega) (by omega)
    rw [show (((xs.length : Nat) : Int) - 1 - -1).toNat = ss.length by omega] at this
    exact this
  refine ⟨fun i m σ H' => m = ss.length - i ∧ i ≤ ss.length ∧ ∃ s2, σ = [some (.ref x), some (.str u), s2] ∧ H' = H ∧ ∀ j st, ss.length - i ≤ j → ss[j]? = some st → st.1 ≠ u, ⟨ss.length, by simp, Nat.zero_le _, none, rfl, rfl, fun j st h1 h2 => absurd (List.getElem?_eq_some_iff.mp h2).1 (by omega)⟩, ?_⟩
  rintro i m σ H' ⟨rfl, hi, s2, rfl, rfl, hall⟩
  by_cases hlt : i < ss.length
  · refine .inr ⟨hlt, _, fun σ' H2 h => h, fun y H2 hy => ?_⟩
    obtain ⟨rfl, rfl⟩ := hy
    have hj : ss.length - 1 - i < ss.length := by omega
    have ej : ((xs.length : Nat) : Int) - 1 + (i : Nat) * -1 = ((ss.length - 1 - i : Nat) : Int) := by omega
    rw [ej]
    obtain ⟨p, hp, dp, t, d2, hst, _⟩ := hget (ss.length - 1 - i) _ (List.getElem?_eq_getElem hj)
    refine w_gname 2 ?_ sc45_4.nd
    refine wb_one (ws_if (wt_cmp op_eq (w_fld (w_ix ix_list (w_fld (w_var 0 ⟨_, rfl, x, _, _, _, .ref l, rfl, hx, cl, T.u_n3, rfl, w_var 2 ⟨_, rfl, l, xs, _, .ref p, rfl, rfl, hxs, atI_nat hp, p, _, _, _, .str (ss[ss.length - 1 - i]).1, rfl, hst, T.stp.cl, T.s_n1, rfl, w_var 1 ⟨_, rfl, rfl, _, rfl, ?_⟩⟩⟩))))))
    by_cases e : (ss[ss.length - 1 - i]).1 = u
    · rw [decide_eq_true (by rw [e])]
      refine iteT (wb_one (ws_ret (w_var 2 ⟨_, rfl, ?_⟩)))
      have hlat : lat u ss = some (ss.length - 1 - i) := lat_some (List.getElem?_eq_getElem hj) e fun j h1 st h2 => hall j st (by omega) h2
      rw [hlat] at q
      exact q
    · rw [decide_eq_false (fun z => e (V.str.inj z))]
      refine iteF (wb_nil ⟨ss.length - (i + 1), by omega, rfl, hlt, _, rfl, rfl, fun j st h1 h2 => ?_⟩)
      by_cases hj2 : j = ss.length - 1 - i
      · subst hj2
        rw [List.getElem?_eq_getElem hj] at h2
        cases h2
        exact e
      · exact hall j st (by omega) h2
  · obtain rfl : i = ss.length := by omega
    refine .inl ⟨Nat.le_refl _, wb_one (ws_ret (w_non ?_))⟩
    have hlat : lat u ss = none := lat_none fun j st h => hall j st (by omega) h
    rw [hlat] at q
    exact q
end
end K6

/-! ## KU -/
namespace K6
open PySem PySem.Spec PyProof.Rows L2
/-! ### def f(a, .., *v) -/
theorem cxnUp {P : Program} {w : World} : StX.CXUp (L2N.CX P w) := by
  rintro outer s H s2 H2 E e s' un kp ho ⟨a, B, H', cls, d, ea, fl, hok, ub, na, os, ag, he⟩
  have nx : ∀ b o, s.heap.get? b = some o → H b = none → H2 b = none := fun b o q n => un.free b o q n (by simp)
  refine ⟨a, B, H', cls, d, ea, fl, hok, ⟨fun b o q n hb => ub.keep b o (kp b o q) (nx b o q n) hb, fun b o q hb => ub.slot b o (kp b o q) hb, fun b o q n => ub.free b o (kp b o q) (nx b o q n),
    fun b o q hb => ub.there b o (kp b o q) hb, fun b xs q => ub.tups b xs (un.tups b xs q), fun b o xs q => ub.frzs b o xs (un.frzs b o xs q), fun b ps q => ?_⟩, na, os.trans ho, ag, he⟩
  obtain ⟨m1, e1⟩ := un.tbls b ps q
  obtain ⟨m2, e2⟩ := ub.tbls b _ e1
  exact ⟨m1 ++ m2, by rw [e2, Array.append_assoc]⟩
section
variable {P : Program} {w : World} {K : PySem.W.Frag} {mg : Str → Option Value} {base : Heap} {N ps : List Str} {x qual pv : Str} {f : Addr} {k : Nat} {sp : Sp} {st : Stmt} {fd : FuncData}
theorem fn_sb (F : Fun K x qual st f fd) (S : FnScope N (ps ++ [pv]) (defScope st))
    (hb : ∀ (kV doc pm : Value) (an : Option Addr) (cdv ct : Value) (us rest : List Value), us.length = ps.length → bindArgs (PySem.W.fnOf x qual (defArgs st) (defBody st) (defScope st) .none kV doc pm an cdv ct) ⟨us ++ rest, []⟩ = (newTuple rest >>= fun t => pure (ps.zip us ++ [(pv, t)])))
    (hbody : ∀ (cdv : Value) (A : Around) (outer : List Env) (s : Shared) (H : Hp) (vs : List V) (Q : VK) (E : XK), Qk false (cxQ P w K mg base N qual (defScope st) f cdv A outer s H E none) → L2H.RoomH k (cxQ P w K mg base N qual (defScope st) f cdv A outer s H E none).A → sp vs H Q E →
      wB (cxQ P w K mg base N qual (defScope st) f cdv A outer s H E none) (defBody st) { nx := fun _ H' => Q .non H', rt := Q } (L2.start N vs) H) :
    Fb false P w K mg base (k + 1) f (fun vs H Q E => ∃ ws rest, vs = ws ++ rest ∧ ws.length = ps.length ∧ rest.length ≤ sizeLine ∧ ∀ p, H p = none → sp (ws ++ [V.ref p]) (upd H p (.tup rest)) Q E) := by
  obtain ⟨oc, od, kV, doc, pm, an, cdv, ct, osl, rfl, lk, hcd⟩ := F.ex
  refine Fb.ofR (StX.fn_star lk hcd S cxnUp (fun us rest h => hb kV doc pm an cdv ct us rest h) fun A outer s H vs Q E hr h => ?_)
  refine ⟨_, pB, hbody cdv A outer s H vs Q E (.inl rfl) ?_ h⟩
  exact ⟨hr.dp, hr.un⟩
end
/-! ### o.m(e1, *e2) -/
section
variable {X : Cx} {σ : St} {H : Hp} {h : Bool} {k : Nat} {g C : Addr} {sp : Sp} {E : XK} {Q : VK} {m : Str} {o e1 e2 : Expr} {p apos pos : Pos}
theorem w_methSB (F : FbX h X k g sp) (q : Qk h X) (hr : L2H.RoomH k X.A) (c : Cls X.K C) (b : BMeth X.K C m g) (hx : PaX X σ E)
    (hw : wE X o σ H fun x H1 => ∃ a dx fs, x = .ref a ∧ H1 a = some (.ins C dx fs) ∧ fs.lookup m = none ∧ ∀ u, H1 u = none → wE X e1 σ (upd H1 u (.met g a)) fun y1 H2 => wE X e2 σ H2 fun y2 H3 => ∃ t vs, y2 = .ref t ∧ SqT X.K H3 t vs ∧ H3 u = some (.met g a) ∧ sp (.ref a :: y1 :: vs) H3 Q E)
    (hbase : attributeBase o m X.env (eval o X.env) = eval o X.env := by rfl) (hst : starEach [e1, .Starred e2 p] X.env = [(false, eval e1 X.env), (true, eval e2 X.env)] := by rfl) : wE X (.Call (.Attribute o m apos) [e1, .Starred e2 p] [] pos) σ H Q := fun pins s I => by
  refine starcall2_of hbase hst (thn (hw pins s I) fun u s1 ⟨x, H1, I1, rx, a, dx, fs, ex, ea, l, z⟩ => ?_)
  subst ex
  obtain rfl : u = Value.ref a := rx
  refine getbound_ok I1 ea c b l fun q1 s2 hq1 I2 => ?_
  refine PySem.W.ks_call (P := PySem.W.MethP X.K q1 g (.ref a)) rfl (PySem.W.keeps_M b.fi) (Calls.evalArgs_plain (Calls.spliced_cons (thn (z q1 hq1 pins s2 I2) fun v1 s3 ⟨y1, H2, I3, ry1, z2⟩ =>
    PySem.W.ks_spliced (thn (z2 pins s3 I3) fun v2 s4 ⟨y2, H3, I4, ry2, t, vs, ey, ht, hm, hsp⟩ => ?_))))
  subst ey
  obtain rfl : v2 = Value.ref t := ry2
  refine StX.star_any I4 (.inl ht) fun us s5 I5 rv => Calls.spliced_nil ?_
  show PySem.W.MethP X.K q1 g (.ref a) s5.heap ∧ wpAny (model X.prog X.w) X.A (call (.ref q1) (v1 :: (us ++ [])) []) (EP X pins σ Q) X.xe s5
  rw [List.append_nil]
  refine ⟨met_P I5 hm, wpAny_call (PySem.W.method_call (met_P I5 hm).1 (codeAny_mono (run_at (us := Value.ref a :: v1 :: us) F q rfl rfl hr hx I5 (.cons rref (.cons ry1 rv)) hsp) fun r s' w => ?_))⟩
  cases r with
  | error e => exact w
  | ok fl => cases fl <;> first | exact w | exact w.elim
theorem w_sliceTo {r : V → Option Int → Option Int → Hp → VK → Prop} (hr : SlR X r) {hi e : Expr} {p2 : Pos} (h : wE X e σ H fun x H1 => wE X hi σ H1 fun l H2 => ∃ i, l = .int i ∧ r x none (some i) H2 Q) : wE X (.Subscript e (.Slice none (some hi) none p2) pos) σ H Q :=
  PE.w (pe_slice hr pE po_none (po_some pE)) h
/-- a comprehension without tests: its i-th item is f i -/
theorem lc_ix {J : It} {xs : List V} {C : Hp → Prop} {tg elt : Expr} {scope : Scope} {vs : List Nat} (wk : Wk J xs C) (f : Nat → V) (hC : ∀ H', Gr [] H H' → C H') (hlen : xs.length ≤ 100000)
    (step : ∀ (s0 : Shared) (H0 : Hp) (C : Addr) (cl : List (Str × Addr)) (fp : List Addr) i x H', xs[i]? = some x → Gr [] H H' →
      wG (blkQ X s0 H0 scope (compEnvC scope cl C X.env) fp) tg x (wipe σ vs) H' fun σ2 H2 => wipe σ2 vs = wipe σ vs ∧ wE (blkQ X s0 H0 scope (compEnvC scope cl C X.env) fp) elt σ2 H2 fun y H3 => y = f i ∧ Gr [] H' H3)
    (done : ∀ D H', H D = none → Gr [] H H' → H' D = some (.lst ((List.range xs.length).map f)) → Q (.ref D) H') : LcW X tg [] elt scope vs Q σ J H := by
  refine lc_wk wk (fun D i H' => H D = none ∧ Gr [] H H' ∧ H' D = some (.lst ((List.range i).map f)) ∧ i ≤ xs.length) (fun D hD => ⟨hD, Gr.refl.new hD, by rw [upd_same] <;> rfl, Nat.zero_le _⟩) (fun D i H' p => hC H' p.2.1) ?_ ?_
  · rintro D s0 H0 c cl fp i x H' hx ⟨hD, g, hl, hi⟩
    have hlt : i < xs.length := (List.getElem?_eq_some_iff.mp hx).1
    refine fun pins s u I r => thn (step s0 H0 c cl fp i x H' hx g pins s u I r) ?_
    rintro _ s' ⟨σ2, H2, I2, e2, h2⟩
    refine ⟨σ2, H2, I2, e2, wts_nil ?_⟩
    show (if true = true then _ else _)
    refine iteT (h2.mono ?_)
    rintro y H3 ⟨rfl, g3⟩
    refine ⟨(List.range i).map f, g3.at hl, szl (by rw [List.length_map, List.length_range]; omega), hD, (g.trans g3).put (.inl hD), ?_, hlt⟩
    rw [upd_same, List.range_succ, List.map_append] <;> rfl
  · rintro D H' ⟨hD, g, hl, _⟩
    exact done D H' hD g hl
end
section
variable {α β : Type} {F : α → β → Prop}
theorem paired_take : ∀ {xs : List α} {ys : List β} (n : Nat), Paired F xs ys → Paired F (xs.take n) (ys.take n)
  | _, _, 0, _ => by simpa using Paired.nil
  | _, _, _ + 1, .nil => by simpa using Paired.nil
  | _, _, n + 1, .cons r t => .cons r (paired_take n t)
theorem paired_drop : ∀ {xs : List α} {ys : List β} (n : Nat), Paired F xs ys → Paired F (xs.drop n) (ys.drop n)
  | _, _, 0, r => r
  | _, _, _ + 1, .nil => by simpa using Paired.nil
  | _, _, n + 1, .cons _ t => paired_drop n t
end
end K6

/-! ## KV -/
namespace K6
open PySem PySem.Spec PyProof.Rows L2
section
variable {X : Cx} {σ : St} {H : Hp}
/-- name = {..} on one line, the name a local: over the items of a dict that is locked -/
theorem w_setDcItems {i : Nat} {y : Str} {py spos : Pos} {D : Ends} {kx vx e : Expr} {elts : List Expr} {kk : Nat} {tpos apos cpos : Pos} {ifs : List Expr} {scope : Scope} {own : List (Str × Nat)} {pos : Pos} (hq : Qk false X) (hN : X.N.Nodup) (ok : BlkOk X.N X.env.scope scope own)
    (h : wE X e σ H fun v H1 => ∃ a o kvs, v = .ref a ∧ H1 a = some (.frz o (.dK kvs)) ∧ ∀ D', H1 D' = none → ∃ Pv : Nat → Hp → Prop, Pv 0 (upd H1 D' (.dK [])) ∧ (∀ i H, Pv i H → H a = some (.frz o (.dK kvs))) ∧
      (∀ i H T k v, Pv i H → kvs[i]? = some (k, v) → H T = none → DcTurn X (.Tuple elts kk tpos) kx vx ifs scope (own.map (·.2)) σ D' (.ref T) (upd H T (.tup [kV k, v])) (Pv (i + 1))) ∧ ∀ H, Pv kvs.length H → D.nx (σ.set i (some (.ref D'))) H)
    (hy : X.N[i]? = some y := by rfl) (hyl : X.env.scope.names.lookup y = some .local := by rfl)
    (hsw : swapsWith (.DictComp kx vx [⟨.Tuple elts kk tpos, .Call (.Attribute e "items" apos) [] [] cpos, ifs, 0⟩] scope pos) (some (.Name y py)) spos.line X.env = pure true := by rfl)
    (hbase : attributeBase e "items" X.env (eval e X.env) = eval e X.env := by rfl) (hline : (apos.endLine == cpos.line) = true := by rfl)
    (hs : ∀ x, foldedSetIterable (.Call (.Attribute e "items" apos) [] [] cpos) X.env x = pure x := by intro _; rfl) : wS X (.Assign [.Name y py] (.DictComp kx vx [⟨.Tuple elts kk tpos, .Call (.Attribute e "items" apos) [] [] cpos, ifs, 0⟩] scope pos) spos) D σ H := fun pins s I => by
  rw [exec_Assign_Name_used _ _ _ _ hsw]
  refine wpAny_bind (wpAny_standAt (wpAny_bind ?_))
  show wpAny _ X.A (do let _ ← comprehension (.DictComp kx vx [⟨.Tuple elts kk tpos, .Call (.Attribute e "items" apos) [] [] cpos, ifs, 0⟩] scope pos) scope X.env (firstIterPos [⟨.Tuple elts kk tpos, .Call (.Attribute e "items" apos) [] [] cpos, ifs, 0⟩] pos) newDict false (eval (.Call (.Attribute e "items" apos) [] [] cpos) X.env) (some (assign (.Name y py) X.env))) _ _ s
  refine wpAny_bind (thn (L2.dc_core (Qf := fun _ s' => SP X pins D .next s') (Q := fun x H1 => D.nx (σ.set i (some x)) H1) (g := fun v σ H Q => ∀ s0 H0 C cl fp, wG (blkD X s0 H0 scope C cl fp) (.Tuple elts kk tpos) v σ H Q) (tt := fun σ H Q => ∀ s0 H0 C cl fp, wTs (blkD X s0 H0 scope C cl fp) ifs σ H Q)
    (tk := fun σ H Q => ∀ s0 H0 C cl fp, wE (blkD X s0 H0 scope C cl fp) kx σ H Q) (tv := fun σ H Q => ∀ s0 H0 C cl fp, wE (blkD X s0 H0 scope C cl fp) vx σ H Q) hq.calm hN I (pi_items (pE (e := e)) hbase hline) ok
    (fun s H C cl fp => ⟨fun pins s1 σ H1 v u Q I r h => h s H C cl fp pins s1 u I r⟩) (fun s H C cl fp => ⟨fun pins s1 σ H1 Q I h => h s H C cl fp pins s1 I⟩)
    (fun s H C cl fp => ⟨fun pins s1 σ H1 Q I h => h s H C cl fp pins s1 I⟩) (fun s H C cl fp => ⟨fun pins s1 σ H1 Q I h => h s H C cl fp pins s1 I⟩) hs ?_ fun L C s' m H' I' q hn f => ?_) fun _ s' hq => wpAny_pure (wpAny_pure hq))
  · refine wE.mono h ?_
    rintro v H1 ⟨a, o, kvs, rfl, ha, hd⟩
    refine ⟨a, o, kvs, rfl, ha, fun D' hD => ?_⟩
    obtain ⟨Pv, p0, hsq, hstep, hdone⟩ := hd D' hD
    refine ⟨fun i m H => m = kvs.length - i ∧ i ≤ kvs.length ∧ Pv i H, ⟨kvs.length, rfl, Nat.zero_le _, p0⟩, ?_⟩
    rintro i m H ⟨rfl, hi, p⟩
    by_cases hlt : i < kvs.length
    · refine .inr ⟨⟨hsq i H p, hlt⟩, Pv (i + 1), fun H' p' => ⟨kvs.length - (i + 1), by omega, rfl, hlt, p'⟩, fun x H' yy => ?_⟩
      obtain ⟨T, k, v, hk, rfl, hT, rfl⟩ := yy
      exact hstep i H T k v p hk hT
    · obtain rfl : i = kvs.length := by omega
      exact .inl ⟨⟨hsq _ H p, Nat.le_refl _⟩, hdone H p⟩
  · show wpAny _ _ (assign (.Name y py) X.env (.ref L)) _ _ _
    refine wpAny_assign_Name (store_ok2 (v := V.ref L) I' hN hy (.inl hyl) rfl (fun s2 I2 ⟨a, sb, ha⟩ => ?_) (.inr hyl))
    obtain ⟨f0, f1, f2, f3, f4, f5⟩ := f
    have haC : C ≠ a := by
      rcases ha with z | z
      · rw [z]; exact f1
      · exact fun e => f4 y a z e.symm
    refine ⟨m, hn.sameBut sb haC, fun h3 sb3 => ?_⟩
    exact ⟨_, H', I2.turned (t' := s2.toks) (fun b o hb e => (sb3.2 b hb).trans e) f0 f1 f3 f4 f5, q⟩
end
end K6

/-! ## S7 -/
namespace K6
open PySem PySem.Spec PyProof.Rows L2
/-! ### undo -/
inductive UnR where
  | nothing
  | blocked (n : Str)
  | done (ts : Tm) (ss : List Sa)
/-- the first of the names that a later step touches -/
def heldA (ns : List Str) (later : List (List Str)) : Option Str := ns.find? fun n => later.any fun l => decide (n ∈ l)
def undoA (u : Str) (ts : Tm) (ss : List Sa) : UnR :=
  match lat u ss with
  | none => .nothing
  | some i => match ss[i]? with
    | none => .nothing
    | some st => match heldA st.2.1 ((ss.drop (i + 1)).map (·.2.1)) with
      | some n => .blocked n
      | none => .done (mergeA (ts.filter fun p => decide (p.1 ∉ st.2.1)) st.2.2) (ss.take i ++ ss.drop (i + 1))
/-- what comes of an undo -/
def UnOut (K : PySem.W.Frag) (k u : Str) (x : Addr) (r : UnR) (H : Hp) (Q : VK) (E : XK) : Prop :=
  match r with
  | .nothing => XR K "NothingToUndo" "user" (.str u) [] H E
  | .blocked n => XR K "Blocked" "name" (.str n) [] H E
  | .done ts ss => ∀ H', Gr [x] H H' → Std K H' x k ts ss → Q .non H'
section
variable {P : Program} {w : World} {K : PySem.W.Frag} {mg : Str → Option Value} {base : Heap}
abbrev N45_5 : List Str := ["self", "user", "index", "step", "name", "walks", "later", "walk"]
theorem sc45_5 : FnScope N45_5 ["self", "user"] (scU 5) := ⟨rfl, rfl, rfl, by decide +kernel, rfl, by decide +kernel, by decide +kernel⟩
def spUUndo (K : PySem.W.Frag) : Sp := fun vs H Q E => ∃ x u k ts ss, vs = [.ref x, .str u] ∧ Std K H x k ts ss ∧ u ∈ Users ∧ Wf ts ∧ (∀ st ∈ ss, WfE st) ∧ ss.length ≤ 1000 ∧ UnOut K k u x (undoA u ts ss) H Q E
theorem any_range {m : Nat} {g : Nat → Bool} : (((List.range m).map g).any id) = true ↔ ∃ j, j < m ∧ g j = true := by
  rw [List.any_eq_true]
  constructor
  · rintro ⟨b, hb, e⟩
    obtain ⟨j, hj, rfl⟩ := List.mem_map.mp hb
    exact ⟨j, List.mem_range.mp hj, e⟩
  · rintro ⟨j, hj, e⟩
    exact ⟨_, List.mem_map.mpr ⟨j, List.mem_range.mpr hj, rfl⟩, e⟩
theorem held_at {ns : List Str} {later : List (List Str)} {i : Nat} {n : Str} (h : ns[i]? = some n) (hn : (later.any fun l => decide (n ∈ l)) = true) (hb : ∀ j m, j < i → ns[j]? = some m → (later.any fun l => decide (m ∈ l)) = false) : heldA ns later = some n := by
  have hi : i < ns.length := (List.getElem?_eq_some_iff.mp h).1
  have e2 : ns.drop i = ns[i] :: ns.drop (i + 1) := List.drop_eq_getElem_cons hi
  rw [(List.getElem?_eq_some_iff.mp h).2] at e2
  have e1 : ns = ns.take i ++ n :: ns.drop (i + 1) := by rw [← e2, List.take_append_drop]
  unfold heldA
  rw [e1, List.find?_append]
  have e3 : (ns.take i).find? (fun n => later.any fun l => decide (n ∈ l)) = none := by
    rw [List.find?_eq_none]
    intro m hm
    obtain ⟨j, hj⟩ := List.mem_iff_getElem?.mp hm
    rw [List.getElem?_take] at hj
    split at hj
    · rename_i hlt
      rw [hb j m hlt hj]
      simp
    · cases hj
  rw [e3, List.find?_cons, hn]
  rfl
theorem held_none {ns : List Str} {later : List (List Str)} (hb : ∀ (j : Nat) (m : Str), ns[j]? = some m → (later.any fun l => decide (m ∈ l)) = false) : heldA ns later = none := by
  unfold heldA
  rw [List.find?_eq_none]
  intro m hm
  obtain ⟨j, hj⟩ := List.mem_iff_getElem?.mp hm
  rw [hb j m hj]
  simp
theorem studio_undo (T : Tv K w mg) : Fb false P w K mg base 3 (mt K "Studio" "undo") (spUUndo K) := by
  obtain ⟨fd, F⟩ := T.u_undo
  refine fn_b F sc45_5 (fun vs H Q E h => by obtain ⟨x, u, k, ts, ss, rfl, _⟩ := h; rfl) (fun _ _ _ _ _ _ us hl => match us, hl with | [_, _], _ => rfl) ?_
  intro pz cdv A outer s H vs Q E hp hq hr h
  obtain ⟨x, u, k, ts, ss, rfl, hS, hu, hw, hss, hz, q⟩ := h
  have cl := T.stu.cl
  refine wb_cons (ws_expr (w_call (check_user T.toTs) hq.up hr (T.d38.df rfl rfl) paF rfl (wa_cons (w_var 1 ⟨_, rfl, wa_nil ⟨u, rfl, users_ok _ hu, fun H1 g1 => ?_⟩⟩))))
  have hS1 := hS.gr0 g1
  obtain ⟨dx, d, l, hx, hd, hl⟩ := id hS1
  refine wb_cons (ws_set 2 sc45_5.nd (w_meth (studio_latest T) hq (hr.mono (by decide)) cl T.u_latestM paF (w_var 0 ⟨_, rfl, x, dx, _, rfl, hx, rfl, wa_cons (w_var 1 ⟨_, rfl, wa_nil ⟨x, u, k, ts, ss, rfl, hS1, hz, ?_⟩⟩)⟩)))
  have q0 := q
  unfold undoA at q
  cases hlat : lat u ss with
  | none =>
    rw [hlat] at q
    refine wb_cons (ws_if (wt_cmp op_isN1 (w_var 2 ⟨_, rfl, w_non ⟨rfl, _, rfl, ?_⟩⟩)))
    refine iteT (wb_one (ws_raise takesQ xLook T.eNo.xc (init_no T.toTz) hq hr rfl (wa_cons (w_var 1 ⟨_, rfl, wa_nil ⟨_, rfl, fun d' hd' => ?_⟩⟩))))
    exact (Gr.xr (show XR K "NothingToUndo" "user" (.str u) [] H E from q) g1).now hd'
  | some i =>
  rw [hlat] at q
  obtain ⟨⟨u', ns, bf⟩, hst, rfl⟩ := lat_at hlat
  simp only [hst] at q
  have hi : i < ss.length := (List.getElem?_eq_some_iff.mp hst).1
  refine wb_cons (ws_if (wt_cmp op_isN1 (w_var 2 ⟨_, rfl, w_non ⟨rfl, _, rfl, iteF (wb_nil ?_)⟩⟩)))
  obtain ⟨xs, hxs, hlen, hget⟩ := hl.get
  obtain ⟨p, hpx, hst0⟩ := hget i _ hst
  have hwe := hss _ (List.mem_of_getElem? hst)
  refine wb_cons (ws_set 3 sc45_5.nd (w_ix ix_list (w_fld (w_var 0 ⟨_, rfl, x, _, _, _, .ref l, rfl, hx, cl, T.u_n3, rfl, w_var 2 ⟨_, rfl, l, xs, _, .ref p, rfl, rfl, hxs, atI_nat hpx, ?_⟩⟩))))
  obtain ⟨dp, tt, bd, hp1, htt, hbd⟩ := id hst0
  -- is a name held?
  refine wb_cons (w_for ownsQ hq (wi_tup (w_fld (w_var 3 ⟨_, rfl, p, _, _, _, .ref tt, rfl, hp1, T.stp.cl, T.s_n2, rfl, tt, _, rfl, htt, fun J wk => ?_⟩))))
  refine for_wk wk (fun j σ H' => ∃ s4, σ = [some (.ref x), some (.str u'), some (.int (i : Nat)), some (.ref p), s4, none, none, none] ∧ Gr [] H1 H' ∧ ∀ j' m, j' < j → ns[j']? = some m → (((ss.drop (i + 1)).map (·.2.1)).any fun l => decide (m ∈ l)) = false) ⟨none, rfl, Gr.refl, fun j' m h => absurd h (by simp)⟩ (fun j σ H' ⟨_, _, g, _⟩ => g.tup htt) ?_ ?_
  · rintro j y σ H' hy ⟨s4, rfl, g, hall⟩
    obtain ⟨n, hn, rfl⟩ := str_get hy
    refine w_gname 4 ?_ sc45_5.nd
    refine wb_one (ws_if (wt_val (w_blt (cr_any hq.calm) T.anyN rfl (wa_cons (w_lc (own := [("later", 6)]) hq sc45_5.nd (blkOk (N := N45_5) (sc := scU 5)) (wi_list (w_slice sl_list (w_fld (w_var 0 ⟨_, rfl, x, _, _, _, .ref l, rfl, g.at hx, cl, T.u_n3, rfl, ?_⟩)))))))))
    refine w_op op_add (w_var 2 ⟨_, rfl, w_int ⟨_, _, rfl, rfl, ((i + 1 : Nat) : Int), rfl, l, xs, rfl, g.lst hxs, fun sl hsl => ⟨sl, xs.drop (i + 1), rfl, ?_, fun J2 wk2 => ?_⟩⟩⟩)
    · rw [cut_from]
      exact .of upd_same
    have g2 : Gr [] H' (upd H' sl (.lst (cutV xs (some ((i + 1 : Nat) : Int)) none))) := Gr.refl.new hsl
    have hsl2 : (upd H' sl (.lst (cutV xs (some ((i + 1 : Nat) : Int)) none))) sl = some (.lst (xs.drop (i + 1))) := by rw [upd_same, cut_from]
    refine lc_ix wk2 (fun m => .bl (decide (n ∈ ((ss[i + 1 + m]?.map (·.2.1)).getD [])))) (fun H2 g3 => .of (g3.at hsl2)) (by rw [List.length_drop]; omega) ?_ ?_
    · intro s0 H0 C cl' fp m y2 H2 hy2 g3
      rw [List.getElem?_drop] at hy2
      have hm : i + 1 + m < xs.length := (List.getElem?_eq_some_iff.mp hy2).1
      have hms : i + 1 + m < ss.length := by omega
      obtain ⟨p2, hp2, hst2⟩ := hget (i + 1 + m) _ (List.getElem?_eq_getElem hms)
      rw [hp2] at hy2
      cases hy2
      obtain ⟨dp2, tt2, bd2, hq2, htt2, _⟩ := hst2.gx ((g.trans (g2.trans g3)).gx0)
      refine w_gname 6 ⟨rfl, ?_⟩ sc45_5.nd
      refine w_cmp op_in_seq (w_var 4 ⟨_, rfl, w_fld (w_var 6 ⟨_, rfl, p2, _, _, _, .ref tt2, rfl, hq2, T.stp.cl, T.s_n2, rfl, tt2, _, rfl, .inr htt2, rfl, flat_strs _, ?_⟩)⟩)
      refine ⟨?_, Gr.refl⟩
      show V.bl (inV (.str n) (ss[i + 1 + m].2.1.map V.str)) = _
      rw [inV_str, List.getElem?_eq_getElem hms] <;> rfl
    · intro D H3 hD g3 hl3
      refine wa_nil ⟨D, (List.range (xs.drop (i + 1)).length).map fun m => decide (n ∈ ((ss[i + 1 + m]?.map (·.2.1)).getD [])), rfl, .of (by rw [hl3, List.map_map] <;> rfl), _, rfl, ?_⟩
      have g4 := g.trans (g2.trans g3)
      have key : (((List.range (xs.drop (i + 1)).length).map fun m => decide (n ∈ ((ss[i + 1 + m]?.map (·.2.1)).getD []))).any id) = (((ss.drop (i + 1)).map (·.2.1)).any fun l => decide (n ∈ l)) := by
        rw [Bool.eq_iff_iff, any_range, List.any_eq_true]
        constructor
        · rintro ⟨m, hm, e⟩
          rw [List.length_drop] at hm
          have hms : i + 1 + m < ss.length := by omega
          rw [List.getElem?_eq_getElem hms] at e
          exact ⟨_, List.mem_map.mpr ⟨_, List.mem_iff_getElem?.mpr ⟨m, by rw [List.getElem?_drop]; exact List.getElem?_eq_getElem hms⟩, rfl⟩, e⟩
        · rintro ⟨l', hl', e⟩
          obtain ⟨st', hst', rfl⟩ := List.mem_map.mp hl'
          obtain ⟨m, hm⟩ := List.mem_iff_getElem?.mp hst'
          rw [List.getElem?_drop] at hm
          have hlt := (List.getElem?_eq_some_iff.mp hm).1
          exact ⟨m, by rw [List.length_drop]; omega, by rw [hm]; exact e⟩
      rw [key]
      cases hany : (((ss.drop (i + 1)).map (·.2.1)).any fun l => decide (n ∈ l)) with
      | true =>
        refine iteT (wb_one (ws_raise takesQ xRun T.eBlk.xc (init_blk T.toTz) hq hr rfl (wa_cons (w_var 4 ⟨_, rfl, wa_nil ⟨_, rfl, fun d' hd' => ?_⟩⟩))))
        have hh := held_at (later := (ss.drop (i + 1)).map (·.2.1)) hn hany hall
        simp only [hh] at q
        exact (Gr.xr (show XR K "Blocked" "name" (.str n) [] H E from q) (g1.trans g4)).now hd'
      | false =>
        refine iteF (wb_nil ⟨_, rfl, g4, fun j' m hj' hm' => ?_⟩)
        rcases Nat.lt_succ_iff_lt_or_eq.mp hj' with h | h
        · exact hall j' m h hm'
        · subst h
          rw [hn] at hm'
          cases hm'
          exact hany
  rintro σ H2 ⟨s4, rfl, g, hall⟩
  have hh : heldA ns ((ss.drop (i + 1)).map (·.2.1)) = none := held_none fun j m hm => hall j m (by rw [List.length_map]; exact (List.getElem?_eq_some_iff.mp hm).1) hm
  simp only [hh] at q
  have g12 := g1.trans g
  -- the walks that stay
  obtain ⟨o, kvs, ho, r⟩ := hd.gx g.gx0
  have hnd := r.nodup hw.nd
  have htt2 := g.tup htt
  refine wb_cons (w_setDcItems (i := 5) (own := [("name", 4), ("walk", 7)]) hq sc45_5.nd (blkOk (N := N45_5) (sc := scU 5)) (w_fld (w_var 0 ⟨_, rfl, x, _, _, _, .ref d, rfl, g.at hx, cl, T.u_n2, rfl, d, o, kvs, rfl, ho, fun D hD => ?_⟩)))
  have hf : ∀ n : Str, (fun kk : Key => match kk with | .inr n => decide (n ∉ ns) | .inl _ => true) (Sum.inr n) = decide (n ∉ ns) := fun n => rfl
  refine ⟨fun j H' => Gr [] H2 H' ∧ H' D = some (.dK ((kvs.take j).filter fun kv => (match kv.1 with | .inr n => decide (n ∉ ns) | .inl _ => true))) ∧ j ≤ kvs.length, ⟨Gr.refl.new hD, upd_same, Nat.zero_le _⟩, fun j H' h => h.1.at ho, ?_, ?_⟩
  · rintro j H' T' k' v' ⟨g3, hD', hj⟩ hkv hT s0 H0 C cl' fp
    obtain ⟨m, c', hts, rfl, _⟩ := r.get hkv
    have hlt : j < kvs.length := (List.getElem?_eq_some_iff.mp hkv).1
    refine w_gtup (n := 2) hq.blk ⟨T', _, rfl, .of upd_same, rfl, w_gcons (w_gname 4 (w_gcons (w_gname 7 (w_gnil ⟨rfl, fun s0 H0 C cl' fp => ?_⟩) sc45_5.nd)) sc45_5.nd)⟩
    have nDT : D ≠ T' := ne_of_none hD' hT
    have gT : Gr [] H2 (upd H' T' (.tup [kV (Sum.inr m), v'])) := g3.new hT
    refine wts_one (wt_cmp op_notIn_seq (w_var 4 ⟨_, rfl, w_fld (w_var 3 ⟨_, rfl, p, _, _, _, .ref tt, rfl, gT.at (g.at hp1), T.stp.cl, T.s_n2, rfl, tt, _, rfl, .inr (gT.tup htt2), rfl, flat_strs _, _, rfl, ?_⟩)⟩))
    rw [show inV (kV (Sum.inr m)) (ns.map V.str) = decide (m ∈ ns) from inV_str m ns]
    simp only [if_true]
    by_cases e : m ∈ ns
    · rw [decide_eq_true e]
      refine iteF ⟨gT, ?_, hlt⟩
      rw [filt_no (f := fun kk => match kk with | .inr n => decide (n ∉ ns) | .inl _ => true) hkv (by simp [e]), upd_ne nDT]
      exact hD'
    · rw [decide_eq_false e]
      refine iteT fun s0 H0 C cl' fp => w_var 4 ⟨_, rfl, fun s0 H0 C cl' fp => w_var 7 ⟨_, rfl, _, .inr m, rfl, by rw [upd_ne nDT]; exact hD', ?_, gT.put (.inl (by exact hD)), ?_, hlt⟩⟩
      · refine Nat.lt_of_le_of_lt (List.length_filter_le _ _) ?_
        have := hw.len
        have := r.length
        rw [List.length_take]
        exact szl (by omega)
      · rw [upd_same, filt_yes (f := fun kk => match kk with | .inr n => decide (n ∉ ns) | .inl _ => true) hnd hkv (by simp [e])]
  rintro H3 ⟨g3, hD3, _⟩
  rw [List.take_length] at hD3
  have r3 : DL (RW K H3 k) (kvs.filter fun kv => (match kv.1 with | .inr n => decide (n ∉ ns) | .inl _ => true)) (ts.filter fun p => decide (p.1 ∉ ns)) :=
    DL.filter (R := RW K H3 k) (r.mono fun v c z => z.gx g3.gx0) (fun kk => match kk with | .inr n => decide (n ∉ ns) | .inl _ => true) (fun m => decide (m ∉ ns)) fun m => rfl
  generalize kvs.filter (fun kv => (match kv.1 with | .inr n => decide (n ∉ ns) | .inl _ => true)) = kv3 at hD3 r3
  have hw3 : Wf (ts.filter fun p => decide (p.1 ∉ ns)) := hw.filter _
  have g13 := g.trans g3
  obtain ⟨o2, kvb, hob, rb⟩ := hbd.gx g13.gx0
  -- with those of the step
  refine wb_cons (ws_fld (wE_locked (w_dput2 fun D2 hD2 => w_var 5 ⟨_, rfl, D, kv3, rfl, ?_, ?_, upd_same, ?_, ?_⟩)))
  · exact .of (by rw [upd_ne (ne_of_none hD3 hD2)]; exact hD3)
  · exact (ne_of_none hD3 hD2).symm
  · have := hw3.len
    rw [r3.length]
    omega
  have hp3 := g13.at hp1
  have g4 : Gr [] H3 (upd (upd H3 D2 (.dK [])) D2 (.dK (mergeK [] kv3))) := (Gr.refl.new hD2).put (.inl hD2)
  refine w_fld (w_var 3 ⟨_, rfl, p, _, _, _, .ref bd, rfl, g4.at hp3, T.stp.cl, T.s_n3, rfl, bd, kvb, rfl, .inr ⟨o2, g4.at hob⟩, (ne_of_none hob hD2).symm, upd_same, ?_, ?_⟩)
  · have := hwe.bf.len
    have e := rb.length
    rw [e]
    exact Nat.le_trans this (by decide)
  refine ⟨D2, _, rfl, upd_same, trivial, fun ob => ?_⟩
  rw [mergeK_nil (r3.nodup hw3.nd)]
  simp only [upd_upd]
  have g5 : Gr [] H3 (upd H3 D2 (.frz ob (.dK (mergeK kv3 kvb)))) := Gr.refl.new hD2
  have hx4 := g5.at (g13.at hx)
  refine w_var 0 ⟨_, rfl, x, _, _, _, rfl, hx4, cl, T.u_n2, fsz (by simp [stf]), ?_⟩
  rw [show stf k d l = ([("own_net", .str k), ("walks", .ref d), ("steps", .ref l)] : List (Str × V)) from rfl, pfw]
  have rD : DL (RW K H3 k) (mergeK kv3 kvb) (mergeA (ts.filter fun p => decide (p.1 ∉ ns)) bf) := DL.merge (R := RW K H3 k) r3 rb
  have gx6 : Gx K H3 (upd (upd H3 D2 (.frz ob (.dK (mergeK kv3 kvb)))) x (.ins (cS K) dx [("own_net", .str k), ("walks", .ref D2), ("steps", .ref l)])) := g5.gx0.fld hx4 rfl
  have G6 : Gr [x] H (upd (upd H3 D2 (.frz ob (.dK (mergeK kv3 kvb)))) x (.ins (cS K) dx [("own_net", .str k), ("walks", .ref D2), ("steps", .ref l)])) := (((g12.trans g3).trans g5).up).put (.inr (by simp))
  have hx6 : (upd (upd H3 D2 (.frz ob (.dK (mergeK kv3 kvb)))) x (.ins (cS K) dx [("own_net", .str k), ("walks", .ref D2), ("steps", .ref l)])) x = some (.ins (cS K) dx [("own_net", .str k), ("walks", .ref D2), ("steps", .ref l)]) := upd_same
  have hD6 : (upd (upd H3 D2 (.frz ob (.dK (mergeK kv3 kvb)))) x (.ins (cS K) dx [("own_net", .str k), ("walks", .ref D2), ("steps", .ref l)])) D2 = some (.frz ob (.dK (mergeK kv3 kvb))) := by
    rw [upd_ne, upd_same]
    rintro rfl
    rw [g13.at hx] at hD2
    cases hD2
  generalize upd (upd H3 D2 (.frz ob (.dK (mergeK kv3 kvb)))) x (.ins (cS K) dx [("own_net", .str k), ("walks", .ref D2), ("steps", .ref l)]) = H6 at gx6 G6 hx6 hD6 ⊢
  -- the steps without it
  obtain ⟨ol, xs0, hl0, rl⟩ := hl.gx (g13.gx0.trans gx6)
  have hls : SqL K H6 l xs0 := .inl (.inr ⟨ol, hl0⟩)
  have hle0 : xs0.length = ss.length := Paired.length rl
  refine wb_one (ws_fld (wE_locked (w_op op_cat (w_sliceTo sl_list (w_fld (w_var 0 ⟨_, rfl, x, _, _, _, .ref l, rfl, hx6, cl, T.u_n3, rfl, w_var 2 ⟨_, rfl, _, rfl, l, xs0, rfl, hls, fun l1 hl1 => ?_⟩⟩))))))
  have g7 : Gr [] H6 (upd H6 l1 (.lst (cutV xs0 none (some ((i : Nat) : Int))))) := Gr.refl.new hl1
  refine w_slice sl_list (w_fld (w_var 0 ⟨_, rfl, x, _, _, _, .ref l, rfl, g7.at hx6, cl, T.u_n3, rfl, w_op op_add (w_var 2 ⟨_, rfl, w_int ⟨_, _, rfl, rfl, ((i + 1 : Nat) : Int), rfl, l, xs0, rfl, g7.lst hls, fun l2 hl2 => ?_⟩⟩)⟩))
  refine ⟨l1, l2, xs0.take i, xs0.drop (i + 1), rfl, rfl, ?_, ?_, ?_, fun l3 hl3 => ?_⟩
  · rw [upd_ne (ne_of_none upd_same hl2), upd_same, cut_to]
  · rw [upd_same, cut_from]
  · rw [List.length_take, List.length_drop]
    exact szm (by omega)
  have g8 := (g7.new (o := .lst (cutV xs0 (some ((i + 1 : Nat) : Int)) none)) hl2)
  refine ⟨l3, _, rfl, upd_same, trivial, fun ob3 => ?_⟩
  rw [upd_upd]
  have g9 := g8.new (o := .frz ob3 (.lst (xs0.take i ++ xs0.drop (i + 1)))) hl3
  refine w_var 0 ⟨_, rfl, x, _, _, _, rfl, g9.at hx6, cl, T.u_n3, fsz (by simp), ?_⟩
  rw [pfss]
  have gx9 := g9.gx0.fld (K := K) (g9.at hx6) (o := .ins (cS K) dx [("own_net", .str k), ("walks", .ref D2), ("steps", .ref l3)]) rfl
  refine q _ ((G6.trans g9.up).put (.inr (by simp))) ⟨dx, D2, l3, upd_same, ?_, ?_⟩
  · exact ⟨ob, _, gx9.keep _ _ trivial hD6, rD.mono fun v c z => z.gx (gx6.trans gx9)⟩
  · have nx3 : l3 ≠ x := by
      rintro rfl
      rw [g8.at hx6] at hl3
      cases hl3
    exact ⟨ob3, _, by rw [upd_ne nx3, upd_same], paired_app (paired_take i (Paired.mapP rl fun v st ⟨p, e, z⟩ => ⟨p, e, z.gx gx9⟩)) (paired_drop (i + 1) (Paired.mapP rl fun v st ⟨p, e, z⟩ => ⟨p, e, z.gx gx9⟩))⟩
end
end K6

/-! ## S8 -/
namespace K6
open PySem PySem.Spec PyProof.Rows L2
theorem runs_app (a b : List Ch) : ∀ ts : Tm, runs ts (a ++ b) = match runs ts a with
    | .ok t => runs t b
    | r => r := by
  induction a with
  | nil => intro ts; rfl
  | cons c a ih =>
    intro ts
    simp only [List.cons_append, runs]
    cases h : run ts c with
    | ok t => exact ih t
    | unk n => rfl
    | lim => rfl
theorem runs_snoc {ts t : Tm} {cs : List Ch} {i : Nat} {c : Ch} (h : cs[i]? = some c) (e : runs ts (cs.take i) = .ok t) : runs ts (cs.take (i + 1)) = run t c := by
  rw [List.take_add_one, h, runs_app, e]
  simp only [Option.toList_some, runs]
  cases run t c <;> rfl
theorem runs_stop {ts t : Tm} {cs : List Ch} {i : Nat} {c : Ch} (h : cs[i]? = some c) (e : runs ts (cs.take i) = .ok t) (hn : ∀ t', run t c ≠ .ok t') : runs ts cs = run t c := by
  have e1 := runs_snoc h e
  have e2 : runs ts (cs.take (i + 1) ++ cs.drop (i + 1)) = run t c := by
    rw [runs_app, e1]
    cases hr : run t c with
    | ok t' => exact absurd hr (hn t')
    | unk n => rfl
    | lim => rfl
  rwa [List.take_append_drop] at e2
theorem IsSet.mono {ys xs zs : List Str} (h : IsSet ys xs) (e : ∀ z, z ∈ xs ↔ z ∈ zs) : IsSet ys zs := ⟨h.so, h.nd, fun a => (h.mem a).trans (e a)⟩
theorem ch_univ {c : Ch} (h : ChOk c) : c.nm ∈ Univ := by
  cases c with
  | put n c => exact h.1
  | join n ps => exact h.1
  | drop n => exact h
theorem univ_len {ys : List Str} (hn : ys.Nodup) (h : ∀ n ∈ ys, n ∈ Univ) : ys.length ≤ 9 := hn.length_le_of_subset (l₂ := Univ) h
section
variable {X : Cx} {σ : St} {H : Hp} {QA : List V → Hp → Prop} {e : Expr} {es : List Expr} {p : Pos}
theorem wa_star (h : wE X e σ H fun x H1 => ∃ p xs, x = .ref p ∧ (SqT X.K H1 p xs ∨ SqL X.K H1 p xs) ∧ wA X es σ H1 fun ys H2 => QA (xs ++ ys) H2) (hs : starEach (.Starred e p :: es) X.env = (true, eval e X.env) :: starEach es X.env := by rfl) : wA X (.Starred e p :: es) σ H QA :=
  PA.w (StX.pa_star pE pA hs) h
end
structure Tu (K : PySem.W.Frag) (w : World) (mg : Str → Option Value) : Prop extends Tv K w mg where
  u_make : Mt K "make" "Studio.make" 45 3 (mt K "Studio" "make")
  u_makeM : Meth K (ga K "Studio") "make" (mt K "Studio" "make")
  u_makeB : BMeth K (ga K "Studio") "make" (mt K "Studio" "make")
/-- what comes of changes -/
def MkOut (K : PySem.W.Frag) (k u : Str) (x : Addr) (ts : Tm) (ss : List Sa) (cs : List Ch) (H : Hp) (Q : VK) (E : XK) : Prop :=
  match runs ts cs with
  | .ok ts' => ∀ H' ys, IsSet ys (cs.map Ch.nm) → Gr [x] H H' → Std K H' x k ts' (ss ++ [(u, ys, look ys ts)]) → Q .non H'
  | .unk n => XR K "UnknownName" "name" (.str n) [] H E
  | .lim => XR K "LimitExceeded" "limit" (.int 200) [] H E
section
variable {P : Program} {w : World} {K : PySem.W.Frag} {mg : Str → Option Value} {base : Heap}
abbrev N45_3 : List Str := ["self", "user", "changes", "walks", "change", "names"]
theorem sc45_3 : FnScope N45_3 ((["self", "user"] : List Str) ++ (["changes"] : List Str)) (scU 3) := ⟨rfl, rfl, rfl, by decide +kernel, rfl, by decide +kernel, by decide +kernel⟩
def spMakeB (K : PySem.W.Frag) : Sp := fun vs H Q E => ∃ x u p k ts ss, vs = [.ref x, .str u, .ref p] ∧ Std K H x k ts ss ∧ u ∈ Users ∧ Wf ts ∧ Kind k ∧ ss.length ≤ 1000 ∧
  ((∃ (ps : List Addr) (cs : List Ch), H p = some (.tup (ps.map V.ref)) ∧ cs ≠ [] ∧ cs.length ≤ 20 ∧ Paired (fun q c => ChAt K H k q c ∧ ChOk c) ps cs ∧ MkOut K k u x ts ss cs H Q E) ∨
    (H p = some (.tup []) ∧ ∀ H' d t, Gr [] H H' → H' t = some (.tup []) → H' d = some (.xd [("given", .ref t)]) → E (.ref (ga K "InvalidChange")) (some d) H'))
theorem make_body (T : Tu K w mg) {cdv : Value} {A : Around} {outer : List Env} {s : Shared} {H : Hp} {vs : List V} {Q : VK} {E : XK}
    (hq : Qk false (cxQ P w K mg base N45_3 "Studio.make" (scU 3) (mt K "Studio" "make") cdv A outer s H E none)) (hr : L2H.RoomH 8 (cxQ P w K mg base N45_3 "Studio.make" (scU 3) (mt K "Studio" "make") cdv A outer s H E none).A) (h : spMakeB K vs H Q E) :
    wB (cxQ P w K mg base N45_3 "Studio.make" (scU 3) (mt K "Studio" "make") cdv A outer s H E none) (defBody (inClass (topS 45) 3)) { nx := fun _ H' => Q .non H', rt := Q } (L2.start N45_3 vs) H := by
  obtain ⟨x, u, p, k, ts, ss, rfl, hS, hu, hw, hk, hz, h⟩ := h
  have cl := T.stu.cl
  refine wb_cons (ws_expr (w_call (check_user T.toTs) hq.up (hr.mono (by decide)) (T.d38.df rfl rfl) paF rfl (wa_cons (w_var 1 ⟨_, rfl, wa_nil ⟨u, rfl, users_ok _ hu, fun H1 g1 => ?_⟩⟩))))
  rcases h with h | ⟨hp, q⟩
  rotate_left
  · have hp1 := g1.at hp
    refine wb_cons (ws_if (wt_cmp op_eq (w_blt call_len T.len rfl (wa_cons (w_var 2 ⟨_, rfl, wa_nil ⟨_, _, rfl, .inr ⟨_, .of hp1, rfl⟩, w_int ⟨rfl, true, rfl, iteT ?_⟩⟩⟩)))))
    refine wb_one (ws_raise takesQ xVal T.eChg.xc (init_chg T.toTz) hq (hr.mono (by decide)) rfl (wa_cons (w_tup (wa_nil ⟨Nat.zero_le _, fun t ht => wa_nil ⟨_, rfl, fun d hd => ?_⟩⟩))))
    refine q _ d t ((g1.new ht).new hd) ?_ upd_same
    rw [upd_ne (ne_of_none upd_same hd), upd_same]
  obtain ⟨ps, cs, hp, hne, hcl, hcs, q⟩ := h
  have hp1 := g1.at hp
  have hlen : ps.length = cs.length := Paired.length hcs
  have hne0 : ps ≠ [] := by
    rintro rfl
    exact hne (List.eq_nil_of_length_eq_zero hlen.symm)
  refine wb_cons (ws_if (wt_cmp op_eq (w_blt call_len T.len rfl (wa_cons (w_var 2 ⟨_, rfl, wa_nil ⟨_, _, rfl, .inr ⟨_, .of hp1, rfl⟩, w_int ⟨rfl, _, rfl, ?_⟩⟩⟩)))))
  rw [show decide (V.int ((ps.map V.ref).length : Nat) = V.int 0) = false from decide_eq_false (fun h => by have := V.int.inj h; rw [List.length_map] at this; have := List.length_pos_iff.mpr hne0; omega)]
  refine iteF (wb_nil ?_)
  have hS1 := hS.gr0 g1
  obtain ⟨dx, d, l, hx, hd, hl⟩ := id hS1
  refine wb_cons (ws_set 3 sc45_3.nd (w_fld (w_var 0 ⟨_, rfl, x, _, _, _, .ref d, rfl, hx, cl, T.u_n2, rfl, ?_⟩)))
  -- the changes, one by one
  refine wb_cons (w_for ownsQ hq (wi_tup (w_var 2 ⟨_, rfl, p, _, rfl, .of hp1, fun J wk => ?_⟩)))
  refine for_wk wk (fun i σ H' => ∃ (s4 : Option V) (di : Addr) (ti : Tm), σ = [some (.ref x), some (.str u), some (.ref p), some (.ref di), s4, none] ∧ Gr [] H1 H' ∧ WD K H' di k ti ∧ runs ts (cs.take i) = .ok ti ∧ Wf ti) ⟨none, d, ts, rfl, Gr.refl, hd, rfl, hw⟩ (fun i σ H' ⟨_, _, _, _, g, _⟩ => .of (g.at hp1)) ?_ ?_
  · rintro i y σ H' hy ⟨s4, di, ti, rfl, g, hdi, hti, hwi⟩
    rw [List.getElem?_map] at hy
    obtain ⟨qa, hqa, rfl⟩ := Option.map_eq_some_iff.mp hy
    obtain ⟨c, hc, hca, hco⟩ := paired_get' hcs hqa
    refine w_gname 4 ?_ sc45_3.nd
    refine wb_one (ws_set 3 sc45_3.nd (w_call (changed T.toTs) hq hr (T.d42.df rfl rfl) paQ rfl (wa_cons (w_fld (w_var 0 ⟨_, rfl, x, _, _, _, .str k, rfl, g.at hx, cl, T.u_n1, rfl, wa_cons (w_var 3 ⟨_, rfl, wa_cons (w_var 4 ⟨_, rfl, wa_nil ?_⟩)⟩)⟩)))))
    refine ⟨k, di, qa, ti, c, rfl, hdi, hca.gx ((g1.trans g).gx0), hco, hk, hwi, ?_⟩
    have es := runs_snoc hc hti
    unfold MkOut at q
    cases hrun : run ti c with
    | ok t' =>
      intro D H2 g2 hD
      exact ⟨_, D, t', rfl, g.trans g2, hD, es.trans hrun, run_wf hwi hco hrun⟩
    | unk n =>
      rw [runs_stop hc hti (fun t' e => by rw [hrun] at e; cases e), hrun] at q
      exact Gr.xr q (g1.trans g)
    | lim =>
      rw [runs_stop hc hti (fun t' e => by rw [hrun] at e; cases e), hrun] at q
      exact Gr.xr q (g1.trans g)
  rintro σ H2 ⟨s4, dn, tn, rfl, g, hdn, htn, hwn⟩
  rw [List.length_map, hlen, List.take_length] at htn
  unfold MkOut at q
  rw [htn] at q
  have g12 := g1.trans g
  have hp2 := g12.at hp
  -- their names
  refine wb_cons (ws_set 5 sc45_3.nd (w_bty call_tuple_of T.tupN rfl (wa_cons (w_blt (call_sortT hq.calm) T.srt rfl (wa_cons (w_sc (own := [("change", 4)]) hq sc45_3.nd (blkOk (N := N45_3) (sc := scU 3)) (wi_tup (w_var 2 ⟨_, rfl, p, _, rfl, .of hp2, fun J2 wk2 => ?_⟩))))))))
  refine sc_wk (fun i => (cs[i]?.map Ch.nm).getD ⟨#[]⟩) wk2 (fun H' g' => .of (g'.at hp2)) (by rw [List.length_map]; omega) ?_ ?_
  · intro s0 H0 C cl' fp i y H' hy g'
    rw [List.getElem?_map] at hy
    obtain ⟨qa, hqa, rfl⟩ := Option.map_eq_some_iff.mp hy
    obtain ⟨c, hc, hca, hco⟩ := paired_get' hcs hqa
    obtain ⟨wd, rest, he, _⟩ := (hca.gx (g12.trans g').gx0).ex
    refine w_gname 4 ⟨rfl, ?_⟩ sc45_3.nd
    refine w_ix ix_tup (w_var 4 ⟨_, rfl, w_int ⟨qa, _, 1, .str c.nm, rfl, rfl, .of he, atI_nat (j := 1) rfl, ?_, Gr.refl⟩⟩)
    rw [hc] <;> rfl
  intro D H3 ls hD g3 hD3 hmem hle
  refine wa_nil ⟨D, ls, rfl, hD3, by rw [List.length_map] at hle; omega, fun ys pl hys hpl => wa_nil ⟨pl, _, rfl, .inl ⟨.of upd_same, fun t ht => ?_⟩⟩⟩
  have g4 := (g3.new (o := .lst (ys.map V.str)) hpl).new (o := .tup (ys.map V.str)) ht
  have ht4 : (upd (upd H3 pl (.lst (ys.map V.str))) t (.tup (ys.map V.str))) t = some (.tup (ys.map V.str)) := upd_same
  generalize upd (upd H3 pl (.lst (ys.map V.str))) t (.tup (ys.map V.str)) = H4 at g4 ht4 ⊢
  have g14 := g12.trans g4
  have hset : IsSet ys (cs.map Ch.nm) := hys.mono fun z => by
    rw [hmem z]
    constructor
    · rintro ⟨i, hi, rfl⟩
      rw [List.length_map, hlen] at hi
      rw [List.getElem?_eq_getElem hi]
      exact List.mem_map.mpr ⟨_, List.getElem_mem hi, rfl⟩
    · intro hz'
      obtain ⟨c, hc, rfl⟩ := List.mem_map.mp hz'
      obtain ⟨i, hi⟩ := List.mem_iff_getElem?.mp hc
      exact ⟨i, by rw [List.length_map, hlen]; exact (List.getElem?_eq_some_iff.mp hi).1, by rw [hi] <;> rfl⟩
  have hun : ∀ n ∈ ys, n ∈ Univ := fun n hn => by
    obtain ⟨c, hc, rfl⟩ := List.mem_map.mp ((hset.mem n).mp hn)
    obtain ⟨i, hi⟩ := List.mem_iff_getElem?.mp hc
    have hi' : i < ps.length := by rw [hlen]; exact (List.getElem?_eq_some_iff.mp hi).1
    obtain ⟨c', hc', _, ok⟩ := paired_get' hcs (List.getElem?_eq_getElem hi')
    rw [hi] at hc'
    cases hc'
    exact ch_univ ok
  -- the steps
  have hx4 := g14.at (H := H) (H1 := H4) (a := x) (o := .ins (cS K) dx (stf k d l)) (by obtain ⟨dx', d', l', hx', _⟩ := hS; have := g1.at hx'; rw [hx] at this; cases this; exact hx')
  obtain ⟨ol, xs, hlx, rl⟩ := hl.gx (g.trans g4).gx0
  have hd4 := hd.gx (g.trans g4).gx0
  refine wb_cons (ws_fld (wE_locked (w_lst (wa_star (w_fld (w_var 0 ⟨_, rfl, x, _, _, _, .ref l, rfl, hx4, cl, T.u_n3, rfl, l, xs, rfl, .inr (.inl (.inr ⟨ol, hlx⟩)), ?_⟩))))))
  refine wa_cons (w_make T.stp.mkr (step_init T.toTw) hq (hr.mono (by decide)) T.stp.mg paF rfl (wa_cons (w_var 1 ⟨_, rfl, wa_cons (w_var 5 ⟨_, rfl, wa_cons (w_fld (w_var 0 ⟨_, rfl, x, _, _, _, .ref d, rfl, hx4, cl, T.u_n2, rfl, wa_nil ?_⟩))⟩)⟩)))
  intro y dy hy hdy hne'
  have hy1 : (upd H4 dy (.own y)) y = none := by rw [upd_ne (Ne.symm hne')]; exact hy
  have gy : Gr [] H4 (upd (upd H4 dy (.own y)) y (.ins (cT K) dy [])) := (Gr.refl.new hdy).new hy1
  refine ⟨y, u, t, d, dy, k, ys, ts, rfl, upd_same, gy.tup (.of ht4), hd4.gx gy.gx0, hw, hys.nd, univ_len hys.nd hun, fun H5 g5 hst => ⟨rfl, ?_⟩⟩
  have g45 : Gr [] H4 H5 := (Gr.refl.new hdy).trans (g5.of_new hy1)
  refine wa_nil ⟨?_, fun nl hnl => ⟨nl, _, rfl, upd_same, trivial, fun ob => ?_⟩⟩
  · rw [List.length_append, Paired.length rl]
    exact szm (by show ss.length + 1 ≤ _; omega)
  rw [upd_upd]
  have g5n : Gr [] H4 (upd H5 nl (.frz ob (.lst (xs ++ [.ref y])))) := g45.new hnl
  have hx5 := g5n.at hx4
  refine w_var 0 ⟨_, rfl, x, _, _, _, rfl, hx5, cl, T.u_n3, fsz (by simp [stf]), ?_⟩
  rw [show stf k d l = ([("own_net", .str k), ("walks", .ref d), ("steps", .ref l)] : List (Str × V)) from rfl, pfss]
  have gx6 : Gx K H4 (upd (upd H5 nl (.frz ob (.lst (xs ++ [.ref y])))) x (.ins (cS K) dx [("own_net", .str k), ("walks", .ref d), ("steps", .ref nl)])) := g5n.gx0.fld hx5 rfl
  have gx56 : Gx K H5 (upd (upd H5 nl (.frz ob (.lst (xs ++ [.ref y])))) x (.ins (cS K) dx [("own_net", .str k), ("walks", .ref d), ("steps", .ref nl)])) := (Gx.refl.new hnl).fld hx5 rfl
  have hx6 : (upd (upd H5 nl (.frz ob (.lst (xs ++ [.ref y])))) x (.ins (cS K) dx [("own_net", .str k), ("walks", .ref d), ("steps", .ref nl)])) x = some (.ins (cS K) dx [("own_net", .str k), ("walks", .ref d), ("steps", .ref nl)]) := upd_same
  have hn6 : (upd (upd H5 nl (.frz ob (.lst (xs ++ [.ref y])))) x (.ins (cS K) dx [("own_net", .str k), ("walks", .ref d), ("steps", .ref nl)])) nl = some (.frz ob (.lst (xs ++ [.ref y]))) := by
    rw [upd_ne, upd_same]
    rintro rfl
    rw [g45.at hx4] at hnl
    cases hnl
  have G6 : Gr [x] H (upd (upd H5 nl (.frz ob (.lst (xs ++ [.ref y])))) x (.ins (cS K) dx [("own_net", .str k), ("walks", .ref d), ("steps", .ref nl)])) := ((g14.trans g5n).up).put (.inr (by simp))
  generalize upd (upd H5 nl (.frz ob (.lst (xs ++ [.ref y])))) x (.ins (cS K) dx [("own_net", .str k), ("walks", .ref d), ("steps", .ref nl)]) = H6 at gx6 gx56 hx6 hn6 G6 ⊢
  refine wb_one (ws_fld (w_var 3 ⟨_, rfl, w_var 0 ⟨_, rfl, x, _, _, _, rfl, hx6, cl, T.u_n2, fsz (by simp), ?_⟩⟩))
  rw [pfw]
  have gx7 : Gx K H6 (upd H6 x (.ins (cS K) dx [("own_net", .str k), ("walks", .ref dn), ("steps", .ref nl)])) := Gx.refl.fld hx6 rfl
  refine q _ ys hset (G6.put (.inr (by simp))) ⟨dx, dn, nl, upd_same, ?_, ?_⟩
  · exact hdn.gx ((g4.gx0.trans gx6).trans gx7)
  · refine ⟨ob, _, gx7.keep _ _ trivial hn6, paired_app (Paired.mapP rl fun v st ⟨p, e, z⟩ => ⟨p, e, z.gx (gx6.trans gx7)⟩) (.cons ⟨y, rfl, hst.gx (gx56.trans gx7)⟩ .nil)⟩
def spMake (K : PySem.W.Frag) : Sp := fun vs H Q E => ∃ x u k ts ss, Std K H x k ts ss ∧ u ∈ Users ∧ Wf ts ∧ Kind k ∧ ss.length ≤ 1000 ∧
  ((∃ (ps : List Addr) (cs : List Ch), vs = .ref x :: .str u :: ps.map V.ref ∧ cs ≠ [] ∧ cs.length ≤ 20 ∧ Paired (fun q c => ChAt K H k q c ∧ ChOk c) ps cs ∧ MkOut K k u x ts ss cs H Q E) ∨
    (vs = [.ref x, .str u] ∧ ∀ H' d t, Gr [] H H' → H' t = some (.tup []) → H' d = some (.xd [("given", .ref t)]) → E (.ref (ga K "InvalidChange")) (some d) H'))
theorem MkOut.gr {k u : Str} {x : Addr} {ts : Tm} {ss : List Sa} {cs : List Ch} {H H1 : Hp} {Q : VK} {E : XK} (h : MkOut K k u x ts ss cs H Q E) (g : Gr [] H H1) : MkOut K k u x ts ss cs H1 Q E := by
  unfold MkOut at h ⊢
  cases hr : runs ts cs with
  | ok t => rw [hr] at h; exact fun H' ys hs g' hS => h H' ys hs (g.up.trans g') hS
  | unk n => rw [hr] at h; exact Gr.xr h g
  | lim => rw [hr] at h; exact Gr.xr h g
theorem studio_make (T : Tu K w mg) : Fb false P w K mg base 9 (mt K "Studio" "make") (spMake K) := by
  obtain ⟨fd, F⟩ := T.u_make
  refine (fn_sb (ps := ["self", "user"]) (pv := "changes") (sp := spMakeB K) F sc45_3 (fun kV doc pm an cdv ct => StX.bind_star2 (p1 := "self") (p2 := "user") (pv := "changes") (B := fun as => bindArgs (PySem.W.fnOf "make" "Studio.make" (defArgs (inClass (topS 45) 3)) (defBody (inClass (topS 45) 3)) (defScope (inClass (topS 45) 3)) .none kV doc pm an cdv ct) ⟨as, []⟩) (fun a b => rfl) (fun a b r rs => rfl)) fun cdv A outer s H vs Q E hq hr h => make_body T hq hr h).imp ?_
  rintro vs H Q E ⟨x, u, k, ts, ss, hS, hu, hw, hk, hz, h⟩
  rcases h with ⟨ps, cs, rfl, hne, hcl, hcs, q⟩ | ⟨rfl, q⟩
  · refine ⟨[.ref x, .str u], ps.map V.ref, rfl, rfl, ?_, fun p hp => ?_⟩
    · rw [List.length_map, Paired.length hcs]
      exact szm (by omega)
    · have g : Gr [] H (upd H p (.tup (ps.map V.ref))) := Gr.refl.new hp
      exact ⟨x, u, p, k, ts, ss, rfl, hS.gr0 g, hu, hw, hk, hz, .inl ⟨ps, cs, upd_same, hne, hcl, Paired.mapP hcs fun a b z => ⟨z.1.gx g.gx0, z.2⟩, q.gr g⟩⟩
  · refine ⟨[.ref x, .str u], [], rfl, rfl, Nat.zero_le _, fun p hp => ?_⟩
    have g : Gr [] H (upd H p (.tup [])) := Gr.refl.new hp
    exact ⟨x, u, p, k, ts, ss, rfl, hS.gr0 g, hu, hw, hk, hz, .inr ⟨upd_same, fun H' d t g' => q H' d t (g.trans g')⟩⟩
end
end K6

/-! ## KX1 -/
namespace K6
open PySem PySem.Spec PyProof.Rows L2 GenW
/-! ### for, in a generator's body -/
section
variable {prog : Program} {w : World} {A : Around} {R : GenEnd} {Y : Protocol} {n : Nat} {s₀ s : Shared} {fs : List Frame} {env : Env} {c : Code}
/-- into the loop's code -/
theorem seg_intoFor {target iter : Expr} {body : List Stmt} {pos : Pos} {K : Flow → Sem PySem.Fin} {J : Value → Sem PySem.Fin} {gd : Bool → Bool} {lv : List Value → List Value}
    (h : wpAny (model prog w) (A.over c fs) (eval iter env) (fun x s1 => wpAny (model prog w) (A.over c fs) (pyIter x) (fun it s2 => ∀ p, Seg (model prog w) A R Y n s₀ (.forLoop target it body [] env) ((model prog w).den (.forLoop target it body [] env))
      (.ret (fun r => ((match r with | .ok f => (.pure f : Sem Flow) | .error e => .raise e).onRaise (cameBack env)).wrap K J gd lv) none (gd false) (lv []) c p [] :: fs) s2) (fun _ _ => False) s1) (fun _ _ => False) s)
    (hs : ∀ x, foldedSetIterable iter env x = pure x) : Seg (model prog w) A R Y n s₀ c ((exec (.For target iter body [] pos) env).wrap K J gd lv) fs s := by
  rw [arm_exec_For]
  refine seg_bind_wrap (wpAny_standAt ?_)
  refine seg_bind_wrap (wpAny_mono h (fun x s1 h1 => ?_) fun _ _ z => z.elim)
  refine seg_bind_wrap (wpAny_of_eq (hs x) ?_)
  refine seg_bind_wrap (wpAny_standAt ?_)
  refine seg_bind_wrap (wpAny_holding (wpAny_mono h1 (fun it s2 h2 => ?_) fun _ _ z => z.elim))
  exact seg_call h2
/-- one turn -/
theorem seg_turnFor {target : Expr} {it : Value} {body : List Stmt}
    (h : wpAny (model prog w) (A.over (.forLoop target it body [] env) fs) (pyNext it) (fun r s1 => match r with
      | none => Seg (model prog w) A R Y n s₀ (.forLoop target it body [] env) (.pure (.again (.block [] env))) fs s1
      | some v => wpAny (model prog w) (A.over (.forLoop target it body [] env) fs) (letOwnedTupleGo target it v) (fun _ s2 => wpAny (model prog w) (A.over (.forLoop target it body [] env) fs) (assign target env v) (fun _ s3 =>
          Seg (model prog w) A R Y n s₀ (.forLoop target it body [] env) ((execs body env).wrap (fun f => match f with
            | .next | .cont => .pure (.again (.forLoop target it body [] env))
            | .brk => .pure (.done .next)
            | .ret v => .pure (.done (.ret v))) (fun e => (do noteFrame e env; theTreesLotGoes e : Sem Unit).wrap (fun _ => .raise e) .raise id id) id id) fs s3) (fun _ _ => False) s2) (fun _ _ => False) s1) (fun _ _ => False) s) :
    Seg (model prog w) A R Y n s₀ (.forLoop target it body [] env) ((model prog w).den (.forLoop target it body [] env)) fs s := by
  show Seg _ A R Y n s₀ _ ((forTurn target it body [] env).onRaise (fun x => do noteFrame x env; theTreesLotGoes x)) fs s
  unfold forTurn
  rw [Sem.onRaise_eq_wrap]
  refine seg_bind_wrap (wpAny_standAt ?_)
  refine seg_bind_wrap (wpAny_onRaise (wpAny_mono h (fun r s1 h1 => ?_) fun _ _ z => z.elim))
  cases r with
  | none => exact h1
  | some v =>
    refine seg_bind_wrap (wpAny_mono h1 (fun _ s2 h2 => ?_) fun _ _ z => z.elim)
    refine seg_bind_wrap (wpAny_mono h2 (fun _ s3 h3 => ?_) fun _ _ z => z.elim)
    rw [Sem.bind_eq_wrap', Sem.wrap_wrap]
    rw [Sem.wrap_congr (execs body env) _ _ (K' := fun f => match f with
            | .next | .cont => .pure (.again (.forLoop target it body [] env))
            | .brk => .pure (.done .next)
            | .ret v => .pure (.done (.ret v))) (H' := (fun e => (do noteFrame e env; theTreesLotGoes e : Sem Unit).wrap (fun _ => .raise e) .raise id id))
        (fun f => by cases f <;> rfl)
        (fun e => by first | exact Sem.bind_eq_wrap _ _ | (show (do noteFrame e env; theTreesLotGoes e : Sem Unit).bind (fun _ => .raise e) = _; rw [Sem.bind_eq_wrap]))]
    exact h3
/-- the loop's end: an empty block -/
theorem seg_noBlock (h : Seg (model prog w) A R Y n s₀ (.block [] env) (.pure (.done .next)) fs s) : Seg (model prog w) A R Y n s₀ c (.pure (.again (.block [] env))) fs s := by
  refine seg_again rfl ?_
  show Seg _ A R Y n s₀ _ (do return Fin.done (← (execs [] env).onRaise (fun x => do noteFrame x env; theTreesLotGoes x))) fs s
  rw [Sem.onRaise_eq_wrap]
  exact h
end
section
variable {h : Bool} {X : Cx} {tg iter : Expr} {body : List Stmt} {pos : Pos}
/-- what a for asks of its walk, in a generator -/
def ForGW (X : Cx) (tg : Expr) (tb : TGn) (D : GEnds) (ys : List V) (σ : St) (J : It) (H1 : Hp) : Prop :=
  ∃ W : Nat → Nat → List V → St → Hp → Prop, (∃ m, W 0 m ys σ H1) ∧ ∀ i m ys σ H, W i m ys σ H → (J.stop i H ∧ D.nx ys σ H) ∨
    (J.go i H ∧ ∃ N : List V → St → Hp → Prop, (∀ ys' σ' H', N ys' σ' H' → ∃ m', m' < m ∧ W (i + 1) m' ys' σ' H') ∧ ∀ x H', J.yld i H x H' → wG X tg x σ H' fun σ2 H2 => tb { D with nx := N, ct := N, bk := D.nx } ys σ2 H2)
theorem gs_for (hxe : X.xe = fun _ _ => False) (hq : Qk h X) {tb : TGn} (hb : GSs X body tb) (hs : ∀ x, foldedSetIterable iter X.env x = pure x := by intro _; rfl) :
    GS X (.For tg iter body [] pos) (fun D ys σ H => wI h X tg iter σ H (ForGW X tg tb D ys σ)) := by
  refine ⟨fun A S ip R n ys s₀ c fs K J gd lv s σ H D g hn k hI ht => ?_⟩
  obtain ⟨acc, cc, r, I⟩ := hI
  have htI := ht _ s I
  rw [hxe] at htI
  refine seg_intoFor ?_ hs
  rw [g.over]
  refine wpAny_mono htI (fun v s1 z => ?_) fun _ _ z => z
  refine wpAny_mono z (fun itv s2 h2 => ?_) fun _ _ z => z
  intro p
  obtain ⟨it, fp, tn, Jt, H2, e, I2, T, st2, f2, W, ⟨m0, w0⟩, turn⟩ := h2
  subst e
  have gl := fun (kk : Result → Sem PySem.Fin) => gc_loop (k := kk) (c' := .forLoop tg (.ref it) body [] X.env) (l := lv []) (kp := []) (p := p) g rfl rfl
  have stat : ∀ {H' : Hp} {acc' : Array Value} {c' : Nat}, (∀ b ∈ fp, H' b = none) → ∀ b ∈ fp, FpOk X ((S, lstObj acc' c') :: ip) H' b := fun {H' acc' c'} hn b hb => by
    obtain ⟨_, q1, q2, q3, q4, q5⟩ := f2 b hb
    refine ⟨hn b hb, q1, q2, q3, q4, fun p hp => ?_⟩
    rcases List.mem_append.mp hp with hp | hp
    · exact q5 p (List.mem_append_left _ hp)
    · rcases List.mem_cons.mp hp with hp | hp
      · rw [hp]
        exact q5 (S, lstObj acc cc) (List.mem_append_right _ List.mem_cons_self)
      · exact q5 p (List.mem_append_right _ (List.mem_cons_of_mem _ hp))
  have loop : ∀ (m i n : Nat) (ys : List V) (s₀ s : Shared) (σ : St) (H : Hp), n + ys.length = sizeLine → W i m ys σ H → GI X S ip ys σ H s → tn i s.heap → (∀ b ∈ fp, H b = none) →
      Seg (model X.prog X.w) A R (GY X S) n s₀ (.forLoop tg (.ref it) body [] X.env) ((model X.prog X.w).den (.forLoop tg (.ref it) body [] X.env))
        (.ret (fun r => ((match r with | .ok f => (.pure f : Sem Flow) | .error e => .raise e).onRaise (cameBack X.env)).wrap K J gd lv) none (gd false) (lv []) c p [] :: fs) s := by
    intro m
    induction m using Nat.strongRecOn with
    | ind m ih =>
      intro i n ys s₀ s σ H hn w hI st fr
      obtain ⟨acc3, c3, r3, I3⟩ := hI
      refine seg_turnFor ?_
      rw [(gl _).over]
      rcases turn i m ys σ H w with ⟨stop, qn⟩ | ⟨go, N, hN, step⟩
      · refine wpAny_mono (T.done X rfl rfl rfl hq i _ s σ H (fun _ _ => False) I3 (stat fr) st stop) (fun rr s4 ⟨hr, I4⟩ => ?_) fun _ _ z => z
        subst hr
        refine seg_noBlock ?_
        exact seg_leaf (.ok .next) (k.ok n ys s₀ s4 .next hn ⟨σ, H, ⟨acc3, c3, r3, I4⟩, qn⟩)
      · refine wpAny_mono (T.item X rfl rfl rfl hq i _ s σ H (fun _ _ => False) I3 (stat fr) st go) (fun rr s4 ⟨u, hr, h4⟩ => ?_) fun _ _ z => z
        subst hr
        refine wpAny_mono h4 (fun _ s5 ⟨x, H5, I5, r5, y5, st5, fr5⟩ => ?_) fun _ _ z => z
        have I5' := I5.pinned (stat fr5) (T.obj _ _ st5)
        have hg5 := step x H5 y5 _ s5 u I5' r5
        rw [hxe] at hg5
        refine wpAny_mono hg5 (fun _ s6 ⟨σ6, H6, I6, q6⟩ => ?_) fun _ _ z => z
        have hSfp : ∀ b ∈ fp, S ≠ b := fun b hb => (f2 b hb).2.2.2.2.2 (S, lstObj acc cc) (List.mem_append_right _ List.mem_cons_self)
        have g6 : GC X S (ip ++ pinsAt fp s5.heap) A (.forLoop tg (.ref it) body [] X.env) (.ret (fun r => ((match r with | .ok f => (.pure f : Sem Flow) | .error e => .raise e).onRaise (cameBack X.env)).wrap K J gd lv) none (gd false) (lv []) c p [] :: fs) id := by
          obtain ⟨a1, a2, a3, a4, a5, a6, a7⟩ := gl fun r => ((match r with | .ok f => (.pure f : Sem Flow) | .error e => .raise e).onRaise (cameBack X.env)).wrap K J gd lv
          refine ⟨a1, fun q hq => ?_, a3, a4, a5, a6, a7⟩
          rcases List.mem_append.mp hq with hq | hq
          · exact a2 q hq
          · exact (hSfp q.1 (of_pinsAt hq).1).symm
        refine hb.run A S (ip ++ pinsAt fp s5.heap) R n ys s₀ _ _ _ _ id id s6 σ6 H6 { D with nx := N, ct := N, bk := D.nx } g6 hn ⟨fun n' ys' s₀' s7 f hn' hs7 => ?_, fun n' s₀' x s7 hx => ?_⟩ ⟨acc3, c3, r3, I6⟩ q6
        · have back : ∀ {σ7 : St} {H7 : Hp}, GI X S (ip ++ pinsAt fp s5.heap) ys' σ7 H7 s7 → GI X S ip ys' σ7 H7 s7 ∧ tn (i + 1) s7.heap ∧ ∀ b ∈ fp, H7 b = none := fun {σ7 H7} hI7 => by
            obtain ⟨acc7, c7, r7, I7⟩ := hI7
            have pin : ∀ b ∈ fp, ∀ o, s5.heap.get? b = some o → s7.heap.get? b = some o ∧ H7 b = none := fun b hb o e =>
              let z := I7.pin (b, o) (List.mem_append_right _ (List.mem_cons_of_mem _ (List.mem_append_right _ (mem_pinsAt hb e))))
              ⟨z.1, z.2.1⟩
            refine ⟨⟨acc7, c7, r7, I7.pins_of fun q hq => I7.pin q (List.mem_append_right _ ?_)⟩, T.keep _ _ _ st5 fun b hb o e => (pin b hb o e).1, fun b hb => ?_⟩
            · rcases List.mem_cons.mp hq with hq | hq
              · rw [hq]; exact List.mem_cons_self
              · exact List.mem_cons_of_mem _ (List.mem_append_left _ hq)
            · obtain ⟨o, e, _⟩ := T.obj _ _ st5 b hb
              exact (pin b hb o e).2
          cases f with
          | next =>
            obtain ⟨σ7, H7, I7, n7⟩ := hs7
            obtain ⟨m', hm, w7⟩ := hN ys' σ7 H7 n7
            obtain ⟨b1, b2, b3⟩ := back I7
            exact seg_again rfl (ih m' hm (i + 1) n' ys' s₀' s7 σ7 H7 hn' w7 b1 b2 b3)
          | cont =>
            obtain ⟨σ7, H7, I7, n7⟩ := hs7
            obtain ⟨m', hm, w7⟩ := hN ys' σ7 H7 n7
            obtain ⟨b1, b2, b3⟩ := back I7
            exact seg_again rfl (ih m' hm (i + 1) n' ys' s₀' s7 σ7 H7 hn' w7 b1 b2 b3)
          | brk =>
            obtain ⟨σ7, H7, I7, n7⟩ := hs7
            exact seg_leaf (.ok .next) (k.ok n' ys' s₀' s7 .next hn' ⟨σ7, H7, (back I7).1, n7⟩)
          | ret v =>
            obtain ⟨u7, σ7, H7, I7, r7, n7⟩ := hs7
            exact seg_leaf (.ok (.ret v)) (k.ok n' ys' s₀' s7 (.ret v) hn' ⟨u7, σ7, H7, (back I7).1, r7, n7⟩)
        · rw [hxe] at hx
          exact hx.elim
  exact loop m0 0 n ys s₀ s2 σ H2 hn w0 ⟨acc, cc, r, I2⟩ st2 fun b hb => (f2 b hb).1
end
end K6

/-! ## KX2 -/
namespace K6
open PySem PySem.Spec PyProof.Rows L2 GenW
/-! ### the next item of a generator, where it is quiet -/
section
variable {P : Program} {w : World} {A : Around} {E : Value → Shared → Prop} {s : Shared}
theorem next_genQ {a : Addr} {g n : Nat} {gs : GenState} {F : Shared → Prop} {Y : Protocol} {Q : Option Value → Shared → Prop} (hl : s.heap.NoLimit) (hroom : A.depth < recursionLimit) (hg : s.heap.IsGen a g) (hgs : s.gens[g]? = some gs)
    (hgo : gs.Goes (model P w) A.in1 (fun n s₀ r s₁ => (r = .ok (.ret .none) ∨ r = .ok .next) ∧ Qh A s₁.heap ∧ F s₁) Y n (.send .none) (s.setGen g .running))
    (hY : ∀ v s₁ gs', gs'.bare = true → Y (n - 1) (s.setGen g .running) v s₁ (fun r' s'' => match n with
        | 0 => False
        | m + 1 => gs'.Goes (model P w) A.in1 (fun n s₀ r s₁ => (r = .ok (.ret .none) ∨ r = .ok .next) ∧ Qh A s₁.heap ∧ F s₁) Y m r' s'') → Q (some v) (s₁.setGen g gs'))
    (hP : ∀ s₁, F s₁ → ∀ h', (∀ b o, s₁.heap.get? b = some o → h'.get? b = some o) → Q none { s₁.setGen g .finished with heap := h' }) : wpAny (model P w) A (pyNext (.ref a)) Q E s := by
  unfold pyNext
  refine wpAny_bind (wpAny_attempt (wpAny_callSpecial?_slot (name := Str.ofString "__next__") hg.typeIs slot_gen_next (wpAny_call_entry slot_gen_next hg.typeIs entry_gen_next ?_ (args_gen_next _))))
  show wpAny _ A.in1 (Builtin.Generator.genWake (.ref a) (.send .none)) _ _ s
  unfold Builtin.Generator.genWake
  refine wpAny_bind (wpAny_holding (wpAny_genNumber hg (wpAny_bind (wpAny_genState hgs ?_))))
  cases gs with
  | running => exact hgo.elim
  | finished => exact hgo.elim
  | _ =>
    refine wpAny_bind (wpAny_roomToWake hl hroom ?_)
    show wpAny _ A.in1 (.resume g (.send .none) [] _) _ _ s
    refine wpAny_resumeQ hgs hgo (fun x s₁ hx => ?_) (fun v s₁ gs' hb hv => ?_)
    · obtain ⟨hr, hq, hp⟩ := hx
      have hres : End.result (.ret x) = .returned .none := by
        rcases hr with hr | hr <;> rw [hr] <;> rfl
      first | rw [hres] | simp only [hres]
      show wpAny _ A.in1 (newExc (.type "StopIteration") [] >>= _) _ _ _
      rw [← bind_assoc]
      refine wpAny_bind (stop_raised (A := A.in1) (s := s₁.setGen g .finished) hq fun e h' k ho => ?_)
      obtain ⟨oe, he, hce⟩ := ho
      refine wpAny_bind (wpAny_isInstance (T := "StopIteration") (b := true) ⟨oe, he, hce⟩ isSubtype_stop ?_)
      exact wpAny_pure (hP s₁ hp _ k)
    · exact wpAny_pure ⟨v, rfl, wpAny_pure (hY v s₁ gs' hb hv)⟩
end
/-- a run's end: the frame is left, all that was handed out stands in S -/
def REq (P : Program) (w : World) (outer : List Env) (H : Hp) (sc : Shared) (S : Addr) (A : Around) (Q : List V → Hp → Prop) : GenEnd := fun _ _ r s1 =>
  (r = .ok (.ret .none) ∨ r = .ok .next) ∧ Qh A s1.heap ∧ ∃ H' ys acc c, s1.os = sc.os ∧ AllBare s1.gens ∧ Un (frs outer) [] H H' sc.heap s1.heap ∧ HOk P w H' s1.heap ∧ H' S = none ∧ s1.heap.get? S = some (lstObj acc c) ∧ Vals ys acc.toList ∧ ys.length ≤ sizeLine ∧ Q ys H'
theorem drainQ {P : Program} {w : World} {outer : List Env} {H : Hp} {sc : Shared} {Q : List V → Hp → Prop} {A : Around} {R : Result → Shared → Prop} {S a : Addr} {g : Nat} {res : Value} (hd : A.depth < recursionLimit) (hSa : S ≠ a) (hSc : S ≠ cStatics)
    (hend : ∀ s' acc c H' ys, s'.heap.get? S = some (lstObj acc c) → Vals ys acc.toList → ys.length ≤ sizeLine → s'.os = sc.os → AllBare s'.gens → Un (frs outer) [] H H' sc.heap s'.heap → HOk P w H' s'.heap → H' S = none → Q ys H' → R (.ok (.ret res)) s') :
    ∀ (m : Nat) (s : Shared), s.heap.IsGen a g → s.heap.NoLimit →
      (∃ gs, s.gens[g]? = some gs ∧ gs.Goes (model P w) A.in1.in1 (REq P w outer H sc S A.in1 Q) (YItem sc S a g) m (.send .none) (s.setGen g .running)) →
      codeAny (model P w) A (.builtin "list.extend.loop" ⟨[.ref S, .ref a, res], []⟩) R s := by
  intro m
  induction m with
  | zero =>
    intro s hg hl ⟨gs, hgs, hgo⟩
    refine codeAny_builtin F.entry_extend_loop ?_
    rw [Around.under_plainId F.plain_extend_loop _]
    show wpAny _ A.in1 (pyNext (.ref a) >>= _) _ _ s
    refine wpAny_bind (next_genQ (A := A.in1) hl hd hg hgs hgo (fun v s₁ gs' hbare hv => ?_) (fun s₁ hp h' hk => ?_))
    · obtain ⟨_, hb1, _, _, ⟨acc, c, hS1, _⟩, hk⟩ := hv
      exact False.elim (hk _ (Slept.push hS1 hb1))
    · obtain ⟨H', ys, acc, c, os1, hb1, un, hok, hSn, hS1, hv, hle, hQ⟩ := hp
      exact wpAny_pure (hend _ acc c H' ys (hk _ _ hS1) hv hle os1 (allBare_setGen hb1 rfl) (un.trans (Un.kept hk)) (hok.kept hk) hSn hQ)
  | succ m ih =>
    intro s hg hl ⟨gs, hgs, hgo⟩
    have hgl : g < s.gens.size := (Array.getElem?_eq_some_iff.mp hgs).1
    refine codeAny_builtin F.entry_extend_loop ?_
    rw [Around.under_plainId F.plain_extend_loop _]
    show wpAny _ A.in1 (pyNext (.ref a) >>= _) _ _ s
    refine wpAny_bind (wpAny_gsz (n := g + 1) hgl (next_genQ (A := A.in1) hl hd hg hgs hgo (fun v s₁ gs' hbare hv => ?_) (fun s₁ hp h' hk => ?_)))
    · intro hsz
      obtain ⟨os1, hb1, hl1, hg1, ⟨acc, c, hS1, hasz⟩, hk⟩ := hv
      have hasz' : acc.size < sizeLine := by omega
      show wpAny _ A.in1 (updateSeq S (·.push v) >>= _) _ _ _
      refine wpAny_bind ?_
      refine wpAny_updateSeq hS1 rfl (wpAny_pure ⟨plainId_quiet F.plain_extend_loop _, ?_⟩) (Nat.le_of_lt hasz') (by show (acc.push v).size ≤ sizeLine + 1; rw [Array.size_push]; omega)
      have keep3 : ∀ b o, b ≠ S → s₁.heap.get? b = some o → (s₁.heap.update S (Obj.mapSeq (·.push v))).get? b = some o := fun b o hbS e => (Heap.get?_update_other _ _ (Ne.symm hbS)).trans e
      have hsz1 : g < s₁.gens.size := by
        have q : (s₁.setGen g gs').gens.size = s₁.gens.size := setGen_size _ _ _
        have hsz' : g + 1 ≤ (s₁.setGen g gs').gens.size := hsz
        omega
      refine ih { s₁.setGen g gs' with heap := s₁.heap.update S (Obj.mapSeq (·.push v)) } ?_ ?_ ⟨gs', setGen_at hsz1, ?_⟩
      · obtain ⟨o, nm, qn, ho, r⟩ := hg1
        exact ⟨o, nm, qn, keep3 a o (Ne.symm hSa) ho, r⟩
      · obtain ⟨mc, hns, hnn⟩ := hl1
        exact ⟨mc, hns.at' fun o e => keep3 _ o (Ne.symm hSc) e, hnn⟩
      · exact hk _ (Slept.push hS1 (allBare_setGen (s := s₁.setGen g gs') (allBare_setGen hb1 hbare) rfl))
    · intro hsz
      obtain ⟨H', ys, acc, c, os1, hb1, un, hok, hSn, hS1, hv, hle, hQ⟩ := hp
      exact wpAny_pure (hend _ acc c H' ys (hk _ _ hS1) hv hle os1 (allBare_setGen hb1 rfl) (un.trans (Un.kept hk)) (hok.kept hk) hSn hQ)
/-- what a call of a generator def gives: a generator that has not begun -/
def GMadeQ (h : Bool) (P : Program) (w : World) (k : Nat) (outer : List Env) (H : Hp) (s : Shared) (Q : List V → Hp → Prop) (u : Value) (s' : Shared) : Prop :=
  ∃ (a : Addr) (g : Nat) (c : Code), u = .ref a ∧ s.heap.objs.size ≤ a ∧ a < s'.heap.objs.size ∧ s'.heap.IsGen a g ∧ s'.gens[g]? = some (.fresh c) ∧ s'.os = s.os ∧ AllBare s'.gens ∧ s'.heap.NoLimit ∧ (∀ b o, s.heap.get? b = some o → s'.heap.get? b = some o) ∧
    ∀ (A : Around) (S : Addr) (s2 : Shared) (pz : Option (Addr × Obj)), (pz = none ∨ h = true) → L2H.RoomH k A → A.frames = some outer → Qz A outer H s pz → s'.heap.objs.size ≤ S → (∀ b o, s'.heap.get? b = some o → s2.heap.get? b = some o) → (∃ c, s2.heap.get? S = some (lstObj #[] c)) → s2.os = s.os → AllBare s2.gens →
      Seg (model P w) A (REq P w outer H s S A Q) (YItem s S a g) sizeLine s2 c ((model P w).den c) [] s2
theorem goes_mono {M : Model} {A : Around} {R R' : GenEnd} {Y : Protocol} {n : Nat} {gs : GenState} {r : Resume} {s : Shared} (hR : ∀ n s₀ r s, R n s₀ r s → R' n s₀ r s) (hY : ∀ n s₀ v s kap kap', (∀ r s', kap r s' → kap' r s') → Y n s₀ v s kap → Y n s₀ v s kap') (h : gs.Goes M A R Y n r s) : gs.Goes M A R' Y n r s := by
  cases gs with
  | fresh c => exact ⟨h.1, seg_imp hR hY n h.2⟩
  | suspended k l c p fs b => exact seg_imp hR hY n h
  | running => exact h.elim
  | finished => exact h.elim
/-- list(g) -/
theorem call_listQ {h : Bool} {P : Program} {w : World} {outer : List Env} {H : Hp} {sc s : Shared} {Q : List V → Hp → Prop} {A : Around} {k : Nat} {u : Value} {Q' : Value → Shared → Prop} {E : Value → Shared → Prop} {pz : Option (Addr × Obj)}
    (hp : pz = none ∨ h = true) (hr : L2H.RoomH (k + 3) A) (hfr : A.frames = some outer) (hz : Qz A outer H sc pz) (hG : GMadeQ h P w k outer H sc Q u s)
    (hQ : ∀ S s' acc c H' ys, s.heap.objs.size ≤ S → s'.heap.get? S = some (lstObj acc c) → Vals ys acc.toList → ys.length ≤ sizeLine → s'.os = sc.os → AllBare s'.gens → Un (frs outer) [] H H' sc.heap s'.heap → HOk P w H' s'.heap → H' S = none → Q ys H' → Q' (.ref S) s') :
    wpAny (model P w) A (call (.type "list") [u]) Q' E s := by
  obtain ⟨a, g, c, rfl, ha1, ha2, hg, hgs, hos, hb, hl, hkp, wake⟩ := hG
  have hSa : s.heap.objs.size ≠ a := Nat.ne_of_gt ha2
  have hcl : cStatics < s.heap.objs.size := let ⟨_, hn, _⟩ := hl; hn.lt
  have hSc : s.heap.objs.size ≠ cStatics := Nat.ne_of_gt hcl
  refine callType_codes (Q₁ := fun obj s₁ => obj = .ref s.heap.objs.size ∧ s₁ = { s with heap := s.heap.push { cls := .type "list", data := .seq #[] } }) F.called_list (F.typeCall_list_1 _) F.entry_list_init
    (code_list_new _ ⟨rfl, rfl⟩) fun obj s₁ h₁ => ?_
  obtain ⟨rfl, rfl⟩ := h₁
  have hS : (s.heap.push { cls := .type "list", data := .seq #[] }).get? s.heap.objs.size = some { cls := .type "list", data := .seq #[] } := Heap.get?_push_size _ rfl
  refine ⟨⟨_, hS, rfl⟩, F.args_list_init_2 _ _, ?_⟩
  show wpAny _ A.in1.in1 (do let old ← Builtin.List.listItems (.ref s.heap.objs.size); Builtin.List.listUpdate (.ref s.heap.objs.size) (fun _ => #[]); letGo old.toList.reverse; Builtin.List.listExtendWith (.ref s.heap.objs.size) (.ref a) .none) _ _ _
  refine wpAny_bind ?_
  unfold Builtin.List.listItems
  refine wpAny_bind (wpAny_seqItems hS rfl (wpAny_pure ?_))
  show wpAny _ A.in1.in1 (updateSeq s.heap.objs.size (fun _ => #[]) >>= fun _ => letGo (#[] : Array Value).toList.reverse >>= fun _ => Builtin.List.listExtendWith (.ref s.heap.objs.size) (.ref a) .none) _ _ _
  refine wpAny_bind (wpAny_updateSeq hS rfl ?_)
  have hS2 := Heap.get?_update_self (Obj.mapSeq (fun _ => (#[] : Array Value))) hS rfl
  refine wpAny_bind (wpAny_letGo ?_)
  unfold Builtin.List.listExtendWith
  have up : ∀ (h : Heap) (f : Obj → Obj), (∀ b o, s.heap.get? b = some o → h.get? b = some o) → ∀ b o, s.heap.get? b = some o → (h.update s.heap.objs.size f).get? b = some o := fun h f q b o e =>
    (Heap.get?_update_other _ _ (Ne.symm (Nat.ne_of_lt (Heap.lt_size e)))).trans (q b o e)
  have k1 : ∀ b o, s.heap.get? b = some o → (s.heap.push { cls := .type "list", data := .seq #[] }).get? b = some o := fun b o e => Heap.get?_push_of_some _ e
  have k2 := up _ (Obj.mapSeq (fun _ => (#[] : Array Value))) k1
  have gty : ∀ {h : Heap}, (∀ b o, s.heap.get? b = some o → h.get? b = some o) → h.IsGen a g := fun {h} q => hg.keeps q
  refine wpAny_bind (wpAny_typeOf (Heap.IsGen.typeIs (s := { s with heap := _ }) (gty k2)) ?_)
  have h1 : Builtin.List.listSameRef (.ref s.heap.objs.size) (.ref a) = false := by simp [Builtin.List.listSameRef, hSa]
  have h2 : (Value.type "generator" == Value.type "list") = false := by decide
  have h3 : (Value.type "generator" == Value.type "tuple") = false := by decide
  simp only [h1, h2, h3, Bool.or_false, Bool.false_eq_true, if_false]
  refine wpAny_bind (wpAny_pyIter_gen (s := { s with heap := _ }) (gty k2) ?_)
  refine wpAny_bind (wpAny_holding ?_)
  unfold Builtin.List.listLengthHint
  refine wpAny_bind (wpAny_specialOf (Heap.IsGen.typeIs (s := { s with heap := _ }) (gty k2)) F.gen_no_len ?_)
  show wpAny _ A.in1.in1 (specialOf (Value.ref a) (Str.ofString "__length_hint__") >>= _) _ _ _
  refine wpAny_bind (wpAny_specialOf (Heap.IsGen.typeIs (s := { s with heap := _ }) (gty k2)) F.gen_no_hint ?_)
  refine wpAny_pure ?_
  show wpAny _ A.in1.in1 (rule "list.extend.makes-room" >>= fun _ => Builtin.List.listTouch (.ref s.heap.objs.size) >>= fun _ =>
    again (.builtin "list.extend.loop" ⟨[.ref s.heap.objs.size, .ref a, .none], []⟩)) _ _ _
  refine wpAny_bind (wpAny_rule ?_)
  refine wpAny_bind ?_
  show wpAny _ A.in1.in1 (updateSeq s.heap.objs.size (·.push .none) >>= fun _ => updateSeq s.heap.objs.size (·.pop)) _ _ _
  refine wpAny_bind (wpAny_updateSeq hS2 rfl ?_)
  have hS3 := Heap.get?_update_self (Obj.mapSeq (·.push Value.none)) hS2 rfl
  refine wpAny_updateSeq (hz := by seq_fits) hS3 rfl ?_
  have hS4 := Heap.get?_update_self (Obj.mapSeq (·.pop)) hS3 rfl
  have k4 := up _ (Obj.mapSeq (·.pop)) (up _ (Obj.mapSeq (·.push Value.none)) k2)
  refine wpAny_pure ⟨plainId_quiet F.plain_extend_loop _, ?_⟩
  refine drainQ (P := P) (w := w) (outer := outer) (H := H) (sc := sc) (Q := Q) (A := A.in1) (g := g) (by have := hr.dp; show A.depth < _; omega) hSa hSc
    (fun s' acc c H' ys q1 q2 q3 q4 q5 q6 q7 q8 q9 => ⟨rfl, hQ _ s' acc c H' ys (Nat.le_refl _) q1 q2 q3 q4 q5 q6 q7 q8 q9⟩) sizeLine _ (gty k4) (hl.keeps k4) ⟨_, hgs, rfl, ?_⟩
  have hrw : L2H.RoomH k A.in1.in1.in1 := by
    refine ⟨?_, ?_⟩
    · have := hr.dp
      show A.depth + 3 * k + 5 < _
      omega
    · have := hr.un
      show A.units + 1 + 1 + 1 + 16 * k + 200 < _
      omega
  have hzw : Qz A.in1.in1.in1 outer H sc pz := by
    cases pz with
    | none => exact hz
    | some p => exact hz
  exact wake _ _ _ pz hp hrw hfr hzw (Nat.le_refl _) k4 ⟨_, hS4⟩ hos (allBare_setGen (s := { s with heap := _ }) hb rfl)
end K6

/-! ## KX3 -/
namespace K6
open PySem PySem.Spec PyProof.Rows L2 GenW
abbrev SpQ := List V → Hp → (List V → Hp → Prop) → Prop
/-- the def at f gives a generator by sp; it raises nothing -/
def GFb (h : Bool) (P : Program) (w : World) (K : PySem.W.Frag) (mg : Str → Option Value) (base : Heap) (k : Nat) (f : Addr) (sp : SpQ) : Prop :=
  ∀ (A : Around) (outer : List Env) (s : Shared) (H : Hp) (us : List Value) (vs : List V) (Q : List V → Hp → Prop), L2H.RoomH k A → Env0 P w K mg base A outer s H → Vals vs us → sp vs H Q →
    codeAny (model P w) A (.call (.ref f) ⟨us, []⟩) (fun r s' => match r with | .ok (.ret u) => GMadeQ h P w k outer H s Q u s' | _ => False) s
abbrev offG (scope : Scope) : Scope := { scope with isGenerator := false }
/-- the context of a generator's body; pn: the generator's own object -/
def gcxQ (P : Program) (w : World) (K : PySem.W.Frag) (mg : Str → Option Value) (base : Heap) (N : List Str) (qual : Str) (scope : Scope) (f : Addr) (cd : Value) (A : Around) (outer : List Env) (s : Shared) (H : Hp) (pn : List (Addr × Obj)) (pz : Option (Addr × Obj)) : Cx :=
  { cxOf (L2N.CX P w) P w K mg base N qual scope f cd A outer s H (fun _ _ _ => False) with calm := pz.isNone, pn := pn ++ pz.toList, xe := fun _ _ => False }
section
variable {P : Program} {w : World} {K : PySem.W.Frag} {mg : Str → Option Value} {base : Heap} {N ps : List Str} {x qual : Str} {scope : Scope} {f : Addr} {cd : Value} {A : Around} {outer : List Env} {s s1 : Shared} {H H' : Hp} {pz : Option (Addr × Obj)} {pn pins : List (Addr × Obj)} {σ : St} {h : Bool} {k : Nat} {fd : FuncData} {st : Stmt} {sp : SpQ}
theorem inv_gen (e0 : Env0 P w K mg base A outer s H) (I : Inv (cxQ P w K mg base N qual (offG scope) f cd A outer s H (fun _ _ _ => False) pz) [] σ H' s1)
    (hp : ∀ p ∈ pn ++ pins, s1.heap.get? p.1 = some p.2 ∧ H' p.1 = none ∧ p.1 ≠ (envOfC qual scope s.heap.objs.size f cd).locals ∧ p.1 ∉ frs outer ∧ ∀ v, p.2.data ≠ .cell v) :
    Inv (gcxQ P w K mg base N qual scope f cd A outer s H pn pz) pins σ H' s1 := by
  refine ⟨⟨e0.mod, I.ok.kind, rfl, rfl, Nat.le_refl _, I.ok.inj, I.ok.has, I.ok.cab, I.ok.hd, Around.frames_deeper e0.frames, .inr ⟨rfl, rfl⟩, I.ok.exf, e0.bs, e0.bsz, I.ok.noex, I.ok.exfs, e0.funs, e0.frf⟩, I.os, I.bare, I.base, I.loc, I.cell, I.free, I.freeC, fun p hm => ?_, I.hok, I.len⟩
  rcases List.mem_append.mp hm with hm | hm
  · rcases List.mem_append.mp (show p ∈ pn ++ pz.toList from hm) with hm | hm
    · exact hp p (List.mem_append_left _ hm)
    · exact I.pin p (List.mem_append_left _ hm)
  · exact hp p (List.mem_append_right _ hm)
theorem gfn_q (F : Fun K x qual st f fd) (S : FnScope N ps (offG (defScope st))) (hgen : (defScope st).isGenerator = true) (len : ∀ vs H Q, sp vs H Q → vs.length = ps.length)
    (hb : ∀ (kV doc pm : Value) (an : Option Addr) (cdv ct : Value) (us : List Value), us.length = ps.length → bindArgs (PySem.W.fnOf x qual (defArgs st) (defBody st) (defScope st) .none kV doc pm an cdv ct) ⟨us, []⟩ = pure (ps.zip us))
    (hbody : ∀ (pz : Option (Addr × Obj)) (cdv : Value) (A : Around) (outer : List Env) (s : Shared) (H : Hp) (vs : List V) (Q : List V → Hp → Prop) (pn : List (Addr × Obj)), (pz = none ∨ h = true) → Qk h (gcxQ P w K mg base N qual (defScope st) f cdv A outer s H pn pz) → L2H.RoomH k (gcxQ P w K mg base N qual (defScope st) f cdv A outer s H pn pz).A → sp vs H Q →
      ∃ t, GSs (gcxQ P w K mg base N qual (defScope st) f cdv A outer s H pn pz) (defBody st) t ∧ t { nx := fun ys _ H' => Q ys H', rt := fun ys v H' => v = .non ∧ Q ys H' } [] (L2.start N vs) H) :
    GFb h P w K mg base (k + 1) f sp := by
  intro A outer s H us vs Q hr e0 r hsp
  obtain ⟨oc, od, kV, doc, pm, an, cdv, ct, osl, rfl, lk, hcd⟩ := F.ex
  have hl := len _ _ _ hsp
  have hlu : us.length = ps.length := by rw [← r.length]; exact hl
  have KX : K.In s.heap := e0.mod.kin.keeps fun b o e => (e0.bs b o e).1
  have lim : s.heap.NoLimit := e0.mod.nolimit.keeps fun b o e => (e0.bs b o e).1
  refine codeAny_call_generator hr.depth (KX _ _ lk) rfl S.co hgen rfl (PySem.W.codeRec_of KX hcd) ?_
  rw [hb kV doc pm an cdv ct us hlu]
  refine wpAny_pure (wpAny_newFunctionEnv_cells S.kind (fun y hy => ?_) fun env he s1 xx => ?_)
  · rcases S.par y.1 (List.of_mem_zip hy).1 with z | z
    · exact .inl z
    · exact .inr ⟨z, PySem.W.cellsFrom_some _ _ _ (.inl z)⟩
  subst he
  refine ⟨lim.keeps xx.toInCall.keep, ?_⟩
  have lim1 : s1.heap.NoLimit := lim.keeps xx.toInCall.keep
  obtain ⟨h1, tk, es1, hk1⟩ := xx.done
  have os1 : s1.os = s.os := by rw [es1]
  have gen1 : s1.gens = s.gens := by rw [es1]
  have lt1 : s.heap.objs.size < s1.heap.objs.size := xx.toInCall.ns.lt
  have sz1 : s.heap.objs.size ≤ s1.heap.objs.size := Nat.le_of_lt lt1
  have kp1 : ∀ b o, s.heap.get? b = some o → s1.heap.get? b = some o := xx.toInCall.keep
  have main : ∀ (go : Obj) (nm qn : Value) (tk2 : Nat), go.cls = .type "generator" → go.data = .fields #[.int s1.gens.size 0, nm, qn] → go.slots = #[] → (∀ h : Heap, (h.push go).get? h.objs.size = some go) →
      GMadeQ h P w (k + 1) outer H s Q (.ref s1.heap.objs.size) { s1 with gens := s1.gens.push (.fresh (.func (defBody st) (envOfC qual (defScope st) s.heap.objs.size f cdv))), toks := tk2, heap := s1.heap.push go } := by
    intro go nm qn tk2 hgc hgd0 hgs hgp
    have hgen : ∀ h : Heap, h.get? s1.heap.objs.size = some go → h.IsGen s1.heap.objs.size s1.gens.size := fun h e => ⟨go, nm, qn, e, hgc, hgd0, hgs⟩
    have hpushed : (s1.heap.push go).get? s1.heap.objs.size = some go := hgp _
    refine ⟨s1.heap.objs.size, s1.gens.size, _, rfl, sz1, ?_, hgen _ hpushed, Array.getElem?_push_size .., os1, ?_, lim1.keeps fun b o e => Heap.get?_push_of_some _ e, fun b o e => Heap.get?_push_of_some _ (kp1 b o e), ?_⟩
    · show _ < (s1.heap.push _).objs.size
      rw [Heap.size_push]
      exact Nat.lt_succ_self _
    · exact AllBare.push (by rw [gen1]; exact e0.bare) rfl
    intro Aw Sx s2 pz hpz hrw hfr hz hSx hk2 hSo hos hba
    have e0w : Env0 P w K mg base Aw outer s H := ⟨hfr, e0.mod, e0.bs, e0.bsz, e0.funs, e0.frf, e0.hok, e0.bare⟩
    have qk : ∀ pn, Qk h (gcxQ P w K mg base N qual (defScope st) f cdv Aw outer s H pn pz) := fun pn => by
      cases pz with
      | none => exact .inl rfl
      | some p =>
        refine .inr ⟨hpz.elim (fun z => nomatch z) id, p, hz.1, ?_⟩
        show p ∈ pn ++ [p]
        exact List.mem_append_right _ (List.mem_singleton.mpr rfl)
    obtain ⟨t, ht, hq⟩ := hbody pz cdv Aw outer s H vs Q [(s1.heap.objs.size, go)] hpz (qk _) (hrw.deeper _) hsp
    have I1 : Inv (cxQ P w K mg base N qual (offG (defScope st)) f cdv Aw outer s H (fun _ _ _ => False) pz) [] (L2.start N vs) H s1 := inv_startQ S hz e0w hl r xx
    have kp2 : ∀ b o, s1.heap.get? b = some o → s2.heap.get? b = some o := fun b o e => hk2 b o (Heap.get?_push_of_some _ e)
    have I2 : Inv (cxQ P w K mg base N qual (offG (defScope st)) f cdv Aw outer s H (fun _ _ _ => False) pz) [] (L2.start N vs) H s2 :=
      I1.call' (ch := []) (hos.trans os1.symm) (Un.kept kp2) (I1.hok.kept kp2) hba fun b z => by simp at z
    have hSz : s1.heap.objs.size < Sx := by
      have hSx' : (s1.heap.push go).objs.size ≤ Sx := hSx
      rw [Heap.size_push] at hSx'
      exact hSx'
    obtain ⟨cS, heS⟩ := hSo
    have hea : s2.heap.get? s1.heap.objs.size = some go := hk2 s1.heap.objs.size go hpushed
    have hgd : ∀ v, go.data ≠ .cell v := fun v q => by rw [hgd0] at q; cases q
    have young : ∀ b, s1.heap.objs.size ≤ b → H b = none ∧ b ≠ s.heap.objs.size ∧ b ∉ frs outer ∧ s.heap.objs.size ≤ b ∧ ∀ y c, (cellsFrom (s.heap.objs.size + 1) (defScope st).names []).lookup y = some c → c ≠ b := fun b hb => by
      refine ⟨I1.hok.fresh hb, Nat.ne_of_gt (Nat.lt_of_lt_of_le lt1 hb), I1.nofs hb, Nat.le_trans sz1 hb, fun y c e z => ?_⟩
      obtain ⟨v, ob, ho, _⟩ := I1.cell y c e
      have := Heap.lt_size ho
      rw [z] at this
      exact absurd (Nat.lt_of_lt_of_le this hb) (Nat.lt_irrefl _)
    have hSne : s1.heap.objs.size ≠ Sx := Nat.ne_of_lt hSz
    have hG : GI (gcxQ P w K mg base N qual (defScope st) f cdv Aw outer s H [(s1.heap.objs.size, go)] pz) Sx [] [] (L2.start N vs) H s2 := by
      refine ⟨#[], cS, .nil, inv_gen e0w I2 fun p hp => ?_⟩
      rcases List.mem_append.mp hp with z | z
      · rw [List.mem_singleton.mp z]
        obtain ⟨y1, y2, y3, _, _⟩ := young s1.heap.objs.size (Nat.le_refl _)
        exact ⟨hea, y1, y2, y3, hgd⟩
      · rw [List.mem_singleton.mp z]
        obtain ⟨y1, y2, y3, _, _⟩ := young Sx (Nat.le_of_lt hSz)
        exact ⟨heS, y1, y2, y3, fun v q => by cases q⟩
    have hAp : Apart (gcxQ P w K mg base N qual (defScope st) f cdv Aw outer s H [(s1.heap.objs.size, go)] pz) Sx := by
      obtain ⟨_, y2, _, y4, y5⟩ := young Sx (Nat.le_of_lt hSz)
      exact ⟨y4, y2, y5⟩
    have hpn : ∀ p ∈ [(s1.heap.objs.size, go)] ++ pz.toList, p.1 ≠ Sx := fun p hp => by
      rcases List.mem_append.mp hp with hp | hp
      · rw [List.mem_singleton.mp hp]
        exact hSne
      · have := (I1.pin p (List.mem_append_left _ hp)).1
        exact Nat.ne_of_lt (Nat.lt_trans (Heap.lt_size this) hSz)
    have pinned : ∀ {ip : List (Addr × Obj)} {ys : List V} {s' : Shared} {σ' : St} {H' : Hp}, GI (gcxQ P w K mg base N qual (defScope st) f cdv Aw outer s H [(s1.heap.objs.size, go)] pz) Sx ip ys σ' H' s' → s'.heap.IsGen s1.heap.objs.size s1.gens.size := fun {ip ys s' σ' H'} hI => by
      obtain ⟨acc, cc, _, J⟩ := hI
      exact hgen _ (J.pin (s1.heap.objs.size, go) (List.mem_append_left _ (List.mem_append_left _ (List.mem_singleton.mpr rfl)))).1
    refine seg_func ?_
    refine seg_imp (R := GR (gcxQ P w K mg base N qual (defScope st) f cdv Aw outer s H [(s1.heap.objs.size, go)] pz) Sx (fun ys v H' => v = .non ∧ Q ys H') fun e s' => False)
      (Y := GY (gcxQ P w K mg base N qual (defScope st) f cdv Aw outer s H [(s1.heap.objs.size, go)] pz) Sx) (fun n s₀ r s1' hR => ?_) (fun n s₀ v s1' kap kap' hkk hY => ?_) sizeLine ?_
    · cases r with
      | error e => exact False.elim hR
      | ok fl =>
        cases fl with
        | next => exact False.elim hR
        | brk => exact False.elim hR
        | cont => exact False.elim hR
        | ret u =>
          obtain ⟨ys, v, ip, σ', H', hn, hI, rv, ev, hQ⟩ := hR
          subst ev
          have eu : u = Value.none := rv
          subst eu
          obtain ⟨a1, _, _, acc, cc, ra, ea⟩ := hI.at
          obtain ⟨_, _, _, J⟩ := hI
          exact ⟨.inl rfl, (qk _).qh J, H', ys, acc, cc, J.os, J.bare, J.base, J.hok, a1, ea, ra, by omega, hQ⟩
    · obtain ⟨ys, xq, ip, σ', H', hn, h2, hI, h3⟩ := hY
      obtain ⟨_, _, _, acc, cc, ra, ea⟩ := hI.at
      have hg := pinned hI
      obtain ⟨_, _, _, J⟩ := hI
      have hsz : acc.size = ys.length := by
        have e1 := ra.length
        have e2 : acc.toList.length = acc.size := by simp
        omega
      exact ⟨J.os, J.bare, J.nolimit, hg, ⟨acc, cc, ea, by rw [hsz]; exact hn⟩, fun s' z => hkk _ _ (h3 s' z)⟩
    · refine ht.run Aw Sx [] _ sizeLine [] s2 _ [] _ _ id id s2 (L2.start N vs) H _ ⟨hpn, fun p hp => (by simp at hp), hAp, over_func, rfl, rfl, rfl⟩ (Nat.add_zero _) ⟨fun n ys s₀ s' fl hn hs => ?_, fun n s₀ e s' hx => False.elim hx⟩ hG hq
      cases fl with
      | next =>
        obtain ⟨σ', H', hI, hQ⟩ := hs
        exact seg_end (.ok (.ret .none)) ⟨ys, .non, [], σ', H', hn, hI, rfl, rfl, hQ⟩
      | brk => obtain ⟨_, _, _, q⟩ := hs; exact False.elim q
      | cont => obtain ⟨_, _, _, q⟩ := hs; exact False.elim q
      | ret u =>
        obtain ⟨v, σ', H', hI, rv, ev, hQ⟩ := hs
        exact seg_end (.ok (.ret u)) ⟨ys, v, [], σ', H', hn, hI, rv, ev, hQ⟩
  exact main _ _ _ _ rfl rfl rfl fun h => Heap.get?_push_size _ rfl
end
/-! ### list(o.m()), m a generator -/
section
variable {X : Cx} {σ : St} {H : Hp} {h : Bool} {k : Nat} {f C : Addr} {sp : SpQ} {Q : VK} {m nm : Str} {o : Expr} {p pos pos' apos : Pos}
theorem w_listG {pl : Sem Bool} (F : GFb h X.prog X.w X.K X.mg X.base k f sp) (q : Qk h X) (hr : L2H.RoomH (k + 3) X.A) (c : Cls X.K C) (hm : Meth X.K C m f) (hg : Gl X nm) (hmg : X.mg nm = none) (hv : bootBuiltins nm = some (.type "list"))
    (hw : wE X o σ H fun v H1 => ∃ a dx fs, v = .ref a ∧ H1 a = some (.ins C dx fs) ∧ fs.lookup m = none ∧ sp [.ref a] H1 fun ys H2 => ∀ l, H2 l = none → Q (.ref l) (upd H2 l (.lst ys)))
    (hnm : nm ≠ "__name__" := by decide) (hdb : (nm == ("__debug__" : Str)) = false := by decide)
    (he : starEach [.Call (.Attribute o m apos) [] [] pos'] X.env = (false, eval (.Call (.Attribute o m apos) [] [] pos') X.env) :: starEach [] X.env := by rfl)
    (ht : eval (.Call (.Attribute o m apos) [] [] pos') X.env = (do
      let ov ← eval o X.env
      standAt apos.atName
      let (f, first) ← holding [ov] (getMethod ov m pl)
      callWith pos' f first (backTo pos' (starEach [] X.env)) (backToKw pos' (keywordEach [] X.env))) := by rfl) :
    wE X (.Call (.Name nm p) [.Call (.Attribute o m apos) [] [] pos'] [] pos) σ H Q := fun pins s I => by
  refine wpAny_Call_Name_kw (ld_blt I hg hmg hv ?_ hnm hdb)
  refine PyProof.Rows.callWith_type1 ?_ he rfl
  rw [he]
  show wpAny _ _ (spliced ((false, eval (.Call (.Attribute o m apos) [] [] pos') X.env) :: backTo pos (starEach [] X.env))) _ _ s
  refine Calls.spliced_cons ?_
  refine PySem.W.methodCall_KW (pl := pl) (thn (hw pins s I) fun u s1 ⟨x, H1, I1, rx, a, dx, fs, ex, ea, l, z⟩ => ?_) ht
  subst ex
  obtain rfl : u = Value.ref a := rx
  refine getmeth_ok I1 ea c hm l ?_
  refine PySem.W.callWith_K0 (first := [.ref a]) I1.kIn hm.kp ?_
  refine wpAny_call (codeAny_mono (F X.A X.stack s1 H1 [.ref a] [.ref a] _ (hr.mono (by omega)) I1.env0 (.cons rref .nil) z) fun r s' hq => ?_)
  cases r with
  | error e => exact False.elim hq
  | ok fl =>
    cases fl with
    | next => exact False.elim hq
    | brk => exact False.elim hq
    | cont => exact False.elim hq
    | ret u =>
      refine Calls.spliced_nil ?_
      obtain ⟨pz, hp, hz⟩ := q.qz I1
      have hsz : s1.heap.objs.size ≤ s'.heap.objs.size := by
        obtain ⟨a', g, c', _, h1, h2, _⟩ := hq
        exact Nat.le_trans h1 (Nat.le_of_lt h2)
      refine call_listQ hp hr I1.ok.frames hz hq fun S s2 acc c' H' ys q0 q1 q2 hl q3 q4 q5 q6 q7 q8 => ?_
      exact ⟨.ref S, upd H' S (.lst ys), I1.drained (Nat.le_trans hsz q0) hl q1 q2 .nil q3 q4 q5 q6 q7, rref, q8 S q7⟩
end
end K6

/-! ## S9 -/
namespace K6
open PySem PySem.Spec PyProof.Rows L2
structure Tt (K : PySem.W.Frag) (w : World) (mg : Str → Option Value) : Prop extends Tu K w mg where
  u_log : Mt K "log" "Studio.log" 45 8 (mt K "Studio" "log")
  u_logM : Meth K (ga K "Studio") "log" (mt K "Studio" "log")
/-- the steps, told -/
abbrev LogL (K : PySem.W.Frag) (H : Hp) : List V → List Sa → Prop := Paired fun v st => ∃ p t, v = V.ref p ∧ H p = some (.tup [.str st.1, .ref t]) ∧ SqT K H t (st.2.1.map V.str)
theorem LogL.gr {K : PySem.W.Frag} {H H1 : Hp} {ys : List V} {ss : List Sa} (h : LogL K H ys ss) (g : Gr [] H H1) : LogL K H1 ys ss := Paired.mapP h fun v st ⟨p, t, e, hp, ht⟩ => ⟨p, t, e, g.at hp, g.tup ht⟩
section
variable {P : Program} {w : World} {K : PySem.W.Frag} {mg : Str → Option Value} {base : Heap}
theorem sc45_8 : FnScope ["self", "step"] ["self"] (offG (scU 8)) := ⟨rfl, rfl, rfl, by decide +kernel, rfl, by decide +kernel, by decide +kernel⟩
def spULog (K : PySem.W.Frag) : SpQ := fun vs H Q => ∃ x k ts ss, vs = [.ref x] ∧ Std K H x k ts ss ∧ ss.length ≤ 1000 ∧ ∀ H' ys, Gr [] H H' → LogL K H' ys ss → Q ys H'
theorem studio_log (T : Tt K w mg) : GFb true P w K mg base 1 (mt K "Studio" "log") (spULog K) := by
  obtain ⟨fd, F⟩ := T.u_log
  refine gfn_q F sc45_8 rfl (fun vs H Q h => by obtain ⟨x, k, ts, ss, rfl, _⟩ := h; rfl) (fun _ _ _ _ _ _ us hl => match us, hl with | [_], _ => rfl) ?_
  intro pz cdv A outer s H vs Q pn hp hq hr h
  obtain ⟨x, k, ts, ss, rfl, ⟨dx, d, l, hx, hd, hl⟩, hz, q⟩ := h
  have cl := T.stu.cl
  obtain ⟨xs, hxs, hlen, hget⟩ := hl.get
  refine ⟨_, gss_cons (gs_for rfl hq (gss_cons (gs_yield pE) gss_nil)) gss_nil, ?_⟩
  refine wi_list (w_bty call_list_of T.lst rfl (wa_cons (w_fld (w_var 0 ⟨_, rfl, x, _, _, _, .ref l, rfl, hx, cl, T.u_n3, rfl, wa_nil ⟨l, xs, rfl, .inl hxs, fun l2 hl2 => ⟨l2, xs, rfl, .of upd_same, fun J wk => ?_⟩⟩⟩))))
  have g0 : Gr [] H (upd H l2 (.lst xs)) := Gr.refl.new hl2
  have e0 : (upd H l2 (.lst xs)) l2 = some (.lst xs) := upd_same
  generalize upd H l2 (.lst xs) = H1 at g0 e0 ⊢
  refine ⟨fun i m ys σ H' => m = xs.length - i ∧ i ≤ xs.length ∧ Gr [] H1 H' ∧ (∃ s1, σ = [some (.ref x), s1]) ∧ LogL K H' ys (ss.take i), ⟨_, rfl, Nat.zero_le _, Gr.refl, ⟨none, rfl⟩, .nil⟩, ?_⟩
  rintro i m ys σ H' ⟨rfl, hi, g, ⟨s1, rfl⟩, hL⟩
  by_cases hlt : i < xs.length
  · have hls : i < ss.length := by omega
    refine .inr ⟨wk.go i H' (.of (g.at e0)) hlt, fun ys' σ' H2 => i < xs.length ∧ Gr [] H1 H2 ∧ (∃ s1, σ' = [some (.ref x), s1]) ∧ LogL K H2 ys' (ss.take (i + 1)), fun ys' σ' H2 ⟨a, b, c, e⟩ => ⟨xs.length - (i + 1), by omega, rfl, a, b, c, e⟩, fun y H2 hy => ?_⟩
    obtain ⟨rfl, hyx⟩ := wk.yld i H' y H2 (.of (g.at e0)) hlt hy
    obtain ⟨p, hpx, hst⟩ := hget i _ (List.getElem?_eq_getElem hls)
    rw [hpx] at hyx
    cases hyx
    obtain ⟨dp, t, bd, hp2, ht, _⟩ := hst.gx ((g0.trans g).gx0)
    have hyl : ys.length = i := by
      have := Paired.length hL
      rw [List.length_take] at this
      omega
    refine w_gname 1 ?_ sc45_8.nd
    refine ⟨szl (by omega), ?_⟩
    refine w_tup (wa_cons (w_fld (w_var 1 ⟨_, rfl, p, _, _, _, .str (ss[i]).1, rfl, hp2, T.stp.cl, T.s_n1, rfl, wa_cons (w_fld (w_var 1 ⟨_, rfl, p, _, _, _, .ref t, rfl, hp2, T.stp.cl, T.s_n2, rfl, wa_nil ⟨sz2, fun tp htp => ?_⟩⟩))⟩)))
    have g2 : Gr [] H2 (upd H2 tp (.tup [.str (ss[i]).1, .ref t])) := Gr.refl.new htp
    refine ⟨hlt, g.trans g2, ⟨_, rfl⟩, ?_⟩
    rw [List.take_add_one, List.getElem?_eq_getElem hls]
    exact paired_app (hL.gr g2) (.cons ⟨tp, t, rfl, upd_same, g2.tup ht⟩ .nil)
  · obtain rfl : i = xs.length := by omega
    refine .inl ⟨wk.stop _ H' (.of (g.at e0)) (Nat.le_refl _), ?_⟩
    rw [hlen, List.take_length] at hL
    exact q H' ys (g0.trans g) hL
end
end K6

/-! ## KY1 -/
namespace K6
open PySem PySem.Spec PyProof.Rows L2
section
variable {prog : Program} {w : World} {A : Around} {E : Value → Shared → Prop} {s : Shared} {env : Env} {K : PySem.W.Frag} {x C fe fx : Addr} {ox : Obj} {od : Option Obj} {pos : Pos}
theorem with_coreE {bdy : Sem Flow} {Q : Flow → Shared → Prop} (X : K.In s.heap) (I : PySem.W.InstAt s.heap x ox C od) (he : PySem.W.findIn K (.ref C) "__enter__" = some (some (.ref fe))) (hfe : PySem.W.isFn K (.ref fe) = true) (hx : PySem.W.findIn K (.ref C) "__exit__" = some (some (.ref fx))) (hfx : PySem.W.isFn K (.ref fx) = true)
    (h : wpAny (model prog w) A (call (.ref fe) [.ref x]) (fun v s₂ => wpAny (model prog w) A bdy (fun f s₄ => wpAny (model prog w) A (call (.ref fx) [.ref x, .none, .none, .none]) (fun _ s₅ => Q f s₅) E s₄)
      (fun e s₄ => wpAny (model prog w) A (noteFrame e env) (fun _ s₅ => wpAny (model prog w) A (setFlight e none) (fun _ s₆ => wpAny (model prog w) A (typeOf e) (fun c s₇ => wpAny (model prog w) A (tracebackOf e) (fun tb s₈ =>
        wpAny (model prog w) A (PySem.run (Code.call (.ref fx) ⟨[.ref x, c, e, tb], []⟩) (some e)) (fun fl s₉ => fl = Flow.ret .none ∧ wpAny (model prog w) A (PySem.passOn "with" e env) Q E s₉) E s₈) E s₇) E s₆) E s₅) E s₄) s₂) E s) :
    wpAny (model prog w) A (withItem false pos env (pure (.ref x)) none bdy) Q E s := by
  obtain ⟨cd, hcd, ae⟩ := PySem.W.kw_along he
  obtain ⟨cd', hcd', ax⟩ := PySem.W.kw_along hx
  cases hcd.symm.trans hcd'
  obtain ⟨hh, g, d, tt, os⟩ := s
  have L1 : PySem.W.Looks (model prog w) hh (specialOnItsLine (.ref x) "__enter__") (some (.ref fe), cd.mro) := PySem.W.kw_special X I hcd ae
  have L2 : PySem.W.Looks (model prog w) hh (specialOnItsLine (.ref x) "__exit__") (some (.ref fx), cd.mro) := PySem.W.kw_special X I hcd ax
  have L3 : PySem.W.Looks (model prog w) hh (bindSpecial (.ref fe) (.ref x)) (.ref fe, [.ref x]) := PySem.W.bind_fn X _ (beq_iff_eq.mp hfe)
  have L4 : PySem.W.Looks (model prog w) hh (bindSpecial (.ref fx) (.ref x)) (.ref fx, [.ref x]) := PySem.W.bind_fn X _ (beq_iff_eq.mp hfx)
  have L5 : PySem.W.Looks (model prog w) hh (aMethodOfAnotherBuiltinTypeStops (.ref fe) cd.mro) () := PySem.W.Looks.of_pure rfl
  have L6 : PySem.W.Looks (model prog w) hh (aMethodOfAnotherBuiltinTypeStops (.ref fx) cd.mro) () := PySem.W.Looks.of_pure rfl
  unfold withItem
  refine wpAny_bind (wpAny_pure ?_)
  refine wpAny_bind (wpAny_standAt ?_)
  simp only [Bool.false_eq_true, if_false]
  repeat ((fail_if_success (with_reducible show wpAny _ _ (call _ _) _ _ _)); (fail_if_success (with_reducible show wpAny _ _ (Sem.attempt _) _ _ _)); first | with_reducible refine wpAny_standAt ?_ | lk)
  refine wpAny_mono h (fun v s₂ h₂ => ?_) fun _ _ z => z
  repeat ((fail_if_success (with_reducible show wpAny _ _ (call _ _) _ _ _)); (fail_if_success (with_reducible show wpAny _ _ (Sem.attempt _) _ _ _)); first | with_reducible refine wpAny_standAt ?_ | lk)
  refine wpAny_attempt (PySem.W.kw_held ?_)
  show wpAny _ _ bdy _ _ _
  refine wpAny_mono h₂ (fun f s₄ h₄ => ?_) fun e s₄ h₄ => ?_
  · repeat ((fail_if_success (with_reducible show wpAny _ _ (call _ _) _ _ _)); (fail_if_success (with_reducible show wpAny _ _ (Sem.attempt _) _ _ _)); first | with_reducible refine wpAny_standAt ?_ | lk)
    refine wpAny_mono h₄ (fun _ s₅ h₅ => ?_) fun _ _ z => z
    repeat ((fail_if_success (with_reducible show wpAny _ _ (call _ _) _ _ _)); (fail_if_success (with_reducible show wpAny _ _ (Sem.attempt _) _ _ _)); first | with_reducible refine wpAny_standAt ?_ | lk)
    exact h₅
  · refine wpAny_bind (wpAny_mono h₄ (fun _ s₅ h₅ => ?_) fun _ _ z => z)
    refine wpAny_bind (wpAny_mono h₅ (fun _ s₆ h₆ => ?_) fun _ _ z => z)
    refine wpAny_bind (wpAny_standAt (wpAny_holding ?_))
    refine wpAny_bind (wpAny_mono h₆ (fun c s₇ h₇ => ?_) fun _ _ z => z)
    refine wpAny_bind (wpAny_mono h₇ (fun tb s₈ h₈ => ?_) fun _ _ z => z)
    refine wpAny_bind ?_
    unfold withItem.marked
    refine wpAny_bind (wpAny_mono h₈ (fun fl s₉ h₉ => ?_) fun _ _ z => z)
    obtain ⟨rfl, h₉⟩ := h₉
    refine wpAny_pure ?_
    first
      | exact wpAny_bind (wpAny_pure (wpAny_bind (wpAny_pure h₉)))
      | exact wpAny_bind (wpAny_pure h₉)
      | exact h₉
theorem with_exec {ctx : Expr} {body : List Stmt} {Q : Flow → Shared → Prop} (h : wpAny (model prog w) A (eval ctx env) (fun v s₁ => wpAny (model prog w) A (withItem false ctx.pos env (pure v) none (execs body env)) Q E s₁) E s) :
    wpAny (model prog w) A (exec (.With [⟨ctx, none⟩] body pos) env) Q E s := by
  rw [arm_exec_With]
  refine wpAny_bind (wpAny_standAt ?_)
  rw [arm_withItems_cons, arm_withItems_nil]
  unfold withItem
  refine wpAny_bind (wpAny_mono h (fun v s₁ h₁ => ?_) fun _ _ z => z)
  unfold withItem at h₁
  exact h₁
end
end K6

/-! ## KY2 -/
namespace K6
open PySem PySem.Spec PyProof.Rows L2
section
variable {X : Cx} {σ : St} {H : Hp} {ke kx : Nat} {C fe fx : Addr} {spe spx : Sp} {ctx : Expr} {body : List Stmt} {pos : Pos} {D : Ends} {Wout : WX}
theorem rnon0 : RelV V.non Value.none := rfl
/-- what the body of 'with o' leaves -/
def wtD (spx : Sp) (o : Addr) (D : Ends) : Ends :=
  { nx := fun σ' H' => spx [.ref o, .non, .non, .non] H' (fun _ H2 => D.nx σ' H2) (fun _ _ _ => False), rt := fun v H' => spx [.ref o, .non, .non, .non] H' (fun _ H2 => D.rt v H2) (fun _ _ _ => False),
    bk := fun σ' H' => spx [.ref o, .non, .non, .non] H' (fun _ H2 => D.bk σ' H2) (fun _ _ _ => False), ct := fun σ' H' => spx [.ref o, .non, .non, .non] H' (fun _ H2 => D.ct σ' H2) (fun _ _ _ => False) }
/-- .. what it asks of an exception -/
def wtW (spx : Sp) (o : Addr) (Wout : WX) : WX := fun cls d σ' H' => (∃ Ca, cls = .ref Ca ∧ ∀ a t, H' a = none → spx [.ref o, .ref Ca, .ref a, t] H' (fun v H2 => v = .non ∧ Wout cls d σ' H2) (fun _ _ _ => False))
theorem w_with (hs : X.stack = X.env :: X.outer) (hf : X.env.frame = some X.env.locals) (tk : L2N.Takes X Wout) (q : Qk false X) (c : Cls X.K C) (be : Meth X.K C "__enter__" fe) (bx : Meth X.K C "__exit__" fx)
    (Fe : FbX false X ke fe spe) (Fx : FbX true X kx fx spx) (hre : L2H.RoomH ke X.A) (hrx : L2H.RoomH kx X.A)
    (hw : wE X ctx σ H fun v H1 => ∃ o dx fs, v = .ref o ∧ H1 o = some (.ins C dx fs) ∧ spe [.ref o] H1 (fun _ H2 =>
      ∀ (pn : List (Addr × Obj)) (xe : Value → Shared → Prop), (∀ p ∈ X.pn, p ∈ pn) → L2N.Takes (X.tr pn xe) (wtW spx o Wout) → wB (X.tr pn xe) body (wtD spx o D) σ H2) (fun _ _ _ => False)) :
    wS X (.With [⟨ctx, none⟩] body pos) D σ H := by
  intro pins s I
  have ok := I.ok
  have hfr : X.A.frames = some (X.env :: X.outer) := by rw [ok.frames, hs]
  refine with_exec (thn (hw pins s I) fun u s1 ⟨v, H1, I1, r, o, dx, fs, ev, eo, hsp⟩ => ?_)
  subst ev
  obtain rfl : u = Value.ref o := r
  obtain ⟨mA, O, _, _, _, _⟩ := ins_get I1.hok eo
  obtain ⟨od, J, hl⟩ := O.look
  refine with_coreE (K := X.K) I1.kIn J be.at_ be.fn bx.at_ bx.fn ?_
  refine wpAny_mono (call_at (Q := fun _ H2 => ∀ (pn : List (Addr × Obj)) (xe : Value → Shared → Prop), (∀ p ∈ X.pn, p ∈ pn) → L2N.Takes (X.tr pn xe) (wtW spx o Wout) → wB (X.tr pn xe) body (wtD spx o D) σ H2) Fe q rfl rfl hre paF I1 (.cons rref .nil) hsp)
    (fun v s2 ⟨_, H2, I2, _, hb⟩ => ?_) (fun e s2 z => z)
  refine wpAny_mono (hb (X.pn ++ pins) (fun e s₄ => wpAny (model X.prog X.w) X.A (noteFrame e X.env) (fun _ s₅ => wpAny (model X.prog X.w) X.A (setFlight e none) (fun _ s₆ => wpAny (model X.prog X.w) X.A (typeOf e) (fun c s₇ => wpAny (model X.prog X.w) X.A (tracebackOf e) (fun tb s₈ =>
        wpAny (model X.prog X.w) X.A (PySem.run (Code.call (.ref fx) ⟨[.ref o, c, e, tb], []⟩) (some e)) (fun fl s₉ => fl = Flow.ret .none ∧ wpAny (model X.prog X.w) X.A (PySem.passOn "with" e X.env) (SP X pins D) X.xe s₉) X.xe s₈) X.xe s₇) X.xe s₆) X.xe s₅) X.xe s₄)
      (fun p hp => List.mem_append_left _ hp) (fun u s' xx => ?_) [] s2 (I2.toTry _)) (fun f s4 hsp => ?_) (fun e s4 he => he)
  · obtain ⟨a, B, sI, pins', σ', H', cls, d, rfl, J', nb, up, sky, na, os, ag, Ca, rfl, hx⟩ := xx
    have J : Inv X pins σ' H' sI := J'.ofTry ok
    have sky' : L2.Sky B (X.env :: X.outer) a (L2N.Zn (.ref Ca) d) X.env.locals s'.heap := by rw [← hs]; exact sky
    show wpAny (model X.prog X.w) X.A (noteFrame (.ref a) X.env) _ _ _
    refine L2N.Sky.land L2N.Zn.steady hfr hf sky' fun h3 fl3 up3 => ?_
    have J3 : Inv X pins σ' H' { s' with heap := h3 } := J.landed nb fl3.1 (up.trans up3) os ag
    obtain ⟨k1, k2, k3, oe, vs, T, oT, ts, he, hz, hd, h1, hnT, hTe, hT, hdT, h33⟩ := id fl3
    have notFr : ∀ {y : Addr} {ob : Obj} {ws : Array Value}, h3.get? y = some ob → ob.data = .fields ws → y ∉ frs (X.env :: X.outer) := fun {y ob ws} e dd hm => by
      obtain ⟨_, o', e', hnf⟩ := k3.mem hm
      rw [e] at e'; cases e'
      exact hnf _ dd
    have nfr := notFr he hd
    have nfT := notFr hT hdT
    have naT : H' T = none := (J.inGround nb).gone hnT
    have nc : ∀ v, oe.data ≠ .cell v := fun v z => by rw [hd] at z; cases z
    refine wpAny_typeOf_ref he ?_
    rw [hz.1]
    refine wpAny_mono (Q := fun tb s₈ => s₈ = { s' with heap := h3 } ∧ ∃ t : V, RelV t tb) (E := X.xe) ?_ (fun tb s₈ ⟨e8, t, rt⟩ => ?_) (fun _ _ z => z)
    · unfold tracebackOf
      refine wpAny_bind (wpAny_field he hd h1 ?_)
      have hlt : 1 < ts.size := by
        have := (Array.getElem?_eq_some_iff.mp h33).1
        omega
      refine wpAny_bind (wpAny_field hT hdT (x := ts[1]) (by simp [hlt]) ?_)
      by_cases z : (ts[1] == Value.none) = true
      · rw [if_pos z]
        exact wpAny_pure ⟨rfl, .non, rfl⟩
      · rw [if_neg z]
        exact wpAny_pure ⟨rfl, .ref T, rfl⟩
    subst e8
    refine wpAny_run ?_ (by intro x; cases x)
    have e0 : Env0 X.prog X.w X.K X.mg X.base (X.A.mark (some (.ref a))) X.stack { s' with heap := h3 } H' := ⟨J3.ok.frames, J3.ok.mod, J3.bs, Nat.le_trans J3.ok.bsz J3.sz, J3.stack, J3.stkFree, J3.hok, J3.bare⟩
    refine codeAny_mono (Fx (some (a, oe)) (X.A.mark (some (.ref a))) X.stack { s' with heap := h3 } H' [.ref o, .ref Ca, .ref a, tb] [.ref o, .ref Ca, .ref a, t] _ _ (.inr rfl) ⟨hrx.dp, hrx.un⟩ ⟨⟨rfl, vs, hd, hz.2.2 vs hd⟩, ⟨he, na, by rw [hs]; exact nfr, nc⟩⟩ e0
      (.cons rref (.cons rref (.cons rref (.cons rt .nil)))) (hx a t na)) fun r s6 hq => ?_
    cases r with
    | error e =>
      obtain ⟨_, _, _, _, _, _, _, _, _, _, _, _, z⟩ := hq
      exact z.elim
    | ok fl =>
      cases fl with
      | next => exact hq.elim
      | brk => exact hq.elim
      | cont => exact hq.elim
      | ret u =>
        obtain ⟨v6, H6, os6, ag6, un, hok6, rv, rfl, qv⟩ := hq
        obtain rfl : u = Value.none := rv
        refine ⟨rfl, ?_⟩
        have he6 : s6.heap.get? a = some oe := un.keep a oe he na (by rw [hs]; exact nfr) (by simp)
        have hT6 : s6.heap.get? T = some oT := un.keep T oT hT naT (by rw [hs]; exact nfT) (by simp)
        have na6 : H6 a = none := un.free a oe he na (by simp)
        have nT6 : H6 T = none := un.free T oT hT naT (by simp)
        obtain ⟨G, g1, g2⟩ := L2.restrict s6.heap fun b => !(decide (b = a) || decide (b = T))
        have gA : G.get? a = none := g2 a (by simp)
        have gT : G.get? T = none := g2 T (by simp)
        have gE : ∀ b, b ≠ a → b ≠ T → G.get? b = s6.heap.get? b := fun b n1 n2 => g1 b (by simp [n1, n2])
        have og : ∀ b ob, G.get? b = some ob → s6.heap.get? b = some ob := fun b ob e => by
          have n1 : b ≠ a := fun z => by rw [z, gA] at e; cases e
          have n2 : b ≠ T := fun z => by rw [z, gT] at e; cases e
          rw [← gE b n1 n2]; exact e
        have inB : ∀ b ob, B.get? b = some ob → b ≠ a ∧ b ≠ T := fun b ob e => ⟨fun z => (by rw [z, k2] at e; cases e), fun z => (by rw [z, hnT] at e; cases e)⟩
        have nfs : ∀ b, b ∈ frs X.stack → b ≠ a ∧ b ≠ T := fun b hb => ⟨fun z => nfr (by rw [← hs, ← z]; exact hb), fun z => nfT (by rw [← hs, ← z]; exact hb)⟩
        have at3 : ∀ b ob, sI.heap.get? b = some ob → ∃ ob', h3.get? b = some ob' ∧ b ≠ a ∧ b ≠ T := fun b ob e => by
          by_cases hb : b ∈ frs X.stack
          · obtain ⟨_, o', e', hnf⟩ := J.stack.mem hb
            rw [e] at e'; cases e'
            obtain ⟨sl, e3⟩ := (up.trans up3) b _ e hnf
            exact ⟨_, e3, nfs b hb⟩
          · exact ⟨ob, k1 b ob (nb b ob e hb), inB b ob (nb b ob e hb)⟩
        have I6 : Inv X pins σ' H6 { s6 with heap := G } := by
          refine J.call' (ch := []) (os6.trans os) ⟨fun b ob e n hb _ => ?_, fun b ob e n hb _ => ?_, fun b ob e n _ => ?_, fun b ob e _ => ?_, un.tups, un.frzs, un.tbls⟩ (fun b ob e => ?_) ag6 (fun _ z => nomatch z)
          · have eb := nb b ob e hb
            exact (gE b (inB b ob eb).1 (inB b ob eb).2).trans (un.keep b ob (k1 b ob eb) n hb (by simp))
          · obtain ⟨_, o', e', hnf⟩ := J.stack.mem hb
            rw [e] at e'; cases e'
            obtain ⟨sl, e3⟩ := (up.trans up3) b _ e hnf
            obtain ⟨sl2, e6⟩ := un.slot b _ e3 n hb (by simp)
            exact ⟨sl2, (gE b (nfs b hb).1 (nfs b hb).2).trans e6⟩
          · obtain ⟨ob', e3, _, _⟩ := at3 b ob e
            exact un.free b ob' e3 n (by simp)
          · obtain ⟨ob', e3, n1, n2⟩ := at3 b ob e
            obtain ⟨ob6, e6⟩ := un.there b ob' e3 (by simp)
            exact ⟨ob6, (gE b n1 n2).trans e6⟩
          · refine (hok6 b ob e).stay (fun c u hc q => (gE c ?_ ?_).trans q) (fun _ z => z) fun _ _ z => z
            · rintro rfl
              rcases hc with hc | hc
              · rw [← hc, na6] at e; cases e
              · rw [na6] at hc; cases hc
            · rintro rfl
              rcases hc with hc | hc
              · rw [← hc, nT6] at e; cases e
              · rw [nT6] at hc; cases hc
        have nB' : ∀ b, G.get? b = none → (PySem.W.hideAll G (frs X.stack)).get? b = none := fun b e => by
          cases z : (PySem.W.hideAll G (frs X.stack)).get? b with
          | none => rfl
          | some ob =>
            have z' := PySem.W.of_hideAll _ z
            rw [e] at z'; cases z'
        have fl6 : HandSPX.FlyingZ (PySem.W.hideAll G (frs X.stack)) (X.env :: X.outer) a (L2N.Zn (.ref Ca) d) s6.heap := by
          refine ⟨fun b ob e => og b ob (PySem.W.of_hideAll _ e), nB' a gA, ?_, oe, vs, T, oT, ts, he6, hz, hd, h1, nB' T gT, hTe, hT6, hdT, h33⟩
          rw [← hs]
          exact Heap.FunFrames.of_keeps (fun b ob e _ => ⟨ob, og b ob e, rfl⟩) (funFrames_none I6.stack fun b hb => PySem.W.hideAll_none _ hb)
        have hsk : ∀ {B0 : Heap} {h4 : Heap}, HandSPX.HeldZ B0 (X.env :: X.outer) a (L2N.Zn (.ref Ca) d) X.env.locals h4 → HandSPX.HeldZ B0 X.stack a (L2N.Zn (.ref Ca) d) X.env.locals h4 := fun z => by rw [hs]; exact z
        unfold PySem.passOn
        refine wpAny_bind (wpAny_field he6 hd h1 ?_)
        rw [if_neg (show ¬ ((Value.ref T == Value.none) = true) from by simp)]
        have fin : wpAny (model X.prog X.w) X.A (setFlight (.ref a) X.env.frame) (fun _ s4 => wpAny (model X.prog X.w) X.A (throw (.ref a) : Sem Flow) (SP X pins D) X.xe s4) X.xe s6 := by
          rw [hf]
          refine HandSPX.setFlight_upZ fl6 fun h4 hh4 up4 => wpAny_throw (tk _ _ ?_)
          exact ⟨a, PySem.W.hideAll G (frs X.stack), { s6 with heap := G }, pins, σ', H6, .ref Ca, d, rfl, I6, fun b ob e hb => PySem.W.hideAll_get _ e hb, (Heap.UpToSlots.of_keeps og).trans up4, .inr (.inr (hsk hh4)), na6, rfl, ag6, qv⟩
        first
          | exact wpAny_bind (wpAny_pure (wpAny_bind fin))
          | exact wpAny_bind fin
  · have ex : ∀ {σ' : St} {H' : Hp} {R : Hp → Prop} {Z : Shared → Prop}, Inv X pins σ' H' s4 → spx [.ref o, .non, .non, .non] H' (fun _ H2 => R H2) (fun _ _ _ => False) → (∀ s5 H2, Inv X pins σ' H2 s5 → R H2 → Z s5) →
        wpAny (model X.prog X.w) X.A (call (.ref fx) [.ref o, .none, .none, .none]) (fun _ s₅ => Z s₅) X.xe s4 := fun {σ' H' R Z} I4 h k =>
      wpAny_mono (call_at Fx q.up rfl rfl hrx paF I4 (.cons rref (.cons rnon0 (.cons rnon0 (.cons rnon0 .nil)))) h) (fun _ s5 ⟨_, H5, I5, _, z⟩ => k s5 H5 I5 z) (fun _ _ z => z)
    cases f with
    | next =>
      obtain ⟨σ', H', J', q⟩ := hsp
      exact ex (J'.ofTry ok) q fun s5 H5 I5 z => ⟨_, _, I5, z⟩
    | brk =>
      obtain ⟨σ', H', J', q⟩ := hsp
      exact ex (J'.ofTry ok) q fun s5 H5 I5 z => ⟨_, _, I5, z⟩
    | cont =>
      obtain ⟨σ', H', J', q⟩ := hsp
      exact ex (J'.ofTry ok) q fun s5 H5 I5 z => ⟨_, _, I5, z⟩
    | ret u =>
      obtain ⟨v, σ', H', J', r, q⟩ := hsp
      exact ex (J'.ofTry ok) q fun s5 H5 I5 z => ⟨v, _, _, I5, r, z⟩
end
end K6

/-! ## S10 -/
namespace K6
open PySem PySem.Spec PyProof.Rows L2
structure Tr (K : PySem.W.Frag) (w : World) (mg : Str → Option Value) : Prop extends Tt K w mg where
  tri : Ct K mg "Trial"
  r_init : Mt K "__init__" "Trial.__init__" 44 0 (mt K "Trial" "__init__")
  r_enter : Mt K "__enter__" "Trial.__enter__" 44 1 (mt K "Trial" "__enter__")
  r_exit : Mt K "__exit__" "Trial.__exit__" 44 2 (mt K "Trial" "__exit__")
  r_n1 : Na K "Trial" "studio"
  r_n2 : Na K "Trial" "walks"
  r_n3 : Na K "Trial" "steps"
  r_enterM : Meth K (ga K "Trial") "__enter__" (mt K "Trial" "__enter__")
  r_exitM : Meth K (ga K "Trial") "__exit__" (mt K "Trial" "__exit__")
section
variable {P : Program} {w : World} {K : PySem.W.Frag} {mg : Str → Option Value} {base : Heap}
theorem w_none {X : Cx} {σ : St} {H : Hp} {Q : VK} {j : Nat} {pos : Pos} (h : Q .non H) : wE X (.Constant .none j pos) σ H Q := PE.w pe_non h
abbrev scR (j : Nat) : Scope := defScope (inClass (topS 44) j)
theorem sc44_0 : FnScope ["self", "studio"] ["self", "studio"] (scR 0) := ⟨rfl, rfl, rfl, by decide +kernel, rfl, by decide +kernel, by decide +kernel⟩
theorem sc44_1 : FnScope ["self"] ["self"] (scR 1) := ⟨rfl, rfl, rfl, by decide +kernel, rfl, by decide +kernel, by decide +kernel⟩
theorem sc44_2 : FnScope ["self", "kind", "value", "trace"] ["self", "kind", "value", "trace"] (scR 2) := ⟨rfl, rfl, rfl, by decide +kernel, rfl, by decide +kernel, by decide +kernel⟩
theorem pft1 {v : V} : putF "studio" v [] = ([("studio", v)] : List (Str × V)) := by rfl
theorem pft2 {v v1 : V} : putF "walks" v ([("studio", v1)] : List (Str × V)) = ([("studio", v1), ("walks", v)] : List (Str × V)) := by rfl
theorem pft3 {v v1 v2 : V} : putF "steps" v ([("studio", v1), ("walks", v2)] : List (Str × V)) = ([("studio", v1), ("walks", v2), ("steps", v)] : List (Str × V)) := by rfl
theorem pftw {a b c v : V} : putF "walks" v ([("studio", a), ("walks", b), ("steps", c)] : List (Str × V)) = ([("studio", a), ("walks", v), ("steps", c)] : List (Str × V)) := by rfl
theorem pfts {a b c v : V} : putF "steps" v ([("studio", a), ("walks", b), ("steps", c)] : List (Str × V)) = ([("studio", a), ("walks", b), ("steps", v)] : List (Str × V)) := by rfl
def spTrI (K : PySem.W.Frag) : Sp := fun vs H Q _ => ∃ y x dy, vs = [.ref y, .ref x] ∧ H y = some (.ins (cR K) dy []) ∧ Q .non (upd H y (.ins (cR K) dy [("studio", .ref x), ("walks", .non), ("steps", .non)]))
theorem trial_init (T : Tr K w mg) : Fb false P w K mg base 1 (mt K "Trial" "__init__") (spTrI K) := by
  obtain ⟨fd, F⟩ := T.r_init
  refine fn_b F sc44_0 (fun vs H Q E h => by obtain ⟨y, x, dy, rfl, _⟩ := h; rfl) (fun _ _ _ _ _ _ us hl => match us, hl with | [_, _], _ => rfl) ?_
  intro pz cdv A outer s H vs Q E hp hq hr h
  obtain ⟨y, x, dy, rfl, hy, q⟩ := h
  have cl := T.tri.cl
  refine wb_cons (ws_fld (w_var 1 ⟨_, rfl, w_var 0 ⟨_, rfl, y, _, _, _, rfl, hy, cl, T.r_n1, fsz (by simp), ?_⟩⟩))
  rw [pft1]
  refine wb_cons (ws_fld (w_none (w_var 0 ⟨_, rfl, y, _, _, _, rfl, upd_same, cl, T.r_n2, fsz (by simp), ?_⟩)))
  rw [pft2, upd_upd]
  refine wb_one (ws_fld (w_none (w_var 0 ⟨_, rfl, y, _, _, _, rfl, upd_same, cl, T.r_n3, fsz (by simp), ?_⟩)))
  rw [pft3, upd_upd]
  exact q
def spTrE (K : PySem.W.Frag) : Sp := fun vs H Q _ => ∃ y x dy dx k d l a b, vs = [.ref y] ∧ H y = some (.ins (cR K) dy [("studio", .ref x), ("walks", a), ("steps", b)]) ∧ H x = some (.ins (cS K) dx (stf k d l)) ∧
  Q (.ref y) (upd H y (.ins (cR K) dy [("studio", .ref x), ("walks", .ref d), ("steps", .ref l)]))
theorem trial_enter (T : Tr K w mg) : Fb false P w K mg base 1 (mt K "Trial" "__enter__") (spTrE K) := by
  obtain ⟨fd, F⟩ := T.r_enter
  refine fn_b F sc44_1 (fun vs H Q E h => by obtain ⟨y, x, dy, dx, k, d, l, a, b, rfl, _⟩ := h; rfl) (fun _ _ _ _ _ _ us hl => match us, hl with | [_], _ => rfl) ?_
  intro pz cdv A outer s H vs Q E hp hq hr h
  obtain ⟨y, x, dy, dx, k, d, l, a, b, rfl, hy, hx, q⟩ := h
  have cl := T.tri.cl
  have cs := T.stu.cl
  have nxy : x ≠ y := by
    rintro rfl
    rw [hy] at hx
    have e1 := HO.ins.inj (Option.some.inj hx)
    have e2 := congrArg (List.map Prod.fst) e1.2.2
    have e3 : ([Str.ofString "studio", Str.ofString "walks", Str.ofString "steps"] : List Str) = [Str.ofString "own_net", Str.ofString "walks", Str.ofString "steps"] := e2
    revert e3
    decide +kernel
  refine wb_cons (ws_fld (w_fld (w_fld (w_var 0 ⟨_, rfl, y, _, _, _, .ref x, rfl, hy, cl, T.r_n1, rfl, x, _, _, _, .ref d, rfl, hx, cs, T.u_n2, rfl, w_var 0 ⟨_, rfl, y, _, _, _, rfl, hy, cl, T.r_n2, fsz (by simp), ?_⟩⟩))))
  rw [pftw]
  refine wb_cons (ws_fld (w_fld (w_fld (w_var 0 ⟨_, rfl, y, _, _, _, .ref x, rfl, upd_same, cl, T.r_n1, rfl, x, _, _, _, .ref l, rfl, by rw [upd_ne nxy]; exact hx, cs, T.u_n3, rfl, w_var 0 ⟨_, rfl, y, _, _, _, rfl, upd_same, cl, T.r_n3, fsz (by simp), ?_⟩⟩))))
  rw [pfts, upd_upd]
  exact wb_one (ws_ret (w_var 0 ⟨_, rfl, q⟩))
/-- the studio is put back, whatever raised -/
def spTrX (K : PySem.W.Frag) : Sp := fun vs H Q _ => ∃ y x dy dx k d l d2 l2 a b c, vs = [.ref y, a, b, c] ∧ H y = some (.ins (cR K) dy [("studio", .ref x), ("walks", .ref d), ("steps", .ref l)]) ∧ H x = some (.ins (cS K) dx (stf k d2 l2)) ∧
  Q .non (upd H x (.ins (cS K) dx (stf k d l)))
theorem trial_exit (T : Tr K w mg) : Fb true P w K mg base 1 (mt K "Trial" "__exit__") (spTrX K) := by
  obtain ⟨fd, F⟩ := T.r_exit
  refine fn_b F sc44_2 (fun vs H Q E h => by obtain ⟨y, x, dy, dx, k, d, l, d2, l2, a, b, c, rfl, _⟩ := h; rfl) (fun _ _ _ _ _ _ us hl => match us, hl with | [_, _, _, _], _ => rfl) ?_
  intro pz cdv A outer s H vs Q E hp hq hr h
  obtain ⟨y, x, dy, dx, k, d, l, d2, l2, a, b, c, rfl, hy, hx, q⟩ := h
  have cl := T.tri.cl
  have cs := T.stu.cl
  have nxy : y ≠ x := by
    rintro rfl
    rw [hy] at hx
    have e1 := HO.ins.inj (Option.some.inj hx)
    have e2 := congrArg (List.map Prod.fst) e1.2.2
    have e3 : ([Str.ofString "studio", Str.ofString "walks", Str.ofString "steps"] : List Str) = [Str.ofString "own_net", Str.ofString "walks", Str.ofString "steps"] := e2
    revert e3
    decide +kernel
  refine wb_cons (ws_fld (w_fld (w_var 0 ⟨_, rfl, y, _, _, _, .ref d, rfl, hy, cl, T.r_n2, rfl, w_fld (w_var 0 ⟨_, rfl, y, _, _, _, .ref x, rfl, hy, cl, T.r_n1, rfl, x, _, _, _, rfl, hx, cs, T.u_n2, fsz (by simp [stf]), ?_⟩)⟩)))
  rw [show stf k d2 l2 = ([("own_net", .str k), ("walks", .ref d2), ("steps", .ref l2)] : List (Str × V)) from rfl, pfw]
  have hy1 : (upd H x (.ins (cS K) dx [("own_net", .str k), ("walks", .ref d), ("steps", .ref l2)])) y = some (.ins (cR K) dy [("studio", .ref x), ("walks", .ref d), ("steps", .ref l)]) := by rw [upd_ne nxy]; exact hy
  refine wb_one (ws_fld (w_fld (w_var 0 ⟨_, rfl, y, _, _, _, .ref l, rfl, hy1, cl, T.r_n3, rfl, w_fld (w_var 0 ⟨_, rfl, y, _, _, _, .ref x, rfl, hy1, cl, T.r_n1, rfl, x, _, _, _, rfl, upd_same, cs, T.u_n3, fsz (by simp), ?_⟩)⟩)))
  rw [pfss, upd_upd]
  exact q
end
end K6

/-! ## KY3 -/
namespace K6
open PySem PySem.Spec PyProof.Rows L2
/-- what the function at f, told at (s0, H0), keeps from then on -/
structure LamAt (P : Program) (w : World) (K : PySem.W.Frag) (mg : Str → Option Value) (base : Heap) (k : Nat) (f : Addr) (spv : Sp) (outer : List Env) (s0 : Shared) (H0 : Hp) : Prop where
  fn : PySem.W.FnAt f s0.heap
  hn : H0 f = none
  nf : f ∉ frs outer
  run : ∀ (A : Around) (outer' : List Env) (s1 : Shared) (H1 : Hp) (us : List Value) (vs : List V) (Q : VK) (E : XK), L2H.RoomH k A → A.handled = none → Env0 P w K mg base A outer' s1 H1 → Un (frs outer) [] H0 H1 s0.heap s1.heap → Gx K H0 H1 → Vals vs us → spv vs H1 Q E →
    codeAny (model P w) A (.call (.ref f) ⟨us, []⟩) (CR (L2N.CX P w) outer' P w H1 s1 Q E) s1
section
variable {P : Program} {w : World} {K : PySem.W.Frag} {mg : Str → Option Value} {base : Heap} {k : Nat} {f : Addr} {spv : Sp} {outer : List Env} {s0 s1 : Shared} {H0 H1 : Hp}
theorem FnAt.keeps {h h' : Heap} {q : Addr} (x : PySem.W.FnAt q h) (k : ∀ o, h.get? q = some o → h'.get? q = some o) : PySem.W.FnAt q h' := by
  obtain ⟨oc, od, fd, sl, e⟩ := x
  exact ⟨oc, od, fd, sl, k _ e⟩
theorem LamAt.on (L : LamAt P w K mg base k f spv outer s0 H0) (un : Un (frs outer) [] H0 H1 s0.heap s1.heap) (g : Gx K H0 H1) : LamAt P w K mg base k f spv outer s1 H1 := by
  refine ⟨FnAt.keeps L.fn fun o e => un.keep f o e L.hn L.nf (by simp), ?_, L.nf, fun A outer' s2 H2 us vs Q E hr hh e0 un' g' r h => L.run A outer' s2 H2 us vs Q E hr hh e0 (un.trans un') (g.trans g') r h⟩
  obtain ⟨oc, od, fd, sl, e⟩ := L.fn
  exact un.free f _ e L.hn (by simp)
end
section
variable {P : Program} {w : World} {K : PySem.W.Frag} {mg : Str → Option Value} {base : Heap} {N ps : List Str} {x qual pv : Str} {f : Addr} {k : Nat} {st : Stmt} {fd : FuncData}
/-- def f(a, .., *v) called at this very state -/
theorem run_sb (F : Fun K x qual st f fd) (S : FnScope N (ps ++ [pv]) (defScope st))
    (hb : ∀ (kV doc pm : Value) (an : Option Addr) (cdv ct : Value) (us rest : List Value), us.length = ps.length → bindArgs (PySem.W.fnOf x qual (defArgs st) (defBody st) (defScope st) .none kV doc pm an cdv ct) ⟨us ++ rest, []⟩ = (newTuple rest >>= fun t => pure (ps.zip us ++ [(pv, t)])))
    {A : Around} {outer : List Env} {s : Shared} {H : Hp} {us : List Value} {ws rest : List V} {Q : VK} {E : XK} (hr : L2H.RoomH (k + 1) A) (hh : A.handled = none) (e0 : Env0 P w K mg base A outer s H) (r : Vals (ws ++ rest) us) (hl : ws.length = ps.length) (hz : rest.length ≤ sizeLine)
    (hbody : ∀ (cdv : Value) (s2 : Shared) (p : Addr), H p = none → Un (frs outer) [] H (upd H p (.tup rest)) s.heap s2.heap → Qk false (cxQ P w K mg base N qual (defScope st) f cdv A outer s2 (upd H p (.tup rest)) E none) →
      L2H.RoomH k (cxQ P w K mg base N qual (defScope st) f cdv A outer s2 (upd H p (.tup rest)) E none).A →
      wB (cxQ P w K mg base N qual (defScope st) f cdv A outer s2 (upd H p (.tup rest)) E none) (defBody st) { nx := fun _ H' => Q .non H', rt := Q } (L2.start N (ws ++ [V.ref p])) (upd H p (.tup rest))) :
    codeAny (model P w) A (.call (.ref f) ⟨us, []⟩) (CR (L2N.CX P w) outer P w H s Q E) s := by
  obtain ⟨oc, od, kV, doc, pm, an, cdv, ct, osl, rfl, lk, hcd⟩ := F.ex
  obtain ⟨u1, u2, eu, r1, r2⟩ := StX.vals_split r
  subst eu
  have hn : H s.heap.objs.size = Option.none := e0.hok.fresh (Nat.le_refl _)
  have hl1 : u1.length = ps.length := by rw [← r1.length]; exact hl
  have hl2 : u2.length ≤ sizeLine := by rw [← r2.length]; exact hz
  have KX : K.In s.heap := e0.mod.kin.keeps fun b o e => (e0.bs b o e).1
  refine codeAny_call_function hr.depth (KX _ _ lk) rfl S.co S.gen rfl (PySem.W.codeRec_of KX hcd) ?_
  rw [hb kV doc pm an cdv ct u1 u2 hl1]
  refine wpAny_bind (wpAny_newTuple (wpAny_pure ?_) hl2)
  have new : ObjOk P w (upd H s.heap.objs.size (.tup rest)) (s.heap.push ({ cls := .type "tuple", data := .seq u2.toArray } : Obj)) s.heap.objs.size (.tup rest) := ⟨hz, u2, r2, ⟨_, Heap.get?_push_size _ rfl, rfl, _, rfl⟩⟩
  have un := StX.un_laid (fs := frs outer) (s := s) (o := ({ cls := .type "tuple", data := .seq u2.toArray } : Obj)) (u := .tup rest) hn
  have e2 := StX.env0_laid e0 new
  have rr : Vals (ws ++ [V.ref s.heap.objs.size]) (u1 ++ [Value.ref s.heap.objs.size]) := r1.append (.cons rfl .nil)
  have hlen : (ws ++ [V.ref s.heap.objs.size]).length = (ps ++ [pv]).length := by rw [List.length_append, List.length_append, hl] <;> rfl
  have hzip : ps.zip u1 ++ [(pv, Value.ref s.heap.objs.size)] = (ps ++ [pv]).zip (u1 ++ [Value.ref s.heap.objs.size]) := by rw [List.zip_append hl1.symm] <;> rfl
  rw [hzip]
  generalize hs2 : ({ s with heap := s.heap.push ({ cls := .type "tuple", data := .seq u2.toArray } : Obj) } : Shared) = s2 at e2
  have lim : s2.heap.NoLimit := e0.mod.nolimit.keeps fun b o e => (e2.bs b o e).1
  have un2 : Un (frs outer) [] H (upd H s.heap.objs.size (.tup rest)) s.heap s2.heap := by rw [← hs2]; exact un
  have ho : s2.os = s.os := by rw [← hs2]
  have kp2 : ∀ b o, s.heap.get? b = some o → s2.heap.get? b = some o := fun b o e => by rw [← hs2]; exact Heap.get?_push_of_some _ e
  refine wpAny_newFunctionEnv_cells (s := s2) S.kind (fun y hy => ?_) fun env he s3 x3 => ?_
  · rcases S.par y.1 (List.of_mem_zip hy).1 with q | q
    · exact .inl q
    · exact .inr ⟨q, PySem.W.cellsFrom_some _ _ _ (.inl q)⟩
  subst he
  refine ⟨lim.keeps x3.toInCall.keep, codeAny_func ?_⟩
  have B := hbody cdv s2 s.heap.objs.size hn un2 (.inl rfl) (hr.deeper _) [] s3 (inv_startQ (pz := none) (E := E) S hh e2 hlen rr x3)
  refine wpAny_mono B (fun fl s' hs => ?_) fun e s' hs => ?_
  · have fin : ∀ {σ' : St} {H' : Hp} {v' : V} {u' : Value}, Inv (cxQ P w K mg base N qual (defScope st) f cdv A outer s2 (upd H s.heap.objs.size (.tup rest)) E none) [] σ' H' s' → RelV v' u' → Q v' H' → CE outer P w H s Q u' s' :=
      fun {σ' H' v' u'} J rv' q => ⟨v', H', J.os.trans ho, J.bare, un2.trans J.base, J.hok, rv', q⟩
    cases fl with
    | ret u' =>
      obtain ⟨v', σ', H', J, rv', q⟩ := hs
      exact fin J rv' q
    | next =>
      obtain ⟨σ', H', J, q⟩ := hs
      exact fin (v' := V.non) (u' := Value.none) J rfl q
    | brk =>
      obtain ⟨_, _, _, q⟩ := hs
      exact False.elim q
    | cont =>
      obtain ⟨_, _, _, q⟩ := hs
      exact False.elim q
  · have up := fun e s' (z : L2N.CX P w outer (upd H s.heap.objs.size (.tup rest)) s2 E e s') => cxnUp outer s H s2 _ E e s' un2 kp2 ho z
    exact wpAny_mono hs (fun _ s'' z => up _ s'' z) fun e' s'' z => up _ s'' z
end
/-! ### x(e): a function that was told -/
section
variable {X : Cx} {σ : St} {H : Hp} {k i : Nat} {f : Addr} {spv : Sp} {E : XK} {Q : VK} {a : Str} {e : Expr} {es : List Expr} {p1 p2 : Pos}
theorem w_told (L : LamAt X.prog X.w X.K X.mg X.base k f spv X.outer X.s_0 X.H_0) (hfs : X.fs = frs X.outer) (hex : X.ex = []) (hst : X.stack = X.env :: X.outer) (hq : X.calm = true) (hr : L2H.RoomH k X.A) (hx : PaX X σ E)
    (hw : wE X (.Name a p1) σ H fun v H1 => v = .ref f ∧ wA X (e :: es) σ H1 fun vs H2 => Gx X.K X.H_0 H2 ∧ spv vs H2 Q E)
    (he : starEach (e :: es) X.env = (false, eval e X.env) :: starEach es X.env := by rfl) (hpl : (backTo p2 (starEach es X.env)).any (·.1) = false := by rfl) : wE X (.Call (.Name a p1) (e :: es) [] p2) σ H Q := fun pins s I => by
  refine wpAny_Call_Name_kw (thn (hw pins s I) fun u s1 ⟨v, H1, I1, r1, ev, hw2⟩ => ?_)
  subst ev
  obtain rfl : u = Value.ref f := r1
  have un : ∀ {H' : Hp} {s' : Shared}, Inv X pins σ H' s' → Un (frs X.outer) [] X.H_0 H' X.s_0.heap s'.heap := fun I' => by
    have := I'.base
    rw [hfs, hex] at this
    exact this
  have fnAt : ∀ {H' : Hp} {s' : Shared}, Inv X pins σ H' s' → PySem.W.FnAt f s'.heap := fun I' => FnAt.keeps L.fn fun o e => (un I').keep f o e L.hn L.nf (by simp)
  refine PySem.W.callWith_F (fnAt I1) (thn (hw2 p2 pins s1 I1) fun us s2 ⟨vs, H2, I2, r2, g, z⟩ => ⟨fnAt I2, ?_⟩) he hpl
  have e0 : Env0 X.prog X.w X.K X.mg X.base X.A X.stack s2 H2 := ⟨I2.ok.frames, I2.ok.mod, I2.bs, Nat.le_trans I2.ok.bsz I2.sz, I2.stack, I2.stkFree, I2.hok, I2.bare⟩
  refine wpAny_call (codeAny_mono (L.run X.A X.stack s2 H2 us vs Q E hr (I2.ok.hd hq) e0 (un I2) g r2 z) fun r s' hq => ?_)
  cases r with
  | error e => exact hx pins H2 s2 e s' I2 hq
  | ok fl =>
    cases fl with
    | ret u => exact I2.after hq
    | next => exact hq.elim
    | brk => exact hq.elim
    | cont => exact hq.elim
end
end K6

/-! ## S11 -/
namespace K6
open PySem PySem.Spec PyProof.Rows L2
structure Tq (K : PySem.W.Frag) (w : World) (mg : Str → Option Value) : Prop extends Tr K w mg where
  u_att : Mt K "attempt" "Studio.attempt" 45 7 (mt K "Studio" "attempt")
  u_attM : Meth K (ga K "Studio") "attempt" (mt K "Studio" "attempt")
/-- what a visit may do: M the old things that it writes -/
def AttMid (K : PySem.W.Frag) (x : Addr) (M : List Addr) (k : Str) (H1 H2 : Hp) : Prop := Gr (x :: M) H1 H2 ∧ Gx K H1 H2 ∧ ∃ dx d l, H2 x = some (.ins (cS K) dx (stf k d l))
/-- the studio is put back -/
def AttEnd (K : PySem.W.Frag) (x : Addr) (k : Str) (ts : Tm) (ss : List Sa) (H2 H3 : Hp) : Prop := (∀ b, b ≠ x → H3 b = H2 b) ∧ Gx K H2 H3 ∧ Std K H3 x k ts ss
def AttOut (K : PySem.W.Frag) (k : Str) (x : Addr) (M : List Addr) (ts : Tm) (ss : List Sa) (cs : List Ch) (spv : Sp) (H : Hp) (Q : VK) (E : XK) : Prop :=
  match runs ts cs with
  | .ok t' => ∀ H1 ns Q' E', IsSet ns (cs.map Ch.nm) → Gr [x] H H1 → Std K H1 x k t' (ss ++ [(("guest" : Str), ns, look ns ts)]) →
      (∀ r H2, AttMid K x M k H1 H2 → (∀ H3, AttEnd K x k ts ss H2 H3 → Q r H3) → Q' r H2) → (∀ C d H2, AttMid K x M k H1 H2 → (∀ H3, AttEnd K x k ts ss H2 H3 → E (.ref C) d H3) → E' (.ref C) d H2) → spv [.ref x] H1 Q' E'
  | .unk n => ∀ H3 d, Gr [x] H H3 → Std K H3 x k ts ss → H3 d = some (.xd [("name", .str n)]) → E (.ref (ga K "UnknownName")) (some d) H3
  | .lim => False
def spAtt (K : PySem.W.Frag) (spv : Sp) (fl : Addr) : Sp := fun vs H Q E => ∃ x ps cs k ts ss M, vs = .ref x :: .ref fl :: ps.map V.ref ∧ Std K H x k ts ss ∧ Wf ts ∧ Kind k ∧ ss.length ≤ 1000 ∧ cs ≠ [] ∧ cs.length ≤ 20 ∧
  Paired (fun q c => ChAt K H k q c ∧ ChOk c) ps cs ∧ (∀ m ∈ M, H m ≠ none) ∧ AttOut K k x M ts ss cs spv H Q E
section
variable {P : Program} {w : World} {K : PySem.W.Frag} {mg : Str → Option Value} {base : Heap}
abbrev N45_7 : List Str := ["self", "visit", "changes", "result"]
theorem sc45_7 : FnScope N45_7 ((["self", "visit"] : List Str) ++ (["changes"] : List Str)) (scU 7) := ⟨rfl, rfl, rfl, by decide +kernel, rfl, by decide +kernel, by decide +kernel⟩
theorem studio_attempt (T : Tq K w mg) {kl : Nat} {spv : Sp} {fl : Addr} {A : Around} {outer : List Env} {s : Shared} {H : Hp} {us : List Value} {vs : List V} {Q : VK} {E : XK} (hr : L2H.RoomH (kl + 10 + 1) A) (hh : A.handled = none) (e0 : Env0 P w K mg base A outer s H) (r : Vals vs us)
    (L : LamAt P w K mg base kl fl spv outer s H) (h : spAtt K spv fl vs H Q E) : codeAny (model P w) A (.call (.ref (mt K "Studio" "attempt")) ⟨us, []⟩) (CR (L2N.CX P w) outer P w H s Q E) s := by
  obtain ⟨fd, F⟩ := T.u_att
  obtain ⟨x, ps, cs, k, ts, ss, M, rfl, hS, hw, hk, hz, hne, hcl, hcs, hM, hO⟩ := h
  refine run_sb (N := N45_7) (ps := ["self", "visit"]) (pv := "changes") (ws := [.ref x, .ref fl]) (rest := ps.map V.ref) (k := kl + 10) F sc45_7
    (fun kV doc pm an cdv ct => StX.bind_star2 (p1 := "self") (p2 := "visit") (pv := "changes") (B := fun as => bindArgs (PySem.W.fnOf "attempt" "Studio.attempt" (defArgs (inClass (topS 45) 7)) (defBody (inClass (topS 45) 7)) (defScope (inClass (topS 45) 7)) .none kV doc pm an cdv ct) ⟨as, []⟩) (fun a b => rfl) (fun a b r rs => rfl))
    hr hh e0 r rfl ?_ ?_
  · rw [List.length_map, Paired.length hcs]
    exact szm (by omega)
  intro cdv s2 p hp un hq hr
  have g0 : Gr [] H (upd H p (.tup (ps.map V.ref))) := Gr.refl.new hp
  have L2 := L.on un g0.gx0
  have hp0 : (upd H p (.tup (ps.map V.ref))) p = some (.tup (ps.map V.ref)) := upd_same
  generalize hH0 : upd H p (.tup (ps.map V.ref)) = H0 at g0 L2 hp0 hq hr ⊢
  obtain ⟨dx, d, l, hx, hd, hl⟩ := hS
  have ct := T.tri.cl
  have cs' := T.stu.cl
  have hx0 := g0.at hx
  refine wb_cons (w_with rfl rfl takesQ hq ct T.r_enterM T.r_exitM (trial_enter T.toTr).calm (trial_exit T.toTr) (hr.mono (by omega)) (hr.mono (by omega)) ?_)
  refine w_make T.tri.mkr (trial_init T.toTr) hq (hr.mono (by omega)) T.tri.mg paF rfl (wa_cons (w_var 0 ⟨_, rfl, wa_nil fun y dy hy hdy hyne => ?_⟩))
  have hy1 : (upd H0 dy (.own y)) y = none := by rw [upd_ne (Ne.symm hyne)]; exact hy
  have ga : Gr [] H0 (upd (upd H0 dy (.own y)) y (.ins (cR K) dy [])) := (Gr.refl.new hdy).new hy1
  refine ⟨y, x, dy, rfl, upd_same, rfl, y, dy, _, rfl, upd_same, ?_⟩
  have nxy : x ≠ y := ne_of_none hx0 hy
  rw [upd_upd]
  have gb : Gr [] H0 (upd (upd H0 dy (.own y)) y (.ins (cR K) dy [("studio", .ref x), ("walks", .non), ("steps", .non)])) := (Gr.refl.new hdy).new hy1
  refine ⟨y, x, dy, dx, k, d, l, .non, .non, rfl, upd_same, gb.at hx0, ?_⟩
  rw [upd_upd]
  have gc : Gr [] H0 (upd (upd H0 dy (.own y)) y (.ins (cR K) dy [("studio", .ref x), ("walks", .ref d), ("steps", .ref l)])) := (Gr.refl.new hdy).new hy1
  have hy3 : (upd (upd H0 dy (.own y)) y (.ins (cR K) dy [("studio", .ref x), ("walks", .ref d), ("steps", .ref l)])) y = some (.ins (cR K) dy [("studio", .ref x), ("walks", .ref d), ("steps", .ref l)]) := upd_same
  generalize upd (upd H0 dy (.own y)) y (.ins (cR K) dy [("studio", .ref x), ("walks", .ref d), ("steps", .ref l)]) = H3 at gc hy3 ⊢
  intro pn xe hpn tk
  have g3 : Gr [] H H3 := g0.trans gc
  have hx3 := g3.at hx
  have hq' : Qk false ((cxQ P w K mg base N45_7 "Studio.attempt" (scU 7) (mt K "Studio" "attempt") cdv A outer s2 H0 E none).tr pn xe) := .inl rfl
  refine wb_cons (ws_expr (w_methSB (studio_make T.toTu) hq' (hr.mono (by omega)) cs' T.u_makeB (paT tk) (w_var 0 ⟨_, rfl, x, dx, _, rfl, hx3, rfl, fun u hu => ?_⟩)))
  obtain ⟨tg, hg⟩ := T.gstG
  refine w_glob (v := .str "guest") hg ⟨_, rfl⟩ rfl (w_var 2 ⟨_, rfl, p, ps.map V.ref, rfl, .inl (.inl ?_), upd_same, ?_⟩)
  · rw [upd_ne (ne_of_none (gc.at hp0) hu)]
    exact gc.at hp0
  have g4 : Gr [] H (upd H3 u (.met (mt K "Studio" "make") x)) := g3.new hu
  have hy4 : (upd H3 u (.met (mt K "Studio" "make") x)) y = some (.ins (cR K) dy [("studio", .ref x), ("walks", .ref d), ("steps", .ref l)]) := by rw [upd_ne (ne_of_none hy3 hu)]; exact hy3
  have ga4 : Gr [] H0 (upd H3 u (.met (mt K "Studio" "make") x)) := gc.new hu
  show spMake K (.ref x :: .str "guest" :: ps.map V.ref) (upd H3 u (.met (mt K "Studio" "make") x)) _ _
  generalize upd H3 u (.met (mt K "Studio" "make") x) = H4 at g4 hy4 ga4 ⊢
  have hx4 := g4.at hx
  refine ⟨x, "guest", k, ts, ss, ⟨dx, d, l, hx4, hd.gx g4.gx0, hl.gx g4.gx0⟩, by decide, hw, hk, hz, .inl ⟨ps, cs, rfl, hne, hcl, Paired.mapP hcs fun a b z => ⟨z.1.gx g4.gx0, z.2⟩, ?_⟩⟩
  -- what the end makes of a heap
  have nyM : y ∉ x :: M := by
    intro z
    rcases List.mem_cons.mp z with z | z
    · exact nxy z.symm
    · exact hM y z (g0.free y hy)
  have xSt : ∀ {H5 : Hp} {dx5 d5 l5 : Addr}, Gx K H H5 → H5 x = some (.ins (cS K) dx5 (stf k d5 l5)) → AttEnd K x k ts ss H5 (upd H5 x (.ins (cS K) dx5 (stf k d l))) := fun {H5 dx5 d5 l5} g h5 => by
    have g6 : Gx K H5 (upd H5 x (.ins (cS K) dx5 (stf k d l))) := Gx.refl.fld h5 rfl
    exact ⟨fun b hb => upd_ne hb, g6, dx5, d, l, upd_same, hd.gx (g.trans g6), hl.gx (g.trans g6)⟩
  unfold AttOut at hO
  unfold MkOut
  cases hrun : runs ts cs with
  | lim =>
    rw [hrun] at hO
    exact hO.elim
  | unk n =>
    rw [hrun] at hO
    intro H5 d5 g5 hd5
    have hx5 := g5.at hx4
    have hy5 := g5.at hy4
    refine ⟨_, rfl, fun a t ha => ⟨y, x, dy, dx, k, d, l, d, l, _, _, _, rfl, hy5, hx5, ?_⟩⟩
    refine ⟨rfl, hO _ d5 (((g4.trans g5).up).put (.inr (by simp))) (xSt (g4.trans g5).gx0 hx5).2.2 ?_⟩
    rw [upd_ne]
    · exact hd5
    · rintro rfl
      rw [hx5] at hd5
      cases hd5
  | ok t' =>
    rw [hrun] at hO
    intro H5 ns hns g5 hS5
    have gx45 : Gx K H4 H5 := g5.gx fun a ha o e m => by
      rw [List.mem_singleton.mp ha, hx4] at e
      cases e
      have m' : false = true := m
      cases m'
    have gx5 : Gx K H H5 := g4.gx0.trans gx45
    have hy5 : H5 y = some (.ins (cR K) dy [("studio", .ref x), ("walks", .ref d), ("steps", .ref l)]) := g5.keep _ _ (by simp [Ne.symm nxy]) hy4
    refine wb_one (ws_set 3 sc45_7.nd (w_told L2 rfl rfl rfl rfl (hr.mono (by omega)) (paT tk) (w_var 1 ⟨_, rfl, rfl, wa_cons (w_var 0 ⟨_, rfl, wa_nil ⟨ga4.gx0.trans gx45, ?_⟩⟩)⟩)))
    refine hO H5 ns _ _ hns (g4.up.trans g5) hS5 (fun r H6 hm hQ => ?_) (fun C d6 H6 hm hE => ?_)
    · obtain ⟨g6, gx6, dx6, d6, l6, hx6⟩ := hm
      refine ⟨y, x, dy, dx6, k, d, l, d6, l6, _, _, _, rfl, g6.keep _ _ nyM hy5, hx6, ?_⟩
      exact wb_one (ws_ret (w_var 3 ⟨_, rfl, hQ _ (xSt (gx5.trans gx6) hx6)⟩))
    · obtain ⟨g6, gx6, dx6, d6', l6, hx6⟩ := hm
      refine ⟨_, rfl, fun a t ha => ⟨y, x, dy, dx6, k, d, l, d6', l6, _, _, _, rfl, g6.keep _ _ nyM hy5, hx6, rfl, hE _ (xSt (gx5.trans gx6) hx6)⟩⟩
end
end K6

/-! ## KY4 -/
namespace K6
open PySem PySem.Spec PyProof.Rows L2
open LamX (CodeO TabS TabB inv_table among_app)
/-! ### a lambda of one parameter: its making -/
section
variable {X : Cx} {pins : List (Addr × Obj)} {σ : St} {H : Hp} {s : Shared}
abbrev lamQ (X : Cx) : Str := X.env.qual ++ "<lambda>"
abbrev lamOb (X : Cx) (params : Arguments) (body : Expr) (scope : Scope) (pm : Value) (c' : Addr) (ctv : Value) : Obj := PySem.W.kla_obj "<lambda>" (lamQ X) params body scope (cloFrom X.env.cells scope.names []) pm c' ctv
theorem codeO_pm {K : PySem.W.Frag} (c : Addr) (q : Str) : Pm K (CodeO c q) := by unfold CodeO; trivial
theorem TabS.gx {K : PySem.W.Frag} {H H1 : Hp} {P : Addr} {q : Str} (t : TabS H P q) (g : Gx K H H1) (e : H1 P = H P) : TabS H1 P q := by
  obtain ⟨ps, h1, h2, h3⟩ := t
  refine ⟨ps, e.trans h1, h2, fun pos cv hc => ?_⟩
  obtain ⟨c, e1, e2⟩ := h3 pos cv hc
  exact ⟨c, e1, g.keep _ _ (codeO_pm c q) e2⟩
theorem lam_mk {c P : Addr} {params : Arguments} {body : Expr} {scope : Scope} {pos : Pos} {E : Value → Shared → Prop} {Q : Value → Shared → Prop} (I : Inv X pins σ H s) (TB : TabB X.base X.mg c P) (hcode : X.env.code = .ref c)
    (hT : TabS H P (lamQ X)) (hdef : defaultsOf params X.env = ([], [])) (hfree : ∀ y ∈ scope.names, y.2 = .free → ∃ c, X.env.cells.lookup y.1 = some c)
    (h : ∀ (f c' : Addr) (pm ctv : Value) (H1 : Hp) (s' : Shared), Inv X pins σ H1 s' → Gr [P] H H1 → TabS H1 P (lamQ X) →
      s'.heap.get? f = some (lamOb X params body scope pm c' ctv) → H1 f = none → f ∉ frs X.stack → f ≠ X.env.locals → f ∉ X.fs → H1 c' = some (CodeO c' (lamQ X)) → Q (.ref f) s') :
    wpAny (model X.prog X.w) X.A (eval (.Lambda params body scope pos) X.env) Q E s := by
  obtain ⟨ps, hP, ht, ha⟩ := hT
  refine PySem.W.kla_eval hdef ?_
  have bP : s.heap.BuiltinsAt X.mg P := TB.bm.keeps I.bk
  have hP' : s.heap.get? P = some { cls := .none, data := .fields ps } := I.hok P _ hP
  have nL : ∀ f, s.heap.objs.size ≤ f → f ≠ X.env.locals := fun f hf e => by
    have h1 := I.lt
    rw [← e] at h1
    exact Nat.lt_irrefl _ (Nat.lt_of_lt_of_le h1 hf)
  have nofr : ∀ f, s.heap.objs.size ≤ f → f ∉ frs X.stack := fun f hf z => by
    rcases List.mem_cons.mp (I.stkSub _ z) with e | e
    · exact nL f hf e
    · exact I.nofs hf e
  cases hc : codeAmong pos ps.toList with
  | none =>
    refine PySem.W.kla_makeFunction (mg := X.mg) (c := c) (P := P) (ps := ps) (closure_ok hfree) I.ok.glob (I.mod.glob.keeps I.bk) hcode (TB.code.keeps I.bk) hP' ht hc TB.gP bP fun c' ctv h' tk hx hge hlt hrec htb => ?_
    obtain ⟨c2, oc, vs, t, e2, hoc, hd, hv⟩ := hrec
    cases e2
    have hsz : s.heap.objs.size ≤ h'.objs.size := Nat.le_trans hge (Nat.le_of_lt hlt)
    have nC : H c' = none := I.hok.fresh hge
    have nPc : P ≠ c' := ne_of_none hP nC
    have I1 := inv_table (t' := tk) (more := #[rawInt pos.line, rawInt pos.col, .ref c']) (h' := h'.push (lamOb X params body scope ((X.mg "__name__").getD .none) c' ctv)) I hP
      (fun b o hb e => Heap.get?_push_of_some _ (hx b o hb e)) (Heap.get?_push_of_some _ htb) hge ⟨oc, vs, t, Heap.get?_push_of_some _ hoc, hd, hv⟩
    have gE : Gr [P] H (upd (upd H P (.tbl (ps ++ #[rawInt pos.line, rawInt pos.col, .ref c']))) c' (CodeO c' (lamQ X))) := (Gr.refl.put (.inr (by simp))).new (by rw [upd_ne (Ne.symm nPc)]; exact nC)
    have eL : (ps ++ #[rawInt pos.line, rawInt pos.col, .ref c']).toList = ps.toList ++ [rawInt pos.line, rawInt pos.col, .ref c'] := by simp
    refine h h'.objs.size c' ((X.mg "__name__").getD .none) ctv _ _ I1 gE ⟨_, by rw [upd_ne nPc, upd_same], by rw [eL]; exact PySem.TriplesOk_snoc _ _ _ _ ht, fun p' cv hcv => ?_⟩ (Heap.get?_push_size _ rfl) ?_ (nofr _ hsz) (nL _ hsz) (I.nofs hsz) upd_same
    · rw [eL] at hcv
      rcases among_app _ ht hcv with z | z
      · obtain ⟨c0, e1, e2⟩ := ha p' cv z
        have n0 : c0 ≠ P := fun z => by
          rw [z, hP] at e2
          exact (LamX.codeO_ne ps (Option.some.inj e2).symm)
        exact ⟨c0, e1, gE.keep _ _ (by simp [n0]) e2⟩
      · exact ⟨c', z, upd_same⟩
    · have n1 : h'.objs.size ≠ c' := Nat.ne_of_gt hlt
      have n2 : h'.objs.size ≠ P := Nat.ne_of_gt (Nat.lt_of_lt_of_le (Heap.lt_size hP') hsz)
      rw [upd_ne n1, upd_ne n2]
      exact I.hok.fresh hsz
  | some cv =>
    obtain ⟨c', e, hco⟩ := ha pos cv hc
    subst e
    refine PySem.W.kla_makeFunctionHit (mg := X.mg) (c := c) (P := P) (ps := ps) (closure_ok hfree) I.ok.glob (I.mod.glob.keeps I.bk) hcode (TB.code.keeps I.bk) hP' ht hc bP fun ctv h' tk hx hsz => ?_
    have I1 : Inv X pins σ H { s with heap := h'.push (lamOb X params body scope ((X.mg "__name__").getD .none) c' ctv), toks := tk } := I.kept fun b o e => Heap.get?_push_of_some _ (hx b o e)
    exact h h'.objs.size c' ((X.mg "__name__").getD .none) ctv H _ I1 Gr.refl ⟨ps, hP, ht, ha⟩ (Heap.get?_push_size _ rfl) (I.hok.fresh hsz) (nofr _ hsz) (nL _ hsz) (I.nofs hsz) hco
end
/-! ### its body -/
structure LamS1 (p : Str) (N : List Str) (sc scope : Scope) : Prop where
  kind : scope.kind = .function
  co : scope.isCoroutine = false
  gen : scope.isGenerator = false
  par : scope.names.lookup p = some .local
  own : ∀ y ∈ scope.names, y.2 ≠ .cell ∧ (y.2 = .local → y.1 = p)
  free : ∀ y ∈ scope.names, y.2 = .free → sc.names.lookup y.1 = some .cell ∨ sc.names.lookup y.1 = some .free
  np : p ∉ N
def lamB1 (p : Str) (N : List Str) (sc scope : Scope) : Bool :=
  decide (scope.kind = .function) && !scope.isCoroutine && !scope.isGenerator && decide (scope.names.lookup p = some .local) && (scope.names.all fun y => !decide (y.2 = .cell) && (!decide (y.2 = .local) || decide (y.1 = p)) && (!decide (y.2 = .free) || decide (sc.names.lookup y.1 = some .cell) || decide (sc.names.lookup y.1 = some .free))) && !decide (p ∈ N)
theorem lamS1_by {p : Str} {N : List Str} {sc scope : Scope} (h : lamB1 p N sc scope = true) : LamS1 p N sc scope := by
  unfold lamB1 at h
  simp only [Bool.and_eq_true, Bool.or_eq_true, Bool.not_eq_true', decide_eq_true_eq, decide_eq_false_iff_not, List.all_eq_true] at h
  obtain ⟨⟨⟨⟨⟨h1, h2⟩, h3⟩, h4⟩, h5⟩, h6⟩ := h
  refine ⟨h1, h2, h3, h4, fun y hy => ⟨(h5 y hy).1.1, fun e => ?_⟩, fun y hy e => ?_, h6⟩
  · rcases (h5 y hy).1.2 with z | z
    · exact absurd e z
    · exact z
  · rcases (h5 y hy).2 with (z | z) | z
    · exact absurd e z
    · exact .inl z
    · exact .inr z
theorem LamS1.has {p : Str} {X : Cx} {scope : Scope} (L : LamS1 p X.N X.env.scope scope) (ok : X.Ok) : ∀ y ∈ scope.names, y.2 = .free → ∃ c, X.env.cells.lookup y.1 = some c := fun y hy e => by
  rcases L.free y hy e with k | k
  · exact ok.has _ (.inl k)
  · exact ok.has _ (.inr k)
abbrev lamE (X : Cx) (scope : Scope) (L f c' : Addr) : Env := PySem.W.envX (lamQ X) scope L f (.ref c') (cloFrom X.env.cells scope.names [])
/-- the context of the body, entered at s from the frames outer -/
def lamC (X : Cx) (A : Around) (outer : List Env) (s : Shared) (H : Hp) (E : XK) (scope : Scope) (f c' : Addr) (p : Str) : Cx where
  prog := X.prog
  w := X.w
  K := X.K
  mg := X.mg
  base := X.base
  A := A.deeper (lamE X scope s.heap.objs.size f c')
  N := X.N ++ [p]
  s_0 := s
  H_0 := H
  env := lamE X scope s.heap.objs.size f c'
  outer := outer
  stack := lamE X scope s.heap.objs.size f c' :: outer
  ex := []
  fn := fun _ => false
  calm := true
  pn := []
  xe := fun e s' => wpAny (model X.prog X.w) (A.deeper (lamE X scope s.heap.objs.size f c')) (leaving (lamE X scope s.heap.objs.size f c') e) (fun _ s'' => L2N.CX X.prog X.w outer H s E e s'') (fun e' s'' => L2N.CX X.prog X.w outer H s E e' s'') s'
theorem takesL {X : Cx} {A : Around} {outer : List Env} {s : Shared} {H : Hp} {E : XK} {scope : Scope} {f c' : Addr} {p : Str} : L2N.Takes (lamC X A outer s H E scope f c' p) (fun cls d _ H => E cls d H) := L2N.takes_of rfl rfl rfl rfl
section
variable {X : Cx} {pins : List (Addr × Obj)} {σ : St} {H HZ : Hp} {s s1 : Shared}
theorem lam_start {A : Around} {outer : List Env} {E : XK} {scope : Scope} {f c' : Addr} {h₁ : Heap} {tk : Nat} {p : Str} {v : V} {u : Value} (I : Inv X pins σ H s) (L : LamS1 p X.N X.env.scope scope) (e0 : Env0 X.prog X.w X.K X.mg X.base A outer s1 HZ) (hd : A.handled = none)
    (un : Un (frs X.stack) [] H HZ s.heap s1.heap) (rv : RelV v u) (hns : h₁.Ns s1.heap.objs.size fun y => ([(p, u)] : List (Str × Value)).reverse.lookup y) (kp : ∀ b o, s1.heap.get? b = some o → h₁.get? b = some o) :
    Inv (lamC X A outer s1 HZ E scope f c' p) [] (σ ++ [some v]) HZ { s1 with heap := h₁, toks := tk } := by
  have hfree := L.has I.ok
  have cm : ∀ {y c}, (cloFrom X.env.cells scope.names []).lookup y = some c → X.env.cells.lookup y = some c := fun {y c} e => by
    rcases cloFrom_mem (PySem.mem_of_lookup e) with hm | ⟨h1, h2⟩
    · cases hm
    · obtain ⟨c1, hc⟩ := hfree _ h1 rfl
      have hc : X.env.cells.lookup y = some c1 := hc
      have e2 : c = c1 := by
        rw [h2, hc] <;> rfl
      rw [e2]
      exact hc
  have look : ∀ {y}, scope.names.lookup y = some .free → ∃ c, (cloFrom X.env.cells scope.names []).lookup y = some c := fun {y} hl => by
    have hy : (y, NameKind.free) ∈ scope.names := PySem.mem_of_lookup hl
    exact mem_lookup (cloFrom_has (cells := X.env.cells) (acc := []) hy)
  have cellK : ∀ {c : Addr} {v : Option Value}, H c = none → s.heap.IsCell c v → h₁.IsCell c v := fun {c v} n ⟨o, ho, hd⟩ => by
    obtain ⟨sl, q⟩ := un.any ho n (by simp)
    exact ⟨_, kp _ _ q, hd⟩
  have noA : ∀ b : Addr, b ∉ (lamC X A outer s1 HZ E scope f c' p).ex := fun b z => absurd (show b ∈ ([] : List Addr) from z) (by simp)
  refine ⟨⟨e0.mod, L.kind, rfl, rfl, Nat.le_refl _, fun y z c e1 e2 => I.ok.inj y z c (cm e1) (cm e2), fun y hy => ?_, fun y c z _ => ?_, fun _ => hd, Around.frames_deeper e0.frames, .inr ⟨rfl, rfl⟩, fun b z => absurd z (noA b), e0.bs, e0.bsz, fun b _ _ => noA b,
      fun b z => absurd z (noA b), e0.funs, e0.frf⟩,
    rfl, e0.bare, Un.kept kp, ⟨_, hns, fun i y v' e1 e2 e3 => ?_⟩, fun y c e => ?_, e0.hok.fresh (Nat.le_refl _), fun y c e => ?_, fun q hq => absurd (show q ∈ ([] : List (Addr × Obj)) ++ [] from hq) (by simp), e0.hok.kept kp, ?_⟩
  · have hy : scope.names.lookup y = some .cell ∨ scope.names.lookup y = some .free := hy
    rcases hy with hy | hy
    · exact absurd rfl (L.own _ (PySem.mem_of_lookup hy)).1
    · exact look hy
  · have z : false = true := z
    cases z
  · have e1 : (X.N ++ [p])[i]? = some y := e1
    have e2 : (σ ++ [some v])[i]? = some (some v') := e2
    have e3 : Vis scope y := e3
    by_cases hi : i < X.N.length
    · rw [List.getElem?_append_left hi] at e1
      rw [List.getElem?_append_left (by rw [I.len]; exact hi)] at e2
      have nyp : y ≠ p := fun z => L.np (z ▸ List.mem_of_getElem? e1)
      rcases e3 with k | k | k
      · exact absurd ((L.own _ (PySem.mem_of_lookup k)).2 rfl) nyp
      · exact absurd rfl (L.own _ (PySem.mem_of_lookup k)).1
      · obtain ⟨m, hn, hl⟩ := I.loc
        have hvis : Vis X.env.scope y := (L.free _ (PySem.mem_of_lookup k) rfl).elim (fun k => .inr (.inl k)) (fun k => .inr (.inr k))
        obtain ⟨w', r, q⟩ := hl i y v' e1 e2 hvis
        obtain ⟨c2, h2⟩ := look k
        refine ⟨w', r, .inr ⟨.inr k, c2, h2, ?_⟩⟩
        have c1 := cm h2
        rcases q with ⟨k', _⟩ | ⟨_, c3, e', z⟩
        · have k' : X.env.scope.names.lookup y = some .local := k'
          rcases L.free _ (PySem.mem_of_lookup k) rfl with k2 | k2 <;> rw [show X.env.scope.names.lookup y = _ from k2] at k' <;> cases k'
        · rw [c1] at e'
          cases e'
          exact cellK (I.freeC y _ c1) z
    · have hi' : i = X.N.length := by
        have := (List.getElem?_eq_some_iff.mp e1).1
        rw [List.length_append, List.length_singleton] at this
        omega
      subst hi'
      rw [List.getElem?_append_right (Nat.le_refl _), Nat.sub_self] at e1
      rw [List.getElem?_append_right (by rw [I.len]; exact Nat.le_refl _), I.len, Nat.sub_self] at e2
      obtain rfl : p = y := Option.some.inj e1
      obtain rfl : v = v' := Option.some.inj (Option.some.inj e2)
      exact ⟨u, rv, .inl ⟨L.par, by show ([(p, u)] : List (Str × Value)).reverse.lookup p = _; simp⟩⟩
  · obtain ⟨w', z⟩ := I.cell y c (cm e)
    exact ⟨w', cellK (I.freeC y c (cm e)) z⟩
  · obtain ⟨v, o, ho, hd⟩ := I.cell y c (cm e)
    exact un.free c o ho (I.freeC y c (cm e)) (by simp)
  · show (σ ++ [some v]).length = (X.N ++ [p]).length
    rw [List.length_append, List.length_append, I.len] <;> rfl
/-- what the lambda, made by X, keeps -/
theorem lam_at {k : Nat} {spv : Sp} {scope : Scope} {f c' : Addr} {p : Str} {params : Arguments} {body : Expr} {pm ctv : Value} (I : Inv X pins σ H s) (L : LamS1 p X.N X.env.scope scope) (ho : s.heap.get? f = some (lamOb X params body scope pm c' ctv)) (hn : H f = none) (nf : f ∉ frs X.stack)
    (hco : H c' = some (CodeO c' (lamQ X))) (hbind : ∀ (pm cv ctv u : Value), bindArgs (PySem.W.kla_fn "<lambda>" (lamQ X) params body scope (cloFrom X.env.cells scope.names []) pm cv ctv) ⟨[u], []⟩ = pure [(p, u)])
    (hlen : ∀ vs H Q E, spv vs H Q E → ∃ v, vs = [v])
    (hbody : ∀ (A : Around) (outer : List Env) (s1 : Shared) (H1 : Hp) (v : V) (Q : VK) (E : XK), L2H.RoomH k (lamC X A outer s1 H1 E scope f c' p).A → Gx X.K H H1 → spv [v] H1 Q E → wE (lamC X A outer s1 H1 E scope f c' p) body (σ ++ [some v]) H1 Q) :
    LamAt X.prog X.w X.K X.mg X.base (k + 1) f spv X.stack s H := by
  refine ⟨⟨_, _, _, _, ho⟩, hn, nf, fun A outer' s1 H1 us vs Q E hr hh e0 un g r hs => ?_⟩
  obtain ⟨v, rfl⟩ := hlen _ _ _ _ hs
  cases r with
  | @cons _ u _ us' rv rn =>
  cases rn
  have of1 : s1.heap.get? f = some (lamOb X params body scope pm c' ctv) := un.keep f _ ho hn nf (by simp)
  obtain ⟨⟨oc, vs, t, hoc, hdc, hvc⟩, _, _⟩ := e0.hok c' _ (g.keep _ _ (codeO_pm c' _) hco)
  refine PySem.W.kla_callFunE hr.depth of1 rfl L.co L.gen rfl ⟨c', oc, vs, t, rfl, hoc, hdc, hvc⟩ ?_
  rw [hbind]
  have lim : s1.heap.NoLimit := e0.mod.nolimit.keeps fun b o e => (e0.bs b o e).1
  refine wpAny_pure (wpAny_newFunctionEnv (fun y hy => (L.own y hy).1) (fun y hy => ?_) (fun h₁ hns hsb => ⟨lim.fresh _ hsb, ?_⟩) L.kind)
  · rw [List.mem_singleton.mp hy]
    exact L.par
  show codeAny _ _ (.expr body (lamE X scope s1.heap.objs.size f c')) _ _
  have kp : ∀ b o, s1.heap.get? b = some o → h₁.get? b = some o := fun b o e => hsb.extBut b o (Nat.ne_of_lt (Heap.lt_size e)) (Heap.get?_push_of_some _ e)
  have J : Inv (lamC X A outer' s1 H1 E scope f c' p) [] (σ ++ [some v]) H1 { s1 with heap := h₁, toks := s1.toks + ([(p, u)] : List (Str × Value)).length } := lam_start I L e0 hh un rv hns kp
  refine PySem.W.kla_codeExpr (wpAny_mono (hbody A outer' s1 H1 v Q E (hr.deeper _) g hs [] _ J) (fun v s' hq => ?_) fun e s' hq => hq)
  obtain ⟨w', H', J', rv, q⟩ := hq
  exact ⟨w', H', J'.os, J'.bare, J'.base, J'.hok, rv, q⟩
end
end K6

/-! ## KY5 -/
namespace K6
open PySem PySem.Spec PyProof.Rows L2
open LamX (CodeO TabS TabB)
section
variable {X : Cx} {pins : List (Addr × Obj)} {σ : St} {H : Hp} {s : Shared}
theorem Inv.pinAdd (I : Inv X pins σ H s) {f : Addr} {o : Obj} (h : s.heap.get? f = some o) (hn : H f = none) (nL : f ≠ X.env.locals) (nF : f ∉ X.fs) (nc : ∀ v, o.data ≠ .cell v) : Inv X ((f, o) :: pins) σ H s :=
  ⟨I.ok, I.os, I.bare, I.base, I.loc, I.cell, I.free, I.freeC, fun p hp => by
    rcases List.mem_append.mp hp with hp | hp
    · exact I.pin p (List.mem_append_left _ hp)
    · rcases List.mem_cons.mp hp with e | hp
      · rw [e]; exact ⟨h, hn, nL, nF, nc⟩
      · exact I.pin p (List.mem_append_right _ hp), I.hok, I.len⟩
theorem Inv.pinDrop {p : Addr × Obj} (I : Inv X (p :: pins) σ H s) : Inv X pins σ H s :=
  ⟨I.ok, I.os, I.bare, I.base, I.loc, I.cell, I.free, I.freeC, fun q hq => by
    rcases List.mem_append.mp hq with hq | hq
    · exact I.pin q (List.mem_append_left _ hq)
    · exact I.pin q (List.mem_append_right _ (List.mem_cons_of_mem _ hq)), I.hok, I.len⟩
end
section
variable {X : Cx} {σ : St} {H : Hp} {k : Nat} {c P : Addr} {spv : Sp} {E : XK} {Q : VK} {p : Str} {o body : Expr} {params : Arguments} {scope : Scope} {es : List Expr} {apos pos lpos : Pos}
/-- o.attempt(lambda p: body, e, ..) -/
theorem w_att {pl : Sem Bool} (T : Tq X.K X.w X.mg) (hq : X.calm = true) (hr : L2H.RoomH (k + 1 + 10 + 1) X.A) (hx : PaX X σ E) (TB : TabB X.base X.mg c P) (hcode : X.env.code = .ref c) (L : LamS1 p X.N X.env.scope scope)
    (hbody : ∀ (A : Around) (outer : List Env) (s1 : Shared) (f c' : Addr) (H1 : Hp) (v : V) (Q : VK) (E : XK), L2H.RoomH k (lamC X A outer s1 H1 E scope f c' p).A → spv [v] H1 Q E → wE (lamC X A outer s1 H1 E scope f c' p) body (σ ++ [some v]) H1 Q)
    (hlen : ∀ vs H Q E, spv vs H Q E → ∃ v, vs = [v])
    (hw : wE X o σ H fun v H1 => ∃ x dx fs, v = .ref x ∧ H1 x = some (.ins (cS X.K) dx fs) ∧ fs.lookup ("attempt" : Str) = none ∧ TabS H1 P (lamQ X) ∧ ∀ H2 fl, Gr [P] H1 H2 → TabS H2 P (lamQ X) → wA X es σ H2 fun vs H3 => Gr [] H2 H3 ∧ spAtt X.K spv fl (.ref x :: .ref fl :: vs) H3 Q E)
    (hdef : defaultsOf params X.env = ([], []) := by rfl)
    (hbind : ∀ (pm cv ctv u : Value), bindArgs (PySem.W.kla_fn "<lambda>" (lamQ X) params body scope (cloFrom X.env.cells scope.names []) pm cv ctv) ⟨[u], []⟩ = pure [(p, u)] := by exact fun _ _ _ _ => rfl)
    (hst : starEach (.Lambda params body scope lpos :: es) X.env = (false, eval (.Lambda params body scope lpos) X.env) :: starEach es X.env := by rfl) (hpl : (backTo pos (starEach es X.env)).any (·.1) = false := by rfl)
    (ht : eval (.Call (.Attribute o "attempt" apos) (.Lambda params body scope lpos :: es) [] pos) X.env = (do
      let ov ← eval o X.env
      standAt apos.atName
      let (f, first) ← holding [ov] (getMethod ov "attempt" pl)
      callWith pos f first (backTo pos (starEach (.Lambda params body scope lpos :: es) X.env)) (backToKw pos (keywordEach [] X.env))) := by rfl) :
    wE X (.Call (.Attribute o "attempt" apos) (.Lambda params body scope lpos :: es) [] pos) σ H Q := fun pins s I => by
  refine PySem.W.methodCall_KW (pl := pl) (thn (hw pins s I) fun u s1 ⟨v, H1, I1, rx, x, dx, fs, ex, ea, l, hT, z⟩ => ?_) ht
  subst ex
  obtain rfl : u = Value.ref x := rx
  refine getmeth_ok I1 ea T.stu.cl T.u_attM l ?_
  refine PySem.W.callWith_K (first := [.ref x]) (h₀ := X.base) I1.ok.mod.kin T.u_attM.kp ?_ hst hpl
  rw [hst]
  show wpAny _ _ (spliced ((false, eval (.Lambda params body scope lpos) X.env) :: backTo pos (starEach es X.env))) _ _ s1
  refine Calls.spliced_cons (lam_mk I1 TB hcode hT hdef (L.has I1.ok) fun f c' pm ctv H2 s2 I2 g2 T2 hf hfn hfr hfL hfF hco => ?_)
  have I2' := Inv.pinAdd I2 hf hfn hfL hfF (fun v z => by cases z)
  refine thn (z H2 f g2 T2 pos _ s2 I2') fun us s3 ⟨vs, H3, I3, r3, g3, z3⟩ => ⟨I3.kIn, ?_⟩
  have P3 := I3.pin (f, lamOb X params body scope pm c' ctv) (List.mem_append_right _ List.mem_cons_self)
  have LA := lam_at (k := k) (spv := spv) I3 L P3.1 P3.2.1 hfr (g3.at hco) hbind hlen fun A outer s1 H1 v Q E hr _ h => hbody A outer s1 f c' H1 v Q E hr h
  have e0 : Env0 X.prog X.w X.K X.mg X.base X.A X.stack s3 H3 := ⟨I3.ok.frames, I3.ok.mod, I3.bs, Nat.le_trans I3.ok.bsz I3.sz, I3.stack, I3.stkFree, I3.hok, I3.bare⟩
  have I4 := Inv.pinDrop I3
  refine wpAny_call (codeAny_mono (studio_attempt (us := .ref x :: .ref f :: us) (vs := .ref x :: .ref f :: vs) T hr (I3.ok.hd hq) e0 (.cons rfl (.cons rfl r3)) LA z3) fun r s' hq => ?_)
  cases r with
  | error e => exact hx pins H3 s3 e s' I4 hq
  | ok fl =>
    cases fl with
    | ret u => exact I4.after hq
    | next => exact hq.elim
    | brk => exact hq.elim
    | cont => exact hq.elim
end
end K6

/-! ## KY6 -/
namespace K6
open PySem PySem.Spec PyProof.Rows L2
/-! ### try: body, several except x as n: suite -/
def clD (i : Nat) (D : Ends) : Ends := { nx := fun σ' H' => D.nx (σ'.set i none) H', rt := D.rt, bk := fun σ' H' => D.bk (σ'.set i none) H', ct := fun σ' H' => D.ct (σ'.set i none) H' }
/-- what the clauses ask of an exception -/
def wCl (X : Cx) (Wout : WX) (D : Ends) : List (Value × Nat × List Stmt) → WX
  | [] => Wout
  | (c, i, su) :: l => fun cls d σ H => ∃ b, PySem.W.exmOne X.K cls c = some b ∧
      (b = true → ∀ (a : Addr) (oe : Obj) (pn : List (Addr × Obj)), H a = none → L2N.Zn cls d oe → (∃ vs, oe.data = .fields vs) → (∀ p ∈ X.pn, p ∈ pn) → wB (X.suite a ((a, oe) :: pn)) su (clD i D) (σ.set i (some (.ref a))) H) ∧
      (b = false → wCl X Wout D l cls d σ H)
inductive HdsC (X : Cx) : List ExceptHandler → List (Value × Nat × List Stmt) → Prop
  | nil : HdsC X [] []
  | cons {x n : Str} {c : Value} {i : Nat} {b₀ : Stmt} {suite : List Stmt} {np pos' : Pos} {hds : List ExceptHandler} {l : List (Value × Nat × List Stmt)} (hc : Names X x c) (hi : X.N[i]? = some n) (hln : X.env.kindOf n = some .local) (r : HdsC X hds l) :
      HdsC X (.ExceptHandler (some (.Name x np)) (some n) (b₀ :: suite) pos' :: hds) ((c, i, b₀ :: suite) :: l)
section
variable {X : Cx} {σ : St} {H : Hp} {body : List Stmt} {h₀ : ExceptHandler} {hds : List ExceptHandler} {l : List (Value × Nat × List Stmt)} {pos : Pos} {D : Ends} {Wout : WX}
theorem w_try (hs : X.stack = X.env :: X.outer) (hf : X.env.frame = some X.env.locals) (hN : X.N.Nodup) (tk : L2N.Takes X Wout) (hh : HdsC X (h₀ :: hds) l)
    (hb : ∀ (pn : List (Addr × Obj)) (xe : Value → Shared → Prop), (∀ p ∈ X.pn, p ∈ pn) → L2N.Takes (X.tr pn xe) (wCl X Wout D l) → wB (X.tr pn xe) body D σ H) : wS X (.Try body (h₀ :: hds) [] [] pos) D σ H := by
  intro pins s I
  have ok := I.ok
  have hfr : X.A.frames = some (X.env :: X.outer) := by rw [ok.frames, hs]
  refine wpAny_Try_except ?_
  refine wpAny_mono (hb (X.pn ++ pins) (fun e s₁ => wpAny (model X.prog X.w) X.A (noteFrame e X.env) (fun _ s₂ => wpAny (model X.prog X.w) X.A (setFlight e none) (fun _ s₃ =>
    wpAny (model X.prog X.w) X.A (handleBy e X.env (h₀ :: hds)) (SP X pins D) X.xe s₃) X.xe s₂) X.xe s₁) (fun p hp => List.mem_append_left _ hp) (fun u s' xx => ?_) [] s (I.toTry _)) (fun f s1 hsp => ?_) (fun e s1 he => he)
  · obtain ⟨a, B, sI, pins', σ', H', cls, d, rfl, J', nb, up, sky, na, os, ag, w⟩ := xx
    have J : Inv X pins σ' H' sI := J'.ofTry ok
    have sky' : L2.Sky B (X.env :: X.outer) a (L2N.Zn cls d) X.env.locals s'.heap := by rw [← hs]; exact sky
    show wpAny (model X.prog X.w) X.A (noteFrame (.ref a) X.env) _ _ _
    refine L2N.Sky.land L2N.Zn.steady hfr hf sky' fun h3 fl3 up3 => ?_
    have J3 : Inv X pins σ' H' { s' with heap := h3 } := J.landed nb fl3.1 (up.trans up3) os ag
    obtain ⟨oe3, vs3, he3, hz3, hd3⟩ := fl3.there
    have notFr : ∀ {h : Heap} {o : Obj} {vs : Array Value}, h.FunFrames B (X.env :: X.outer) → h.get? a = some o → o.data = .fields vs → a ∉ frs (X.env :: X.outer) := fun {h o vs} ff e dd hm => by
      obtain ⟨_, o', e', hnf⟩ := ff.mem hm
      rw [e] at e'; cases e'
      exact hnf _ dd
    have nfr := notFr fl3.2.2.1 he3 hd3
    have nL : a ≠ X.env.locals := fun z => nfr (List.mem_filterMap.mpr ⟨X.env, List.mem_cons_self, by rw [hf, z]⟩)
    have nF : a ∉ X.fs := fun hm => by
      obtain ⟨e, he, q⟩ := List.mem_filterMap.mp hm
      exact nfr (List.mem_filterMap.mpr ⟨e, List.mem_cons_of_mem _ he, q⟩)
    have S3 := J3.suite he3 hd3 na nL nF
    have hsk : ∀ {B0 : Heap} {h4 : Heap}, HandSPX.HeldZ B0 (X.env :: X.outer) a (L2N.Zn cls d) X.env.locals h4 → HandSPX.HeldZ B0 X.stack a (L2N.Zn cls d) X.env.locals h4 := fun z => by rw [hs]; exact z
    have go : ∀ {hds' : List ExceptHandler} {l' : List (Value × Nat × List Stmt)}, HdsC X hds' l' → wCl X Wout D l' cls d σ' H' →
        wpAny (model X.prog X.w) X.A (handleBy (.ref a) X.env hds') (SP X pins D) X.xe { s' with heap := h3 } := by
      intro hds' l' hk
      induction hk with
      | nil =>
        intro w
        refine wpAny_handleBy_nil ?_
        obtain ⟨k1, k2, k3, oe, vs, T, oT, ts', he, hz, hd, h1, hr⟩ := id fl3
        unfold PySem.passOn
        refine wpAny_bind (wpAny_field he hd h1 ?_)
        rw [if_neg (show ¬ ((Value.ref T == Value.none) = true) from by simp)]
        have fin : wpAny (model X.prog X.w) X.A (setFlight (.ref a) X.env.frame) (fun _ s4 => wpAny (model X.prog X.w) X.A (throw (.ref a) : Sem Flow) (SP X pins D) X.xe s4) X.xe { s' with heap := h3 } := by
          rw [hf]
          refine HandSPX.setFlight_upZ fl3 fun h4 hh4 up4 => wpAny_throw (tk _ _ ?_)
          exact ⟨a, B, sI, pins, σ', H', cls, d, rfl, J, nb, (up.trans up3).trans up4, .inr (.inr (hsk hh4)), na, os, ag, w⟩
        first
          | exact wpAny_bind (wpAny_pure (wpAny_bind fin))
          | exact wpAny_bind fin
      | @cons x n c i b₀ suite np pos' hds2 l2 hc hi hln r ih =>
        intro w
        obtain ⟨b, hb1, hyes, hno⟩ := w
        have hloc : Loc X.env.scope n := .inl hln
        refine wpAny_handleBy_cons (codeAny_handlers_test ?_) (by intro q; cases q)
        have LT : PySem.W.Looks (model X.prog X.w) h3 (typeOf (.ref a)) cls := fun A Q E s k q => wpAny_typeOf_ref (k _ _ he3) (by rw [hz3.1]; exact q)
        have LM := PySem.W.exm_one (M := model X.prog X.w) (J3.kIn) LT hb1
        have test : ∀ {Q : Value → Shared → Prop} {E : Value → Shared → Prop}, Q c { s' with heap := h3 } → wpAny (model X.prog X.w) (X.A.mark (some (.ref a))) (eval (.Name x np) X.env) Q E { s' with heap := h3 } := fun {Q E} q => by
          obtain ⟨hg, hdbg, hm | ⟨hm, hv, hnn⟩⟩ := hc
          · exact ld_glob (X := X.suite a ((a, oe3) :: (X.pn ++ pins))) S3 hg hm q hdbg
          · exact ld_blt (X := X.suite a ((a, oe3) :: (X.pn ++ pins))) S3 hg hm hv q hnn hdbg
        refine test (LM.here ?_)
        cases b with
        | true =>
          refine codeAny_handlers_suite_as ?_
          refine HandSPX.lands_againZ fl3 fun h4 fl4 up4 => ?_
          have J4 : Inv X pins σ' H' { s' with heap := h4 } := J.landed nb fl4.1 ((up.trans up3).trans up4) os ag
          obtain ⟨oe4, vs4, he4, hz4, hd4⟩ := fl4.there
          have S4 := J4.suite he4 hd4 na nL nF
          refine store_ok (X := X.suite a ((a, oe4) :: (X.pn ++ pins))) (v := .ref a) S4 hN hi hloc rfl (fun s5 S5 => ?_) (.inr hln)
          refine wpAny_mono (hyes rfl a oe4 (X.pn ++ pins) na hz4 ⟨_, hd4⟩ (fun p hp => List.mem_append_left _ hp) [] _ S5) (fun f s6 hsp => ?_) (fun _ _ z => False.elim z)
          have end_ : ∀ {σ6 : St} {H6 : Hp} {Q : Shared → Prop}, Inv (X.suite a ((a, oe4) :: (X.pn ++ pins))) [] σ6 H6 s6 → (∀ s7, Inv X pins (σ6.set i none) H6 s7 → Q s7) →
              wpAny (model X.prog X.w) X.A (do bindName X.env n .none; unbindBehindTheSuite X.env n pos') (fun _ s7 => Q s7) X.xe s6 := fun {σ6 H6 Q} S6 hq => gone_ok (S6.unsuite ok) hN hi hln hq
          cases f with
          | next =>
            obtain ⟨σ6, H6, S6, q6⟩ := hsp
            exact end_ S6 fun s7 J7 => ⟨_, _, J7, q6⟩
          | brk =>
            obtain ⟨σ6, H6, S6, q6⟩ := hsp
            exact end_ S6 fun s7 J7 => ⟨_, _, J7, q6⟩
          | cont =>
            obtain ⟨σ6, H6, S6, q6⟩ := hsp
            exact end_ S6 fun s7 J7 => ⟨_, _, J7, q6⟩
          | ret u =>
            obtain ⟨v6, σ6, H6, S6, r6, q6⟩ := hsp
            exact end_ S6 fun s7 J7 => ⟨_, _, _, J7, r6, q6⟩
        | false =>
          show wpAny _ X.A (handleBy (.ref a) X.env hds2) _ _ _
          exact ih (hno rfl)
    exact go hh w
  · cases f with
    | next =>
      obtain ⟨σ', H', J', q⟩ := hsp
      exact wpAny_execs_nil ⟨σ', H', J'.ofTry ok, q⟩
    | brk =>
      obtain ⟨σ', H', J', q⟩ := hsp
      exact ⟨σ', H', J'.ofTry ok, q⟩
    | cont =>
      obtain ⟨σ', H', J', q⟩ := hsp
      exact ⟨σ', H', J'.ofTry ok, q⟩
    | ret u =>
      obtain ⟨v, σ', H', J', r, q⟩ := hsp
      exact ⟨v, σ', H', J'.ofTry ok, r, q⟩
end
/-! ### in a suite -/
section
variable {X : Cx} {σ : St} {H : Hp} {Q : VK} {a C dd : Addr} {oe : Obj} {d : Option Addr} {pn : List (Addr × Obj)} {e : Expr} {pos : Pos} {n : Str}
theorem hot_suite {cls : Value} (hz : L2N.Zn cls d oe) (hf : ∃ vs, oe.data = .fields vs) : Qk true (X.suite a ((a, oe) :: pn)) := by
  obtain ⟨vs, hd⟩ := hf
  exact .inr ⟨rfl, (a, oe), ⟨rfl, vs, hd, hz.2.2 vs hd⟩, List.mem_cons_self⟩
theorem w_xf (T : XfC X.K C) (hno : PySem.W.findIn X.K (.ref C) n = some none) (hz : L2N.Zn (.ref C) d oe) (hf : ∃ vs, oe.data = .fields vs) (h : wE (X.suite a ((a, oe) :: pn)) e σ H fun x H1 => x = .ref a ∧ ∃ dd fs v, d = some dd ∧ H1 dd = some (.xd fs) ∧ fs.lookup n = some v ∧ Q v H1)
    (hb : attributeBase e n X.env (eval e X.env) = eval e X.env := by rfl) : wE (X.suite a ((a, oe) :: pn)) (.Attribute e n pos) σ H Q :=
  PE.w (pe_xf T hno hz.zc hf pE hb) (h.mono fun x H1 ⟨ex, dd, fs, v, ed, ea, l, q⟩ => ⟨ex, rfl, dd, fs, v, ed, ea, l, q⟩)
end
end K6

/-! ## L1 -/
namespace K6
open PySem PySem.Spec PyProof.Rows L2
structure Tl (K : PySem.W.Frag) (w : World) (mg : Str → Option Value) : Prop extends Tq K w mg where
  maxN : mg "max" = none
  minN : mg "min" = none
  setN : mg "set" = none
  dctN : mg "dict" = none
  d47 : Dt K mg "_law_source" 47
  d48 : Dt K mg "_law_draw" 48
  d49 : Dt K mg "_law_kind" 49
  d50 : Dt K mg "_law_names" 50
  d51 : Dt K mg "_law_text" 51
  d52 : Dt K mg "_law_deed" 52
  d53 : Dt K mg "_law_done" 53
  d54 : Dt K mg "_law_all" 54
  d55 : Dt K mg "_law_made" 55
  d56 : Dt K mg "_law_back" 56
  d57 : Dt K mg "_law_back_due" 57
  d58 : Dt K mg "_law_undone" 58
  d59 : Dt K mg "_law_same" 59
  d60 : Dt K mg "_law_started" 60
/-! ### the source of numbers -/
structure SrcN (n sd : Int) : Prop where
  n0 : 0 ≤ n
  s0 : 0 ≤ sd
  s1 : sd < 2147483647
def Src (H : Hp) (s : Addr) : Prop := ∃ n sd, H s = some (.lst [.int n, .int sd]) ∧ SrcN n sd
section
variable {P : Program} {w : World} {K : PySem.W.Frag} {mg : Str → Option Value} {base : Heap}
abbrev scL (i : Nat) : Scope := defScope (topS i)
abbrev N47 : List Str := ["_law_script", "_law_k", "_law_cell", "_law_number", "_law_seed"]
theorem sc47 : FnScope N47 ["_law_script", "_law_k"] (scL 47) := ⟨rfl, rfl, rfl, by decide +kernel, rfl, by decide +kernel, by decide +kernel⟩
def spSource (K : PySem.W.Frag) : Sp := fun vs H Q _ => ∃ (a : Addr) (ns : List Int) (k : Nat), vs = [.ref a, .int k] ∧ SqL K H a (ns.map V.int) ∧ ns.length ≤ 100000 ∧ k ≤ 8 ∧ ∀ p H', H p = none → Gr [] H H' → Src H' p → Q (.ref p) H'
theorem pj {j : Int} (h : 0 < j) : 0 < j := h
theorem mulW_small {i j : Int} (h1 : i.natAbs < 2 ^ 64) (h2 : j.natAbs < 2 ^ 64) : CMulW i j := wide_mul h1 h2 (by decide) (by decide) (by decide)
theorem law_source (T : Tl K w mg) : Fb false P w K mg base 1 (ga K "_law_source") (spSource K) := by
  obtain ⟨fd, F⟩ := T.d47.fn
  refine fn_b F sc47 (fun vs H Q E h => by obtain ⟨a, ns, k, rfl, _⟩ := h; rfl) (fun _ _ _ _ _ _ us hl => match us, hl with | [_, _], _ => rfl) ?_
  intro pz cdv A outer s H vs Q E hp hq hr h
  obtain ⟨a, ns, k, rfl, ha, hz, hk, q⟩ := h
  have hc := hq.calm
  refine wb_cons (ws_set 2 sc47.nd (w_int ?_))
  refine wb_cut (fun σ H1 => H1 = H ∧ ∃ c : Int, σ = [some (.ref a), some (.int k), some (.int c), none, none]) (ws_if (wt_cmp op_lt (w_var 1 ⟨_, rfl, w_blt call_len T.len rfl (wa_cons (w_var 0 ⟨_, rfl, wa_nil ⟨_, _, rfl, .inl ⟨ns.map V.int, ha, by rw [List.length_map]⟩, ?_⟩⟩))⟩))) ?_
  · refine ⟨_, _, rfl, rfl, _, rfl, ?_⟩
    by_cases hlt : k < ns.length
    · rw [decide_eq_true (by omega)]
      refine iteT (wb_one (ws_set 2 sc47.nd (w_ix ix_list (w_var 0 ⟨_, rfl, w_var 1 ⟨_, rfl, a, _, k, .int ns[k], rfl, rfl, ha, atI_nat (j := k) (by rw [List.getElem?_map, List.getElem?_eq_getElem hlt] <;> rfl), rfl, ns[k], rfl⟩⟩))))
    · rw [decide_eq_false (by omega)]
      exact iteF (wb_nil ⟨rfl, 0, rfl⟩)
  rintro σ H1 ⟨rfl, c, rfl⟩
  refine wb_cons (ws_set 3 sc47.nd (w_blt (call_max2 hc) T.maxN rfl (wa_cons (w_var 2 ⟨_, rfl, wa_cons (w_op op_sub (w_un un_neg (w_int ⟨1, rfl, w_var 2 ⟨_, rfl, _, _, rfl, rfl, wa_nil ⟨c, _, rfl, ?_⟩⟩⟩)))⟩))))
  have hn0 : (0 : Int) ≤ (if -1 - c > c then -1 - c else c) := by split <;> omega
  generalize (if -1 - c > c then -1 - c else c) = n0 at hn0 ⊢
  have h1 := Int.emod_nonneg n0 (b := 2147483629) (by decide)
  have h2 := Int.emod_lt_of_pos n0 (b := 2147483629) (by decide)
  refine wb_cons (ws_set 4 sc47.nd (w_op op_mod (w_op op_add (w_op op_add (w_op op_mulW (w_op op_mod (w_var 3 ⟨_, rfl, w_int ⟨_, _, rfl, rfl, pj (by decide), w_int ⟨_, _, rfl, rfl, mulW_small (by omega) (by decide), w_op op_mulW (w_int (w_var 1 ⟨_, rfl, _, _, rfl, rfl, mulW_small (by decide) (by omega), _, _, rfl, rfl,
    w_int ⟨_, _, rfl, rfl, w_int ⟨_, _, rfl, rfl, pj (by decide), ?_⟩⟩⟩))⟩⟩⟩)))))))
  have h3 := Int.emod_nonneg (n0 % 2147483629 * 16807 + 104729 * (k : Int) + 11) (b := 2147483647) (by decide)
  have h4 := Int.emod_lt_of_pos (n0 % 2147483629 * 16807 + 104729 * (k : Int) + 11) (b := 2147483647) (by decide)
  refine wb_cut (fun σ H2 => H2 = H1 ∧ ∃ n sd : Int, 0 ≤ n ∧ 0 ≤ sd ∧ sd < 2147483647 ∧ σ = [some (.ref a), some (.int k), some (.int c), some (.int n), some (.int sd)]) (ws_if (wt_cmp op_lt (w_var 3 ⟨_, rfl, w_op op_pow (w_int (w_int ⟨_, _, rfl, rfl, ⟨by decide, by decide, by decide⟩, _, _, rfl, rfl, _, rfl, ?_⟩))⟩))) ?_
  · by_cases e : n0 < 10 ^ (18 : Int).toNat
    · rw [decide_eq_true e]
      exact iteT (wb_one (ws_set 3 sc47.nd (w_int ⟨rfl, 0, _, Int.le_refl _, h3, h4, rfl⟩)))
    · rw [decide_eq_false e]
      exact iteF (wb_nil ⟨rfl, n0, _, hn0, h3, h4, rfl⟩)
  rintro σ H2 ⟨rfl, n, sd, hn, h3, h4, rfl⟩
  exact wb_one (ws_ret (w_lst (wa_cons (w_var 3 ⟨_, rfl, wa_cons (w_var 4 ⟨_, rfl, wa_nil ⟨sz2, fun p hp => q p _ hp (Gr.refl.new hp) ⟨n, sd, upd_same, hn, h3, h4⟩⟩⟩)⟩))))
/-! ### draw -/
theorem sc48 : FnScope ["_law_source_here", "_law_amount", "_law_digit"] ["_law_source_here", "_law_amount"] (scL 48) := ⟨rfl, rfl, rfl, by decide +kernel, rfl, by decide +kernel, by decide +kernel⟩
def spDraw (K : PySem.W.Frag) : Sp := fun vs H Q _ => ∃ (s : Addr) (m : Int), vs = [.ref s, .int m] ∧ Src H s ∧ 0 < m ∧ m ≤ 1000 ∧ ∀ (r : Nat) H', r < m.toNat → Gr [s] H H' → Gx K H H' → Src H' s → Q (.int r) H'
theorem w_gset {X : Cx} {σ : St} {H : Hp} {QG : St → Hp → Prop} {v : V} {o i : Expr} {pos : Pos} (h : wE X o σ H fun x H1 => wE X i σ H1 fun y H2 => ∃ p xs k j, x = .ref p ∧ y = .int k ∧ H2 p = some (.lst xs) ∧ ixN xs.length k = some j ∧ QG σ (upd H2 p (.lst (xs.set j v))))
    (ha : ∀ v, assign (.Subscript o i pos) X.env v = (do
      let ov ← holding [v] (eval o X.env)
      let iv ← holding [v, ov] (eval i X.env)
      standAt pos
      holding [v, ov, iv] (setItem ov iv v)
      release [v, ov, iv] []) := by intro _; rfl) : wG X (.Subscript o i pos) v σ H QG := PG.w (pg_sub pE pE set_list ha) h
theorem Src.ix {K : PySem.W.Frag} {H : Hp} {s : Addr} {xs : List V} (h : H s = some (.lst xs)) : SqL K H s xs := .inl (.inl h)
theorem Src.gx {K : PySem.W.Frag} {H : Hp} {s : Addr} {xs ys : List V} (h : H s = some (.lst xs)) : Gx K H (upd H s (.lst ys)) := Gx.refl.put fun o e m => by rw [h] at e; cases e; exact m
theorem law_draw (T : Tl K w mg) : Fb false P w K mg base 1 (ga K "_law_draw") (spDraw K) := by
  obtain ⟨fd, F⟩ := T.d48.fn
  refine fn_b F sc48 (fun vs H Q E h => by obtain ⟨s, m, rfl, _⟩ := h; rfl) (fun _ _ _ _ _ _ us hl => match us, hl with | [_, _], _ => rfl) ?_
  intro pz cdv A outer s0 H vs Q E hp hq hr h
  obtain ⟨s, m, rfl, ⟨n, sd, hs, hn, hs0, hs1⟩, hm, hm2, q⟩ := h
  have l9 : CDiv n m := ⟨hm, by omega⟩
  refine wb_cons (ws_if (wt_cmp op_gt (w_ix ix_list (w_var 0 ⟨_, rfl, w_int ⟨s, _, 0, .int n, rfl, rfl, Src.ix hs, atI_nat (j := 0) rfl, w_int ⟨_, _, rfl, rfl, _, rfl, ?_⟩⟩⟩))))
  by_cases e : 0 < n
  · rw [decide_eq_true e]
    refine iteT ?_
    refine wb_cons (ws_set 2 sc48.nd (w_op op_mod (w_ix ix_list (w_var 0 ⟨_, rfl, w_int ⟨s, _, 0, .int n, rfl, rfl, Src.ix hs, atI_nat (j := 0) rfl, w_var 1 ⟨_, rfl, _, _, rfl, rfl, hm, ?_⟩⟩⟩))))
    refine wb_cons (ws_asg (w_op op_fdiv (w_ix ix_list (w_var 0 ⟨_, rfl, w_int ⟨s, _, 0, .int n, rfl, rfl, Src.ix hs, atI_nat (j := 0) rfl, w_var 1 ⟨_, rfl, _, _, rfl, rfl, l9, w_gset (w_var 0 ⟨_, rfl, w_int ⟨s, _, 0, 0, rfl, rfl, hs, rfl, ?_⟩⟩)⟩⟩⟩))))
    have e1 := Int.emod_nonneg n (Int.ne_of_gt hm)
    have e2 := Int.emod_lt_of_pos n hm
    refine wb_one (ws_ret (w_var 2 ⟨_, rfl, ?_⟩))
    have e3 : n % m = (((n % m).toNat : Nat) : Int) := (Int.toNat_of_nonneg e1).symm
    show Q (.int (n % m)) _
    rw [e3]
    exact q _ _ (by omega) (Gr.refl.put (.inr (by simp))) (Src.gx hs) ⟨n / m, sd, upd_same, Int.ediv_nonneg hn (Int.le_of_lt hm), hs0, hs1⟩
  · rw [decide_eq_false e]
    refine iteF (wb_nil ?_)
    have a1 := Int.emod_nonneg (sd * 48271 + 11) (b := 2147483647) (by decide)
    have a2 := Int.emod_lt_of_pos (sd * 48271 + 11) (b := 2147483647) (by decide)
    refine wb_cons (ws_asg (w_op op_mod (w_op op_add (w_op op_mulW (w_ix ix_list (w_var 0 ⟨_, rfl, w_int ⟨s, _, 1, .int sd, rfl, rfl, Src.ix hs, atI_nat (j := 1) rfl, w_int ⟨_, _, rfl, rfl, mulW_small (by omega) (by decide), w_int ⟨_, _, rfl, rfl, w_int ⟨_, _, rfl, rfl, pj (by decide), w_gset (w_var 0 ⟨_, rfl, w_int ⟨s, _, 1, 1, rfl, rfl, hs, rfl, ?_⟩⟩)⟩⟩⟩⟩⟩))))))
    show wB _ _ _ _ (upd H s (.lst [.int n, .int ((sd * 48271 + 11) % 2147483647)]))
    generalize (sd * 48271 + 11) % 2147483647 = t at a1 a2 ⊢
    have h2 : (upd H s (.lst [.int n, .int t])) s = some (.lst [.int n, .int t]) := upd_same
    have g2 : Gr [s] H (upd H s (.lst [.int n, .int t])) := Gr.refl.put (.inr (by simp))
    have gx2 : Gx K H (upd H s (.lst [.int n, .int t])) := Src.gx hs
    generalize upd H s (.lst [.int n, .int t]) = H2 at h2 g2 gx2 ⊢
    refine wb_one (ws_ret (w_op op_mod (w_op op_fdiv (w_op op_mod (w_op op_mulW (w_ix ix_list (w_var 0 ⟨_, rfl, w_int ⟨s, _, 1, .int t, rfl, rfl, Src.ix h2, atI_nat (j := 1) rfl, w_ix ix_list (w_var 0 ⟨_, rfl, w_int ⟨s, _, 1, .int t, rfl, rfl, Src.ix h2, atI_nat (j := 1) rfl, _, _, rfl, rfl, mulW_small (by omega) (by omega),
      w_int ⟨_, _, rfl, rfl, pj (by decide), w_int ⟨_, _, rfl, rfl, ⟨by decide, by decide⟩, w_var 1 ⟨_, rfl, _, _, rfl, rfl, hm, ?_⟩⟩⟩⟩⟩)⟩⟩)))))))
    have e1 := Int.emod_nonneg (t * t % 2147483629 / 64) (Int.ne_of_gt hm)
    have e2 := Int.emod_lt_of_pos (t * t % 2147483629 / 64) hm
    show Q (.int (t * t % 2147483629 / 64 % m)) _
    rw [(Int.toNat_of_nonneg e1).symm]
    exact q _ _ (by omega) g2 gx2 ⟨n, t, h2, hn, a1, a2⟩
end
end K6

/-! ## L2 -/
namespace K6
open PySem PySem.Spec PyProof.Rows L2
theorem joinL_nil : ∀ l : List (List Nat), TL.joinL [] l = l.flatMap id
  | [] => rfl
  | [p] => by simp [TL.joinL]
  | p :: q :: r => by
    show p ++ ([] ++ TL.joinL [] (q :: r)) = _
    rw [joinL_nil (q :: r)]
    simp
theorem join_joinS (l : List Str) : Txt.join ⟨#[]⟩ l = joinS l := by
  refine TL.ext_tl ?_
  rw [TL.join_eq, TL.tl_join]
  show TL.joinL [] _ = (joinS l).cps.toList
  rw [joinL_nil, joinS_list, List.flatMap_map]
  rfl
theorem w_join {X : Cx} {σ : St} {H : Hp} {Q : VK} {e : Expr} {z : Str} {j : Nat} {p apos pos : Pos} (h : wE X e σ H fun x H1 => ∃ q, ∃ ys : List Str, z = ⟨#[]⟩ ∧ x = .ref q ∧ SqL X.K H1 q (ys.map V.str) ∧ (ys.map (·.length)).sum ≤ 16777216 ∧ Q (.str (joinS ys)) H1)
    (hs : starEach [e] X.env = [(false, eval e X.env)] := by rfl) (hbase : attributeBase (.Constant (.str z) j p) "join" X.env (eval (.Constant (.str z) j p) X.env) = eval (.Constant (.str z) j p) X.env := by rfl) (hline : (apos.endLine == pos.line) = true := by rfl) :
    wE X (.Call (.Attribute (.Constant (.str z) j p) "join" apos) [e] [] pos) σ H Q := by
  refine PE.w (pe_join pE pE hs hbase hline) (w_str ⟨⟨z, rfl⟩, h.mono fun x H1 ⟨q, ys, ez, ex, hq, hz, q'⟩ => ?_⟩)
  subst ex
  subst ez
  refine ⟨⟨#[]⟩, q, ys, rfl, rfl, .inl hq, ?_, by rw [join_joinS]; exact q'⟩
  show _ + ys.length * 0 ≤ _
  omega
section
variable {P : Program} {w : World} {K : PySem.W.Frag} {mg : Str → Option Value} {base : Heap}
/-! ### kind, names -/
theorem sc49 : FnScope ["_law_source_here"] ["_law_source_here"] (scL 49) := ⟨rfl, rfl, rfl, by decide +kernel, rfl, by decide +kernel, by decide +kernel⟩
def spKind (K : PySem.W.Frag) : Sp := fun vs H Q _ => ∃ s, vs = [.ref s] ∧ Src H s ∧ ∀ k H', Kind k → Gr [s] H H' → Gx K H H' → Src H' s → Q (.str k) H'
theorem Src.ne {H : Hp} {s p : Addr} (h : Src H s) (hp : H p = none) : s ≠ p := by
  obtain ⟨n, sd, h, _⟩ := h
  exact ne_of_none h hp
theorem Src.gr {H H1 : Hp} {s : Addr} {M : List Addr} (h : Src H s) (g : Gr M H H1) (hs : s ∉ M) : Src H1 s := by
  obtain ⟨n, sd, h, r⟩ := h
  exact ⟨n, sd, g.keep _ _ hs h, r⟩
theorem law_kind (T : Tl K w mg) : Fb false P w K mg base 2 (ga K "_law_kind") (spKind K) := by
  obtain ⟨fd, F⟩ := T.d49.fn
  refine fn_b F sc49 (fun vs H Q E h => by obtain ⟨s, rfl, _⟩ := h; rfl) (fun _ _ _ _ _ _ us hl => match us, hl with | [_], _ => rfl) ?_
  intro pz cdv A outer s0 H vs Q E hp hq hr h
  obtain ⟨s, rfl, hs, q⟩ := h
  refine wb_one (ws_ret (w_ix ix_list (w_lst (wa_cons (w_str (wa_cons (w_str (wa_nil ⟨sz2, fun p hp => ?_⟩))))))))
  have g1 : Gr [] H (upd H p (.lst [.str "square", .str "triangle"])) := Gr.refl.new hp
  have hp1 : (upd H p (.lst [.str "square", .str "triangle"])) p = some (.lst [.str "square", .str "triangle"]) := upd_same
  have nsp := hs.ne hp
  refine w_call (law_draw T) hq hr (T.d48.df rfl rfl) paF rfl (wa_cons (w_var 0 ⟨_, rfl, wa_cons (w_int (wa_nil ⟨s, 2, rfl, hs.gr g1 (by simp), by decide, by decide, fun r H' hr' g gx hs' => ?_⟩))⟩))
  have hp2 := g.keep _ _ (by simp [Ne.symm nsp]) hp1
  have hr2 : r = 0 ∨ r = 1 := by
    have : r < 2 := hr'
    omega
  rcases hr2 with rfl | rfl
  · exact ⟨p, _, 0, _, rfl, rfl, Src.ix hp2, atI_nat (j := 0) rfl, q "square" H' (.inl rfl) (g1.up.trans g) (g1.gx0.trans gx) hs'⟩
  · exact ⟨p, _, 1, _, rfl, rfl, Src.ix hp2, atI_nat (j := 1) rfl, q "triangle" H' (.inr rfl) (g1.up.trans g) (g1.gx0.trans gx) hs'⟩

theorem sc50 : FnScope [] [] (scL 50) := ⟨rfl, rfl, rfl, by decide +kernel, rfl, by decide +kernel, by decide +kernel⟩
def spNames : Sp := fun vs H Q _ => vs = [] ∧ ∀ p, H p = none → Q (.ref p) (upd H p (.lst (Base4.map V.str)))
theorem law_names (T : Tl K w mg) : Fb false P w K mg base 1 (ga K "_law_names") spNames := by
  obtain ⟨fd, F⟩ := T.d50.fn
  refine fn_b F sc50 (fun vs H Q E h => by obtain ⟨rfl, _⟩ := h; rfl) (fun _ _ _ _ _ _ us hl => match us, hl with | [], _ => rfl) ?_
  intro pz cdv A outer s0 H vs Q E hp hq hr h
  obtain ⟨rfl, q⟩ := h
  exact wb_one (ws_ret (w_lst (wa_cons (w_str (wa_cons (w_str (wa_cons (w_str (wa_cons (w_str (wa_nil ⟨sz4, q⟩))))))))))) 
/-! ### a text of commands -/
abbrev N51 : List Str := ["_law_source_here", "_law_most", "_law_attempt"]
theorem sc51 : FnScope N51 ["_law_source_here", "_law_most"] (scL 51) := ⟨rfl, rfl, rfl, by decide +kernel, rfl, by decide +kernel, by decide +kernel⟩
def spText (K : PySem.W.Frag) : Sp := fun vs H Q _ => ∃ (s : Addr) (m : Nat), vs = [.ref s, .int m] ∧ m ≤ 100 ∧ Src H s ∧ ∀ c H', c.cps.size ≤ m → (∀ n ∈ c.cps.toList, isCmd n = true) → Gr [s] H H' → Gx K H H' → Src H' s → Q (.str c) H'
theorem signs_len {ys : List Str} (h : ∀ y ∈ ys, ∃ n, isCmd n = true ∧ y = ⟨#[n]⟩) : (joinS ys).cps.size = ys.length ∧ (∀ n ∈ (joinS ys).cps.toList, isCmd n = true) ∧ (ys.map (·.length)).sum = ys.length := by
  rw [← Array.length_toList, joinS_list]
  induction ys with
  | nil => exact ⟨rfl, fun n h => absurd h (by simp), rfl⟩
  | cons y r ih =>
    obtain ⟨n, hn, rfl⟩ := h y List.mem_cons_self
    obtain ⟨h1, h2, h3⟩ := ih fun y hy => h y (List.mem_cons_of_mem _ hy)
    refine ⟨?_, fun m hm => ?_, ?_⟩
    · rw [List.flatMap_cons, List.length_append, h1]
      show 1 + r.length = r.length + 1
      omega
    · rw [List.flatMap_cons] at hm
      rcases List.mem_append.mp hm with hm | hm
      · rw [List.mem_singleton.mp hm]; exact hn
      · exact h2 m hm
    · rw [List.map_cons, List.sum_cons, h3]
      show 1 + r.length = r.length + 1
      omega
theorem law_text (T : Tl K w mg) : Fb false P w K mg base 2 (ga K "_law_text") (spText K) := by
  obtain ⟨fd, F⟩ := T.d51.fn
  refine fn_b F sc51 (fun vs H Q E h => by obtain ⟨s, m, rfl, _⟩ := h; rfl) (fun _ _ _ _ _ _ us hl => match us, hl with | [_, _], _ => rfl) ?_
  intro pz cdv A outer s0 H vs Q E hp hq hr h
  obtain ⟨s, m, rfl, hm, hs, q⟩ := h
  refine wb_one (ws_ret (w_join (w_lc (own := [("_law_attempt", 2)]) hq sc51.nd (blkOk (N := N51) (sc := scL 51)) (wi_range T.rng rfl (wa_cons (w_call (law_draw T) hq hr (T.d48.df rfl rfl) paF rfl (wa_cons (w_var 0 ⟨_, rfl, wa_cons (w_op op_add (w_var 1 ⟨_, rfl, w_int ⟨_, _, rfl, rfl, wa_nil ⟨s, _, rfl, hs, by omega, by omega, fun r H1 hr1 g1 gx1 hs1 => wa_nil ⟨_, rfl, by omega, by omega, ?_⟩⟩⟩⟩))⟩))))))))
  have hrm : r ≤ m := by omega
  refine lc_wk wk_range (fun D i H' => H1 D = none ∧ Gr [s] H1 H' ∧ Gx K H1 H' ∧ Src H' s ∧ s ≠ D ∧ ∃ ys : List Str, ys.length = i ∧ (∀ y ∈ ys, ∃ n, isCmd n = true ∧ y = ⟨#[n]⟩) ∧ H' D = some (.lst (ys.map V.str)))
    (fun D hD => ⟨hD, (Gr.refl.new hD).up, (Gr.refl.new hD).gx0, hs1.gr (M := []) (Gr.refl.new hD) (by simp), hs1.ne hD, [], rfl, (fun _ h => nomatch h), upd_same⟩) (fun _ _ _ _ => trivial) ?_ ?_
  · rintro D s3 H3 C cl fp i x H' hx ⟨hD0, g, gx, hs', nsD, ys, hl, hys, hD⟩
    have hi : i < ((List.range (Int.toNat r)).map fun i => V.int (0 + (i : Nat))).length := (List.getElem?_eq_some_iff.mp hx).1
    rw [List.length_map, List.length_range, Int.toNat_natCast] at hi
    refine w_gname 2 ⟨rfl, wts_nil (iteT ?_)⟩ sc51.nd
    refine w_ix ix_str (w_str (w_call (law_draw T) (.inl hq.calm) hr (T.d48.df rfl rfl) paF rfl (wa_cons (w_var 0 ⟨_, rfl, wa_cons (w_int (wa_nil ⟨s, 5, rfl, hs', by decide, by decide, fun r' H2 hr2 g2 gx2 hs2 => ?_⟩))⟩))))
    have h5 : r' < 5 := hr2
    have hc : ∃ n, isCmd n = true ∧ atI ("FFLRB" : Str).cps.toList (r' : Int) = some n := by
      have : r' = 0 ∨ r' = 1 ∨ r' = 2 ∨ r' = 3 ∨ r' = 4 := by omega
      rcases this with rfl | rfl | rfl | rfl | rfl
      · exact ⟨70, rfl, atI_nat (j := 0) rfl⟩
      · exact ⟨70, rfl, atI_nat (j := 1) rfl⟩
      · exact ⟨76, rfl, atI_nat (j := 2) rfl⟩
      · exact ⟨82, rfl, atI_nat (j := 3) rfl⟩
      · exact ⟨66, rfl, atI_nat (j := 4) rfl⟩
    obtain ⟨n, hn, he⟩ := hc
    have hD2 := g2.keep _ _ (by simp [Ne.symm nsD]) hD
    refine ⟨_, _, n, rfl, rfl, by decide, he, ys.map V.str, hD2, szl (by rw [List.length_map]; omega), hD0, (g.trans g2).put (.inl hD0), (gx.trans gx2).trans (Src.gx hD2), ?_, nsD, ys ++ [⟨#[n]⟩], ?_, ?_, ?_⟩
    · obtain ⟨n', sd', h', r'⟩ := hs2
      exact ⟨n', sd', by rw [upd_ne nsD]; exact h', r'⟩
    · rw [List.length_append, hl] <;> rfl
    · intro y hy
      rcases List.mem_append.mp hy with hy | hy
      · exact hys y hy
      · exact ⟨n, hn, List.mem_singleton.mp hy⟩
    · rw [upd_same, List.map_append] <;> rfl
  · rintro D H2 ⟨hD0, g, gx, hs', nsD, ys, hl, hys, hD⟩
    rw [List.length_map, List.length_range, Int.toNat_natCast] at hl
    obtain ⟨l1, l2, l3⟩ := signs_len hys
    exact ⟨D, ys, rfl, rfl, Src.ix hD, by rw [l3]; omega, q _ H2 (by omega) l2 (g1.trans g) (gx1.trans gx) hs'⟩
end
end K6

/-! ## L3 -/
namespace K6
open PySem PySem.Spec PyProof.Rows L2
/-- its names are those that are drawn -/
def ChB : Ch → Prop
  | .put n _ => n ∈ Base4
  | .join n ps => n ∈ Base4 ∧ ∀ p ∈ ps, p ∈ Base4
  | .drop n => n ∈ Base4
section
variable {P : Program} {w : World} {K : PySem.W.Frag} {mg : Str → Option Value} {base : Heap}
theorem w_pick {X : Cx} {σ : St} {H : Hp} {Q : VK} {e1 : Expr} {s : Addr} {p1 p2 p3 p4 p5 pos : Pos} {j : Nat} (T : Tl X.K X.w X.mg) (hq : Qk false X) (hr : L2H.RoomH 1 X.A) (gN : Gl X "_law_names") (gD : Gl X "_law_draw") (hs : Src H s) (he : ∀ H', wE X e1 σ H' fun v H'' => v = .ref s ∧ H'' = H')
    (h : ∀ n H', n ∈ Base4 → Gr [s] H H' → Gx X.K H H' → Src H' s → Q (.str n) H')
    (hs1 : starEach [e1, .Constant (.int 4) j p5] X.env = (false, eval e1 X.env) :: starEach [.Constant (.int 4) j p5] X.env := by rfl) (hs2 : (backTo p4 (starEach [.Constant (.int 4) j p5] X.env)).any (·.1) = false := by rfl) :
    wE X (.Subscript (.Call (.Name "_law_names" p1) [] [] p2) (.Call (.Name "_law_draw" p3) [e1, .Constant (.int 4) j p5] [] p4) pos) σ H Q := by
  refine w_ix ix_list (w_call0 (law_names T) hq hr (T.d50.df rfl rfl) paF gN ⟨rfl, fun p hp => ?_⟩)
  have g1 : Gr [] H (upd H p (.lst (Base4.map V.str))) := Gr.refl.new hp
  have hp1 : (upd H p (.lst (Base4.map V.str))) p = some (.lst (Base4.map V.str)) := upd_same
  have nsp := hs.ne hp
  refine w_call (law_draw T) hq hr (T.d48.df rfl rfl) paF gD (wa_cons ((he _).mono ?_) hs1) (by decide) hs1 hs2
  rintro v H2 ⟨rfl, rfl⟩
  refine wa_cons (w_int (wa_nil ⟨s, 4, rfl, hs.gr g1 (by simp), by decide, by decide, fun r H' hr' g gx hs' => ?_⟩)) rfl
  have hp2 := g.keep _ _ (by simp [Ne.symm nsp]) hp1
  have hr4 : r < 4 := hr'
  have hl : r < Base4.length := hr4
  refine ⟨p, _, r, .str Base4[r], rfl, rfl, Src.ix hp2, atI_nat (j := r) (by rw [List.getElem?_map, List.getElem?_eq_getElem hl] <;> rfl), h _ H' (List.getElem_mem hl) (g1.up.trans g) (g1.gx0.trans gx) hs'⟩
/-! ### deed -/
abbrev N52 : List Str := ["_law_source_here", "_law_kind_here", "_law_most", "_law_name", "_law_way", "_law_parts", "_law_attempt"]
theorem sc52 : FnScope N52 ["_law_source_here", "_law_kind_here", "_law_most"] (scL 52) := ⟨rfl, rfl, rfl, by decide +kernel, rfl, by decide +kernel, by decide +kernel⟩
def spDeed (K : PySem.W.Frag) : Sp := fun vs H Q _ => ∃ (s : Addr) (k : Str) (m : Nat), vs = [.ref s, .str k, .int m] ∧ Kind k ∧ m ≤ 100 ∧ Src H s ∧ ∀ p c H', H p = none → ChAt K H' k p c → ChOk c → ChB c → Gr [s] H H' → Gx K H H' → Src H' s → Q (.ref p) H'
theorem law_deed (T : Tl K w mg) : Fb false P w K mg base 5 (ga K "_law_deed") (spDeed K) := by
  obtain ⟨fd, F⟩ := T.d52.fn
  refine fn_b F sc52 (fun vs H Q E h => by obtain ⟨s, k, m, rfl, _⟩ := h; rfl) (fun _ _ _ _ _ _ us hl => match us, hl with | [_, _, _], _ => rfl) ?_
  intro pz cdv A outer s0 H vs Q E hp hq hr h
  obtain ⟨s, k, m, rfl, hk, hm, hs, q⟩ := h
  refine wb_cons (ws_set 3 sc52.nd (w_pick T hq (hr.mono (by decide)) rfl rfl hs (fun H' => w_var 0 ⟨_, rfl, rfl, rfl⟩) fun n H1 hn g1 gx1 hs1 => ?_))
  refine wb_cons (ws_set 4 sc52.nd (w_call (law_draw T) hq (hr.mono (by decide)) (T.d48.df rfl rfl) paF rfl (wa_cons (w_var 0 ⟨_, rfl, wa_cons (w_int (wa_nil ⟨s, 5, rfl, hs1, by decide, by decide, fun r H2 hr2 g2 gx2 hs2 => ?_⟩))⟩))))
  have g12 := g1.trans g2
  have gx12 := gx1.trans gx2
  have hnU := base_univ n hn
  refine wb_cons (ws_if (wt_cmp op_lt (w_var 4 ⟨_, rfl, w_int ⟨_, _, rfl, rfl, _, rfl, ?_⟩⟩)))
  by_cases e2 : (r : Int) < 2
  · rw [decide_eq_true e2]
    refine iteT (wb_one (ws_ret (w_tup (wa_cons (w_str (wa_cons (w_var 3 ⟨_, rfl, wa_cons (w_walk T.toTx hq.up hr rfl (wa_cons (w_var 1 ⟨_, rfl, wa_cons (w_call (law_text T) hq (hr.mono (by decide)) (T.d51.df rfl rfl) paF rfl (wa_cons (w_var 0 ⟨_, rfl, wa_cons (w_var 2 ⟨_, rfl, wa_nil ⟨s, m, rfl, hm, hs2, fun c H3 hc hcm g3 gx3 hs3 => ?_⟩⟩)⟩)))⟩)))⟩)))))))
    refine wa_nil ⟨k, c, rfl, hk, ⟨by omega, hcm⟩, fun wp H4 hwp g4 hW => wa_nil ⟨sz3, fun p hp => ?_⟩⟩
    have g5 : Gr [] H4 (upd H4 p (.tup [.str "put", .str n, .ref wp])) := Gr.refl.new hp
    have g45 := g4.trans g5
    exact q p (.put n c) _ (g12.free p (g3.free p (g4.free p hp))) ⟨wp, upd_same, hW.gx g5.gx0⟩ ⟨hnU, by omega, hcm⟩ hn ((g12.trans g3).trans g45.up) ((gx12.trans gx3).trans g45.gx0) (hs3.gr g45 (by simp))
  rw [decide_eq_false e2]
  refine iteF (wb_nil ?_)
  refine wb_cons (ws_if (wt_cmp op_lt (w_var 4 ⟨_, rfl, w_int ⟨_, _, rfl, rfl, _, rfl, ?_⟩⟩)))
  by_cases e4 : (r : Int) < 4
  · rw [decide_eq_true e4]
    refine iteT ?_
    refine wb_cons (w_setLc (own := [("_law_attempt", 6)]) hq sc52.nd (blkOk (N := N52) (sc := scL 52)) (i := 5) rfl rfl rfl (wi_range T.rng rfl (wa_cons (w_op op_add (w_int (w_call (law_draw T) hq (hr.mono (by decide)) (T.d48.df rfl rfl) paF rfl (wa_cons (w_var 0 ⟨_, rfl, wa_cons (w_int (wa_nil ⟨s, 3, rfl, hs2, by decide, by decide, fun r3 H3 hr3 g3 gx3 hs3 => ⟨_, _, rfl, rfl, wa_nil ⟨_, rfl, by omega, ?_, ?_⟩⟩⟩))⟩))))))))
    · have : r3 < 3 := hr3
      omega
    have hr3' : r3 < 3 := hr3
    refine lc_wk wk_range (fun D i H' => H3 D = none ∧ Gr [s] H3 H' ∧ Gx K H3 H' ∧ Src H' s ∧ s ≠ D ∧ ∃ ys : List Str, ys.length = i ∧ (∀ y ∈ ys, y ∈ Base4) ∧ H' D = some (.lst (ys.map V.str)))
      (fun D hD => ⟨hD, (Gr.refl.new hD).up, (Gr.refl.new hD).gx0, hs3.gr (M := []) (Gr.refl.new hD) (by simp), hs3.ne hD, [], rfl, (fun _ h => nomatch h), upd_same⟩) (fun _ _ _ _ => trivial) ?_ ?_
    · rintro D s4 H4 C cl fp i x H' hx ⟨hD0, g, gx, hs', nsD, ys, hl, hys, hD⟩
      have hi : i < ((List.range (Int.toNat (1 + r3))).map fun i => V.int (0 + (i : Nat))).length := (List.getElem?_eq_some_iff.mp hx).1
      rw [List.length_map, List.length_range] at hi
      refine w_gname 6 ⟨rfl, wts_nil (iteT ?_)⟩ sc52.nd
      refine w_pick T (.inl hq.calm) (hr.mono (by decide)) rfl rfl hs' (fun H' => w_var 0 ⟨_, rfl, rfl, rfl⟩) fun n5 H5 hn5 g5 gx5 hs5 => ?_
      have hD2 := g5.keep _ _ (by simp [Ne.symm nsD]) hD
      refine ⟨ys.map V.str, hD2, szl (by rw [List.length_map]; omega), hD0, (g.trans g5).put (.inl hD0), (gx.trans gx5).trans (Src.gx hD2), ?_, nsD, ys ++ [n5], ?_, ?_, ?_⟩
      · obtain ⟨n', sd', h', r'⟩ := hs5
        exact ⟨n', sd', by rw [upd_ne nsD]; exact h', r'⟩
      · rw [List.length_append, hl] <;> rfl
      · intro y hy
        rcases List.mem_append.mp hy with hy | hy
        · exact hys y hy
        · rw [List.mem_singleton.mp hy]; exact hn5
      · rw [upd_same, List.map_append] <;> rfl
    · rintro D H4 ⟨hD0, g, gx, hs', nsD, ys, hl, hys, hD⟩
      rw [List.length_map, List.length_range] at hl
      have hl1 : ys.length = 1 + r3 := by omega
      refine wb_one (ws_ret (w_tup (wa_cons (w_str (wa_cons (w_var 3 ⟨_, rfl, wa_cons (w_bty call_tuple_of T.tupN rfl (wa_cons (w_var 5 ⟨_, rfl, wa_nil ⟨D, _, rfl, .inl ⟨Src.ix hD, fun t ht => wa_nil ⟨sz3, fun p hp => ?_⟩⟩⟩⟩)))⟩))))))
      have gt : Gr [] H4 (upd H4 t (.tup (ys.map V.str))) := Gr.refl.new ht
      have gp : Gr [] (upd H4 t (.tup (ys.map V.str))) (upd (upd H4 t (.tup (ys.map V.str))) p (.tup [.str "join", .str n, .ref t])) := Gr.refl.new hp
      have g45 := gt.trans gp
      refine q p (.join n ys) _ (g12.free p (g3.free p (g.free p (gt.free p hp)))) ⟨t, upd_same, gp.at upd_same⟩ ⟨hnU, fun z => ?_, by omega, fun p hp => base_univ p (hys p hp)⟩ ⟨hn, hys⟩ (((g12.trans g3).trans g).trans g45.up) (((gx12.trans gx3).trans gx).trans g45.gx0) (hs'.gr g45 (by simp))
      rw [z] at hl1
      simp at hl1
      omega
  · rw [decide_eq_false e4]
    refine iteF (wb_nil (wb_one (ws_ret (w_tup (wa_cons (w_str (wa_cons (w_var 3 ⟨_, rfl, wa_nil ⟨sz2, fun p hp => ?_⟩⟩))))))))
    have gp : Gr [] H2 (upd H2 p (.tup [.str "drop", .str n])) := Gr.refl.new hp
    exact q p (.drop n) _ (g12.free p hp) upd_same hnU hn (g12.trans gp.up) (gx12.trans gp.gx0) (hs2.gr gp (by simp))
end
end K6

/-! ## M3 -/
namespace K6
open PySem PySem.Spec PyProof.Rows L2
theorem dpAll_strs {K : PySem.W.Frag} {H : Hp} : ∀ xs : List Str, DpAll K H (xs.map V.str) (xs.map PyData.str)
  | [] => .nil
  | x :: xs => .cons (.str x) (dpAll_strs xs)
theorem canAll_strs : ∀ {xs : List Str}, (∀ x ∈ xs, PyData.strOk x = true) → PyData.canLayAll0 (xs.map PyData.str) = true
  | [], _ => by simp [PyData.canLayAll0]
  | x :: xs, h => by
    simp only [List.map_cons, PyData.canLayAll0, PyData.canLay0, h x List.mem_cons_self, canAll_strs fun y hy => h y (List.mem_cons_of_mem _ hy), Bool.and_self]
theorem depthAll_strs : ∀ xs : List Str, PyData.depthAll (xs.map PyData.str) = 0
  | [] => by simp [PyData.depthAll]
  | x :: xs => by simp [PyData.depthAll, PyData.depth, depthAll_strs xs]
theorem sh_list {xs : List Str} (h : ∀ x ∈ xs, PyData.strOk x = true) : SeqAt.shaped (.list (xs.map PyData.str)) = true := by
  simp [SeqAt.shaped, PyData.canLay0, canAll_strs h, PyData.depth, depthAll_strs]
theorem sh_tup {xs : List Str} (h : ∀ x ∈ xs, PyData.strOk x = true) : SeqAt.shaped (.tuple (xs.map PyData.str)) = true := by
  simp [SeqAt.shaped, PyData.canLay0, canAll_strs h, PyData.depth, depthAll_strs]
theorem eqvAll_strs : ∀ xs ys : List Str, PyData.eqvAll (xs.map PyData.str) (ys.map PyData.str) = decide (xs = ys)
  | [], [] => by simp [PyData.eqvAll]
  | [], y :: ys => by simp [PyData.eqvAll]
  | x :: xs, [] => by simp [PyData.eqvAll]
  | x :: xs, y :: ys => by
    rw [List.map_cons, List.map_cons]
    simp only [PyData.eqvAll, PyData.eqv, eqvAll_strs xs ys]
    by_cases e : x = y
    · subst e
      rw [show (x == x) = true from beq_self_eq_true x, Bool.true_and, decide_eq_decide]
      simp
    · rw [show (x == y) = false from beq_eq_false_iff_ne.mpr e, Bool.false_and, eq_comm, decide_eq_false_iff_not]
      simp [e]
theorem eqv_list (xs ys : List Str) : PyData.eqv (.list (xs.map PyData.str)) (.list (ys.map PyData.str)) = decide (xs = ys) := by
  simp only [PyData.eqv]
  exact eqvAll_strs xs ys
theorem univ_ok2 : ∀ x ∈ Univ, PyData.strOk x = true := by decide +kernel
section
variable {X : Cx} {σ : St} {H : Hp} {QT : Bool → Hp → Prop} {Q : VK} {k : Nat} {a : Expr} {pos p : Pos}
/-- xs != [] -/
theorem wt_neNil (hr : L2H.RoomH k X.A) (h : wE X a σ H fun v H1 => ∃ l, ∃ xs : List Str, v = .ref l ∧ SqL X.K H1 l (xs.map V.str) ∧ (∀ x ∈ xs, PyData.strOk x = true) ∧ ∀ q, H1 q = none → QT (!xs.isEmpty) (upd H1 q (.lst []))) :
    wT X (.Compare a [.NotEq] [.List [] p] pos) σ H QT := by
  refine wt_cmp (op_neD (by have := RoomH.u hr; omega)) (h.mono ?_)
  rintro v H1 ⟨l, xs, rfl, hl, hs, q⟩
  refine w_lst (wa_nil ⟨sz0, fun p hp => ⟨_, _, .lst ((Gr.refl.new hp : Gr [] H1 _).lst hl) (dpAll_strs xs), .lst (xs := []) (.inl (.inl upd_same)) .nil, sh_list hs, sh_list (xs := []) (fun _ h => nomatch h), _, rfl, ?_⟩⟩)
  have e : PyData.eqv (.list (xs.map PyData.str)) (.list []) = xs.isEmpty := by
    have := eqv_list xs []
    rw [List.map_nil] at this
    rw [this]
    cases xs <;> simp
  rw [e]
  exact q p hp
end
end K6

/-! ## L4 -/
namespace K6
open PySem PySem.Spec PyProof.Rows L2
theorem TD.get {H : Hp} {d : Addr} {ts : Tm} (h : TD H d ts) (n : Str) : (valA ts n = none ∧ DGet H d (.str n) none) ∨ ∃ c, valA ts n = some c ∧ DGet H d (.str n) (some (.str c)) := by
  obtain ⟨o, kvs, h, r⟩ := h
  rcases r.val n with ⟨a, b⟩ | ⟨v, c, a, b, e⟩
  · exact .inl ⟨a, .inl ⟨kvs, .inr n, .inr ⟨o, h⟩, rfl, b.symm⟩⟩
  · have e' : v = .str c := e
    subst e'
    exact .inr ⟨c, b, .inl ⟨kvs, .inr n, .inr ⟨o, h⟩, rfl, a.symm⟩⟩
theorem TD.in_ {H : Hp} {d : Addr} {ts : Tm} (h : TD H d ts) (n : Str) : ∃ r, DGet H d (.str n) r ∧ r.isSome = (valA ts n).isSome := by
  rcases h.get n with ⟨a, b⟩ | ⟨c, a, b⟩
  · exact ⟨_, b, by rw [a] <;> rfl⟩
  · exact ⟨_, b, by rw [a] <;> rfl⟩
theorem ws_dput {X : Cx} {σ : St} {H : Hp} {D : Ends} {k : Nat} {o i value : Expr} {pos' pos : Pos} (hr : L2H.RoomH k X.A) (h : wE X value σ H fun v H1 => wE X o σ H1 fun x H2 => wE X i σ H2 fun y H3 => ∃ a H4, x = .ref a ∧ DPut H3 a y v H4 ∧ D.nx σ H4)
    (hs : swapsWith value (some (.Subscript o i pos')) pos.line X.env = pure false := by rfl) : wS X (.Assign [.Subscript o i pos'] value pos) D σ H := PS.w (ps_dput (by have := RoomH.u hr; omega) pE pE pE hs) h
/-- what a deed comes to, in the law -/
def DoneR (H : Hp) (v : V) : Rs → Prop
  | .ok t => ∃ d, v = .ref d ∧ TD H d t
  | .unk n => ∃ l, v = .ref l ∧ H l = some (.lst [.str "unknown", .str n])
  | .lim => ∃ l, v = .ref l ∧ H l = some (.lst [.str "limit", .int 200])
section
variable {P : Program} {w : World} {K : PySem.W.Frag} {mg : Str → Option Value} {base : Heap}
abbrev N53 : List Str := ["_law_texts", "_law_deed_here", "_law_found", "_law_lost", "_law_whole", "_law_name"]
theorem sc53 : FnScope N53 ["_law_texts", "_law_deed_here"] (scL 53) := ⟨rfl, rfl, rfl, by decide +kernel, rfl, by decide +kernel, by decide +kernel⟩
def spDone (K : PySem.W.Frag) : Sp := fun vs H Q _ => ∃ d p k c ts, vs = [.ref d, .ref p] ∧ TD H d ts ∧ Wf ts ∧ ChAt K H k p c ∧ ChOk c ∧ ∀ v H', Gr [] H H' → DoneR H' v (run ts c) → Q v H'
def lostOf (ts : Tm) (ps : List Str) : List Str := ps.filter fun p => !(valA ts p).isSome
theorem miss_lost (ts : Tm) (ps : List Str) : miss ts ps = (lostOf ts ps).head? := by
  unfold miss lostOf
  rw [List.head?_filter]
theorem sum_le : ∀ {l : List Str}, (∀ y ∈ l, y.cps.size ≤ 200) → (l.map (·.length)).sum ≤ 200 * l.length
  | [], _ => Nat.le_refl _
  | y :: r, h => by
    have h1 := h y List.mem_cons_self
    have h2 := sum_le (l := r) fun z hz => h z (List.mem_cons_of_mem _ hz)
    rw [List.map_cons, List.sum_cons, List.length_cons]
    have h3 : y.length ≤ 200 := h1
    omega
theorem joinS_size : ∀ l : List Str, (joinS l).cps.size = (l.map (·.length)).sum
  | [] => rfl
  | y :: r => by
    have ih := joinS_size r
    rw [← Array.length_toList, joinS_list] at ih ⊢
    rw [List.flatMap_cons, List.length_append, ih, List.map_cons, List.sum_cons]
    rfl
theorem cat_size (ts : Tm) (ps : List Str) : (cat ts ps).cps.size = ((ps.map fun p => (valA ts p).getD ⟨#[]⟩).map (·.length)).sum := joinS_size _
theorem Wf.at_ {ts : Tm} (h : Wf ts) {i : Nat} {m c : Str} (e : ts[i]? = some (m, c)) : valA ts m = some c := valA_of h.nd (List.mem_of_getElem? e)
theorem law_done (T : Tl K w mg) : Fb false P w K mg base 3 (ga K "_law_done") (spDone K) := by
  obtain ⟨fd, F⟩ := T.d53.fn
  refine fn_b F sc53 (fun vs H Q E h => by obtain ⟨d, p, k, c, ts, rfl, _⟩ := h; rfl) (fun _ _ _ _ _ _ us hl => match us, hl with | [_, _], _ => rfl) ?_
  intro pz cdv A outer s0 H vs Q E hp hq hr h
  obtain ⟨d, p, k, c, ts, rfl, hd, hw, hc, hok, q⟩ := h
  obtain ⟨o, kvs, hdo, rkv⟩ := id hd
  refine wb_cons (ws_set 2 sc53.nd (w_bty call_dictD T.dctN rfl (wa_cons (w_var 0 ⟨_, rfl, wa_nil ⟨d, kvs, rfl, .inr ⟨o, hdo⟩, fun f hf => ?_⟩⟩))))
  have g1 : Gr [] H (upd H f (.dK kvs)) := Gr.refl.new hf
  have hf1 : (upd H f (.dK kvs)) f = some (.dK kvs) := upd_same
  generalize upd H f (.dK kvs) = H1 at g1 hf1 ⊢
  have hc1 := hc.gx g1.gx0
  have hd1 : TD H1 d ts := hd.gx (K := K) g1.gx0
  have hlk : kvs.length < sizeLine := szl (by rw [rkv.length]; have := hw.len; omega)
  have hkn := rkv.nodup hw.nd
  obtain ⟨wd, rest, hp1, hm⟩ := hc1.ex
  have sq : SqT K H1 p (.str wd :: .str c.nm :: rest) := .of hp1
  refine wb_cons (ws_if (wt_cmp op_eq (w_ix ix_tup (w_var 1 ⟨_, rfl, w_int ⟨p, _, 0, .str wd, rfl, rfl, sq, atI_nat (j := 0) rfl, w_str ⟨rfl, _, rfl, ?_⟩⟩⟩))))
  cases c with
  | put n cc =>
    obtain ⟨rfl, wp, rfl, hW⟩ := hm
    rw [decide_eq_true rfl]
    refine iteT ?_
    obtain ⟨dxw, mw, qw, hwi⟩ := id hW
    refine wb_cons (ws_dput hr (w_prop (walk_cmd T.toTx) hq.up (hr.mono (by decide)) T.wal.cl T.w_cmdP (w_ix ix_tup (w_var 1 ⟨_, rfl, w_int ⟨p, _, 2, .ref wp, rfl, rfl, sq, atI_nat (j := 2) rfl, wp, _, _, rfl, hwi, wp, k, cc, rfl, hW, w_var 2 ⟨_, rfl, w_ix ix_tup (w_var 1 ⟨_, rfl, w_int ⟨p, _, 1, .str n, rfl, rfl, sq, atI_nat (j := 1) rfl, f, _, rfl, DPut.k (k := .inr n) hf1 hlk, ?_⟩⟩)⟩⟩⟩))))
    refine wb_one (ws_ret (wE_locked (w_var 2 ⟨_, rfl, f, _, rfl, upd_same, trivial, fun oo => ?_⟩)))
    rw [upd_upd]
    refine q (.ref f) _ (g1.put (.inl hf)) ⟨f, rfl, oo, _, upd_same, rkv.put rfl⟩
  | join n ps =>
    obtain ⟨rfl, t, rfl, ht0⟩ := hm
    rw [show decide (V.str "join" = V.str "put") = false from by decide +kernel]
    refine iteF (wb_nil ?_)
    have hptsU : ∀ z ∈ ps, z ∈ Univ := hok.2.2.2
    have h5 := hok.2.2.1
    refine wb_cons (w_setLc (own := [("_law_name", 5)]) hq sc53.nd (blkOk (N := N53) (sc := scL 53)) (i := 3) rfl rfl rfl (wi_tup (w_if (wt_cmp op_eq (w_ix ix_tup (w_var 1 ⟨_, rfl, w_int ⟨p, _, 0, .str "join", rfl, rfl, sq, atI_nat (j := 0) rfl, w_str ⟨rfl, _, rfl, ?_⟩⟩⟩))))))
    rw [decide_eq_true rfl]
    refine iteT (w_ix ix_tup (w_var 1 ⟨_, rfl, w_int ⟨p, _, 2, .ref t, rfl, rfl, sq, atI_nat (j := 2) rfl, t, ps.map V.str, rfl, .of ht0, fun J wk => ?_⟩⟩))
    have g2 : Gr [] H1 H1 := Gr.refl
    have ht : SqT K H1 t (ps.map V.str) := .of ht0
    generalize hH2 : H1 = H2 at g2 ht wk ⊢
    subst hH2

    refine lc_wk wk (fun D i H' => H1 D = none ∧ Gr [] H1 H' ∧ H' D = some (.lst ((lostOf ts ((ps).take i)).map V.str))) (fun D hD => ⟨hD, Gr.refl.new hD, by rw [upd_same] <;> rfl⟩) (fun D i H' z => z.2.1.tup ht) ?_ ?_
    · rintro D s3 H3 C cl fp i x H' hx ⟨hD0, g, hD⟩
      obtain ⟨m, hm', rfl⟩ := str_get hx
      have hlen : (lostOf ts ((ps).take i)).length ≤ (ps).length := Nat.le_trans (List.length_filter_le _ _) (by rw [List.length_take]; omega)
      obtain ⟨rr, hg, hrr⟩ := (hd1.gx (K := K) (g2.trans g).gx0).in_ m
      refine w_gname 5 ⟨rfl, wts_one (wt_dnotin hr (w_var 5 ⟨_, rfl, w_var 0 ⟨_, rfl, d, rr, rfl, hg, ?_⟩⟩))⟩ sc53.nd
      have et : lostOf ts ((ps).take (i + 1)) = lostOf ts ((ps).take i) ++ (if (!(valA ts m).isSome) = true then [m] else []) := by
        unfold lostOf
        rw [List.take_add_one, hm', List.filter_append, Option.toList_some, List.filter_cons, List.filter_nil]
      rw [hrr, et]
      by_cases e : (!(valA ts m).isSome) = true
      · rw [if_pos e, if_pos e]
        refine w_var 5 ⟨_, rfl, _, hD, szl (by rw [List.length_map]; omega), hD0, g.put (.inl hD0), ?_⟩
        rw [upd_same, List.map_append] <;> rfl
      · rw [if_neg e, if_neg e, List.append_nil]
        exact ⟨hD0, g, hD⟩
    rintro D H3 ⟨hD0, g3, hD⟩
    rw [List.length_map, List.take_length] at hD
    have hlok : ∀ z ∈ lostOf ts (ps), PyData.strOk z = true := fun z hz => univ_ok2 z (hptsU z (List.mem_filter.mp hz).1)
    refine wb_cons (ws_if (wt_neNil hr (w_var 3 ⟨_, rfl, D, _, rfl, Src.ix hD, hlok, fun q' hq' => ?_⟩)))
    have g4 : Gr [] H3 (upd H3 q' (.lst [])) := Gr.refl.new hq'
    have hD4 := g4.at hD
    generalize upd H3 q' (.lst []) = H4 at g4 hD4 ⊢
    have g14 : Gr [] H1 H4 := (g2.trans g3).trans g4
    cases hl : lostOf ts (ps) with
    | cons m r =>
      rw [hl] at hD4
      refine iteT (wb_one (ws_ret (w_lst (wa_cons (w_str (wa_cons (w_ix ix_list (w_var 3 ⟨_, rfl, w_int ⟨D, _, 0, .str m, rfl, rfl, Src.ix hD4, atI_nat (j := 0) rfl, wa_nil ⟨sz2, fun l hl' => q (.ref l) _ ((g1.trans g14).new hl') ?_⟩⟩⟩))))))))
      rw [show run ts (.join n ps) = .unk m from by simp only [run, miss_lost, hl, List.head?_cons]]
      exact ⟨l, rfl, upd_same⟩
    | nil =>
    refine iteF (wb_nil ?_)
    have hf4 := g14.at hf1
    have sq4 := g14.tup sq
    have hd4 := hd1.gx (K := K) g14.gx0


    have hall : ∀ z ∈ ps, ∃ c, valA ts z = some c := fun z hz => by
      cases hv : valA ts z with
      | some c => exact ⟨c, rfl⟩
      | none =>
        have : z ∈ lostOf ts ps := List.mem_filter.mpr ⟨hz, by rw [hv] <;> rfl⟩
        rw [hl] at this
        cases this
    have hrun : run ts (.join n ps) = if (cat ts ps).cps.size ≤ 200 then .ok (putA ts n (cat ts ps)) else .lim := by simp only [run, miss_lost, hl, List.head?_nil]
    refine wb_cons (ws_if (wt_cmp op_eq (w_ix ix_tup (w_var 1 ⟨_, rfl, w_int ⟨p, _, 0, .str "join", rfl, rfl, sq4, atI_nat (j := 0) rfl, w_str ⟨rfl, _, rfl, ?_⟩⟩⟩))))
    rw [show decide (V.str "join" = V.str "drop") = false from by decide +kernel]
    refine iteF (wb_nil ?_)
    have ht4 := g14.at ht0
    refine wb_cons (ws_set 4 sc53.nd (w_join (w_lc (own := [("_law_name", 5)]) hq sc53.nd (blkOk (N := N53) (sc := scL 53)) (wi_tup (w_ix ix_tup (w_var 1 ⟨_, rfl, w_int ⟨p, _, 2, .ref t, rfl, rfl, sq4, atI_nat (j := 2) rfl, t, ps.map V.str, rfl, .of ht4, fun J2 wk2 => ?_⟩⟩))))))
    refine lc_map wk2 (fun v => match v with | .str z => .str ((valA ts z).getD ⟨#[]⟩) | v => v) (fun H' g => .of (g.at ht4)) (by rw [List.length_map]; omega) ?_ ?_
    · intro s3 H5 C cl fp x H' hx g
      obtain ⟨z, hz, rfl⟩ := List.mem_map.mp hx
      obtain ⟨c', hc'⟩ := hall z hz
      refine w_gname 5 ⟨rfl, w_dget hr (w_var 0 ⟨_, rfl, w_var 5 ⟨_, rfl, d, .str c', rfl, ?_, (by show V.str c' = V.str ((valA ts z).getD ⟨#[]⟩); rw [hc'] <;> rfl), Gr.refl⟩⟩)⟩ sc53.nd
      rcases (hd1.gx (K := K) (g14.trans g).gx0).get z with ⟨zz, _⟩ | ⟨c2, zz, z3⟩
      · rw [hc'] at zz; cases zz
      · rw [hc'] at zz; cases zz; exact z3
    intro D5 H5 hD5 g5 hl5
    have el : ((ps.map V.str).map fun v => match v with | .str z => V.str ((valA ts z).getD ⟨#[]⟩) | v => v) = (ps.map fun z => (valA ts z).getD ⟨#[]⟩).map V.str := by
      rw [List.map_map, List.map_map] <;> rfl
    rw [el] at hl5
    have hsum := sum_le (l := ps.map fun z => (valA ts z).getD ⟨#[]⟩) fun y hy => by
      obtain ⟨z, hz, rfl⟩ := List.mem_map.mp hy
      obtain ⟨c', hc'⟩ := hall z hz
      rw [hc']
      exact (hw.val hc').len
    rw [List.length_map] at hsum
    refine ⟨D5, _, rfl, rfl, Src.ix hl5, by omega, ?_⟩
    have hcs := cat_size ts ps
    show wB _ _ _ (List.set _ 4 (some (.str (cat ts ps)))) H5
    have g15 := g14.trans g5
    have hf5 := g15.at hf1
    have sq5 := g15.tup sq
    refine wb_cons (ws_if (wt_cmp op_gt (w_blt call_len T.len rfl (wa_cons (w_var 4 ⟨_, rfl, wa_nil ⟨_, (cat ts ps).length, rfl, ⟨szm (show (cat ts ps).cps.size ≤ _ by omega), rfl⟩, w_int ⟨_, _, rfl, rfl, _, rfl, ?_⟩⟩⟩)))))
    rw [hrun] at q
    by_cases e : (cat ts ps).cps.size ≤ 200
    · rw [show decide ((200 : Int) < ((cat ts ps).length : Nat)) = false from decide_eq_false (by have : (cat ts ps).length ≤ 200 := e; omega)]
      rw [if_pos e] at q
      refine iteF (wb_nil ?_)
      refine wb_cons (ws_dput hr (w_var 4 ⟨_, rfl, w_var 2 ⟨_, rfl, w_ix ix_tup (w_var 1 ⟨_, rfl, w_int ⟨p, _, 1, .str n, rfl, rfl, sq5, atI_nat (j := 1) rfl, f, _, rfl, DPut.k (k := .inr n) hf5 hlk, ?_⟩⟩)⟩⟩))
      refine wb_one (ws_ret (wE_locked (w_var 2 ⟨_, rfl, f, _, rfl, upd_same, trivial, fun oo => ?_⟩)))
      rw [upd_upd]
      exact q (.ref f) _ ((g1.trans g15).put (.inl hf)) ⟨f, rfl, oo, _, upd_same, rkv.put rfl⟩
    · rw [show decide ((200 : Int) < ((cat ts ps).length : Nat)) = true from decide_eq_true (by have : ¬ (cat ts ps).length ≤ 200 := e; omega)]
      rw [if_neg e] at q
      exact iteT (wb_one (ws_ret (w_lst (wa_cons (w_str (wa_cons (w_int (wa_nil ⟨sz2, fun l hl' => q (.ref l) _ ((g1.trans g15).new hl') ⟨l, rfl, upd_same⟩⟩))))))))
  | drop n =>
    obtain ⟨rfl, rfl⟩ := hm
    change SqT K H1 p [V.str "drop", V.str n] at sq
    rw [show decide (V.str "drop" = V.str "put") = false from by decide +kernel]
    refine iteF (wb_nil ?_)
    have h5 : [n].length ≤ 5 := by show 1 ≤ 5; decide
    have hptsU : ∀ z ∈ [n], z ∈ Univ := fun z hz => by rw [List.mem_singleton.mp hz]; exact hok
    refine wb_cons (w_setLc (own := [("_law_name", 5)]) hq sc53.nd (blkOk (N := N53) (sc := scL 53)) (i := 3) rfl rfl rfl (wi_tup (w_if (wt_cmp op_eq (w_ix ix_tup (w_var 1 ⟨_, rfl, w_int ⟨p, _, 0, .str "drop", rfl, rfl, sq, atI_nat (j := 0) rfl, w_str ⟨rfl, _, rfl, ?_⟩⟩⟩))))))
    rw [show decide (V.str "drop" = V.str "join") = false from by decide +kernel]
    refine iteF (w_slice sl_tup (w_var 1 ⟨_, rfl, w_int ⟨1, rfl, p, _, rfl, sq, (show ¬ (HT.sIx 2 0 (some 1) = 0 ∧ HT.sIx 2 2 none = 2) from by decide), fun t ht => ⟨t, [n].map V.str, rfl, .of upd_same, fun J wk => ?_⟩⟩⟩))
    have g2 : Gr [] H1 (upd H1 t (.tup (cutV [.str "drop", .str n] (some 1) none))) := Gr.refl.new ht
    have ht : SqT K (upd H1 t (.tup (cutV [.str "drop", .str n] (some 1) none))) t ([n].map V.str) := .of upd_same
    generalize upd H1 t (.tup (cutV [.str "drop", .str n] (some 1) none)) = H2 at g2 ht wk ⊢

    refine lc_wk wk (fun D i H' => H2 D = none ∧ Gr [] H2 H' ∧ H' D = some (.lst ((lostOf ts (([n]).take i)).map V.str))) (fun D hD => ⟨hD, Gr.refl.new hD, by rw [upd_same] <;> rfl⟩) (fun D i H' z => z.2.1.tup ht) ?_ ?_
    · rintro D s3 H3 C cl fp i x H' hx ⟨hD0, g, hD⟩
      obtain ⟨m, hm', rfl⟩ := str_get hx
      have hlen : (lostOf ts (([n]).take i)).length ≤ ([n]).length := Nat.le_trans (List.length_filter_le _ _) (by rw [List.length_take]; omega)
      obtain ⟨rr, hg, hrr⟩ := (hd1.gx (K := K) (g2.trans g).gx0).in_ m
      refine w_gname 5 ⟨rfl, wts_one (wt_dnotin hr (w_var 5 ⟨_, rfl, w_var 0 ⟨_, rfl, d, rr, rfl, hg, ?_⟩⟩))⟩ sc53.nd
      have et : lostOf ts (([n]).take (i + 1)) = lostOf ts (([n]).take i) ++ (if (!(valA ts m).isSome) = true then [m] else []) := by
        unfold lostOf
        rw [List.take_add_one, hm', List.filter_append, Option.toList_some, List.filter_cons, List.filter_nil]
      rw [hrr, et]
      by_cases e : (!(valA ts m).isSome) = true
      · rw [if_pos e, if_pos e]
        refine w_var 5 ⟨_, rfl, _, hD, szl (by rw [List.length_map]; omega), hD0, g.put (.inl hD0), ?_⟩
        rw [upd_same, List.map_append] <;> rfl
      · rw [if_neg e, if_neg e, List.append_nil]
        exact ⟨hD0, g, hD⟩
    rintro D H3 ⟨hD0, g3, hD⟩
    rw [List.length_map, List.take_length] at hD
    have hlok : ∀ z ∈ lostOf ts ([n]), PyData.strOk z = true := fun z hz => univ_ok2 z (hptsU z (List.mem_filter.mp hz).1)
    refine wb_cons (ws_if (wt_neNil hr (w_var 3 ⟨_, rfl, D, _, rfl, Src.ix hD, hlok, fun q' hq' => ?_⟩)))
    have g4 : Gr [] H3 (upd H3 q' (.lst [])) := Gr.refl.new hq'
    have hD4 := g4.at hD
    generalize upd H3 q' (.lst []) = H4 at g4 hD4 ⊢
    have g14 : Gr [] H1 H4 := (g2.trans g3).trans g4
    cases hl : lostOf ts ([n]) with
    | cons m r =>
      rw [hl] at hD4
      refine iteT (wb_one (ws_ret (w_lst (wa_cons (w_str (wa_cons (w_ix ix_list (w_var 3 ⟨_, rfl, w_int ⟨D, _, 0, .str m, rfl, rfl, Src.ix hD4, atI_nat (j := 0) rfl, wa_nil ⟨sz2, fun l hl' => q (.ref l) _ ((g1.trans g14).new hl') ?_⟩⟩⟩))))))))
      have hnv : (valA ts n).isSome = false := by
        cases hv : (valA ts n).isSome with
        | false => rfl
        | true =>
          unfold lostOf at hl
          rw [List.filter_cons, hv] at hl
          cases hl
      have hmn : m = n := by
        unfold lostOf at hl
        rw [List.filter_cons, hnv] at hl
        exact (List.cons.inj hl).1.symm
      rw [show run ts (.drop n) = .unk m from by rw [hmn]; simp [run, hnv]]
      exact ⟨l, rfl, upd_same⟩
    | nil =>
    refine iteF (wb_nil ?_)
    have hf4 := g14.at hf1
    have sq4 := g14.tup sq
    have hd4 := hd1.gx (K := K) g14.gx0


    have hdo4 := g14.at (g1.at hdo)
    have hrun : run ts (.drop n) = .ok (ts.filter fun p => decide (p.1 ≠ n)) := by
      have hv : (valA ts n).isSome = true := by
        cases hv : (valA ts n).isSome with
        | true => rfl
        | false =>
          unfold lostOf at hl
          rw [List.filter_cons, hv] at hl
          cases hl
      simp [run, hv]
    rw [hrun] at q
    refine wb_cons (ws_if (wt_cmp op_eq (w_ix ix_tup (w_var 1 ⟨_, rfl, w_int ⟨p, _, 0, .str "drop", rfl, rfl, sq4, atI_nat (j := 0) rfl, w_str ⟨rfl, _, rfl, ?_⟩⟩⟩))))
    rw [decide_eq_true rfl]
    refine iteT (wb_one (ws_ret (wE_locked (w_bty (call_dictP hq.calm) T.dctN rfl (wa_cons (w_lc (own := [("_law_name", 5)]) hq sc53.nd (blkOk (N := N53) (sc := scL 53)) (wi_keys (w_var 0 ⟨_, rfl, d, o, kvs, rfl, hdo4, fun J2 wk2 => ?_⟩))))))))
    refine lc_wk wk2 (fun E i H' => H4 E = none ∧ Gr [] H4 H' ∧ ∃ ps' kvs', H' E = some (.lst (ps'.map V.ref)) ∧ ps'.length ≤ i ∧ Paired (fun p kv => SqT K H' p [kV kv.1, kv.2]) ps' kvs' ∧ DL RT kvs' ((ts.take i).filter fun p => decide (p.1 ≠ n))) (fun E hE => ⟨hE, Gr.refl.new hE, [], [], upd_same, Nat.le_refl _, .nil, .nil⟩) (fun E i H' z => z.2.1.at hdo4) ?_ ?_
    · rintro E s3 H5 C cl fp i x H' hx ⟨hE0, g, ps', kvs', hE, hpl, hpk, hdl⟩
      rw [List.getElem?_map] at hx
      obtain ⟨⟨ky, kvv⟩, hkv, rfl⟩ := Option.map_eq_some_iff.mp hx
      obtain ⟨m, cm, htm, rfl, er⟩ := rkv.get hkv
      have er' : kvv = .str cm := er
      subst er'
      have hi8 : i < ts.length := (List.getElem?_eq_some_iff.mp htm).1
      have hw8 := hw.len
      have sq' := (g14.trans g).tup sq
      have et : (ts.take (i + 1)).filter (fun p => decide (p.1 ≠ n)) = (ts.take i).filter (fun p => decide (p.1 ≠ n)) ++ (if m = n then [] else [(m, cm)]) := by
        rw [List.take_add_one, htm, List.filter_append, Option.toList_some, List.filter_cons, List.filter_nil]
        by_cases e : m = n
        · simp [e]
        · simp [e]
      refine w_gname 5 ⟨rfl, wts_one (wt_cmp op_ne (w_var 5 ⟨_, rfl, w_ix ix_tup (w_var 1 ⟨_, rfl, w_int ⟨p, _, 1, .str n, rfl, rfl, sq', atI_nat (j := 1) rfl, rfl, _, rfl, ?_⟩⟩)⟩))⟩ sc53.nd
      have hval : valA ts m = some cm := hw.at_ htm
      have hdg : DGet H' d (.str m) (some (.str cm)) := by
        rcases (hd1.gx (K := K) (g14.trans g).gx0).get m with ⟨z, _⟩ | ⟨c', z, zz⟩
        · rw [hval] at z; cases z
        · rw [hval] at z; cases z; exact zz
      rw [et]
      by_cases e : m = n
      · subst e
        rw [show (!decide (kV (Sum.inr m) = V.str m)) = false from by simp [kV]]
        rw [if_pos rfl, List.append_nil]
        exact iteF ⟨hE0, g, ps', kvs', hE, by omega, hpk, hdl⟩
      · rw [show (!decide (kV (Sum.inr m) = V.str n)) = true from by simp [kV, e]]
        rw [if_neg e]
        refine iteT (w_tup (wa_cons (w_var 5 ⟨_, rfl, wa_cons (w_dget hr (w_var 0 ⟨_, rfl, w_var 5 ⟨_, rfl, d, _, rfl, hdg, wa_nil ⟨sz2, fun tp htp => ?_⟩⟩⟩))⟩)))
        have gt : Gr [] H' (upd H' tp (.tup [kV (Sum.inr m), .str cm])) := Gr.refl.new htp
        have htp1 : (upd H' tp (.tup [kV (Sum.inr m), .str cm])) tp = some (.tup [kV (Sum.inr m), .str cm]) := upd_same
        have hE2 := gt.at hE
        generalize upd H' tp (.tup [kV (Sum.inr m), .str cm]) = H6 at gt htp1 hE2 ⊢
        have lsn : Lsn H6 E := .inr (.inl ⟨_, hE2⟩)
        refine ⟨ps'.map V.ref, hE2, szl (by rw [List.length_map]; omega), hE0, (g.trans gt).put (.inl hE0), ps' ++ [tp], kvs' ++ [(Sum.inr m, .str cm)], ?_, ?_, paired_app (Paired.mapP hpk fun a b z => SqT.put (gt.tup z) lsn) (.cons (SqT.put (SqT.of htp1) lsn) .nil), paired_app hdl (.cons ⟨rfl, rfl⟩ .nil)⟩
        · rw [upd_same, List.map_append] <;> rfl
        · rw [List.length_append, List.length_singleton]; omega
    · rintro E H5 ⟨hE0, g, ps', kvs', hE, hpl, hpk, hdl⟩
      rw [List.length_map, rkv.length, List.take_length] at hdl
      have hnd : (kvs'.map (·.1)).Nodup := hdl.nodup ((hw.filter _).nd)
      refine wa_nil ⟨E, ps', kvs', rfl, Src.ix hE, hpk, fun fd hfd => ⟨fd, _, rfl, upd_same, trivial, fun oo => ?_⟩⟩
      rw [upd_upd, mergeK_nil hnd]
      exact q (.ref fd) _ (((g1.trans g14).trans g).put (.inl ((g1.trans g14).free _ (g.free _ hfd)))) ⟨fd, rfl, oo, kvs', upd_same, hdl⟩
end
end K6

/-! ## L5 -/
namespace K6
open PySem PySem.Spec PyProof.Rows L2
abbrev Xm (K : PySem.W.Frag) (a b : Str) (r : Bool) : Prop := PySem.W.exmOne K (.ref (ga K a)) (.ref (ga K b)) = some r
/-- what the except clauses stand on -/
structure Ty (K : PySem.W.Frag) (w : World) (mg : Str → Option Value) : Prop extends Tl K w mg where
  xUU : Xm K "UnknownName" "UnknownName" true
  xLU : Xm K "LimitExceeded" "UnknownName" false
  xLL : Xm K "LimitExceeded" "LimitExceeded" true
  xNN : Xm K "NothingToUndo" "NothingToUndo" true
  xBN : Xm K "Blocked" "NothingToUndo" false
  xBB : Xm K "Blocked" "Blocked" true
  xCU : Xm K "InvalidCommands" "UnknownName" false
  xCC : Xm K "InvalidCommands" "InvalidCommands" true
  xGU : Xm K "InvalidChange" "UnknownName" false
  xGC : Xm K "InvalidChange" "InvalidCommands" false
  xGG : Xm K "InvalidChange" "InvalidChange" true
  fU : XfC K (ga K "UnknownName")
  fL : XfC K (ga K "LimitExceeded")
  fN : XfC K (ga K "NothingToUndo")
  fB : XfC K (ga K "Blocked")
  fC : XfC K (ga K "InvalidCommands")
  fG : XfC K (ga K "InvalidChange")
  nU : PySem.W.findIn K (.ref (ga K "UnknownName")) "name" = some none
  nL : PySem.W.findIn K (.ref (ga K "LimitExceeded")) "limit" = some none
  nN : PySem.W.findIn K (.ref (ga K "NothingToUndo")) "user" = some none
  nB : PySem.W.findIn K (.ref (ga K "Blocked")) "name" = some none
  nC : PySem.W.findIn K (.ref (ga K "InvalidCommands")) "given" = some none
  nG : PySem.W.findIn K (.ref (ga K "InvalidChange")) "given" = some none
section
variable {P : Program} {w : World} {K : PySem.W.Frag} {mg : Str → Option Value} {base : Heap}
/-! ### all deeds -/
theorem sc54 : FnScope ["_law_texts", "_law_deeds", "_law_deed_here"] ["_law_texts", "_law_deeds"] (scL 54) := ⟨rfl, rfl, rfl, by decide +kernel, rfl, by decide +kernel, by decide +kernel⟩
def spAll (K : PySem.W.Frag) : Sp := fun vs H Q _ => ∃ (d ds : Addr) (ps : List Addr) (k : Str) (cs : List Ch) (ts : Tm), vs = [.ref d, .ref ds] ∧ TD H d ts ∧ Wf ts ∧ SqL K H ds (ps.map V.ref) ∧ Paired (fun q c => ChAt K H k q c ∧ ChOk c) ps cs ∧ cs.length ≤ 5 ∧ ∀ v H', Gr [] H H' → DoneR H' v (runs ts cs) → Q v H'
theorem law_all (T : Tl K w mg) : Fb false P w K mg base 4 (ga K "_law_all") (spAll K) := by
  obtain ⟨fd, F⟩ := T.d54.fn
  refine fn_b F sc54 (fun vs H Q E h => by obtain ⟨d, ds, ps, k, cs, ts, rfl, _⟩ := h; rfl) (fun _ _ _ _ _ _ us hl => match us, hl with | [_, _], _ => rfl) ?_
  intro pz cdv A outer s0 H vs Q E hp hq hr h
  obtain ⟨d, ds, ps, k, cs, ts, rfl, hd, hw, hds, hcs, hc5, q⟩ := h
  have hlen := Paired.length hcs
  refine wb_cons (w_for ownsQ hq (wi_list (w_var 1 ⟨_, rfl, ds, _, rfl, hds, fun J wk => ?_⟩)))
  refine for_wk wk (fun i σ H' => ∃ d' t' z, σ = [some (.ref d'), some (.ref ds), z] ∧ Gr [] H H' ∧ TD H' d' t' ∧ Wf t' ∧ runs ts (cs.take i) = .ok t') ⟨d, ts, none, rfl, Gr.refl, hd, hw, rfl⟩ (fun i σ H' h => by obtain ⟨_, _, _, _, g, _⟩ := h; exact g.lst hds) ?_ ?_
  · rintro i x σ H' hx ⟨d', t', z, rfl, g, hd', hw', hrun⟩
    rw [List.getElem?_map] at hx
    obtain ⟨qa, hqa, rfl⟩ := Option.map_eq_some_iff.mp hx
    obtain ⟨c, hc, hca, hco⟩ := paired_get' hcs hqa
    have es := runs_snoc hc hrun
    refine w_gname 2 ?_ sc54.nd
    refine wb_cons (ws_set 0 sc54.nd (w_call (law_done T) hq (hr.mono (by decide)) (T.d53.df rfl rfl) paF rfl (wa_cons (w_var 0 ⟨_, rfl, wa_cons (w_var 2 ⟨_, rfl, wa_nil ⟨d', qa, k, c, t', rfl, hd', hw', hca.gx g.gx0, hco, fun v H2 g2 hv => ?_⟩⟩)⟩))))
    refine wb_one (ws_if (wt_val (w_blt (call_isc (.type "list")) T.isi rfl (wa_cons (w_var 0 ⟨_, rfl, wa_cons (w_bname (v := .ty "list") T.lst rfl rfl (wa_nil ?_))⟩)))))
    cases hr' : run t' c with
    | ok t2 =>
      rw [hr'] at hv es
      obtain ⟨d2, rfl, hd2⟩ := hv
      obtain ⟨o2, kv2, ho2, _⟩ := id hd2
      exact ⟨_, _, _, _, rfl, fun _ h => h, .fDict ho2, by rfl, false, rfl, iteF (wb_nil ⟨d2, t2, _, rfl, g.trans g2, hd2, run_wf hw' hco hr', es⟩)⟩
    | unk n =>
      have est := runs_stop hc hrun (fun t' e => by rw [hr'] at e; cases e)
      rw [hr'] at hv est
      obtain ⟨l, rfl, hl⟩ := id hv
      exact ⟨_, _, _, _, rfl, fun _ h => h, .base (.lst hl), by rfl, true, rfl, iteT (wb_one (ws_ret (w_var 0 ⟨_, rfl, q _ _ (g.trans g2) (by rw [est]; exact hv)⟩)))⟩
    | lim =>
      have est := runs_stop hc hrun (fun t' e => by rw [hr'] at e; cases e)
      rw [hr'] at hv est
      obtain ⟨l, rfl, hl⟩ := id hv
      exact ⟨_, _, _, _, rfl, fun _ h => h, .base (.lst hl), by rfl, true, rfl, iteT (wb_one (ws_ret (w_var 0 ⟨_, rfl, q _ _ (g.trans g2) (by rw [est]; exact hv)⟩)))⟩
  rintro σ H' ⟨d', t', z, rfl, g, hd', hw', hrun⟩
  rw [List.length_map, hlen, List.take_length] at hrun
  exact wb_one (ws_ret (w_var 0 ⟨_, rfl, q _ _ g (by rw [hrun]; exact ⟨d', rfl, hd'⟩)⟩))
end
end K6

/-! ## L6 -/
namespace K6
open PySem PySem.Spec PyProof.Rows L2
section
variable {P : Program} {w : World} {K : PySem.W.Frag} {mg : Str → Option Value} {base : Heap}
/-! ### made -/
theorem sc55 : FnScope ["_law_studio", "_law_user", "_law_deeds", "e"] ["_law_studio", "_law_user", "_law_deeds"] (scL 55) := ⟨rfl, rfl, rfl, by decide +kernel, rfl, by decide +kernel, by decide +kernel⟩
def spMade (K : PySem.W.Frag) : Sp := fun vs H Q _ => ∃ (x ds : Addr) (u k : Str) (ps : List Addr) (cs : List Ch) (ts : Tm) (ss : List Sa), vs = [.ref x, .str u, .ref ds] ∧ Std K H x k ts ss ∧ u ∈ Users ∧ Wf ts ∧ Kind k ∧ ss.length ≤ 1000 ∧
  SqL K H ds (ps.map V.ref) ∧ Paired (fun q c => ChAt K H k q c ∧ ChOk c) ps cs ∧ 1 ≤ cs.length ∧ cs.length ≤ 3 ∧
  match runs ts cs with
  | .ok t => ∀ H' ys l, IsSet ys (cs.map Ch.nm) → Gr [x] H H' → Std K H' x k t (ss ++ [(u, ys, look ys ts)]) → H' l = some (.lst [.str "made"]) → Q (.ref l) H'
  | .unk n => ∀ H' l, Gr [] H H' → H' l = some (.lst [.str "unknown", .str n]) → Q (.ref l) H'
  | .lim => ∀ H' l, Gr [] H H' → H' l = some (.lst [.str "limit", .int 200]) → Q (.ref l) H'
theorem law_made (T : Ty K w mg) : Fb false P w K mg base 10 (ga K "_law_made") (spMade K) := by
  obtain ⟨fd, F⟩ := T.d55.fn
  refine fn_b F sc55 (fun vs H Q E h => by obtain ⟨x, ds, u, k, ps, cs, ts, ss, rfl, _⟩ := h; rfl) (fun _ _ _ _ _ _ us hl => match us, hl with | [_, _, _], _ => rfl) ?_
  intro pz cdv A outer s0 H vs Q E hp hq hr h
  obtain ⟨x, ds, u, k, ps, cs, ts, ss, rfl, hS, hu, hw, hk, hz, hds, hcs, h1, h3, q⟩ := h
  have hlen := Paired.length hcs
  obtain ⟨dx, d, l, hx, _, _⟩ := id hS
  refine wb_cons (w_try (l := [(.ref (ga K "UnknownName"), 3, _), (.ref (ga K "LimitExceeded"), 3, _)]) rfl rfl sc55.nd takesQ (.cons ⟨rfl, by decide, .inl T.eUnk.xc.mg⟩ rfl rfl (.cons ⟨rfl, by decide, .inl T.eLim.xc.mg⟩ rfl rfl .nil)) fun pn xe hpn tk => ?_)
  have hne : cs ≠ [] := fun z => by rw [z] at h1; exact absurd h1 (by decide)
  have mkO : ∀ {Qn : VK} {E' : XK}, (∀ t, runs ts cs = .ok t → ∀ H' ys, IsSet ys (cs.map Ch.nm) → Gr [x] H H' → Std K H' x k t (ss ++ [(u, ys, look ys ts)]) → Qn .non H') →
      (∀ n, runs ts cs = .unk n → ∀ H' d', Gr [] H H' → H' d' = some (.xd [("name", .str n)]) → E' (.ref (ga K "UnknownName")) (some d') H') →
      (runs ts cs = .lim → ∀ H' d', Gr [] H H' → H' d' = some (.xd [("limit", .int 200)]) → E' (.ref (ga K "LimitExceeded")) (some d') H') → MkOut K k u x ts ss cs H Qn E' := fun {Qn E'} a b c => by
    unfold MkOut
    cases e : runs ts cs with
    | ok t => exact a t e
    | unk n => exact b n e
    | lim => exact c e
  refine wb_one (ws_if (wt_cmp op_eq (w_blt call_len T.len rfl (wa_cons (w_var 2 ⟨_, rfl, wa_nil ⟨_, _, rfl, .inl ⟨_, hds, rfl⟩, w_int ⟨rfl, _, rfl, ?_⟩⟩⟩)))))
  match ps, hds, hcs, hlen with
  | [], _, _, hlen =>
    rw [← hlen] at h1
    exact absurd h1 (by decide)
  | [p0], hds, hcs, hlen =>
    rw [show decide (V.int (([p0].map V.ref).length : Nat) = V.int 1) = true from rfl]
    refine iteT ?_
    refine wb_one (ws_expr (w_meth (studio_make T.toTu) (.inl hq.calm) hr T.stu.cl T.u_makeM (paT tk) (w_var 0 ⟨_, rfl, x, dx, _, rfl, hx, rfl, wa_cons (w_var 1 ⟨_, rfl, wa_cons (w_ix ix_list (w_var 2 ⟨_, rfl, w_int ⟨ds, _, 0, .ref p0, rfl, rfl, hds, atI_nat (j := 0) rfl, wa_nil ⟨x, u, k, ts, ss, hS, hu, hw, hk, hz, .inl ⟨_, cs, rfl, hne, by omega, hcs, mkO ?_ ?_ ?_⟩⟩⟩⟩))⟩)⟩)))
    · intro t e H' ys hs g hS'
      rw [e] at q
      exact wb_one (ws_ret (w_lst (wa_cons (w_str (wa_nil ⟨sz1, fun l hl => q _ ys l hs (g.new hl) (hS'.gr0 (Gr.refl.new hl)) upd_same⟩)))))
    · intro n e H' d' g hd'
      rw [e] at q
      refine ⟨true, T.xUU, fun _ a oe pn' ha hz hf _ => ?_, fun z => nomatch z⟩
      exact wb_one (ws_ret (w_lst (wa_cons (w_str (wa_cons (w_xf T.fU T.nU hz hf (w_var 3 ⟨_, rfl, rfl, d', _, _, rfl, hd', rfl, wa_nil ⟨sz2, fun l hl => q _ l (g.new hl) upd_same⟩⟩)))))))
    · intro e H' d' g hd'
      rw [e] at q
      refine ⟨false, T.xLU, (fun z => nomatch z), fun _ => ⟨true, T.xLL, fun _ a oe pn' ha hz hf _ => ?_, fun z => nomatch z⟩⟩
      exact wb_one (ws_ret (w_lst (wa_cons (w_str (wa_cons (w_xf T.fL T.nL hz hf (w_var 3 ⟨_, rfl, rfl, d', _, _, rfl, hd', rfl, wa_nil ⟨sz2, fun l hl => q _ l (g.new hl) upd_same⟩⟩)))))))
  | [p0, p1], hds, hcs, hlen =>
    rw [show decide (V.int (([p0, p1].map V.ref).length : Nat) = V.int 1) = false from rfl]
    refine iteF ?_
    refine wb_one (ws_if (wt_cmp op_eq (w_blt call_len T.len rfl (wa_cons (w_var 2 ⟨_, rfl, wa_nil ⟨_, _, rfl, .inl ⟨_, hds, rfl⟩, w_int ⟨rfl, _, rfl, ?_⟩⟩⟩)))))
    rw [show decide (V.int (([p0, p1].map V.ref).length : Nat) = V.int 2) = true from rfl]
    refine iteT ?_
    refine wb_one (ws_expr (w_meth (studio_make T.toTu) (.inl hq.calm) hr T.stu.cl T.u_makeM (paT tk) (w_var 0 ⟨_, rfl, x, dx, _, rfl, hx, rfl, wa_cons (w_var 1 ⟨_, rfl, wa_cons (w_ix ix_list (w_var 2 ⟨_, rfl, w_int ⟨ds, _, 0, .ref p0, rfl, rfl, hds, atI_nat (j := 0) rfl, wa_cons (w_ix ix_list (w_var 2 ⟨_, rfl, w_int ⟨ds, _, 1, .ref p1, rfl, rfl, hds, atI_nat (j := 1) rfl, wa_nil ⟨x, u, k, ts, ss, hS, hu, hw, hk, hz, .inl ⟨_, cs, rfl, hne, by omega, hcs, mkO ?_ ?_ ?_⟩⟩⟩⟩))⟩⟩))⟩)⟩)))
    · intro t e H' ys hs g hS'
      rw [e] at q
      exact wb_one (ws_ret (w_lst (wa_cons (w_str (wa_nil ⟨sz1, fun l hl => q _ ys l hs (g.new hl) (hS'.gr0 (Gr.refl.new hl)) upd_same⟩)))))
    · intro n e H' d' g hd'
      rw [e] at q
      refine ⟨true, T.xUU, fun _ a oe pn' ha hz hf _ => ?_, fun z => nomatch z⟩
      exact wb_one (ws_ret (w_lst (wa_cons (w_str (wa_cons (w_xf T.fU T.nU hz hf (w_var 3 ⟨_, rfl, rfl, d', _, _, rfl, hd', rfl, wa_nil ⟨sz2, fun l hl => q _ l (g.new hl) upd_same⟩⟩)))))))
    · intro e H' d' g hd'
      rw [e] at q
      refine ⟨false, T.xLU, (fun z => nomatch z), fun _ => ⟨true, T.xLL, fun _ a oe pn' ha hz hf _ => ?_, fun z => nomatch z⟩⟩
      exact wb_one (ws_ret (w_lst (wa_cons (w_str (wa_cons (w_xf T.fL T.nL hz hf (w_var 3 ⟨_, rfl, rfl, d', _, _, rfl, hd', rfl, wa_nil ⟨sz2, fun l hl => q _ l (g.new hl) upd_same⟩⟩)))))))
  | [p0, p1, p2], hds, hcs, hlen =>
    rw [show decide (V.int (([p0, p1, p2].map V.ref).length : Nat) = V.int 1) = false from rfl]
    refine iteF ?_
    refine wb_one (ws_if (wt_cmp op_eq (w_blt call_len T.len rfl (wa_cons (w_var 2 ⟨_, rfl, wa_nil ⟨_, _, rfl, .inl ⟨_, hds, rfl⟩, w_int ⟨rfl, _, rfl, ?_⟩⟩⟩)))))
    rw [show decide (V.int (([p0, p1, p2].map V.ref).length : Nat) = V.int 2) = false from rfl]
    refine iteF ?_
    refine wb_one (ws_expr (w_meth (studio_make T.toTu) (.inl hq.calm) hr T.stu.cl T.u_makeM (paT tk) (w_var 0 ⟨_, rfl, x, dx, _, rfl, hx, rfl, wa_cons (w_var 1 ⟨_, rfl, wa_cons (w_ix ix_list (w_var 2 ⟨_, rfl, w_int ⟨ds, _, 0, .ref p0, rfl, rfl, hds, atI_nat (j := 0) rfl, wa_cons (w_ix ix_list (w_var 2 ⟨_, rfl, w_int ⟨ds, _, 1, .ref p1, rfl, rfl, hds, atI_nat (j := 1) rfl, wa_cons (w_ix ix_list (w_var 2 ⟨_, rfl, w_int ⟨ds, _, 2, .ref p2, rfl, rfl, hds, atI_nat (j := 2) rfl, wa_nil ⟨x, u, k, ts, ss, hS, hu, hw, hk, hz, .inl ⟨_, cs, rfl, hne, by omega, hcs, mkO ?_ ?_ ?_⟩⟩⟩⟩))⟩⟩))⟩⟩))⟩)⟩)))
    · intro t e H' ys hs g hS'
      rw [e] at q
      exact wb_one (ws_ret (w_lst (wa_cons (w_str (wa_nil ⟨sz1, fun l hl => q _ ys l hs (g.new hl) (hS'.gr0 (Gr.refl.new hl)) upd_same⟩)))))
    · intro n e H' d' g hd'
      rw [e] at q
      refine ⟨true, T.xUU, fun _ a oe pn' ha hz hf _ => ?_, fun z => nomatch z⟩
      exact wb_one (ws_ret (w_lst (wa_cons (w_str (wa_cons (w_xf T.fU T.nU hz hf (w_var 3 ⟨_, rfl, rfl, d', _, _, rfl, hd', rfl, wa_nil ⟨sz2, fun l hl => q _ l (g.new hl) upd_same⟩⟩)))))))
    · intro e H' d' g hd'
      rw [e] at q
      refine ⟨false, T.xLU, (fun z => nomatch z), fun _ => ⟨true, T.xLL, fun _ a oe pn' ha hz hf _ => ?_, fun z => nomatch z⟩⟩
      exact wb_one (ws_ret (w_lst (wa_cons (w_str (wa_cons (w_xf T.fL T.nL hz hf (w_var 3 ⟨_, rfl, rfl, d', _, _, rfl, hd', rfl, wa_nil ⟨sz2, fun l hl => q _ l (g.new hl) upd_same⟩⟩)))))))
  | p0 :: p1 :: p2 :: p3 :: r, _, _, hlen =>
    rw [← hlen] at h3
    exact absurd h3 (by simp)
end
end K6

/-! ## L7 -/
namespace K6
open PySem PySem.Spec PyProof.Rows L2
section
variable {P : Program} {w : World} {K : PySem.W.Frag} {mg : Str → Option Value} {base : Heap}
/-! ### back -/
theorem sc56 : FnScope ["_law_studio", "_law_user", "e"] ["_law_studio", "_law_user"] (scL 56) := ⟨rfl, rfl, rfl, by decide +kernel, rfl, by decide +kernel, by decide +kernel⟩
def spBack (K : PySem.W.Frag) : Sp := fun vs H Q _ => ∃ (x : Addr) (u k : Str) (ts : Tm) (ss : List Sa), vs = [.ref x, .str u] ∧ Std K H x k ts ss ∧ u ∈ Users ∧ Wf ts ∧ (∀ st ∈ ss, WfE st) ∧ ss.length ≤ 1000 ∧
  match undoA u ts ss with
  | .done ts' ss' => ∀ H' l, Gr [x] H H' → Std K H' x k ts' ss' → H' l = some (.lst [.str "made"]) → Q (.ref l) H'
  | .nothing => ∀ H' l, Gr [] H H' → H' l = some (.lst [.str "nothing", .str u]) → Q (.ref l) H'
  | .blocked n => ∀ H' l, Gr [] H H' → H' l = some (.lst [.str "blocked", .str n]) → Q (.ref l) H'
theorem law_back (T : Ty K w mg) : Fb false P w K mg base 4 (ga K "_law_back") (spBack K) := by
  obtain ⟨fd, F⟩ := T.d56.fn
  refine fn_b F sc56 (fun vs H Q E h => by obtain ⟨x, u, k, ts, ss, rfl, _⟩ := h; rfl) (fun _ _ _ _ _ _ us hl => match us, hl with | [_, _], _ => rfl) ?_
  intro pz cdv A outer s0 H vs Q E hp hq hr h
  obtain ⟨x, u, k, ts, ss, rfl, hS, hu, hw, hss, hz, q⟩ := h
  obtain ⟨dx, d, l, hx, _, _⟩ := id hS
  refine wb_cons (w_try (l := [(.ref (ga K "NothingToUndo"), 2, _), (.ref (ga K "Blocked"), 2, _)]) rfl rfl sc56.nd takesQ (.cons ⟨rfl, by decide, .inl T.eNo.xc.mg⟩ rfl rfl (.cons ⟨rfl, by decide, .inl T.eBlk.xc.mg⟩ rfl rfl .nil)) fun pn xe hpn tk => ?_)
  refine wb_one (ws_expr (w_meth (studio_undo T.toTv) (.inl hq.calm) hr T.stu.cl T.u_undoM (paT tk) (w_var 0 ⟨_, rfl, x, dx, _, rfl, hx, rfl, wa_cons (w_var 1 ⟨_, rfl, wa_nil ⟨x, u, k, ts, ss, rfl, hS, hu, hw, hss, hz, ?_⟩⟩)⟩)))
  unfold UnOut
  cases e : undoA u ts ss with
  | done ts' ss' =>
    rw [e] at q
    intro H' g hS'
    exact wb_one (ws_ret (w_lst (wa_cons (w_str (wa_nil ⟨sz1, fun l hl => q _ l (g.new hl) (hS'.gr0 (Gr.refl.new hl)) upd_same⟩)))))
  | nothing =>
    rw [e] at q
    intro H' d' g hd'
    refine ⟨true, T.xNN, fun _ a oe pn' ha hz hf _ => ?_, fun z => nomatch z⟩
    exact wb_one (ws_ret (w_lst (wa_cons (w_str (wa_cons (w_xf T.fN T.nN hz hf (w_var 2 ⟨_, rfl, rfl, d', _, _, rfl, hd', rfl, wa_nil ⟨sz2, fun l hl => q _ l (g.new hl) upd_same⟩⟩)))))))
  | blocked n =>
    rw [e] at q
    intro H' d' g hd'
    refine ⟨false, T.xBN, (fun z => nomatch z), fun _ => ⟨true, T.xBB, fun _ a oe pn' ha hz hf _ => ?_, fun z => nomatch z⟩⟩
    exact wb_one (ws_ret (w_lst (wa_cons (w_str (wa_cons (w_xf T.fB T.nB hz hf (w_var 2 ⟨_, rfl, rfl, d', _, _, rfl, hd', rfl, wa_nil ⟨sz2, fun l hl => q _ l (g.new hl) upd_same⟩⟩)))))))
end
end K6

/-! ## M4 -/
namespace K6
open PySem PySem.Spec PyProof.Rows L2
/-! ### rows: a user and the names, as data -/
def rowD (e : Str × List Str) : PyData := .tuple [.str e.1, .tuple (e.2.map PyData.str)]
def RowOk (e : Str × List Str) : Prop := PyData.strOk e.1 = true ∧ ∀ n ∈ e.2, PyData.strOk n = true
theorem row_can {e : Str × List Str} (h : RowOk e) : (rowD e).canLay0 = true := by
  simp [rowD, PyData.canLay0, PyData.canLayAll0, h.1, canAll_strs h.2]
theorem row_dep (e : Str × List Str) : (rowD e).depth = 2 := by
  simp [rowD, PyData.depth, PyData.depthAll, depthAll_strs]
theorem rows_can : ∀ {es : List (Str × List Str)}, (∀ e ∈ es, RowOk e) → PyData.canLayAll0 (es.map rowD) = true
  | [], _ => by simp [PyData.canLayAll0]
  | e :: es, h => by
    rw [List.map_cons]
    simp only [PyData.canLayAll0, row_can (h e List.mem_cons_self), rows_can (es := es) fun y hy => h y (List.mem_cons_of_mem _ hy), Bool.and_self]
theorem rows_dep : ∀ es : List (Str × List Str), PyData.depthAll (es.map rowD) ≤ 2
  | [] => by simp [PyData.depthAll]
  | e :: es => by
    rw [List.map_cons]
    simp only [PyData.depthAll, row_dep]
    have := rows_dep es
    omega
theorem sh_rows {es : List (Str × List Str)} (h : ∀ e ∈ es, RowOk e) : SeqAt.shaped (.list (es.map rowD)) = true := by
  have h1 := rows_dep es
  have h2 := rows_can h
  have h3 : (PyData.list (es.map rowD)).depth ≤ 64 := by
    simp only [PyData.depth]
    omega
  have h4 : (PyData.list (es.map rowD)).canLay0 = true := by
    simp only [PyData.canLay0]
    exact h2
  unfold SeqAt.shaped
  rw [h4, decide_eq_true h3] <;> rfl
theorem row_eqv (e : Str × List Str) : PyData.eqv (rowD e) (rowD e) = true := by
  have h := eqvAll_strs e.2 e.2
  rw [decide_eq_true rfl] at h
  simp only [rowD, PyData.eqv, PyData.eqvAll, h, Bool.and_true]
  exact beq_self_eq_true e.1
theorem rows_eqvAll : ∀ es : List (Str × List Str), PyData.eqvAll (es.map rowD) (es.map rowD) = true
  | [] => by simp [PyData.eqvAll]
  | e :: es => by
    rw [List.map_cons]
    simp only [PyData.eqvAll, row_eqv, rows_eqvAll es, Bool.and_self]
theorem rows_eqv (es : List (Str × List Str)) : PyData.eqv (.list (es.map rowD)) (.list (es.map rowD)) = true := by
  simp only [PyData.eqv]
  exact rows_eqvAll es
theorem row_dp {K : PySem.W.Frag} {H : Hp} {p t : Addr} {e : Str × List Str} (h : SqT K H p [.str e.1, .ref t]) (ht : SqT K H t (e.2.map V.str)) : Dp K H (.ref p) (rowD e) :=
  .tup h (.cons (.str _) (.cons (.tup ht (dpAll_strs _)) .nil))
/-- rows as they stand -/
abbrev RowL (K : PySem.W.Frag) (H : Hp) : List V → List (Str × List Str) → Prop := Paired fun v e => ∃ p t, v = V.ref p ∧ SqT K H p [.str e.1, .ref t] ∧ SqT K H t (e.2.map V.str)
theorem rows_dp {K : PySem.W.Frag} {H : Hp} {vs : List V} {es : List (Str × List Str)} (h : RowL K H vs es) : DpAll K H vs (es.map rowD) := by
  induction h with
  | nil => exact .nil
  | cons r _ ih =>
    obtain ⟨p, t, rfl, h1, h2⟩ := r
    exact .cons (row_dp h1 h2) ih
theorem users_ok2 : ∀ x ∈ Users, PyData.strOk x = true := by decide +kernel
theorem WfE.row {e : Sa} (h : WfE e) : RowOk (e.1, e.2.1) := ⟨users_ok2 _ h.us, fun n hn => univ_ok2 n (h.un n hn)⟩
end K6

/-! ## L8 -/
namespace K6
open PySem PySem.Spec PyProof.Rows L2
section
variable {P : Program} {w : World} {K : PySem.W.Frag} {mg : Str → Option Value} {base : Heap}
abbrev N59 : List Str := ["_law_kind_here", "_law_studio", "_law_texts", "_law_past", "_law_name", "_law_one"]
theorem sc59 : FnScope N59 ["_law_kind_here", "_law_studio", "_law_texts", "_law_past"] (scL 59) := ⟨rfl, rfl, rfl, by decide +kernel, rfl, by decide +kernel, by decide +kernel⟩
/-- the studio at x has what the law knows -/
structure Same (K : PySem.W.Frag) (H : Hp) (k : Str) (x d l : Addr) (ts : Tm) (ps : List Sa) : Prop where
  st : Std K H x k ts (ps.map stp)
  td : TD H d ts
  pl : PL K H l ps
def spSame (K : PySem.W.Frag) : Sp := fun vs H Q _ => ∃ (k : Str) (x d l : Addr) (ts : Tm) (ps : List Sa), vs = [.str k, .ref x, .ref d, .ref l] ∧ Same K H k x d l ts ps ∧ Kind k ∧ Wf ts ∧ (∀ e ∈ ps, WfE e) ∧ ps.length ≤ 1000 ∧ ∀ H', Gr [] H H' → Q (.bl true) H'
theorem rowL_of {H H' : Hp} {vs : List V} {ss : List Sa} (h : LogL K H vs ss) (g : Gr [] H H') : RowL K H' vs (ss.map fun st => (st.1, st.2.1)) := by
  induction h with
  | nil => exact .nil
  | cons r _ ih =>
    obtain ⟨p, t, e, h1, h2⟩ := r
    exact .cons ⟨p, t, e, .of (g.at h1), g.tup h2⟩ ih
theorem RowL.put {H H' : Hp} {D : Addr} {o : HO} {zs : List V} {es : List (Str × List Str)} (h : RowL K H zs es) (g : Gr [] H H') (lsn : Lsn H' D) : RowL K (upd H' D o) zs es := by
  induction h with
  | nil => exact .nil
  | cons r _ ih =>
    obtain ⟨p, t, e, h1, h2⟩ := r
    exact .cons ⟨p, t, e, SqT.put (g.tup h1) lsn, SqT.put (g.tup h2) lsn⟩ ih
theorem law_same (T : Ty K w mg) : Fb true P w K mg base 6 (ga K "_law_same") (spSame K) := by
  obtain ⟨fd, F⟩ := T.d59.fn
  refine fn_b F sc59 (fun vs H Q E h => by obtain ⟨k, x, d, l, ts, ps, rfl, _⟩ := h; rfl) (fun _ _ _ _ _ _ us hl => match us, hl with | [_, _, _, _], _ => rfl) ?_
  intro pz cdv A outer s0 H vs Q E hp hq hr h
  obtain ⟨k, x, d, l, ts, ps, rfl, ⟨hS, hd, hl⟩, hk, hw, hps, hz, q⟩ := h
  have hw8 := hw.len
  have cl := T.stu.cl
  obtain ⟨dx, d0, l0, hx, _, _⟩ := id hS
  obtain ⟨o, kvs, hdo, rkv⟩ := id hd
  have hstr : ∀ {ys : List Str}, IsSet ys (nms ts) → ∀ z ∈ ys, PyData.strOk z = true := fun h z hz => univ_ok2 z (hw.un z ((h.mem z).mp hz))
  refine wb_cons (ws_if (wt_or3 (wt_cmp (op_neD (by have := RoomH.u hr; omega)) (w_prop (studio_names T.toTw) hq (hr.mono (by decide)) cl T.u_namesP (w_var 1 ⟨_, rfl, x, dx, _, rfl, hx, x, k, ts, _, rfl, hS, hw, fun ys H1 p1 hys g1 hp1 h1 => ?_⟩)))))
  refine w_blt (call_sortedQ hq) T.srt rfl (wa_cons (w_var 2 ⟨_, rfl, wa_nil ⟨d, kvs, nms ts, rfl, .inr ⟨o, g1.at hdo⟩, rkv.keys, (by rw [List.length_map]; omega), fun ys2 p2 hpm hso hp2 => ?_⟩⟩))
  have hys2 : IsSet ys2 (nms ts) := .of hpm hso hw.nd
  have eqy : ys = ys2 := hys.uniq hys2 fun _ => Iff.rfl
  subst eqy
  have g2 : Gr [] H1 (upd H1 p2 (.lst (ys.map V.str))) := Gr.refl.new hp2
  refine ⟨_, _, .lst (Src.ix (g2.at h1)) (dpAll_strs ys), .lst (Src.ix upd_same) (dpAll_strs ys), sh_list (hstr hys), sh_list (hstr hys), _, rfl, ?_⟩
  rw [eqv_list, decide_eq_true rfl]
  refine iteF ?_
  have g12 := g1.trans g2
  generalize upd H1 p2 (.lst (ys.map V.str)) = H2 at g2 g12 ⊢
  refine wt_cmp op_ne (w_blt (call_lenO (studio_len T.toTw) hq (hr.mono (by decide)) T.u_lenM (fun _ => paF)) T.len rfl (wa_cons (w_var 1 ⟨_, rfl, wa_nil ⟨x, dx, _, rfl, g12.at hx, x, k, ts, _, rfl, hS.gr0 g12, _, rfl, by omega, ?_⟩⟩)))
  refine w_blt call_lenR T.len rfl (wa_cons (w_var 2 ⟨_, rfl, wa_nil ⟨d, kvs, rfl, .inr ⟨o, g12.at hdo⟩, rfl, _, rfl, ?_⟩⟩))
  rw [rkv.length, show (!decide (V.int (ts.length : Nat) = V.int (ts.length : Nat))) = false from by simp]
  refine iteF (wt_cmp op_ne (w_prop (studio_net T.toTw) hq (hr.mono (by decide)) cl T.u_netP (w_var 1 ⟨_, rfl, x, dx, _, rfl, g12.at hx, x, k, ts, _, rfl, hS.gr0 g12, w_var 0 ⟨_, rfl, rfl, _, rfl, ?_⟩⟩)))
  rw [show (!decide (V.str k = V.str k)) = false from by simp]
  refine iteF (wb_nil ?_)
  refine wb_cons (w_for ownsQ hq (wi_keys (w_var 2 ⟨_, rfl, d, o, kvs, rfl, g12.at hdo, fun J wk => ?_⟩)))
  refine for_wk wk (fun i σ H' => Gr [] H2 H' ∧ ∃ z, σ = [some (.str k), some (.ref x), some (.ref d), some (.ref l), z, none]) ⟨Gr.refl, none, rfl⟩ (fun i σ H' h => (g12.trans h.1).at hdo) ?_ ?_
  · rintro i y σ H' hy ⟨g, z, rfl⟩
    rw [List.getElem?_map] at hy
    obtain ⟨⟨ky, kvv⟩, hkv, rfl⟩ := Option.map_eq_some_iff.mp hy
    obtain ⟨m, cm, htm, rfl, er⟩ := rkv.get hkv
    have hval : valA ts m = some cm := hw.at_ htm
    have hmN : NameOk m := univ_ok m (hw.un m (valA_mem.mp (by rw [hval] <;> rfl)))
    have gH := g12.trans g
    have hdg : DGet H' d (.str m) (some (.str cm)) := by
      rcases (hd.gx (K := K) gH.gx0).get m with ⟨z, _⟩ | ⟨c', z, zz⟩
      · rw [hval] at z; cases z
      · rw [hval] at z; cases z; exact zz
    have hcm : Cmd cm := hw.val hval
    refine w_gname 4 ?_ sc59.nd
    refine wb_one (ws_if (wt_or2 (wt_cmp (op_neO (walk_eq T.toTx) hq.up (hr.mono (by decide)) T.w_eqM T.w_ne T.wal.cm (fun _ => paF)) (w_itemO (studio_get T.toTw) hq (hr.mono (by decide)) T.u_getM T.u_getF paF (w_var 1 ⟨_, rfl, w_var 4 ⟨_, rfl, x, dx, _, rfl, gH.at hx, x, m, cm, k, ts, _, rfl, hS.gr0 gH, hmN, hval, fun H3 wp g3 hW => ?_⟩⟩)))))
    refine w_walk T.toTx hq.up (hr.mono (by decide)) rfl (wa_cons (w_var 0 ⟨_, rfl, wa_cons (w_dget hr (w_var 2 ⟨_, rfl, w_var 4 ⟨_, rfl, d, _, rfl, ?_, wa_nil ⟨k, cm, rfl, hk, hcm, fun wq H4 hwq g4 hW4 => ?_⟩⟩⟩))⟩))
    · rcases (hd.gx (K := K) (gH.trans g3).gx0).get m with ⟨z, _⟩ | ⟨c', z, zz⟩
      · rw [hval] at z; cases z
      · rw [hval] at z; cases z; exact zz
    obtain ⟨dw, mw, qw, hwi⟩ := id (hW.gx g4.gx0)
    refine ⟨wp, dw, _, _, rfl, hwi, walk_ty T.toTx hW4, T.w_notF, wp, wq, k, cm, k, cm, rfl, hW.gx g4.gx0, hW4, _, rfl, _, rfl, ?_⟩
    rw [decide_eq_true rfl, decide_eq_true rfl]
    refine iteF ?_
    have gH4 := (gH.trans g3).trans g4
    refine wt_cmp (op_notinO (studio_has T.toTw) hq (hr.mono (by decide)) T.u_hasM (fun _ => paF)) (w_var 4 ⟨_, rfl, w_var 1 ⟨_, rfl, x, dx, _, rfl, gH4.at hx, x, m, k, ts, _, rfl, hS.gr0 gH4, hmN, fun H5 g5 => ⟨_, rfl, _, rfl, ?_⟩⟩⟩)
    rw [hval]
    exact iteF (wb_nil ⟨((g.trans g3).trans g4).trans g5, _, rfl⟩)
  rintro σ H3 ⟨g3, z, rfl⟩
  have g13 := g12.trans g3
  refine wb_one (ws_ret (w_cmp (op_eqD (by have := RoomH.u hr; omega)) (w_listG (studio_log T.toTt) hq (hr.mono (by decide)) cl T.u_logM rfl T.lst (by decide +kernel) (w_var 1 ⟨_, rfl, x, dx, _, rfl, g13.at hx, rfl, x, k, ts, _, rfl, hS.gr0 g13, (by rw [List.length_map]; exact hz), fun H4 ys g4 hL la hla => ?_⟩))))
  obtain ⟨ol, xs, hlo, rl⟩ := id hl
  have hxl := Paired.length rl
  have g5 : Gr [] H4 (upd H4 la (.lst ys)) := Gr.refl.new hla
  have hla5 : (upd H4 la (.lst ys)) la = some (.lst ys) := upd_same
  generalize upd H4 la (.lst ys) = H5 at g5 hla5 ⊢
  have g15 := (g13.trans g4).trans g5
  refine w_lc (own := [("_law_one", 5)]) hq sc59.nd (blkOk (N := N59) (sc := scL 59)) (wi_list (w_var 3 ⟨_, rfl, l, xs, rfl, .inl (.inr ⟨ol, g15.at hlo⟩), fun J wk => ?_⟩))
  refine lc_wk wk (fun D i H' => H5 D = none ∧ Gr [] H5 H' ∧ i ≤ xs.length ∧ ∃ zs, zs.length = i ∧ H' D = some (.lst zs) ∧ RowL K H' zs ((ps.take i).map fun e => (e.1, e.2.1))) (fun D hD => ⟨hD, Gr.refl.new hD, Nat.zero_le _, [], rfl, upd_same, .nil⟩) (fun D i H' h => .inl (.inr ⟨ol, (g15.trans h.2.1).at hlo⟩)) ?_ ?_
  · rintro D s3 H3' C cl' fp i y H' hy ⟨hD0, g, hi, zs, hzl, hD, hR⟩
    obtain ⟨e, he, pe, rfl, hpa⟩ := paired_get' rl hy
    obtain ⟨t, de, hpt, htn, _⟩ := hpa.gx (g15.trans g).gx0
    have hlt : i < xs.length := (List.getElem?_eq_some_iff.mp hy).1
    refine w_gname 5 ⟨rfl, wts_nil (iteT ?_)⟩ sc59.nd
    refine w_tup (wa_cons (w_ix ix_tup (w_var 5 ⟨_, rfl, w_int ⟨pe, _, 0, .str e.1, rfl, rfl, hpt, atI_nat (j := 0) rfl, wa_cons (w_ix ix_tup (w_var 5 ⟨_, rfl, w_int ⟨pe, _, 1, .ref t, rfl, rfl, hpt, atI_nat (j := 1) rfl, wa_nil ⟨sz2, fun tp htp => ?_⟩⟩⟩))⟩⟩)))
    have gt : Gr [] H' (upd H' tp (.tup [.str e.1, .ref t])) := Gr.refl.new htp
    have htp1 : (upd H' tp (.tup [.str e.1, .ref t])) tp = some (.tup [.str e.1, .ref t]) := upd_same
    have hD2 := gt.at hD
    generalize upd H' tp (.tup [.str e.1, .ref t]) = H6 at gt htp1 hD2 ⊢
    have lsn : Lsn H6 D := .inr (.inl ⟨_, hD2⟩)
    refine ⟨zs, hD2, szl (by omega), hD0, (g.trans gt).put (.inl hD0), hlt, zs ++ [.ref tp], by rw [List.length_append, hzl] <;> rfl, upd_same, ?_⟩
    rw [List.take_add_one, he, Option.toList_some, List.map_append]
    exact paired_app (RowL.put hR gt lsn) (.cons ⟨tp, t, rfl, SqT.put (.of htp1) lsn, SqT.put (gt.tup htn) lsn⟩ .nil)
  · rintro D H6 ⟨hD0, g, hi, zs, hzl, hD, hR⟩
    rw [hxl, List.take_length] at hR
    have hok : ∀ e ∈ ps.map (fun e => (e.1, e.2.1)), RowOk e := fun e he => by
      obtain ⟨e', he', rfl⟩ := List.mem_map.mp he
      exact (hps e' he').row
    have hLR := rowL_of hL (g5.trans g)
    rw [List.map_map] at hLR
    refine ⟨_, _, .lst (Src.ix (g.at hla5)) (rows_dp hLR), .lst (Src.ix hD) (rows_dp hR), sh_rows hok, sh_rows hok, ?_⟩
    have e : PyData.eqv (.list ((ps.map (fun e => (e.1, e.2.1))).map rowD)) (.list ((ps.map (fun e => (e.1, e.2.1))).map rowD)) = true := rows_eqv _
    show Q (.bl (PyData.eqv (.list ((ps.map (fun e => (e.1, e.2.1))).map rowD)) (.list ((ps.map (fun e => (e.1, e.2.1))).map rowD)))) H6
    rw [e]
    exact q H6 (g15.trans g)
end
end K6

/-! ## M5 -/
namespace K6
open PySem PySem.Spec PyProof.Rows L2
/-! ### the steps of a user -/
def isOf {β : Type} (u : Str) (ps : List (Str × β)) (i : Nat) : Bool := decide ((ps[i]?.map (·.1)) = some u)
def ownA {β : Type} (u : Str) (ps : List (Str × β)) (m : Nat) : List Nat := (List.range m).filter (isOf u ps)
theorem lat_own {β : Type} (u : Str) (ps : List (Str × β)) : lat u ps = (ownA u ps ps.length).getLast? := by
  unfold lat ownA
  rw [List.getLast?_eq_head?_reverse, ← List.filter_reverse, List.head?_filter]
  rfl
theorem lat_map (u : Str) (ps : List Sa) : lat u (ps.map stp) = lat u ps := by
  unfold lat
  rw [List.length_map]
  congr 1
  funext i
  rw [List.getElem?_map]
  cases ps[i]? <;> rfl
theorem ownA_snoc {β : Type} (u : Str) (ps : List (Str × β)) (m : Nat) : ownA u ps (m + 1) = ownA u ps m ++ (if isOf u ps m = true then [m] else []) := by
  unfold ownA
  rw [List.range_succ, List.filter_append, List.filter_cons, List.filter_nil]
theorem ownA_len {β : Type} (u : Str) (ps : List (Str × β)) (m : Nat) : (ownA u ps m).length ≤ m := by
  have := List.length_filter_le (isOf u ps) (List.range m)
  rw [List.length_range] at this
  exact this
/-- what the law says of an undo -/
def dueL (u : Str) : UnR → List V
  | .nothing => [.str "nothing", .str u]
  | .blocked n => [.str "blocked", .str n]
  | .done _ _ => [.str "made"]
theorem undo_no {u : Str} {ts : Tm} {ps : List Sa} (h : lat u ps = none) : undoA u ts (ps.map stp) = .nothing := by
  unfold undoA
  rw [lat_map, h]
theorem undo_at {u : Str} {ts : Tm} {ps : List Sa} {i : Nat} {e : Sa} (h : lat u ps = some i) (he : ps[i]? = some e) : undoA u ts (ps.map stp) = match heldA e.2.1 ((ps.drop (i + 1)).map (·.2.1)) with
    | some n => .blocked n
    | none => .done (mergeA (ts.filter fun p => decide (p.1 ∉ e.2.1)) (look e.2.1 e.2.2)) ((ps.take i ++ ps.drop (i + 1)).map stp) := by
  have e1 : (ps.map stp)[i]? = some (stp e) := by rw [List.getElem?_map, he] <;> rfl
  have e2 : ((ps.map stp).drop (i + 1)).map (·.2.1) = (ps.drop (i + 1)).map (·.2.1) := by
    rw [← List.map_drop, List.map_map] <;> rfl
  unfold undoA
  rw [lat_map, h]
  simp only [e1]
  rw [e2, ← List.map_take, ← List.map_drop, ← List.map_append] <;> rfl
theorem held_flat (ns : List Str) (later : List (List Str)) : heldA ns later = (ns.filter fun n => decide (n ∈ later.flatten)).head? := by
  unfold heldA
  rw [List.head?_filter]
  congr 1
  funext n
  rw [Bool.eq_iff_iff, List.any_eq_true, decide_eq_true_eq, List.mem_flatten]
  simp
/-! ### ints as data -/
theorem dpAll_ints {K : PySem.W.Frag} {H : Hp} : ∀ xs : List Int, DpAll K H (xs.map V.int) (xs.map PyData.int)
  | [] => .nil
  | x :: xs => .cons (.int x) (dpAll_ints xs)
theorem canAll_ints : ∀ xs : List Int, PyData.canLayAll0 (xs.map PyData.int) = true
  | [] => by simp [PyData.canLayAll0]
  | x :: xs => by simp only [List.map_cons, PyData.canLayAll0, PyData.canLay0, canAll_ints xs, Bool.and_self]
theorem depthAll_ints : ∀ xs : List Int, PyData.depthAll (xs.map PyData.int) = 0
  | [] => by simp [PyData.depthAll]
  | x :: xs => by simp [PyData.depthAll, PyData.depth, depthAll_ints xs]
theorem sh_ints (xs : List Int) : SeqAt.shaped (.list (xs.map PyData.int)) = true := by
  simp [SeqAt.shaped, PyData.canLay0, canAll_ints, PyData.depth, depthAll_ints]
theorem atI_last {α : Type} {xs : List α} {x : α} (h : xs.getLast? = some x) : atI xs (-1) = some x := by
  have hne : xs ≠ [] := fun z => by rw [z] at h; cases h
  have hl : 0 < xs.length := List.length_pos_iff.mpr hne
  have e : ixN xs.length (-1) = some (xs.length - 1) := by
    unfold ixN
    rw [if_neg (by decide), if_pos (by omega)]
    congr 1
    omega
  unfold atI
  rw [e]
  show xs[xs.length - 1]? = some x
  rw [← List.getLast?_eq_getElem?]
  exact h
section
variable {X : Cx} {σ : St} {H : Hp} {QT : Bool → Hp → Prop} {Q : VK} {k : Nat} {a : Expr} {pos p : Pos}
/-- xs == [], ints -/
theorem wt_eqNilI (hr : L2H.RoomH k X.A) (h : wE X a σ H fun v H1 => ∃ l, ∃ xs : List Int, v = .ref l ∧ SqL X.K H1 l (xs.map V.int) ∧ ∀ q, H1 q = none → QT xs.isEmpty (upd H1 q (.lst []))) :
    wT X (.Compare a [.Eq] [.List [] p] pos) σ H QT := by
  refine wt_cmp (op_eqD (by have := RoomH.u hr; omega)) (h.mono ?_)
  rintro v H1 ⟨l, xs, rfl, hl, q⟩
  refine w_lst (wa_nil ⟨sz0, fun p hp => ⟨_, _, .lst ((Gr.refl.new hp : Gr [] H1 _).lst hl) (dpAll_ints xs), .lst (xs := []) (.inl (.inl upd_same)) .nil, sh_ints xs, sh_ints [], _, rfl, ?_⟩⟩)
  have e : PyData.eqv (.list (xs.map PyData.int)) (.list []) = xs.isEmpty := by
    cases xs <;> simp [PyData.eqv, PyData.eqvAll]
  rw [e]
  exact q p hp
end
end K6

/-! ## L9 -/
namespace K6
open PySem PySem.Spec PyProof.Rows L2
theorem flat_len : ∀ {ls : List (List Str)}, (∀ l ∈ ls, l.length ≤ 9) → ls.flatten.length ≤ 9 * ls.length
  | [], _ => by simp
  | l :: r, h => by
    have h1 := h l List.mem_cons_self
    have h2 := flat_len (ls := r) fun z hz => h z (List.mem_cons_of_mem _ hz)
    rw [List.flatten_cons, List.length_append, List.length_cons]
    omega
theorem WfE.len {e : Sa} (h : WfE e) : e.2.1.length ≤ 9 := univ_len h.nd h.un
abbrev ownI {β : Type} (u : Str) (ps : List (Str × β)) (m : Nat) : List Int := (ownA u ps m).map fun j => ((j : Nat) : Int)
theorem ownI_last {β : Type} {u : Str} {ps : List (Str × β)} {i : Nat} (h : lat u ps = some i) : atI ((ownI u ps ps.length).map V.int) (-1) = some (.int (i : Nat)) := by
  rw [lat_own] at h
  refine atI_last ?_
  rw [List.map_map, List.getLast?_map, h] <;> rfl
theorem ownI_none {β : Type} {u : Str} {ps : List (Str × β)} (h : lat u ps = none) : ownI u ps ps.length = [] := by
  rw [lat_own, List.getLast?_eq_none_iff] at h
  rw [show ownI u ps ps.length = (ownA u ps ps.length).map _ from rfl, h] <;> rfl
theorem ownI_some {β : Type} {u : Str} {ps : List (Str × β)} {i : Nat} (h : lat u ps = some i) : (ownI u ps ps.length).isEmpty = false := by
  rw [lat_own] at h
  cases e : ownA u ps ps.length with
  | nil => rw [e] at h; cases h
  | cons a r => rw [show ownI u ps ps.length = (ownA u ps ps.length).map _ from rfl, e] <;> rfl
theorem rng_at {n i : Nat} {x : V} (h : ((List.range n).map fun i => V.int (0 + (i : Nat)))[i]? = some x) : i < n ∧ x = .int (i : Nat) := by
  rw [List.getElem?_map] at h
  obtain ⟨j, hj, rfl⟩ := Option.map_eq_some_iff.mp h
  obtain ⟨h1, h2⟩ := List.getElem?_eq_some_iff.mp hj
  rw [List.getElem_range] at h2
  rw [List.length_range] at h1
  subst h2
  exact ⟨h1, by rw [Int.zero_add]⟩
theorem PL.row {K : PySem.W.Frag} {H : Hp} {l : Addr} {ps : List Sa} {xs : List V} (rl : PsL K H xs ps) {H' : Hp} (g : Gr [] H H') {i : Nat} {e : Sa} (he : ps[i]? = some e) :
    ∃ p t d, xs[i]? = some (.ref p) ∧ SqT K H' p [.str e.1, .ref t, .ref d] ∧ SqT K H' t (e.2.1.map V.str) ∧ TD H' d e.2.2 := by
  have hi : i < xs.length := by
    rw [Paired.length rl]
    exact (List.getElem?_eq_some_iff.mp he).1
  have hx := List.getElem?_eq_getElem hi
  obtain ⟨e', he', p, rp, hp⟩ := paired_get' rl hx
  rw [he] at he'
  cases he'
  obtain ⟨t, d, h1, h2, h3⟩ := hp.gx g.gx0
  exact ⟨p, t, d, by rw [hx, rp], h1, h2, h3⟩
section
variable {P : Program} {w : World} {K : PySem.W.Frag} {mg : Str → Option Value} {base : Heap}
/-! ### what an undo is due to give -/
abbrev N57 : List Str := ["_law_past", "_law_user", "_law_own", "_law_later", "_law_one", "_law_held", "_law_at", "_law_name"]
theorem sc57 : FnScope N57 ["_law_past", "_law_user"] (scL 57) := ⟨rfl, rfl, rfl, by decide +kernel, rfl, by decide +kernel, by decide +kernel⟩
def spDue (K : PySem.W.Frag) : Sp := fun vs H Q _ => ∃ (l : Addr) (u : Str) (ts : Tm) (ps : List Sa), vs = [.ref l, .str u] ∧ PL K H l ps ∧ (∀ e ∈ ps, WfE e) ∧ ps.length ≤ 1000 ∧
  ∀ H' r, Gr [] H H' → H' r = some (.lst (dueL u (undoA u ts (ps.map stp)))) → Q (.ref r) H'
theorem law_due (T : Tl K w mg) : Fb false P w K mg base 1 (ga K "_law_back_due") (spDue K) := by
  obtain ⟨fd, F⟩ := T.d57.fn
  refine fn_b F sc57 (fun vs H Q E h => by obtain ⟨l, u, ts, ps, rfl, _⟩ := h; rfl) (fun _ _ _ _ _ _ us hl => match us, hl with | [_, _], _ => rfl) ?_
  intro pz cdv A outer s0 H vs Q E hp hq hr h
  obtain ⟨l, u, ts, ps, rfl, hl, hps, hz, q⟩ := h
  obtain ⟨o, xs, hlo, rl⟩ := id hl
  have hxl := Paired.length rl
  have hL : ∀ {H'}, Gr [] H H' → SqL K H' l xs := fun g => .inl (.inr ⟨o, g.at hlo⟩)
  refine wb_cons (w_setLc (own := [("_law_at", 6)]) hq sc57.nd (blkOk (N := N57) (sc := scL 57)) (i := 2) rfl rfl rfl (wi_range T.rng rfl (wa_cons (w_blt call_len T.len rfl (wa_cons (w_var 0 ⟨_, rfl, wa_nil ⟨_, xs.length, rfl, .inl ⟨xs, hL Gr.refl, rfl⟩, wa_nil ⟨_, rfl, by omega, by omega, ?_⟩⟩⟩))))))
  refine lc_wk wk_range (fun D i H' => H D = none ∧ Gr [] H H' ∧ i ≤ xs.length ∧ H' D = some (.lst ((ownI u ps i).map V.int))) (fun D hD => ⟨hD, Gr.refl.new hD, Nat.zero_le _, by rw [upd_same] <;> rfl⟩) (fun _ _ _ _ => trivial) ?_ ?_
  · rintro D s3 H3 C cl fp i x H' hx ⟨hD0, g, hi, hD⟩
    obtain ⟨hlt, rfl⟩ := rng_at hx
    rw [Int.toNat_natCast] at hlt
    have hlp : i < ps.length := by omega
    obtain ⟨p, t, d, hpx, hpt, htn, hd⟩ := PL.row (l := l) rl g (List.getElem?_eq_getElem hlp)
    refine w_gname 6 ⟨rfl, wts_one (wt_cmp op_eq (w_ix ix_tup (w_ix ix_list (w_var 0 ⟨_, rfl, w_var 6 ⟨_, rfl, l, xs, _, .ref p, rfl, rfl, hL g, atI_nat hpx, w_int ⟨p, _, 0, .str ps[i].1, rfl, rfl, hpt, atI_nat (j := 0) rfl, w_var 1 ⟨_, rfl, rfl, _, rfl, ?_⟩⟩⟩⟩))))⟩ sc57.nd
    have eb : decide (V.str ps[i].1 = V.str u) = isOf u ps i := by
      unfold isOf
      rw [List.getElem?_eq_getElem hlp, decide_eq_decide]
      simp
    have en : ownI u ps (i + 1) = ownI u ps i ++ (if isOf u ps i = true then [((i : Nat) : Int)] else []) := by
      rw [show ownI u ps (i + 1) = (ownA u ps (i + 1)).map _ from rfl, ownA_snoc, List.map_append]
      by_cases e : isOf u ps i = true
      · rw [if_pos e, if_pos e] <;> rfl
      · rw [if_neg e, if_neg e] <;> rfl
    have hll : (ownI u ps i).length ≤ i := by rw [List.length_map]; exact ownA_len u ps i
    rw [eb, en]
    by_cases e : isOf u ps i = true
    · rw [if_pos e, if_pos e]
      refine w_var 6 ⟨_, rfl, _, hD, szl (by rw [List.length_map]; omega), hD0, g.put (.inl hD0), hlt, ?_⟩
      rw [upd_same, List.map_append] <;> rfl
    · rw [if_neg e, if_neg e, List.append_nil]
      exact ⟨hD0, g, hlt, hD⟩
  rintro D H1 ⟨hD0, g1, _, hD⟩
  rw [List.length_map, List.length_range, Int.toNat_natCast, hxl] at hD
  refine wb_cons (ws_if (wt_eqNilI hr (w_var 2 ⟨_, rfl, D, _, rfl, Src.ix hD, fun q' hq' => ?_⟩)))
  have g2 : Gr [] H1 (upd H1 q' (.lst [])) := Gr.refl.new hq'
  have hD2 := g2.at hD
  generalize upd H1 q' (.lst []) = H2 at g2 hD2 ⊢
  have g12 := g1.trans g2
  cases hlat : lat u ps with
  | none =>
    rw [ownI_none hlat]
    refine iteT (wb_one (ws_ret (w_lst (wa_cons (w_str (wa_cons (w_var 1 ⟨_, rfl, wa_nil ⟨sz2, fun r hr => q _ r (g12.new hr) ?_⟩⟩)))))))
    rw [undo_no hlat, upd_same] <;> rfl
  | some i =>
  rw [ownI_some hlat]
  refine iteF (wb_nil ?_)
  obtain ⟨e, he, heu⟩ := lat_at hlat
  have hi : i < ps.length := (List.getElem?_eq_some_iff.mp he).1
  have qd := q
  rw [undo_at hlat he, held_flat] at qd
  refine wb_cons (ws_set 3 sc57.nd (w_lst (wa_nil ⟨sz0, fun la0 hla0 => ?_⟩)))
  have g3 : Gr [] H2 (upd H2 la0 (.lst [])) := Gr.refl.new hla0
  have hla0' : (upd H2 la0 (.lst [])) la0 = some (.lst []) := upd_same
  have hD3 := g3.at hD2
  generalize upd H2 la0 (.lst []) = H3 at g3 hla0' hD3 ⊢
  have g13 := g12.trans g3
  have hlast := ownI_last hlat
  refine wb_cons (w_for ownsQ hq (wi_list (w_slice sl_list (w_var 0 ⟨_, rfl, w_op op_add (w_ix ix_list (w_var 2 ⟨_, rfl, w_un un_neg (w_int ⟨1, rfl, D, _, -1, .int (i : Nat), rfl, rfl, Src.ix hD3, hlast, w_int ⟨_, _, rfl, rfl, ((i + 1 : Nat) : Int), rfl, l, xs, rfl, hL g13, fun sl hsl => ⟨sl, xs.drop (i + 1), rfl, ?_, fun J wk => ?_⟩⟩⟩)⟩))⟩))))
  · rw [cut_from]
    exact .of upd_same
  have g4 : Gr [] H3 (upd H3 sl (.lst (cutV xs (some ((i + 1 : Nat) : Int)) none))) := Gr.refl.new hsl
  have hsl2 : (upd H3 sl (.lst (cutV xs (some ((i + 1 : Nat) : Int)) none))) sl = some (.lst (xs.drop (i + 1))) := by rw [upd_same, cut_from]
  generalize upd H3 sl (.lst (cutV xs (some ((i + 1 : Nat) : Int)) none)) = H4 at g4 hsl2 ⊢
  have hla4 := g4.at hla0'
  have g14 := g13.trans g4
  refine for_wk wk (fun j σ H' => ∃ la z, σ = [some (.ref l), some (.str u), some (.ref D), some (.ref la), z, none, none, none] ∧ Gr [] H4 H' ∧ H' la = some (.lst ((((ps.drop (i + 1)).take j).map (·.2.1)).flatten.map V.str))) ⟨la0, none, rfl, Gr.refl, hla4⟩ (fun j σ H' h => by obtain ⟨_, _, _, g, _⟩ := h; exact Src.ix (g.at hsl2)) ?_ ?_
  · rintro j x σ H' hx ⟨la, z, rfl, g, hla⟩
    rw [List.getElem?_drop] at hx
    have hjx : i + 1 + j < xs.length := (List.getElem?_eq_some_iff.mp hx).1
    have hjp : i + 1 + j < ps.length := by omega
    have hj := List.getElem?_eq_getElem hjp
    obtain ⟨p, t, d, hpx, hpt, htn, _⟩ := PL.row (l := l) rl (g14.trans g) hj
    rw [hpx] at hx
    cases hx
    have hdj : (ps.drop (i + 1))[j]? = some ps[i + 1 + j] := by rw [List.getElem?_drop]; exact hj
    have hlen8 : ((((ps.drop (i + 1)).take j).map (·.2.1)).flatten).length ≤ 9 * j := by
      refine Nat.le_trans (flat_len fun l hl => ?_) (Nat.mul_le_mul_left 9 (by rw [List.length_map, List.length_take]; omega))
      obtain ⟨e', he', rfl⟩ := List.mem_map.mp hl
      exact (hps e' (List.mem_of_mem_drop (List.mem_of_mem_take he'))).len
    have hl1 : (ps[i + 1 + j]).2.1.length ≤ 9 := (hps _ (List.getElem_mem hjp)).len
    refine w_gname 4 ?_ sc57.nd
    refine wb_one (ws_set 3 sc57.nd (w_op op_cat (w_var 3 ⟨_, rfl, w_bty call_list_of T.lst rfl (wa_cons (w_ix ix_tup (w_var 4 ⟨_, rfl, w_int ⟨p, _, 1, .ref t, rfl, rfl, hpt, atI_nat (j := 1) rfl, wa_nil ⟨t, _, rfl, .inr htn, fun lb hlb => ⟨la, lb, _, _, rfl, rfl, (Gr.refl.new hlb).at hla, upd_same, ?_, fun lc hlc => ?_⟩⟩⟩⟩)))⟩)))
    · rw [List.length_map, List.length_map]
      exact szm (by omega)
    refine ⟨lc, _, rfl, (g.new hlb).new hlc, ?_⟩
    rw [upd_same, List.take_add_one, hdj, Option.toList_some, List.map_append, List.flatten_append, List.map_append]
    simp
  rintro σ H5 ⟨la, z, rfl, g5, hla⟩
  rw [List.length_drop, hxl, List.take_of_length_le (by rw [List.length_drop]; exact Nat.le_refl _)] at hla
  have g45 := g4.trans g5
  have g15 := g14.trans g5
  obtain ⟨p, t, d, hpx, hpt, htn, _⟩ := PL.row (l := l) rl g15 he
  refine wb_cons (w_setLc (own := [("_law_name", 7)]) hq sc57.nd (blkOk (N := N57) (sc := scL 57)) (i := 5) rfl rfl rfl (wi_tup (w_ix ix_tup (w_ix ix_list (w_var 0 ⟨_, rfl, w_ix ix_list (w_var 2 ⟨_, rfl, w_un un_neg (w_int ⟨1, rfl, D, _, -1, .int (i : Nat), rfl, rfl, Src.ix (g45.at hD3), hlast, l, xs, _, .ref p, rfl, rfl, hL g15, atI_nat hpx, w_int ⟨p, _, 1, .ref t, rfl, rfl, hpt, atI_nat (j := 1) rfl, t, _, rfl, htn, fun J wk => ?_⟩⟩)⟩)⟩)))))
  have e8 := (hps _ (List.mem_of_getElem? he)).len
  refine lc_wk wk (fun D2 j H' => H5 D2 = none ∧ Gr [] H5 H' ∧ H' D2 = some (.lst (((e.2.1.take j).filter fun n => decide (n ∈ ((ps.drop (i + 1)).map (·.2.1)).flatten)).map V.str))) (fun D2 hD => ⟨hD, Gr.refl.new hD, by rw [upd_same] <;> rfl⟩) (fun D2 j H' z => z.2.1.tup htn) ?_ ?_
  · rintro D2 s3 H3' C cl fp j x H' hx ⟨hD0', g, hD'⟩
    obtain ⟨m, hm', rfl⟩ := str_get hx
    have hlen := Nat.le_trans (List.length_filter_le (fun n => decide (n ∈ ((ps.drop (i + 1)).map (·.2.1)).flatten)) (e.2.1.take j)) (by rw [List.length_take]; exact Nat.min_le_right _ _)
    refine w_gname 7 ⟨rfl, wts_one (wt_cmp op_in_seq (w_var 7 ⟨_, rfl, w_var 3 ⟨_, rfl, la, _, rfl, .inl (Src.ix (g.at hla)), rfl, flat_strs _, _, rfl, ?_⟩⟩))⟩ sc57.nd
    rw [if_neg Bool.false_ne_true, inV_str]
    have et : (e.2.1.take (j + 1)).filter (fun n => decide (n ∈ ((ps.drop (i + 1)).map (·.2.1)).flatten)) = (e.2.1.take j).filter (fun n => decide (n ∈ ((ps.drop (i + 1)).map (·.2.1)).flatten)) ++ (if decide (m ∈ ((ps.drop (i + 1)).map (·.2.1)).flatten) = true then [m] else []) := by
      rw [List.take_add_one, hm', List.filter_append, Option.toList_some, List.filter_cons, List.filter_nil]
    rw [et]
    by_cases eb : decide (m ∈ ((ps.drop (i + 1)).map (·.2.1)).flatten) = true
    · rw [if_pos eb, if_pos eb]
      refine w_var 7 ⟨_, rfl, _, hD', szl (by rw [List.length_map]; omega), hD0', g.put (.inl hD0'), ?_⟩
      rw [upd_same, List.map_append] <;> rfl
    · rw [if_neg eb, if_neg eb, List.append_nil]
      exact ⟨hD0', g, hD'⟩
  rintro D2 H6 ⟨hD0', g6, hD'⟩
  rw [List.length_map, List.take_length] at hD'
  have hlok : ∀ z ∈ e.2.1.filter (fun n => decide (n ∈ ((ps.drop (i + 1)).map (·.2.1)).flatten)), PyData.strOk z = true := fun z hz => univ_ok2 z ((hps _ (List.mem_of_getElem? he)).un z (List.mem_filter.mp hz).1)
  refine wb_one (ws_ret (w_if (wt_neNil hr (w_var 5 ⟨_, rfl, D2, _, rfl, Src.ix hD', hlok, fun q' hq' => ?_⟩))))
  have g7 : Gr [] H6 (upd H6 q' (.lst [])) := Gr.refl.new hq'
  have hD7 := g7.at hD'
  generalize upd H6 q' (.lst []) = H7 at g7 hD7 ⊢
  have g17 := (g15.trans g6).trans g7
  cases hl' : e.2.1.filter (fun n => decide (n ∈ ((ps.drop (i + 1)).map (·.2.1)).flatten)) with
  | cons m r =>
    rw [hl'] at hD7 qd
    exact iteT (w_lst (wa_cons (w_str (wa_cons (w_ix ix_list (w_var 5 ⟨_, rfl, w_int ⟨D2, _, 0, .str m, rfl, rfl, Src.ix hD7, atI_nat (j := 0) rfl, wa_nil ⟨sz2, fun r hr => qd _ r (g17.new hr) upd_same⟩⟩⟩))))))
  | nil =>
    rw [hl'] at qd
    exact iteF (w_lst (wa_cons (w_str (wa_nil ⟨sz1, fun r hr => qd _ r (g17.new hr) upd_same⟩))))
end
end K6

/-! ## L10 -/
namespace K6
open PySem PySem.Spec PyProof.Rows L2
def undoL (u : Str) (ts : Tm) (ps : List Sa) : Option (Tm × List Sa) :=
  match lat u ps with
  | none => none
  | some i => match ps[i]? with
    | none => none
    | some e => match heldA e.2.1 ((ps.drop (i + 1)).map (·.2.1)) with
      | some _ => none
      | none => some (mergeA (ts.filter fun p => decide (p.1 ∉ e.2.1)) (look e.2.1 e.2.2), ps.take i ++ ps.drop (i + 1))
theorem undoL_some {u : Str} {ts ts' : Tm} {ps ps' : List Sa} (h : undoL u ts ps = some (ts', ps')) :
    ∃ i e, lat u ps = some i ∧ ps[i]? = some e ∧ heldA e.2.1 ((ps.drop (i + 1)).map (·.2.1)) = none ∧ ts' = mergeA (ts.filter fun p => decide (p.1 ∉ e.2.1)) (look e.2.1 e.2.2) ∧ ps' = ps.take i ++ ps.drop (i + 1) := by
  unfold undoL at h
  split at h
  · cases h
  · rename_i i hi
    split at h
    · cases h
    · rename_i e he
      split at h
      · cases h
      · rename_i hh
        cases h
        exact ⟨i, e, hi, he, hh, rfl, rfl⟩
theorem undoL_done {u : Str} {ts ts' : Tm} {ps ps' : List Sa} (h : undoL u ts ps = some (ts', ps')) : undoA u ts (ps.map stp) = .done ts' (ps'.map stp) := by
  obtain ⟨i, e, hi, he, hh, rfl, rfl⟩ := undoL_some h
  rw [undo_at hi he, hh]
theorem undoL_none {u : Str} {ts : Tm} {ps : List Sa} (h : undoL u ts ps = none) : undoA u ts (ps.map stp) = .nothing ∨ ∃ n, undoA u ts (ps.map stp) = .blocked n := by
  unfold undoL at h
  split at h
  · rename_i hi
    exact .inl (undo_no hi)
  · rename_i i hi
    obtain ⟨e, he, _⟩ := lat_at hi
    rw [he] at h
    rw [undo_at hi he]
    simp only at h
    split at h
    · rename_i n hn
      refine .inr ⟨n, ?_⟩
      first
      | rfl
      | rw [hn]
    · cases h
theorem Wf.mergeA : ∀ {mo ts : Tm}, Wf ts → (∀ p ∈ mo, p.1 ∈ Univ ∧ Cmd p.2) → Wf (mergeA ts mo)
  | [], _, h, _ => h
  | p :: mo, ts, h, g => Wf.mergeA (mo := mo) (h.put (g p List.mem_cons_self).1 (g p List.mem_cons_self).2) fun q hq => g q (List.mem_cons_of_mem _ hq)
theorem look_ok {bf : Tm} (h : Wf bf) (ns : List Str) : ∀ p ∈ look ns bf, p.1 ∈ Univ ∧ Cmd p.2 := by
  intro p hp
  obtain ⟨n, _, e⟩ := List.mem_filterMap.mp hp
  obtain ⟨c, hc, rfl⟩ := Option.map_eq_some_iff.mp e
  have hm := valA_at hc
  exact ⟨h.un n (List.mem_map.mpr ⟨_, hm, rfl⟩), h.cm _ hm⟩
theorem undoL_wf {u : Str} {ts ts' : Tm} {ps ps' : List Sa} (h : undoL u ts ps = some (ts', ps')) (hw : Wf ts) (hp : ∀ e ∈ ps, WfE e) : Wf ts' ∧ (∀ e ∈ ps', WfE e) ∧ ps'.length ≤ ps.length := by
  obtain ⟨i, e, hi, he, hh, rfl, rfl⟩ := undoL_some h
  refine ⟨(hw.filter _).mergeA (look_ok (hp e (List.mem_of_getElem? he)).bf _), fun e' he' => ?_, ?_⟩
  · rcases List.mem_append.mp he' with z | z
    · exact hp e' (List.mem_of_mem_take z)
    · exact hp e' (List.mem_of_mem_drop z)
  · rw [List.length_append, List.length_take, List.length_drop]
    omega
section
variable {P : Program} {w : World} {K : PySem.W.Frag} {mg : Str → Option Value} {base : Heap}
/-! ### undone, as the law does it -/
abbrev N58 : List Str := ["_law_texts", "_law_past", "_law_user", "_law_at", "_law_name", "_law_found"]
theorem sc58 : FnScope N58 ["_law_texts", "_law_past", "_law_user"] (scL 58) := ⟨rfl, rfl, rfl, by decide +kernel, rfl, by decide +kernel, by decide +kernel⟩
def spUndone (K : PySem.W.Frag) : Sp := fun vs H Q _ => ∃ (d l : Addr) (u : Str) (ts : Tm) (ps : List Sa) (ts' : Tm) (ps' : List Sa), vs = [.ref d, .ref l, .str u] ∧ TD H d ts ∧ PL K H l ps ∧ Wf ts ∧ (∀ e ∈ ps, WfE e) ∧ ps.length ≤ 1000 ∧ undoL u ts ps = some (ts', ps') ∧
  ∀ H' r d' l', Gr [] H H' → H' r = some (.lst [.ref d', .ref l']) → TD H' d' ts' → PL K H' l' ps' → Q (.ref r) H'
theorem law_undone (T : Tl K w mg) : Fb false P w K mg base 1 (ga K "_law_undone") (spUndone K) := by
  obtain ⟨fd, F⟩ := T.d58.fn
  refine fn_b F sc58 (fun vs H Q E h => by obtain ⟨d, l, u, ts, ps, ts', ps', rfl, _⟩ := h; rfl) (fun _ _ _ _ _ _ us hl => match us, hl with | [_, _, _], _ => rfl) ?_
  intro pz cdv A outer s0 H vs Q E hp hq hr h
  obtain ⟨d, l, u, ts, ps, ts', ps', rfl, hd, hl, hw, hps, hz, hun, q⟩ := h
  obtain ⟨o, xs, hlo, rl⟩ := id hl
  obtain ⟨od, kvs, hdo, rkv⟩ := id hd
  obtain ⟨iL, e, hlat, he, hheld, rfl, rfl⟩ := undoL_some hun
  have hxl := Paired.length rl
  have hL : ∀ {H'}, Gr [] H H' → SqL K H' l xs := fun g => .inl (.inr ⟨o, g.at hlo⟩)
  have hwe := hps _ (List.mem_of_getElem? he)
  have e8 := hwe.len
  refine wb_cons (ws_set 3 sc58.nd (w_ix ix_list (w_lc (own := [("_law_at", 3)]) hq sc58.nd (blkOk (N := N58) (sc := scL 58)) (wi_range T.rng rfl (wa_cons (w_blt call_len T.len rfl (wa_cons (w_var 1 ⟨_, rfl, wa_nil ⟨_, xs.length, rfl, .inl ⟨xs, hL Gr.refl, rfl⟩, wa_nil ⟨_, rfl, by omega, by omega, ?_⟩⟩⟩))))))))
  refine lc_wk wk_range (fun D i H' => H D = none ∧ Gr [] H H' ∧ i ≤ xs.length ∧ H' D = some (.lst ((ownI u ps i).map V.int))) (fun D hD => ⟨hD, Gr.refl.new hD, Nat.zero_le _, by rw [upd_same] <;> rfl⟩) (fun _ _ _ _ => trivial) ?_ ?_
  · rintro D s3 H3 C cl fp i x H' hx ⟨hD0, g, hi, hD⟩
    obtain ⟨hlt, rfl⟩ := rng_at hx
    rw [Int.toNat_natCast] at hlt
    have hlp : i < ps.length := by omega
    obtain ⟨p, t, bd, hpx, hpt, htn, _⟩ := PL.row (l := l) rl g (List.getElem?_eq_getElem hlp)
    refine w_gname 3 ⟨rfl, wts_one (wt_cmp op_eq (w_ix ix_tup (w_ix ix_list (w_var 1 ⟨_, rfl, w_var 3 ⟨_, rfl, l, xs, _, .ref p, rfl, rfl, hL g, atI_nat hpx, w_int ⟨p, _, 0, .str ps[i].1, rfl, rfl, hpt, atI_nat (j := 0) rfl, w_var 2 ⟨_, rfl, rfl, _, rfl, ?_⟩⟩⟩⟩))))⟩ sc58.nd
    have eb : decide (V.str ps[i].1 = V.str u) = isOf u ps i := by
      unfold isOf
      rw [List.getElem?_eq_getElem hlp, decide_eq_decide]
      simp
    have en : ownI u ps (i + 1) = ownI u ps i ++ (if isOf u ps i = true then [((i : Nat) : Int)] else []) := by
      rw [show ownI u ps (i + 1) = (ownA u ps (i + 1)).map _ from rfl, ownA_snoc, List.map_append]
      by_cases e : isOf u ps i = true
      · rw [if_pos e, if_pos e] <;> rfl
      · rw [if_neg e, if_neg e] <;> rfl
    have hll : (ownI u ps i).length ≤ i := by rw [List.length_map]; exact ownA_len u ps i
    rw [eb, en]
    by_cases e : isOf u ps i = true
    · rw [if_pos e, if_pos e]
      refine w_var 3 ⟨_, rfl, _, hD, szl (by rw [List.length_map]; omega), hD0, g.put (.inl hD0), hlt, ?_⟩
      rw [upd_same, List.map_append] <;> rfl
    · rw [if_neg e, if_neg e, List.append_nil]
      exact ⟨hD0, g, hlt, hD⟩
  rintro D H1 ⟨hD0, g1, _, hD⟩
  rw [List.length_map, List.length_range, Int.toNat_natCast, hxl] at hD
  refine w_un un_neg (w_int ⟨1, rfl, D, _, -1, .int (iL : Nat), rfl, rfl, Src.ix hD, ownI_last hlat, ?_⟩)
  have hdo1 := g1.at hdo
  have hd1 : TD H1 d ts := hd.gx (K := K) g1.gx0
  refine wb_cons (ws_set 5 sc58.nd (w_bty (call_dictP hq.calm) T.dctN rfl (wa_cons (w_lc (own := [("_law_name", 4)]) hq sc58.nd (blkOk (N := N58) (sc := scL 58)) (wi_keys (w_var 0 ⟨_, rfl, d, od, kvs, rfl, hdo1, fun J2 wk2 => ?_⟩))))))
  refine lc_wk wk2 (fun E i H' => H1 E = none ∧ Gr [] H1 H' ∧ ∃ ps' kvs', H' E = some (.lst (ps'.map V.ref)) ∧ ps'.length ≤ i ∧ Paired (fun p kv => SqT K H' p [kV kv.1, kv.2]) ps' kvs' ∧ DL RT kvs' ((ts.take i).filter fun p => decide (p.1 ∉ e.2.1))) (fun E hE => ⟨hE, Gr.refl.new hE, [], [], upd_same, Nat.le_refl _, .nil, .nil⟩) (fun E i H' z => z.2.1.at hdo1) ?_ ?_
  · rintro E s3 H5 C cl fp i x H' hx ⟨hE0, g, ps', kvs', hE, hpl, hpk, hdl⟩
    rw [List.getElem?_map] at hx
    obtain ⟨⟨ky, kvv⟩, hkv, rfl⟩ := Option.map_eq_some_iff.mp hx
    obtain ⟨m, cm, htm, rfl, er⟩ := rkv.get hkv
    have er' : kvv = .str cm := er
    subst er'
    have hi8 : i < ts.length := (List.getElem?_eq_some_iff.mp htm).1
    have hw8 := hw.len
    obtain ⟨p, t, bd, hpx, hpt, htn, _⟩ := PL.row (l := l) rl (g1.trans g) he
    have et : (ts.take (i + 1)).filter (fun p => decide (p.1 ∉ e.2.1)) = (ts.take i).filter (fun p => decide (p.1 ∉ e.2.1)) ++ (if m ∈ e.2.1 then [] else [(m, cm)]) := by
      rw [List.take_add_one, htm, List.filter_append, Option.toList_some, List.filter_cons, List.filter_nil]
      by_cases e : m ∈ e.2.1
      · simp [e]
      · simp [e]
    refine w_gname 4 ⟨rfl, wts_one (wt_cmp op_notIn_seq (w_var 4 ⟨_, rfl, w_ix ix_tup (w_ix ix_list (w_var 1 ⟨_, rfl, w_var 3 ⟨_, rfl, l, xs, _, .ref p, rfl, rfl, hL (g1.trans g), atI_nat hpx, w_int ⟨p, _, 1, .ref t, rfl, rfl, hpt, atI_nat (j := 1) rfl, t, _, rfl, .inr htn, rfl, flat_strs _, _, rfl, ?_⟩⟩⟩))⟩))⟩ sc58.nd
    rw [if_pos rfl, show inV (kV (Sum.inr m)) (e.2.1.map V.str) = decide (m ∈ e.2.1) from inV_str m e.2.1]
    have hval : valA ts m = some cm := hw.at_ htm
    have hdg : DGet H' d (.str m) (some (.str cm)) := by
      rcases (hd1.gx (K := K) g.gx0).get m with ⟨z, _⟩ | ⟨c', z, zz⟩
      · rw [hval] at z; cases z
      · rw [hval] at z; cases z; exact zz
    rw [et]
    by_cases e : m ∈ e.2.1
    · rw [decide_eq_true e, if_pos e, List.append_nil]
      exact iteF ⟨hE0, g, ps', kvs', hE, by omega, hpk, hdl⟩
    · rw [decide_eq_false e, if_neg e]
      refine iteT (w_tup (wa_cons (w_var 4 ⟨_, rfl, wa_cons (w_dget hr (w_var 0 ⟨_, rfl, w_var 4 ⟨_, rfl, d, _, rfl, hdg, wa_nil ⟨sz2, fun tp htp => ?_⟩⟩⟩))⟩)))
      have gt : Gr [] H' (upd H' tp (.tup [kV (Sum.inr m), .str cm])) := Gr.refl.new htp
      have htp1 : (upd H' tp (.tup [kV (Sum.inr m), .str cm])) tp = some (.tup [kV (Sum.inr m), .str cm]) := upd_same
      have hE2 := gt.at hE
      generalize upd H' tp (.tup [kV (Sum.inr m), .str cm]) = H6 at gt htp1 hE2 ⊢
      have lsn : Lsn H6 E := .inr (.inl ⟨_, hE2⟩)
      refine ⟨ps'.map V.ref, hE2, szl (by rw [List.length_map]; omega), hE0, (g.trans gt).put (.inl hE0), ps' ++ [tp], kvs' ++ [(Sum.inr m, .str cm)], ?_, ?_, paired_app (Paired.mapP hpk fun a b z => SqT.put (gt.tup z) lsn) (.cons (SqT.put (SqT.of htp1) lsn) .nil), paired_app hdl (.cons ⟨rfl, rfl⟩ .nil)⟩
      · rw [upd_same, List.map_append] <;> rfl
      · rw [List.length_append, List.length_singleton]; omega
  rintro E0 H5 ⟨hE0, g5, ps1, kvs1, hE, hpl, hpk, hdl⟩
  rw [List.length_map, rkv.length, List.take_length] at hdl
  have hwf := hw.filter fun p => decide (p.1 ∉ e.2.1)
  have hnd : (kvs1.map (·.1)).Nodup := hdl.nodup hwf.nd
  refine wa_nil ⟨E0, ps1, kvs1, rfl, Src.ix hE, hpk, fun fd hfd => ?_⟩
  rw [mergeK_nil hnd]
  have g15 := g1.trans g5
  have hfd0 : H fd = none := g15.free _ hfd
  have g6 : Gr [] H (upd H5 fd (.dK kvs1)) := g15.put (.inl hfd0)
  have hfd6 : (upd H5 fd (.dK kvs1)) fd = some (.dK kvs1) := upd_same
  generalize upd H5 fd (.dK kvs1) = H6 at g6 hfd6 ⊢
  obtain ⟨p, t, bd, hpx, hpt0, htn0, hbd0⟩ := PL.row (l := l) rl (Gr.refl : Gr [] H H) he
  have sqp : ∀ {H'}, Gr [] H H' → SqT K H' p [.str e.1, .ref t, .ref bd] := fun g => g.tup hpt0
  have lookok : ∀ j, ∀ p ∈ look (e.2.1.take j) e.2.2, p.1 ∈ Univ ∧ Cmd p.2 := fun j => look_ok hwe.bf _
  refine wb_cons (w_for ownsQ hq (wi_tup (w_ix ix_tup (w_ix ix_list (w_var 1 ⟨_, rfl, w_var 3 ⟨_, rfl, l, xs, _, .ref p, rfl, rfl, hL g6, atI_nat hpx, w_int ⟨p, _, 1, .ref t, rfl, rfl, sqp g6, atI_nat (j := 1) rfl, t, _, rfl, g6.tup htn0, fun J wk => ?_⟩⟩⟩)))))
  refine for_wk wk (fun j σ H' => ∃ z, σ = [some (.ref d), some (.ref l), some (.str u), some (.int (iL : Nat)), z, some (.ref fd)] ∧ Gr [] H H' ∧ ∃ kv, H' fd = some (.dK kv) ∧ DL RT kv (mergeA (ts.filter fun p => decide (p.1 ∉ e.2.1)) (look (e.2.1.take j) e.2.2))) ⟨none, rfl, g6, kvs1, hfd6, hdl⟩ (fun j σ H' h => by obtain ⟨_, _, g, _⟩ := h; exact g.tup htn0) ?_ ?_
  · rintro j x σ H' hx ⟨z, rfl, g, kv, hkv, hdk⟩
    obtain ⟨m, hm, rfl⟩ := str_get hx
    obtain ⟨rr, hg, hrr⟩ := (hbd0.gx (K := K) g.gx0).in_ m
    refine w_gname 4 ?_ sc58.nd
    refine wb_one (ws_if (wt_din hr (w_var 4 ⟨_, rfl, w_ix ix_tup (w_ix ix_list (w_var 1 ⟨_, rfl, w_var 3 ⟨_, rfl, l, xs, _, .ref p, rfl, rfl, hL g, atI_nat hpx, w_int ⟨p, _, 2, .ref bd, rfl, rfl, sqp g, atI_nat (j := 2) rfl, bd, rr, rfl, hg, ?_⟩⟩⟩))⟩)))
    rw [hrr]
    have hwm := Wf.mergeA hwf (lookok j)
    have hlk : kv.length < sizeLine := szl (by rw [hdk.length]; have := hwm.len; omega)
    cases hv : valA e.2.2 m with
    | none =>
      refine iteF (wb_nil ⟨_, rfl, g, kv, hkv, ?_⟩)
      rw [look_snoc hm, hv]
      simpa using hdk
    | some cm =>
      refine iteT (wb_one (ws_dput hr (w_dget hr (w_ix ix_tup (w_ix ix_list (w_var 1 ⟨_, rfl, w_var 3 ⟨_, rfl, l, xs, _, .ref p, rfl, rfl, hL g, atI_nat hpx, w_int ⟨p, _, 2, .ref bd, rfl, rfl, sqp g, atI_nat (j := 2) rfl, w_var 4 ⟨_, rfl, bd, .str cm, rfl, ?_, w_var 5 ⟨_, rfl, w_var 4 ⟨_, rfl, fd, _, rfl, DPut.k (k := .inr m) hkv hlk, ?_⟩⟩⟩⟩⟩⟩))))))
      · rcases (hbd0.gx (K := K) g.gx0).get m with ⟨z, _⟩ | ⟨c', z, zz⟩
        · rw [hv] at z; cases z
        · rw [hv] at z; cases z; exact zz
      · refine ⟨_, rfl, g.put (.inl hfd0), _, upd_same, ?_⟩
        rw [look_snoc hm, hv]
        have em : mergeA (ts.filter fun p => decide (p.1 ∉ e.2.1)) (look (e.2.1.take j) e.2.2 ++ ((some cm).map fun c => (m, c)).toList) = putA (mergeA (ts.filter fun p => decide (p.1 ∉ e.2.1)) (look (e.2.1.take j) e.2.2)) m cm := by
          unfold mergeA
          rw [List.foldl_append] <;> rfl
        rw [em]
        exact hdk.put rfl
  rintro σ H7 ⟨z, rfl, g7, kv, hkv, hdk⟩
  rw [List.length_map, List.take_length] at hdk
  refine wb_one (ws_ret (w_lst (wa_cons (wE_locked (w_var 5 ⟨_, rfl, fd, _, rfl, hkv, trivial, fun oo => ?_⟩)))))
  have g8 : Gr [] H (upd H7 fd (.frz oo (.dK kv))) := g7.put (.inl hfd0)
  have hfd8 : (upd H7 fd (.frz oo (.dK kv))) fd = some (.frz oo (.dK kv)) := upd_same
  generalize upd H7 fd (.frz oo (.dK kv)) = H8 at g8 hfd8 ⊢
  refine wa_cons (wE_locked (w_op op_cat (w_sliceTo sl_list (w_var 1 ⟨_, rfl, w_var 3 ⟨_, rfl, _, rfl, l, xs, rfl, hL g8, fun a1 ha1 => ?_⟩⟩))))
  rw [cut_to]
  have g9 : Gr [] H8 (upd H8 a1 (.lst (xs.take iL))) := Gr.refl.new ha1
  have ha9 : (upd H8 a1 (.lst (xs.take iL))) a1 = some (.lst (xs.take iL)) := upd_same
  generalize upd H8 a1 (.lst (xs.take iL)) = H9 at g9 ha9 ⊢
  refine w_slice sl_list (w_var 1 ⟨_, rfl, w_op op_add (w_var 3 ⟨_, rfl, w_int ⟨_, _, rfl, rfl, ((iL + 1 : Nat) : Int), rfl, l, xs, rfl, hL (g8.trans g9), fun a2 ha2 => ?_⟩⟩)⟩)
  rw [cut_from]
  have g10 : Gr [] H9 (upd H9 a2 (.lst (xs.drop (iL + 1)))) := Gr.refl.new ha2
  refine ⟨a1, a2, _, _, rfl, rfl, g10.at ha9, upd_same, szm (by rw [List.length_take, List.length_drop]; omega), fun pa hpa => ⟨pa, _, rfl, upd_same, trivial, fun o2 => wa_nil ⟨sz2, fun r hr => ?_⟩⟩⟩
  rw [upd_upd] at hr ⊢
  have g11 : Gr [] (upd H9 a2 (.lst (xs.drop (iL + 1)))) (upd (upd H9 a2 (.lst (xs.drop (iL + 1)))) pa (.frz o2 (.lst (xs.take iL ++ xs.drop (iL + 1))))) := Gr.refl.new hpa
  have hpa11 : (upd (upd H9 a2 (.lst (xs.drop (iL + 1)))) pa (.frz o2 (.lst (xs.take iL ++ xs.drop (iL + 1))))) pa = some (.frz o2 (.lst (xs.take iL ++ xs.drop (iL + 1)))) := upd_same
  have gA := (g9.trans g10).trans g11
  generalize upd (upd H9 a2 (.lst (xs.drop (iL + 1)))) pa (.frz o2 (.lst (xs.take iL ++ xs.drop (iL + 1)))) = HA at gA hpa11 hr ⊢
  have gB : Gr [] HA (upd HA r (.lst [.ref fd, .ref pa])) := Gr.refl.new hr
  exact q _ r fd pa ((g8.trans gA).trans gB) upd_same ⟨oo, kv, gB.at (gA.at hfd8), hdk⟩ ⟨o2, _, gB.at hpa11, paired_app (paired_take iL (rl.gx ((g8.trans gA).trans gB).gx0)) (paired_drop (iL + 1) (rl.gx ((g8.trans gA).trans gB).gx0))⟩
end
end K6

/-! ## KZ1 -/
namespace K6
open PySem PySem.Spec PyProof.Rows L2 PySem.Froz
/-! ### set(xs), xs a list of texts -/
def gotS (xs : List Str) (i : Nat) (L : List Str) : Prop := (∀ z, z ∈ L ↔ z ∈ xs.take i) ∧ L.length ≤ i
section
variable {P : Program} {w : World} {A : Around} {E : Value → Shared → Prop} {s : Shared}
theorem set_update_txt {I : Addr} {fp wr : List Addr} {G : Array GenState → Array GenState → Prop} {n : Nat} {Pv : Nat → Value → Prop} {St : Nat → Shared → Prop} {R : Result → Shared → Prop}
    (W : WalksS P w A.in1 I fp wr G n Pv St) (S : Addr) (hSf : S ∉ fp) (xs : List Str) (hn : n = xs.length) (hfew : xs.length < 64) (hval : ∀ i v, Pv i v → ∃ k t, xs[i]? = some k ∧ v = .str k t)
    (h0 : Heap) (hS0 : h0.get? S = none) (hw0 : ∀ b ∈ wr, h0.get? b = none) :
    ∀ (k i : Nat) (s : Shared), n - i = k → i ≤ n → St i s → (∀ b o, h0.get? b = some o → s.heap.get? b = some o) → (∃ L, StrS P w s.heap S L ∧ gotS xs i L) →
      (∀ s' L, Moved (S :: wr) G s s' → StrS P w s'.heap S L → gotS xs n L → (∀ b o, h0.get? b = some o → s'.heap.get? b = some o) → R (.ok (.ret .none)) s') →
      codeAny (model P w) A (.builtin "set.update.loop" ⟨[.ref S, .ref I], []⟩) R s := by
  have hSw : S ∉ wr := fun h => hSf (W.sub _ h)
  have hsub : ∀ b ∈ wr, b ∈ S :: wr := fun b hb => List.mem_cons_of_mem _ hb
  have keepM : ∀ {s s' : Shared}, Moved wr G s s' → (∀ b o, h0.get? b = some o → s.heap.get? b = some o) → ∀ b o, h0.get? b = some o → s'.heap.get? b = some o := fun hm hkp b o e =>
    hm.heap b o (fun hb => by rw [hw0 b hb] at e; cases e) (hkp b o e)
  intro k
  induction k with
  | zero =>
    intro i s hk' hi hst hkp ⟨L, hS, g⟩ hR
    have hin : i = n := by omega
    subst hin
    refine codeAny_builtin PyProof.Rows.F.entry_set_update_loop ?_
    rw [Around.under_plainId PyProof.Rows.F.plain_set_update_loop _]
    show wpAny _ A.in1 (pyNext (.ref I) >>= _) _ _ s
    refine wpAny_bind (W.done s _ _ hst fun s' hm => ?_)
    show wpAny _ A.in1 (ret Value.none) _ _ s'
    exact wpAny_pure (hR s' L (hm.mono hsub) (hS.at fun o e => hm.heap S o hSw e) g (keepM hm hkp))
  | succ k ih =>
    intro i s hk' hi hst hkp ⟨L, hS, g⟩ hR
    have hlt : i < n := by omega
    refine codeAny_builtin PyProof.Rows.F.entry_set_update_loop ?_
    rw [Around.under_plainId PyProof.Rows.F.plain_set_update_loop _]
    show wpAny _ A.in1 (pyNext (.ref I) >>= _) _ _ s
    refine wpAny_bind (W.item i s _ _ hlt hst fun v s' hP hst' hm => ?_)
    obtain ⟨z, t, hz, rfl⟩ := hval i v hP
    have hkp' := keepM hm hkp
    have hS' : StrS P w s'.heap S L := hS.at fun o e => hm.heap S o hSw e
    show wpAny _ A.in1 (holding [Value.str z t] (setAdd S (.str z t)) >>= _) _ _ s'
    refine wpAny_bind (wpAny_holding ?_)
    unfold setAdd
    refine wpAny_holding (wpAny_bind ((strKind P w).pyHash (is_str z t) ?_))
    refine add_any (s := { s' with toks := s'.toks + 1 }) hS' (by have := g.2; have : 64 ≤ scanBound := by decide
                                                                  omega) fun h' b hsb hS2 => ?_
    have g' : gotS xs (i + 1) (if z ∈ L then L else z :: L) := by
      obtain ⟨g1, g2⟩ := g
      refine ⟨fun y => ?_, ?_⟩
      · rw [List.take_add_one, hz, Option.toList_some, List.mem_append, List.mem_singleton, ← g1]
        split
        · rename_i hm
          constructor
          · exact .inl
          · rintro (h | rfl)
            · exact h
            · exact hm
        · rw [List.mem_cons]
          exact Or.comm
      · split
        · omega
        · rw [List.length_cons]; omega
    have hkp2 : ∀ b o, h0.get? b = some o → h'.get? b = some o := fun b o e => (hsb.2 b (fun z => by rw [z, hS0] at e; cases e)).trans (hkp' b o e)
    refine wpAny_pure ⟨plainId_quiet PyProof.Rows.F.plain_set_update_loop _, ih (i + 1) _ (by omega) hlt (W.frame _ s' _ _ hst' (Nat.le_add_right _ _) fun b hb o e => ?_) hkp2 ⟨_, hS2, g'⟩ fun s'' L2 hm'' hS'' g'' hkp'' => ?_⟩
    · rw [hsb.2 b (fun h : b = S => hSf (by rw [← h]; exact hb))]; exact e
    · refine hR s'' L2 (Moved.trans W.gtrans ((hm.mono hsub).then_heap (Nat.le_add_right _ _) fun b o hb e => ?_) hm'') hS'' g'' hkp''
      rw [hsb.2 b (fun h : b = S => hb (by rw [h]; exact List.mem_cons_self))]; exact e
set_option maxHeartbeats 6400000 in
theorem call_set_txts {l : Addr} {items : Array Value} {xs : List Str} {Q : Value → Shared → Prop} (hh : A.handled = none) (hl : s.heap.IsList l items) (hi : PyProof.Rows.StrsAre items.toList xs) (hfew : xs.length < 64)
    (h : ∀ (h' : Heap) (tk : Nat) L, StrS P w h' s.heap.objs.size L → (∀ z, z ∈ L ↔ z ∈ xs) → L.length ≤ xs.length → (∀ b o, s.heap.get? b = some o → h'.get? b = some o) → Q (.ref s.heap.objs.size) { s with heap := h', toks := tk }) :
    wpAny (model P w) A (call (.type "set") [.ref l]) Q E s := by
  have hisz : items.size = xs.length := by rw [← StrsAre.len_eq hi, Array.length_toList]
  obtain ⟨c, tl, hmro⟩ := PySem.F.called_set.mro
  have hmade := PySem.F.called_set.made
  have hsub := PySem.F.called_set.sub
  refine wpAny_call (codeAny_of_tree ?_)
  show wpAny _ _ (callAny (.type "set") _) _ _ _
  refine wpAny_pure ⟨Code.quiet_builtin _ (by decide +kernel), codeAny_builtin PySem.F.entry_type_call ?_⟩
  rw [Around.under_plain (weight_type_call_type "set" [.ref l] []) rfl]
  have h1 := PySem.F.called_set.notType
  have h2 := PySem.F.called_set.canCreate
  have hct := PySem.F.typeCall_set_1 (.ref l)
  repeat (any_goals (first | assumption | wp_step))

  refine codeAny_mono (code_set_led1 (.ref l) (E := E) (Q₁ := fun obj s₁ => obj = .ref s.heap.objs.size ∧ s₁ = { s with heap := s.heap.push { cls := .type "set", dict := none, data := .set #[] 0 (.fresh 0 0 (!w.params.followText "set-order")) } }) ⟨rfl, rfl⟩) fun r s₁ hr => ?_
  cases r with
  | error e => exact hr
  | ok fl =>
    cases fl with
    | ret obj =>
      obtain ⟨rfl, rfl⟩ := hr
      have hS : (s.heap.push { cls := .type "set", dict := none, data := .set #[] 0 (.fresh 0 0 (!w.params.followText "set-order")) }).get? s.heap.objs.size = some { cls := .type "set", dict := none, data := .set #[] 0 (.fresh 0 0 (!w.params.followText "set-order")) } := Heap.get?_push_size _ rfl
      have hT : Shared.TypeIs { s with heap := s.heap.push { cls := .type "set", dict := none, data := .set #[] 0 (.fresh 0 0 (!w.params.followText "set-order")) } } (.ref s.heap.objs.size) "set" := ⟨_, hS, rfl⟩
      have hli := PySem.F.called_set.init.lookup
      have hbi := PySem.F.called_set.init.bind (.ref s.heap.objs.size)
      repeat (any_goals (first | assumption | wp_step))

      refine codeAny_mono (codeAny_call_builtin (R := wants (fun r s₂ => r = .none ∧ ∃ h' tk L, s₂ = { s with heap := h', toks := tk } ∧ StrS P w h' s.heap.objs.size L ∧ gotS xs xs.length L ∧
          (∀ b o, s.heap.get? b = some o → h'.get? b = some o)) E) PySem.F.called_set.init.plain PySem.F.entry_set_init (check_set_init_1 hT ?_)) fun r₂ s₂ hr₂ => ?_
      · obtain ⟨ol, hol, hcl, nl, hdl⟩ := hl
        obtain ⟨ocls, odict, odata, oslots⟩ := ol
        simp only at hcl hdl
        subst hcl; subst hdl
        have hol' : (s.heap.push { cls := .type "set", dict := none, data := .set #[] 0 (.fresh 0 0 (!w.params.followText "set-order")) }).get? l = some { cls := .type "list", dict := odict, data := .seq items nl, slots := oslots } := Heap.get?_push_of_some _ hol
        have hsls := PySem.F.sub_list_set
        have hslf := PySem.F.sub_list_frozenset
        have hne : (Value.type "list" == Value.type "dict") = false := by decide
        have hl1 : (s.heap.push { cls := .type "set", dict := none, data := .set #[] 0 (.fresh 0 0 (!w.params.followText "set-order")) }).IsList l items := ⟨_, hol', rfl, nl, rfl⟩
        unfold Builtin.«set.__init__» noKeywords Builtin.Frozenset.updateFrom
        generalize hPI : pyIter = PI
        wp_walk
        subst hPI

        refine wpAny_pyIter_list hl1 ?_
        refine wpAny_bind (wpAny_runValue ?_)
        have hlS : l < s.heap.objs.size := Heap.lt_size hol
        have hh3 : A.in1.in1.in1.handled = none := by simp [hh]
        have hneI : l ≠ (s.heap.push { cls := .type "set", dict := none, data := .set #[] 0 (.fresh 0 0 (!w.params.followText "set-order")) }).objs.size := by
          rw [Heap.size_push]; exact Nat.ne_of_lt (Nat.lt_succ_of_lt hlS)
        have hSf : s.heap.objs.size ∉ [(s.heap.push { cls := .type "set", dict := none, data := .set #[] 0 (.fresh 0 0 (!w.params.followText "set-order")) }).objs.size, l] := by
          rw [Heap.size_push]; simp only [List.mem_cons, List.mem_singleton, List.not_mem_nil, or_false, not_or]
          exact ⟨Nat.ne_of_lt (Nat.lt_succ_self _), Nat.ne_of_gt hlS⟩
        have hval : ∀ (i : Nat) (v : Value), items[i]? = some v → ∃ k t, xs[i]? = some k ∧ v = .str k t := fun i v hv => by
          obtain ⟨t, e⟩ := SS.strs_at hi i v (by rw [Array.getElem?_toList]; exact hv)
          have hlt : i < items.size := (Array.getElem?_eq_some_iff.mp hv).1
          have hlx : i < xs.length := by omega
          refine ⟨xs[i], t, List.getElem?_eq_getElem hlx, ?_⟩
          rw [e, List.getD_eq_getElem?_getD, List.getElem?_eq_getElem hlx] <;> rfl
        have none_of : ∀ b, s.heap.objs.size ≤ b → s.heap.get? b = none := fun b hb => by
          cases q : s.heap.get? b with
          | none => rfl
          | some o => exact absurd (Nat.lt_of_lt_of_le (Heap.lt_size q) hb) (Nat.lt_irrefl _)
        refine set_update_txt ((Walks.list hh3 _ l hneI items).toS) s.heap.objs.size
          hSf xs hisz hfew hval s.heap (none_of _ (Nat.le_refl _)) (fun b hb => none_of b (by
            rw [List.mem_singleton.mp hb, Heap.size_push]
            exact Nat.le_succ _)) (items.size - 0) 0 _ (by omega) (Nat.zero_le _)
          ⟨⟨_, Heap.get?_push_size _ rfl, rfl, rfl⟩, (hl1.push _)⟩ (fun b o e => Heap.get?_push_of_some _ (Heap.get?_push_of_some _ e)) ?hS0 ?hR
        case hS0 =>
          exact ⟨[], (StrS.new w).at (fun o e => Heap.get?_push_of_some _ e), fun z => by simp, Nat.le_refl _⟩
        case hR =>
          intro s' L hm hS' g' hkp
          obtain ⟨h', g2, d', tk', os'⟩ := s'
          have eg : g2 = s.gens := hm.gens
          have ed : d' = s.drawn := hm.drawn
          have eo : os' = s.os := hm.os
          subst eg; subst ed; subst eo
          show wpAny _ _ _ _ _ _
          refine wpAny_pure ?_
          show wpAny _ _ (ret Value.none) _ _ _
          rw [hisz] at g'
          exact wpAny_pure ⟨rfl, h', tk', L, rfl, hS', g', hkp⟩

      · cases r₂ with
        | error e => exact hr₂
        | ok fl₂ =>
          cases fl₂ with
          | ret r =>
            obtain ⟨rfl, h', tk, L, rfl, hS', g', hk'⟩ := hr₂
            repeat (any_goals (first | assumption | wp_step))
            exact h _ _ _ hS' (fun z => by rw [g'.1, List.take_length]) g'.2 hk'
          | _ => exact hr₂.elim
    | _ => exact hr.elim
end
section
variable {X : Cx}
theorem call_setL (hc : X.calm = true) : CallR X (.type "set") (fun xs H Q => ∃ (l : Addr) (ks : List Str), xs = [.ref l] ∧ SqL X.K H l (ks.map V.str) ∧ ks.length < 64 ∧ ∀ a L, H a = none → (∀ z, z ∈ L ↔ z ∈ ks) → L.length ≤ ks.length → Q (.ref a) (upd H a (StrO X.prog X.w a L))) := by
  intro pins s σ H xs us Q I r h
  obtain ⟨l, ks, rfl, hl, hf, q⟩ := h
  rw [Vals.ref1 r]
  obtain ⟨its, rv, pl, hz⟩ := I.list hl
  have hn : H s.heap.objs.size = none := I.hok.fresh (Nat.le_refl _)
  refine call_set_txts (P := X.prog) (w := X.w) (xs := ks) (I.ok.hd hc) pl.isList (by simpa using Vals.strs rv) hf fun h' tk L R m hlen k => ?_
  exact ⟨.ref s.heap.objs.size, upd H s.heap.objs.size (StrO X.prog X.w s.heap.objs.size L), I.laid (t' := tk) k (Nat.le_refl _) (strO_ok R), rfl, q _ L hn m hlen⟩
end
section
variable {X : Cx} {σ : St} {H : Hp} {Q : VK} {D : Ends}
/-- xs[::-1] -/
theorem w_revL {e : Expr} {k : Nat} {p1 p2 p3 pos : Pos} (h : wE X e σ H fun x H1 => ∃ a xs, x = .ref a ∧ SqL X.K H1 a xs ∧ ∀ p, H1 p = none → Q (.ref p) (upd H1 p (.lst xs.reverse))) :
    wE X (.Subscript e (.Slice none none (some (.UnaryOp .USub (.Constant (.int 1) k p1) p2)) p3) pos) σ H Q := PE.w (pe_revL pE) h
/-- a, b = x, y -/
theorem ws_par2 (i j : Nat) {x y : Str} {a b : Expr} {px py pt pos pt2 : Pos} {kt k2 : Nat} (hc : X.calm = true) (hN : X.N.Nodup) (h : wA X [a, b] σ H fun vs H1 => ∃ v w, vs = [v, w] ∧ D.nx ((σ.set i (some v)).set j (some w)) H1)
    (hi : X.N[i]? = some x := by rfl) (hj : X.N[j]? = some y := by rfl) (hij : i ≠ j := by decide) (hx : X.env.scope.names.lookup x = some .local := by rfl) (hy : X.env.scope.names.lookup y = some .local := by rfl)
    (hw : swappedStores [.Tuple [.Name x px, .Name y py] kt pt] (.Tuple [a, b] k2 pt2) X.env = pure (some [x, y]) := by rfl)
    (hs : swapsWithSole [.Tuple [.Name x px, .Name y py] kt pt] (.Tuple [a, b] k2 pt2) pos.line X.env = pure false := by rfl) :
    wS X (.Assign [.Tuple [.Name x px, .Name y py] kt pt] (.Tuple [a, b] k2 pt2) pos) D σ H := PS.w (ps_par hc hN hi hj hij hx hy pA hw hs) h
/-- a, b, c = x, y, z -/
theorem ws_par3 (i j l : Nat) {x y z : Str} {a b c : Expr} {px py pz pt pos pt2 : Pos} {kt k2 : Nat} (hc : X.calm = true) (hN : X.N.Nodup) (h : wA X [a, b, c] σ H fun vs H1 => ∃ u v w, vs = [u, v, w] ∧ D.nx (((σ.set i (some u)).set j (some v)).set l (some w)) H1)
    (hi : X.N[i]? = some x := by rfl) (hj : X.N[j]? = some y := by rfl) (hl : X.N[l]? = some z := by rfl) (hij : i ≠ j := by decide) (hil : i ≠ l := by decide) (hjl : j ≠ l := by decide) (hx : X.env.scope.names.lookup x = some .local := by rfl) (hy : X.env.scope.names.lookup y = some .local := by rfl) (hz : X.env.scope.names.lookup z = some .local := by rfl)
    (hw : swappedStores [.Tuple [.Name x px, .Name y py, .Name z pz] kt pt] (.Tuple [a, b, c] k2 pt2) X.env = pure (some [x, y, z]) := by rfl)
    (hs : swapsWithSole [.Tuple [.Name x px, .Name y py, .Name z pz] kt pt] (.Tuple [a, b, c] k2 pt2) pos.line X.env = pure false := by rfl) :
    wS X (.Assign [.Tuple [.Name x px, .Name y py, .Name z pz] kt pt] (.Tuple [a, b, c] k2 pt2) pos) D σ H := PS.w (ps_par3 hc hN hi hj hl hij hil hjl hx hy hz pA hw hs) h
/-- a, b = a list -/
theorem w_gunl {v : V} {QG : St → Hp → Prop} {es : List Expr} {k n : Nat} {pos : Pos} (hc : X.calm = true) (hw : ∃ a xs, v = .ref a ∧ SqL X.K H a xs ∧ xs.length = n ∧ wGs X es xs σ H QG) (hn : (assignEach es X.env).length = n := by rfl) (hst : (assignEach es X.env).findIdx? (·.1) = none := by rfl) :
    wG X (.Tuple es k pos) v σ H QG := PG.w (pg_unl hc pGs hn hst) hw
/-- {} -/
theorem w_dnil {pos : Pos} (h : ∀ d, H d = none → Q (.ref d) (upd H d (.dK []))) : wE X (.Dict [] [] pos) σ H Q := PE.w pe_dnewK h
end
end K6

/-! ## L11 -/
namespace K6
open PySem PySem.Spec PyProof.Rows L2
theorem run_base {ts t : Tm} {c : Ch} (h : ∀ n ∈ nms ts, n ∈ Base4) (hc : ChB c) (e : run ts c = .ok t) : ∀ n ∈ nms t, n ∈ Base4 := by
  cases c with
  | put n c =>
    cases e
    intro m hm
    rcases mem_nms_put.mp hm with rfl | hm
    · exact hc
    · exact h m hm
  | join n ps =>
    simp only [run] at e
    split at e
    · cases e
    · split at e
      · cases e
        intro m hm
        rcases mem_nms_put.mp hm with rfl | hm
        · exact hc.1
        · exact h m hm
      · cases e
  | drop n =>
    simp only [run] at e
    split at e
    · cases e
      intro m hm
      obtain ⟨p, hp, rfl⟩ := List.mem_map.mp hm
      exact h _ (List.mem_map.mpr ⟨p, (List.mem_filter.mp hp).1, rfl⟩)
    · cases e
theorem runs_base {cs : List Ch} : ∀ {ts t : Tm}, (∀ n ∈ nms ts, n ∈ Base4) → (∀ c ∈ cs, ChB c) → runs ts cs = .ok t → ∀ n ∈ nms t, n ∈ Base4 := by
  induction cs with
  | nil => intro ts t h _ e; cases e; exact h
  | cons c cs ih =>
    intro ts t h hc e
    simp only [runs] at e
    split at e
    · rename_i t1 e1
      exact ih (run_base h (hc c List.mem_cons_self) e1) (fun c h => hc c (List.mem_cons_of_mem _ h)) e
    · rename_i r hr
      exact absurd e (hr _)
theorem paired_snd {α β : Type} {F : α → β → Prop} {p : β → Prop} (hf : ∀ a b, F a b → p b) : ∀ {xs : List α} {ys : List β}, Paired F xs ys → ∀ y ∈ ys, p y
  | _, _, .nil, y, h => by cases h
  | _, _, .cons r t, y, h => by
    rcases List.mem_cons.mp h with rfl | h
    · exact hf _ _ r
    · exact paired_snd hf t y h
theorem std_npm {K : PySem.W.Frag} {H : Hp} {x : Addr} {k : Str} {ts : Tm} {ss : List Sa} (h : Std K H x k ts ss) : ∀ o, H x = some o → ¬ Pm K o := by
  obtain ⟨dx, d, l, hx, _⟩ := h
  intro o e
  rw [hx] at e
  cases e
  show ¬ (fixd ["own_net", "walks", "steps"] = true)
  decide
theorem Std.ne {K : PySem.W.Frag} {H : Hp} {x p : Addr} {k : Str} {ts : Tm} {ss : List Sa} (h : Std K H x k ts ss) (hp : H p = none) : x ≠ p := by
  obtain ⟨dx, d, l, hx, _⟩ := h
  exact ne_of_none hx hp
theorem Gr.gxS {K : PySem.W.Frag} {H H1 : Hp} {x : Addr} {k : Str} {ts : Tm} {ss : List Sa} (g : Gr [x] H H1) (h : Std K H x k ts ss) : Gx K H H1 := g.gx fun a ha o e => by
  rw [List.mem_singleton.mp ha] at e
  exact std_npm h o e
/-- what was new at the start may be written -/
theorem Gr.then {M N : List Addr} {H H1 H2 : Hp} (g : Gr M H H1) (h : Gr N H1 H2) (hN : ∀ a ∈ N, H a = none ∨ a ∈ M) : Gr M H H2 := ⟨fun a o ha e => h.keep a o (fun z => (hN a z).elim (fun y => by rw [y] at e; cases e) ha) (g.keep a o ha e), fun a z => g.free a (h.free a z)⟩
section
variable {X : Cx} {σ : St} {H : Hp} {QT : Bool → Hp → Prop} {Q : VK} {k : Nat} {a b : Expr} {pos p : Pos}
/-- told == ["made"], lists of texts -/
theorem wt_eqS (hr : L2H.RoomH k X.A) (h : wE X a σ H fun v H1 => wE X b σ H1 fun v2 H2 => ∃ l l2, ∃ xs ys : List Str, v = .ref l ∧ v2 = .ref l2 ∧ SqL X.K H2 l (xs.map V.str) ∧ SqL X.K H2 l2 (ys.map V.str) ∧ (∀ x ∈ xs, PyData.strOk x = true) ∧ (∀ x ∈ ys, PyData.strOk x = true) ∧ QT (decide (xs = ys)) H2)
    (hm : behindInMarks .Eq b = false := by first | rfl | exact nobehind _ (by decide) (by decide)) : wT X (.Compare a [.Eq] [b] pos) σ H QT := by
  refine wt_cmp (op_eqD (by have := RoomH.u hr; omega)) (h.mono ?_) hm
  intro v H1 h1
  refine wE.mono h1 ?_
  rintro v2 H2 ⟨l, l2, xs, ys, rfl, rfl, h1, h2, o1, o2, q⟩
  refine ⟨_, _, .lst h1 (dpAll_strs xs), .lst h2 (dpAll_strs ys), sh_list o1, sh_list o2, _, rfl, ?_⟩
  rw [eqv_list]
  exact q
theorem wt_neS (hr : L2H.RoomH k X.A) (h : wE X a σ H fun v H1 => wE X b σ H1 fun v2 H2 => ∃ l l2, ∃ xs ys : List Str, v = .ref l ∧ v2 = .ref l2 ∧ SqL X.K H2 l (xs.map V.str) ∧ SqL X.K H2 l2 (ys.map V.str) ∧ (∀ x ∈ xs, PyData.strOk x = true) ∧ (∀ x ∈ ys, PyData.strOk x = true) ∧ QT (!decide (xs = ys)) H2)
    (hm : behindInMarks .NotEq b = false := by first | rfl | exact nobehind _ (by decide) (by decide)) : wT X (.Compare a [.NotEq] [b] pos) σ H QT := by
  refine wt_cmp (op_neD (by have := RoomH.u hr; omega)) (h.mono ?_) hm
  intro v H1 h1
  refine wE.mono h1 ?_
  rintro v2 H2 ⟨l, l2, xs, ys, rfl, rfl, h1, h2, o1, o2, q⟩
  refine ⟨_, _, .lst h1 (dpAll_strs xs), .lst h2 (dpAll_strs ys), sh_list o1, sh_list o2, _, rfl, ?_⟩
  rw [eqv_list]
  exact q
end
theorem made_ok : ∀ x ∈ (["made"] : List Str), PyData.strOk x = true := by decide +kernel
section
variable {P : Program} {w : World} {K : PySem.W.Frag} {mg : Str → Option Value} {base : Heap}
/-! ### a studio that is begun -/
abbrev N60 : List Str := ["_law_source_here", "_law_kind_here", "_law_studio", "_law_texts", "_law_past", "_law_attempt", "_law_deeds", "_law_user", "_law_later", "_law_told", "_law_one", "_law_deed_here"]
theorem sc60 : FnScope N60 ["_law_source_here", "_law_kind_here"] (scL 60) := ⟨rfl, rfl, rfl, by decide +kernel, rfl, by decide +kernel, by decide +kernel⟩
structure Begun (K : PySem.W.Frag) (H : Hp) (k : Str) (x d l : Addr) (ts : Tm) (ps : List Sa) : Prop where
  same : Same K H k x d l ts ps
  wf : Wf ts
  base : ∀ n ∈ nms ts, n ∈ Base4
  past : ∀ e ∈ ps, WfE e
  few : ps.length ≤ 5
def spStarted (K : PySem.W.Frag) : Sp := fun vs H Q _ => ∃ (s : Addr) (k : Str), vs = [.ref s, .str k] ∧ Kind k ∧ Src H s ∧ ∀ r x d l ts ps H', H x = none → Gr [s] H H' → Gx K H H' → Src H' s → H' r = some (.lst [.ref x, .ref d, .ref l]) → Begun K H' k x d l ts ps → Q (.ref r) H'
theorem law_started (T : Ty K w mg) : Fb false P w K mg base 11 (ga K "_law_started") (spStarted K) := by
  obtain ⟨fd, F⟩ := T.d60.fn
  refine fn_b F sc60 (fun vs H Q E h => by obtain ⟨s, k, rfl, _⟩ := h; rfl) (fun _ _ _ _ _ _ us hl => match us, hl with | [_, _], _ => rfl) ?_
  intro pz cdv A outer s0 H vs Q E hp hq hr h
  obtain ⟨s, k, rfl, hk, hs, q⟩ := h
  refine wb_cons (ws_par3 2 3 4 hq.calm sc60.nd (wa_cons (w_studio T.toTw hq (hr.mono (by decide)) rfl (wa_cons (w_var 1 ⟨_, rfl, wa_nil ⟨k, rfl, hk, fun x H1 hx g1 hS => wa_cons (wE_locked (w_dnil fun d hd => ⟨d, _, rfl, upd_same, trivial, fun od => ?_⟩))⟩⟩)))))
  rw [upd_upd]
  have g2 : Gr [] H1 (upd H1 d (.frz od (.dK []))) := Gr.refl.new hd
  have hd2 : (upd H1 d (.frz od (.dK []))) d = some (.frz od (.dK [])) := upd_same
  generalize upd H1 d (.frz od (.dK [])) = H2 at g2 hd2 ⊢
  refine wa_cons (w_lst (wa_nil ⟨sz0, fun l hl => wa_nil ⟨_, _, _, rfl, ?_⟩⟩))
  have g3 : Gr [] H2 (upd H2 l (.lst [])) := Gr.refl.new hl
  have hl3 : (upd H2 l (.lst [])) l = some (.lst []) := upd_same
  generalize upd H2 l (.lst []) = H3 at g3 hl3 ⊢
  have g13 := (g1.trans g2).trans g3
  have hl0 : H l = none := (g1.trans g2).free _ hl
  have hlx : l ≠ x := ((hS.gr0 g2).ne hl).symm
  have hs3 := hs.gr g13 (by simp)
  have hsl : s ≠ l := hs.ne hl0
  have hsx : s ≠ x := hs.ne hx
  refine wb_cons (w_for ownsQ hq (wi_range T.rng rfl (wa_cons (w_op op_add (w_int (w_call (law_draw T.toTl) hq (hr.mono (by decide)) (T.d48.df rfl rfl) paF rfl (wa_cons (w_var 0 ⟨_, rfl, wa_cons (w_int (wa_nil ⟨s, 5, rfl, hs3, by decide, by decide, fun r5 H4 hr5 g4 gx4 hs4 => ⟨_, _, rfl, rfl, wa_nil ⟨_, rfl, by omega, ?_, ?_⟩⟩⟩))⟩))))))))
  · have : r5 < 5 := hr5
    omega
  have hr5' : r5 < 5 := hr5
  have hS4 : Std K H4 x k [] [] := (hS.gr0 (g2.trans g3)).gr g4 (by simp [Ne.symm hsx]) gx4
  refine for_wk wk_range (fun i σ H' => ∃ z5 z6 z7 z8 z9 d ts ps xs, σ = [some (.ref s), some (.str k), some (.ref x), some (.ref d), some (.ref l), z5, z6, z7, z8, z9, none, none] ∧ Gr [s] H H' ∧ Gx K H H' ∧ Src H' s ∧ Std K H' x k ts (ps.map stp) ∧ TD H' d ts ∧ H' l = some (.lst xs) ∧ PsL K H' xs ps ∧
      Wf ts ∧ (∀ n ∈ nms ts, n ∈ Base4) ∧ (∀ e ∈ ps, WfE e) ∧ ps.length ≤ i) ?_ (fun _ _ _ _ => trivial) ?_ ?_
  · exact ⟨none, none, none, none, none, d, [], [], [], rfl, g13.up.trans g4, g13.gx0.trans gx4, hs4, hS4, ⟨od, [], gx4.keep _ _ trivial (g3.at hd2), .nil⟩, g4.keep _ _ (by simp [Ne.symm hsl]) hl3, .nil, Wf.nil, (fun _ h => nomatch h), (fun _ h => nomatch h), Nat.le_refl _⟩
  · rintro i y σ H5 hy ⟨z5, z6, z7, z8, z9, d, ts, ps, xs, rfl, g, gx, hs5, hS5, hd5, hl5, rl, hw, hb, hps, hn⟩
    have hi : i < ((List.range (Int.toNat (1 + r5))).map fun i => V.int (0 + (i : Nat))).length := (List.getElem?_eq_some_iff.mp hy).1
    rw [List.length_map, List.length_range] at hi
    have hxl := Paired.length rl
    refine w_gname 5 ?_ sc60.nd
    refine wb_cons (w_setLc (own := [("_law_one", 10)]) hq sc60.nd (blkOk (N := N60) (sc := scL 60)) (i := 6) rfl rfl rfl (wi_range T.rng rfl (wa_cons (w_op op_add (w_int (w_call (law_draw T.toTl) hq (hr.mono (by decide)) (T.d48.df rfl rfl) paF rfl (wa_cons (w_var 0 ⟨_, rfl, wa_cons (w_int (wa_nil ⟨s, 2, rfl, hs5, by decide, by decide, fun r2 H6 hr2 g6 gx6 hs6 => ⟨_, _, rfl, rfl, wa_nil ⟨_, rfl, by omega, ?_, ?_⟩⟩⟩))⟩))))))))
    · have : r2 < 2 := hr2
      omega
    have hr2' : r2 < 2 := hr2
    refine lc_wk wk_range (fun D i H' => H6 D = none ∧ Gr [s] H6 H' ∧ Gx K H6 H' ∧ Src H' s ∧ s ≠ D ∧ ∃ (qs : List Addr) (cs : List Ch), qs.length = i ∧ H' D = some (.lst (qs.map V.ref)) ∧ Paired (fun q c => ChAt K H' k q c ∧ ChOk c ∧ ChB c) qs cs)
      (fun D hD => ⟨hD, (Gr.refl.new hD).up, (Gr.refl.new hD).gx0, hs6.gr (M := []) (Gr.refl.new hD) (by simp), hs6.ne hD, [], [], rfl, upd_same, .nil⟩) (fun _ _ _ _ => trivial) ?_ ?_
    · rintro D s4 H7 C cl fp j y H' hy' ⟨hD0, gg, ggx, hs', nsD, qs, cs, hql, hD, hqc⟩
      have hj : j < ((List.range (Int.toNat (1 + r2))).map fun i => V.int (0 + (i : Nat))).length := (List.getElem?_eq_some_iff.mp hy').1
      rw [List.length_map, List.length_range] at hj
      refine w_gname 10 ⟨rfl, wts_nil (iteT ?_)⟩ sc60.nd
      refine w_call (law_deed T.toTl) (.inl hq.calm) (hr.mono (by decide)) (T.d52.df rfl rfl) paF rfl (wa_cons (w_var 0 ⟨_, rfl, wa_cons (w_var 1 ⟨_, rfl, wa_cons (w_int (wa_nil ⟨s, k, 5, rfl, hk, by decide, hs', fun p c H8 hp hca hco hcb g8 gx8 hs8 => ?_⟩))⟩)⟩))
      have hD2 := g8.keep _ _ (by simp [Ne.symm nsD]) hD
      have gxD : Gx K H8 (upd H8 D (.lst (qs.map V.ref ++ [.ref p]))) := Src.gx hD2
      refine ⟨_, hD2, szl (by rw [List.length_map]; omega), hD0, (gg.trans g8).put (.inl hD0), (ggx.trans gx8).trans gxD, ?_, nsD, qs ++ [p], cs ++ [c], ?_, ?_, ?_⟩
      · obtain ⟨n', sd', h', r'⟩ := hs8
        exact ⟨n', sd', by rw [upd_ne nsD]; exact h', r'⟩
      · rw [List.length_append, hql] <;> rfl
      · rw [upd_same, List.map_append] <;> rfl
      · exact paired_app (Paired.mapP hqc fun a b z => ⟨z.1.gx (gx8.trans gxD), z.2⟩) (.cons ⟨hca.gx gxD, hco, hcb⟩ .nil)
    rintro D H7 ⟨hD0, g7, gx7, hs7, nsD, qs, cs, hql, hD, hqc⟩
    rw [List.length_map, List.length_range] at hql
    have hqcl := Paired.length hqc
    have hlc : 1 ≤ cs.length ∧ cs.length ≤ 2 := by omega
    have g57 : Gr [s] H5 H7 := g6.trans g7
    have gx57 : Gx K H5 H7 := gx6.trans gx7
    have hS7 := hS5.gr g57 (by simp [Ne.symm hsx]) gx57
    have hd7 := hd5.gx gx57
    have hl7 := g57.keep _ _ (by simp [Ne.symm hsl]) hl5
    have rl7 := rl.gx gx57
    have hcok : ∀ c ∈ cs, ChOk c := paired_snd (fun a b z => z.2.1) hqc
    have hcb : ∀ c ∈ cs, ChB c := paired_snd (fun a b z => z.2.2) hqc
    have hDl : D ≠ l := fun e => by rw [e] at hD0; rw [g6.keep _ _ (by simp [Ne.symm hsl]) hl5] at hD0; cases hD0
    have hDx : D ≠ x := fun e => by
      rw [e] at hD0
      exact (hS5.gr g6 (by simp [Ne.symm hsx]) gx6).ne hD0 rfl
    -- user, later
    refine wb_cons (ws_par2 7 8 hq.calm sc60.nd (wa_cons (w_ix ix_list (w_lst (wa_cons (w_str (wa_cons (w_str (wa_cons (w_str (wa_nil ⟨sz3, fun pu hpu => ?_⟩)))))))))))
    have g8 : Gr [] H7 (upd H7 pu (.lst [.str "ann", .str "bob", .str "guest"])) := Gr.refl.new hpu
    have hpu8 : (upd H7 pu (.lst [.str "ann", .str "bob", .str "guest"])) pu = some (.lst [.str "ann", .str "bob", .str "guest"]) := upd_same
    have nsu := hs7.ne hpu
    generalize upd H7 pu (.lst [.str "ann", .str "bob", .str "guest"]) = H8 at g8 hpu8 ⊢
    refine w_call (law_draw T.toTl) hq (hr.mono (by decide)) (T.d48.df rfl rfl) paF rfl (wa_cons (w_var 0 ⟨_, rfl, wa_cons (w_int (wa_nil ⟨s, 3, rfl, hs7.gr g8 (by simp), by decide, by decide, fun r3 H9 hr3 g9 gx9 hs9 => ?_⟩))⟩))
    have hr3' : r3 < 3 := hr3
    have hpu9 := g9.keep _ _ (by simp [Ne.symm nsu]) hpu8
    have hlu : r3 < (["ann", "bob", "guest"] : List Str).length := hr3'
    have hu : (["ann", "bob", "guest"] : List Str)[r3] ∈ Users := by
      have : ∀ u ∈ (["ann", "bob", "guest"] : List Str), u ∈ Users := by decide +kernel
      exact this _ (List.getElem_mem hlu)
    refine ⟨pu, _, r3, .str (["ann", "bob", "guest"] : List Str)[r3], rfl, rfl, Src.ix (xs := ([("ann" : Str), "bob", "guest"]).map V.str) hpu9, atI_nat (j := r3) (by rw [List.getElem?_map, List.getElem?_eq_getElem hlu] <;> rfl), ?_⟩
    generalize (["ann", "bob", "guest"] : List Str)[r3] = u at hu ⊢
    have g79 : Gr [s] H7 H9 := g8.up.trans g9
    have gx79 : Gx K H7 H9 := g8.gx0.trans gx9
    have hS9 := hS7.gr g79 (by simp [Ne.symm hsx]) gx79
    have hd9 := hd7.gx gx79
    have hl9 := g79.keep _ _ (by simp [Ne.symm hsl]) hl7
    have hD9 := g79.keep _ _ (by simp [Ne.symm nsD]) hD
    have rl9 := rl7.gx gx79
    have hqc9 : Paired (fun q c => ChAt K H9 k q c ∧ ChOk c) qs cs := Paired.mapP hqc fun a b z => ⟨z.1.gx gx79, z.2.1⟩
    refine wa_cons (w_call (law_all T.toTl) hq (hr.mono (by decide)) (T.d54.df rfl rfl) paF rfl (wa_cons (w_var 3 ⟨_, rfl, wa_cons (w_var 6 ⟨_, rfl, wa_nil ⟨d, D, qs, k, cs, ts, rfl, hd9, hw, Src.ix hD9, hqc9, by omega, fun vl HA gA hvl => wa_nil ⟨_, _, rfl, ?_⟩⟩⟩)⟩)))
    have hSA := hS9.gr0 gA
    have hdA := hd9.gx (K := K) gA.gx0
    have hlA := gA.at hl9
    have hDA := gA.at hD9
    have rlA := rl9.gx gA.gx0
    have hqcA : Paired (fun q c => ChAt K HA k q c ∧ ChOk c) qs cs := Paired.mapP hqc9 fun a b z => ⟨z.1.gx gA.gx0, z.2⟩
    have hsA := hs9.gr gA (by simp)
    have gHA : Gr [s] H HA := ((g.trans g57).trans g79).trans gA.up
    have gxHA : Gx K H HA := ((gx.trans gx57).trans gx79).trans gA.gx0
    have hss : (ps.map stp).length ≤ 1000 := by rw [List.length_map]; omega
    have hlt1 : ps.length ≤ i + 1 := by omega
    refine wb_cons (ws_set 9 sc60.nd (w_call (law_made T) hq hr (T.d55.df rfl rfl) paF rfl (wa_cons (w_var 2 ⟨_, rfl, wa_cons (w_var 7 ⟨_, rfl, wa_cons (w_var 6 ⟨_, rfl, wa_nil ⟨x, D, u, k, qs, cs, ts, ps.map stp, rfl, hSA, hu, hw, hk, hss, Src.ix hDA, hqcA, hlc.1, by omega, ?_⟩⟩)⟩)⟩))))
    cases hrun : runs ts cs with
    | unk n =>
      rw [hrun] at hvl
      obtain ⟨lv, rfl, hlv⟩ := id hvl
      intro HB lt gB hlt
      refine wb_one (ws_if (wt_and2 (wt_not (wt_val (w_blt (call_isc (.type "list")) T.isi rfl (wa_cons (w_var 8 ⟨_, rfl, wa_cons (w_bname (v := .ty "list") T.lst rfl rfl (wa_nil ⟨_, _, _, _, rfl, fun _ h => h, .base (.lst (gB.at hlv)), by rfl, true, rfl, ?_⟩))⟩)))))))
      exact iteF (iteF (wb_nil ⟨_, _, _, _, _, d, ts, ps, xs, rfl, gHA.trans gB.up, gxHA.trans gB.gx0, hsA.gr gB (by simp), hSA.gr0 gB, hdA.gx (K := K) gB.gx0, gB.at hlA, rlA.gx gB.gx0, hw, hb, hps, hlt1⟩))
    | lim =>
      rw [hrun] at hvl
      obtain ⟨lv, rfl, hlv⟩ := id hvl
      intro HB lt gB hlt
      refine wb_one (ws_if (wt_and2 (wt_not (wt_val (w_blt (call_isc (.type "list")) T.isi rfl (wa_cons (w_var 8 ⟨_, rfl, wa_cons (w_bname (v := .ty "list") T.lst rfl rfl (wa_nil ⟨_, _, _, _, rfl, fun _ h => h, .base (.lst (gB.at hlv)), by rfl, true, rfl, ?_⟩))⟩)))))))
      exact iteF (iteF (wb_nil ⟨_, _, _, _, _, d, ts, ps, xs, rfl, gHA.trans gB.up, gxHA.trans gB.gx0, hsA.gr gB (by simp), hSA.gr0 gB, hdA.gx (K := K) gB.gx0, gB.at hlA, rlA.gx gB.gx0, hw, hb, hps, hlt1⟩))
    | ok t =>
    rw [hrun] at hvl
    obtain ⟨d2, rfl, hd2'⟩ := id hvl
    intro HB ys lt hys gB hSB hlt
    have gxB : Gx K HA HB := gB.gxS hSA
    have hdB := hd2'.gx gxB
    have hdB0 := hdA.gx gxB
    have hlB := gB.keep _ _ (by simp [hlx]) hlA
    have hDB := gB.keep _ _ (by simp [hDx]) hDA
    have hsB := hsA.gr gB (by simp [hsx])
    have rlB := rlA.gx gxB
    obtain ⟨o2, kv2, ho2, _⟩ := id hdB
    have hqcB : Paired (fun q c => ChAt K HB k q c ∧ ChOk c) qs cs := Paired.mapP hqcA fun a b z => ⟨z.1.gx gxB, z.2⟩
    have gHB : Gr [s] H HB := gHA.then gB fun a ha => .inl (by rw [List.mem_singleton.mp ha]; exact hx)
    have gxHB := gxHA.trans gxB
    refine wb_one (ws_if (wt_and2 (wt_not (wt_val (w_blt (call_isc (.type "list")) T.isi rfl (wa_cons (w_var 8 ⟨_, rfl, wa_cons (w_bname (v := .ty "list") T.lst rfl rfl (wa_nil ⟨_, _, _, _, rfl, fun _ h => h, .fDict ho2, by rfl, false, rfl, ?_⟩))⟩)))))))
    refine iteT (wt_eqS hr (w_var 9 ⟨_, rfl, w_lst (wa_cons (w_str (wa_nil ⟨sz1, fun pm hpm => ⟨lt, pm, ["made"], ["made"], rfl, rfl, Src.ix ((Gr.refl.new hpm : Gr [] HB _).at hlt), Src.ix upd_same, made_ok, made_ok, ?_⟩⟩)))⟩))
    rw [decide_eq_true rfl]
    have gC : Gr [] HB (upd HB pm (.lst [.str "made"])) := Gr.refl.new hpm
    generalize upd HB pm (.lst [.str "made"]) = HC at gC ⊢
    refine iteT ?_
    have hDC := gC.at hDB
    refine wb_cons (ws_expr (w_append (w_var 4 ⟨_, rfl, l, xs, rfl, gC.at hlB, w_tup (wa_cons (w_var 7 ⟨_, rfl, wa_cons (w_bty call_tuple_of T.tupN rfl (wa_cons (w_blt (call_sortT hq.calm) T.srt rfl (wa_cons (w_bty (call_setL hq.calm) T.setN rfl (wa_cons (w_lc (own := [("_law_deed_here", 11)]) hq sc60.nd (blkOk (N := N60) (sc := scL 60)) (wi_list (w_var 6 ⟨_, rfl, D, _, rfl, Src.ix hDC, fun J wk => ?_⟩)))))))))⟩))⟩)))
    refine lc_wk wk (fun D2 i H' => HC D2 = none ∧ Gr [] HC H' ∧ H' D2 = some (.lst (((cs.take i).map Ch.nm).map V.str))) (fun D2 hD2 => ⟨hD2, Gr.refl.new hD2, by rw [upd_same] <;> rfl⟩) (fun D2 i H' z => Src.ix (z.2.1.at hDC)) ?_ ?_
    · rintro D2 s4 HX C cl fp j y H' hy' ⟨hD0', gg, hD2⟩
      rw [List.getElem?_map] at hy'
      obtain ⟨qa, hqa, rfl⟩ := Option.map_eq_some_iff.mp hy'
      obtain ⟨c, hc, hca, _⟩ := paired_get' hqcB hqa
      obtain ⟨wd, rest, hp1, _⟩ := (hca.gx (gC.trans gg).gx0).ex
      refine w_gname 11 ⟨rfl, wts_nil (iteT ?_)⟩ sc60.nd
      have hjl : j < cs.length := (List.getElem?_eq_some_iff.mp hc).1
      refine w_ix ix_tup (w_var 11 ⟨_, rfl, w_int ⟨qa, _, 1, .str c.nm, rfl, rfl, .of hp1, atI_nat (j := 1) rfl, _, hD2, szl ?_, hD0', gg.put (.inl hD0'), ?_⟩⟩)
      · rw [List.length_map, List.length_map, List.length_take]; omega
      · rw [upd_same, List.take_add_one, hc, Option.toList_some, List.map_append, List.map_append] <;> rfl
    rintro D2 HD ⟨hD20, gD, hD2⟩
    rw [List.length_map, hqcl, List.take_length] at hD2
    refine wa_nil ⟨D2, cs.map Ch.nm, rfl, Src.ix hD2, by rw [List.length_map]; omega, fun sa L hsa hL hLl => ?_⟩
    have gs : Gr [] HD (upd HD sa (StrO P w sa L)) := Gr.refl.new hsa
    have hsa' : (upd HD sa (StrO P w sa L)) sa = some (StrO P w sa L) := upd_same
    change wA _ _ _ (upd HD sa (StrO P w sa L)) _
    generalize upd HD sa (StrO P w sa L) = HS at gs hsa' ⊢
    refine wa_nil ⟨sa, L, rfl, hsa', by rw [List.length_map] at hLl; omega, fun ys2 p2 hys2 hp2 => wa_nil ⟨p2, _, rfl, .inl ⟨Src.ix upd_same, fun t2 ht2 => wa_cons (w_var 3 ⟨_, rfl, wa_nil ⟨sz3, fun p hp => ?_⟩⟩)⟩⟩⟩
    have eqy : ys = ys2 := hys.uniq hys2 fun z => (hL z).symm
    subst eqy
    have gE : Gr [] HD (upd (upd HS p2 (.lst (ys.map V.str))) t2 (.tup (ys.map V.str))) := (gs.new hp2).new ht2
    have ht2' : (upd (upd HS p2 (.lst (ys.map V.str))) t2 (.tup (ys.map V.str))) t2 = some (.tup (ys.map V.str)) := upd_same
    generalize upd (upd HS p2 (.lst (ys.map V.str))) t2 (.tup (ys.map V.str)) = HE at gE ht2' hp ⊢
    have gF : Gr [] HE (upd HE p (.tup [.str u, .ref t2, .ref d])) := Gr.refl.new hp
    have hpF : (upd HE p (.tup [.str u, .ref t2, .ref d])) p = some (.tup [.str u, .ref t2, .ref d]) := upd_same
    generalize upd HE p (.tup [.str u, .ref t2, .ref d]) = HF at gF hpF ⊢
    have gBF : Gr [] HB HF := ((gC.trans gD).trans gE).trans gF
    have hlF := gBF.at hlB
    have lsn : Lsn HF l := .inr (.inl ⟨_, hlF⟩)
    have gxl : Gx K HF (upd HF l (.lst (xs ++ [.ref p]))) := Src.gx hlF
    have gl : Gr [l] HF (upd HF l (.lst (xs ++ [.ref p]))) := Gr.refl.put (.inr (by simp))
    refine ⟨xs, hlF, szl (by omega), ?_⟩
    refine wb_one (ws_set 3 sc60.nd (w_var 8 ⟨_, rfl, ?_⟩))
    refine ⟨_, _, _, _, _, d2, t, ps ++ [(u, ys, ts)], xs ++ [.ref p], rfl, (gHB.trans gBF.up).then gl fun a ha => .inl (by rw [List.mem_singleton.mp ha]; exact hl0), (gxHB.trans gBF.gx0).trans gxl, (hsB.gr gBF (by simp)).gr gl (by simp [hsl]), ?_, (hdB.gx (K := K) gBF.gx0).gx gxl, upd_same, ?_, runs_wf hw hcok hrun, runs_base hb hcb hrun, ?_, ?_⟩
    · rw [List.map_append]
      exact (hSB.gr0 gBF).gr gl (by simp [Ne.symm hlx]) gxl
    · refine paired_app ((rlB.gx gBF.gx0).gx gxl) (.cons ⟨p, rfl, t2, d, SqT.put (.of hpF) lsn, SqT.put (.of (gF.at ht2')) lsn, (hdB0.gx (K := K) gBF.gx0).gx gxl⟩ .nil)
    · intro e he
      rcases List.mem_append.mp he with he | he
      · exact hps e he
      · rw [List.mem_singleton.mp he]
        refine ⟨hu, hys.nd, fun n hn => ?_, hw⟩
        obtain ⟨c, hc, rfl⟩ := List.mem_map.mp ((hys.mem n).mp hn)
        exact ch_univ (hcok c hc)
    · rw [List.length_append, List.length_singleton]
      omega
  rintro σ H5 ⟨z5, z6, z7, z8, z9, d, ts, ps, xs, rfl, g, gx, hs5, hS5, hd5, hl5, rl, hw, hb, hps, hn⟩
  rw [List.length_map, List.length_range] at hn
  refine wb_one (ws_ret (w_lst (wa_cons (w_var 2 ⟨_, rfl, wa_cons (w_var 3 ⟨_, rfl, wa_cons (wE_locked (w_var 4 ⟨_, rfl, l, _, rfl, hl5, trivial, fun ol => wa_nil ⟨sz3, fun r hr => ?_⟩⟩))⟩)⟩))))
  have hlp := ne_of_none (show (upd H5 l (.frz ol (.lst xs))) l = some (.frz ol (.lst xs)) from upd_same) hr
  have gxl : Gx K H5 (upd H5 l (.frz ol (.lst xs))) := Gx.refl.put fun o e m => by rw [hl5] at e; cases e; exact m
  have gl : Gr [l] H5 (upd H5 l (.frz ol (.lst xs))) := Gr.refl.put (.inr (by simp))
  have gr' : Gr [] (upd H5 l (.frz ol (.lst xs))) (upd (upd H5 l (.frz ol (.lst xs))) r (.lst [.ref x, .ref d, .ref l])) := Gr.refl.new hr
  have hS' := (hS5.gr gl (by simp [Ne.symm hlx]) gxl).gr0 gr'
  refine q r x d l ts ps _ hx ((g.then gl fun a ha => .inl (by rw [List.mem_singleton.mp ha]; exact hl0)).trans gr'.up) ((gx.trans gxl).trans gr'.gx0) ((hs5.gr gl (by simp [hsl])).gr gr' (by simp)) upd_same ⟨⟨hS', (hd5.gx gxl).gx (K := K) gr'.gx0, ol, xs, gr'.at upd_same, (rl.gx gxl).gx gr'.gx0⟩, hw, hb, hps, by omega⟩
end
end K6

/-! ## M6 -/
namespace K6
open PySem PySem.Spec PyProof.Rows L2
/-! ### what the trials come to -/
theorem valA_self {β : Type} (n : Str) (c : β) : ∀ ts : List (Str × β), valA (putA ts n c) n = some c := by
  intro ts
  unfold putA
  by_cases h : (ts.any fun p => decide (p.1 = n)) = true
  · rw [if_pos h]
    induction ts with
    | nil => simp at h
    | cons p r ih =>
      rw [List.map_cons]
      by_cases e : p.1 = n
      · rw [if_pos e]; exact valA_pos (p := (p.1, c)) e
      · rw [if_neg e, valA_neg e]
        refine ih ?_
        rw [List.any_cons, decide_eq_false e, Bool.false_or] at h
        exact h
  · rw [if_neg h]
    have hn : n ∉ nms ts := fun z => h (any_mem.mpr z)
    clear h
    induction ts with
    | nil => exact valA_pos rfl
    | cons p r ih =>
      rw [List.cons_append, valA_neg (fun e => hn (List.mem_cons.mpr (.inl e.symm)))]
      exact ih fun z => hn (List.mem_cons.mpr (.inr z))
theorem mem_nms_merge {n : Str} : ∀ {mo ts : Tm}, n ∈ nms (mergeA ts mo) ↔ n ∈ nms ts ∨ n ∈ nms mo
  | [], ts => by simp [mergeA]
  | p :: mo, ts => by
    show n ∈ nms (mergeA (putA ts p.1 p.2) mo) ↔ _
    rw [mem_nms_merge (mo := mo), mem_nms_put, show nms (p :: mo) = p.1 :: nms mo from rfl, List.mem_cons]
    constructor
    · rintro ((h | h) | h)
      · exact .inr (.inl h)
      · exact .inl h
      · exact .inr (.inr h)
    · rintro (h | h | h)
      · exact .inl (.inr h)
      · exact .inl (.inl h)
      · exact .inr h
theorem mem_nms_filter {n : Str} {f : Str → Bool} {ts : Tm} : n ∈ nms (ts.filter fun p => f p.1) ↔ n ∈ nms ts ∧ f n = true := by
  constructor
  · intro h
    obtain ⟨p, hp, rfl⟩ := List.mem_map.mp h
    obtain ⟨h1, h2⟩ := List.mem_filter.mp hp
    exact ⟨List.mem_map.mpr ⟨p, h1, rfl⟩, h2⟩
  · rintro ⟨h, hf⟩
    obtain ⟨p, hp, rfl⟩ := List.mem_map.mp h
    exact List.mem_map.mpr ⟨p, List.mem_filter.mpr ⟨hp, hf⟩, rfl⟩
theorem mem_nms_look {n : Str} {ns : List Str} {ts : Tm} : n ∈ nms (look ns ts) ↔ n ∈ ns ∧ n ∈ nms ts := by
  rw [nms_look, List.mem_filter, valA_mem]
/-- the last step is taken back -/
theorem undo_last {u : Str} {ts bf : Tm} {ns : List Str} {ss : List Sa} : undoA u ts (ss ++ [(u, ns, bf)]) = .done (mergeA (ts.filter fun p => decide (p.1 ∉ ns)) bf) ss := by
  have h0 : (ss ++ [(u, ns, bf)])[ss.length]? = some (u, ns, bf) := by simp
  have hl : lat u (ss ++ [(u, ns, bf)]) = some ss.length := lat_some h0 rfl fun j hj st' h => by
    have := (List.getElem?_eq_some_iff.mp h).1
    rw [List.length_append, List.length_singleton] at this
    omega
  unfold undoA
  rw [hl]
  simp only [h0]
  rw [show (ss ++ [(u, ns, bf)]).drop (ss.length + 1) = [] from List.drop_of_length_le (by simp), List.map_nil]
  rw [show heldA ns [] = none from by unfold heldA; rw [List.find?_eq_none]; simp]
  simp
theorem undoA_wf {u : Str} {ts ts' : Tm} {ss ss' : List Sa} (h : undoA u ts ss = .done ts' ss') (hw : Wf ts) (hs : ∀ e ∈ ss, WfE e) : Wf ts' ∧ (∀ e ∈ ss', WfE e) ∧ ss'.length ≤ ss.length := by
  unfold undoA at h
  split at h
  · cases h
  · rename_i i hi
    split at h
    · cases h
    · rename_i e he
      split at h
      · cases h
      · cases h
        have hwe := hs e (List.mem_of_getElem? he)
        refine ⟨(hw.filter _).mergeA fun p hp => ⟨hwe.bf.un _ (List.mem_map.mpr ⟨p, hp, rfl⟩), hwe.bf.cm p hp⟩, fun e' he' => ?_, ?_⟩
        · rcases List.mem_append.mp he' with z | z
          · exact hs e' (List.mem_of_mem_take z)
          · exact hs e' (List.mem_of_mem_drop z)
        · rw [List.length_append, List.length_take, List.length_drop]
          omega
theorem runs_one {ts : Tm} {n c : Str} : runs ts [.put n c] = .ok (putA ts n c) := rfl
theorem runs_two {ts : Tm} {n c m c' : Str} : runs ts [.put n c, .put m c'] = .ok (putA (putA ts n c) m c') := rfl
theorem runs_new {ts : Tm} {c : Str} (hw : Wf ts) (hc : Cmd c) (h6 : c.cps.size ≤ 6) : ∃ t, runs ts [.put "new" c, .join "a" ["new", "new"]] = .ok t ∧ Wf t ∧ ("new" : Str) ∈ nms t := by
  have hv : valA (putA ts "new" c) "new" = some c := valA_self _ _ _
  have hm : miss (putA ts "new" c) ["new", "new"] = none := by
    unfold miss
    rw [List.find?_eq_none]
    intro p hp
    have : p = "new" := by simpa using hp
    rw [this, hv]
    simp
  have hs : (cat (putA ts "new" c) ["new", "new"]).cps.size ≤ 200 := by
    rw [cat_size]
    simp only [List.map_cons, List.map_nil, hv, Option.getD_some, List.sum_cons, List.sum_nil]
    have : c.length ≤ 6 := h6
    omega
  have e : runs ts [.put "new" c, .join "a" ["new", "new"]] = .ok (putA (putA ts "new" c) "a" (cat (putA ts "new" c) ["new", "new"])) := by
    show (match run (putA ts "new" c) (.join "a" ["new", "new"]) with | .ok t' => runs t' [] | r => r) = _
    rw [show run (putA ts "new" c) (.join "a" ["new", "new"]) = .ok (putA (putA ts "new" c) "a" (cat (putA ts "new" c) ["new", "new"])) from by simp only [run, hm, if_pos hs]]
    rfl
  refine ⟨_, e, runs_wf hw (fun ch hch => ?_) e, ?_⟩
  · rcases List.mem_cons.mp hch with rfl | hch
    · exact ⟨by decide +kernel, hc⟩
    · rw [List.mem_singleton.mp hch]
      exact ⟨by decide +kernel, by simp, by simp, fun p hp => by
        have : p = "new" := by simpa using hp
        rw [this]; decide +kernel⟩
  · exact mem_nms_put.mpr (.inr (mem_nms_put.mpr (.inl rfl)))
theorem guest_names {ns : List Str} (h : IsSet ns ["trial", "a"]) : ns = (["a", "trial"] : List Str) :=
  h.uniq (b := (["a", "trial"] : List Str)) (ys := (["trial", "a"] : List Str)) ⟨by decide +kernel, by decide +kernel, fun a => by simp [or_comm]⟩ fun _ => Iff.rfl
theorem one_name {ns : List Str} {n : Str} (h : IsSet ns [n]) : ns = [n] :=
  h.uniq (b := [n]) (ys := [n]) ⟨by simp [sortedS, risingS], by simp, fun a => Iff.rfl⟩ fun _ => Iff.rfl
/-- the walks of a trial -/
theorem trial_mem {ts : Tm} {c : Str} (n : Str) : n ∈ nms (putA (putA ts "trial" c) "a" c) ↔ n = "a" ∨ n = "trial" ∨ n ∈ nms ts := by
  rw [mem_nms_put, mem_nms_put]
theorem trial_back {ts : Tm} {c : Str} (n : Str) : n ∈ nms (mergeA ((putA (putA ts "trial" c) "a" c).filter fun p => decide (p.1 ∉ (["a", "trial"] : List Str))) (look ["a", "trial"] ts)) ↔ n ∈ nms ts := by
  rw [mem_nms_merge, mem_nms_filter (f := fun n => decide (n ∉ (["a", "trial"] : List Str))), trial_mem, mem_nms_look, decide_eq_true_eq]
  simp only [List.mem_cons, List.not_mem_nil, or_false, not_or]
  constructor
  · rintro (⟨h | h | h, h2, h3⟩ | ⟨_, h⟩)
    · exact absurd h h2
    · exact absurd h h3
    · exact h
    · exact h
  · intro h
    by_cases e : n = "a" ∨ n = "trial"
    · exact .inr ⟨e, h⟩
    · rw [not_or] at e
      exact .inl ⟨.inr (.inr h), e.1, e.2⟩
end K6

/-! ## L12 -/
namespace K6
open PySem PySem.Spec PyProof.Rows L2
open LamX (CodeO TabS TabB)
/-! ### defs that make a lambda: their code object, its table -/
abbrev TB (K : PySem.W.Frag) (mg : Str → Option Value) (base : Heap) (x : Str) : Prop := TabB base mg (cdA K x) (tbA K x)
abbrev Tbl (K : PySem.W.Frag) (H : Hp) (x : Str) : Prop := TabS H (tbA K x) (x ++ ".<locals>." ++ "<lambda>")
section
variable {P : Program} {w : World} {K : PySem.W.Frag} {mg : Str → Option Value} {base : Heap} {N ps : List Str} {x : Str} {k : Nat} {sp : Sp} {st : Stmt} {fd : FuncData}
theorem fn_bC (F : Fun K x x st (ga K x) fd) (S : FnScope N ps (defScope st)) (len : ∀ vs H Q E, sp vs H Q E → vs.length = ps.length)
    (hb : ∀ (kV doc pm : Value) (an : Option Addr) (cdv ct : Value) (us : List Value), us.length = ps.length → bindArgs (PySem.W.fnOf x x (defArgs st) (defBody st) (defScope st) .none kV doc pm an cdv ct) ⟨us, []⟩ = pure (ps.zip us))
    (hbody : ∀ (A : Around) (outer : List Env) (s : Shared) (H : Hp) (vs : List V) (Q : VK) (E : XK), Qk false (cxQ P w K mg base N x (defScope st) (ga K x) (.ref (cdA K x)) A outer s H E none) → L2H.RoomH k (cxQ P w K mg base N x (defScope st) (ga K x) (.ref (cdA K x)) A outer s H E none).A → sp vs H Q E →
      wB (cxQ P w K mg base N x (defScope st) (ga K x) (.ref (cdA K x)) A outer s H E none) (defBody st) { nx := fun _ H' => Q .non H', rt := Q } (L2.start N vs) H) :
    Fb false P w K mg base (k + 1) (ga K x) sp := by
  intro pz A outer s H us vs Q E hp hr q e0 r hsp
  obtain rfl : pz = none := by
    rcases hp with hp | hp
    · exact hp
    · cases hp
  obtain ⟨oc, od, kV, doc, pm, an, cdv, ct, osl, rfl, lk, hcd⟩ := F.ex
  obtain ⟨c, rfl⟩ := He.codeIn_ref hcd
  have ec : cdA K x = c := He.codeOf_eq (p := (x, none)) lk rfl
  rw [ec] at hbody
  have hl := len _ _ _ _ hsp
  have hlu : us.length = ps.length := by rw [← r.length]; exact hl
  have KX : K.In s.heap := e0.mod.kin.keeps fun b o e => (e0.bs b o e).1
  have lim : s.heap.NoLimit := e0.mod.nolimit.keeps fun b o e => (e0.bs b o e).1
  refine codeAny_call_function hr.depth (KX _ _ lk) rfl S.co S.gen rfl (PySem.W.codeRec_of KX hcd) ?_
  rw [hb kV doc pm an _ ct us hlu]
  refine wpAny_pure (wpAny_newFunctionEnv_cells S.kind (fun y hy => ?_) fun env he s1 x1 => ?_)
  · rcases S.par y.1 (List.of_mem_zip hy).1 with z | z
    · exact .inl z
    · exact .inr ⟨z, PySem.W.cellsFrom_some _ _ _ (.inl z)⟩
  subst he
  refine ⟨lim.keeps x1.toInCall.keep, codeAny_func ?_⟩
  have B := hbody A outer s H vs Q E (.inl rfl) (hr.deeper _) hsp [] s1 (inv_startQ S q e0 hl r x1)
  refine wpAny_mono B (fun fl s' hs => ?_) fun e s' hs => hs
  have fin : ∀ {σ' : St} {H' : Hp} {v : V} {u : Value}, Inv (cxQ P w K mg base N x (defScope st) (ga K x) (.ref c) A outer s H E none) [] σ' H' s' → RelV v u → Q v H' → CE outer P w H s Q u s' :=
    fun {σ' H' v u} J rv z => ⟨v, H', J.os, J.bare, J.base, J.hok, rv, z⟩
  cases fl with
  | ret u =>
    obtain ⟨v, σ', H', J, rv, z⟩ := hs
    exact fin J rv z
  | next =>
    obtain ⟨σ', H', J, z⟩ := hs
    exact fin (v := V.non) (u := Value.none) J rfl z
  | brk =>
    obtain ⟨_, _, _, z⟩ := hs
    exact z.elim
  | cont =>
    obtain ⟨_, _, _, z⟩ := hs
    exact z.elim
/-! ### Walk(k, 5) -/
end
theorem w_walkBad {X : Cx} {σ : St} {H : Hp} {Q : VK} {E : XK} {e e' : Expr} {p pos : Pos} (T : Tz X.K X.w X.mg) (hq : Qk false X) (hr : L2H.RoomH 4 X.A) (hx : PaX X σ E) (hg : Gl X "Walk")
    (hw : wA X [e, e'] σ H fun vs H1 => ∃ k, vs = [.str k, .int 5] ∧ Kind k ∧ XR X.K "InvalidCommands" "given" (.int 5) [] H1 E)
    (he : starEach [e, e'] X.env = (false, eval e X.env) :: starEach [e'] X.env := by rfl) (hpl : (backTo pos (starEach [e'] X.env)).any (·.1) = false := by rfl) : wE X (.Call (.Name "Walk" p) [e, e'] [] pos) σ H Q := by
  refine w_make T.wal.mkr (walk_bad (P := X.prog) (base := X.base) T) hq hr T.wal.mg hx hg (hw.mono fun vs H1 => ?_) (by decide) he hpl
  rintro ⟨k, rfl, hk, q⟩ x dx hx hdx hne
  have hx1 : (upd H1 dx (.own x)) x = none := by rw [upd_ne (Ne.symm hne)]; exact hx
  exact ⟨x, k, 5, dx, rfl, upd_same, hk, Gr.xr q ((Gr.refl.new hdx).new hx1)⟩
end K6

/-! ## L13 -/
namespace K6
open PySem PySem.Spec PyProof.Rows L2
open LamX (CodeO TabS TabB)
abbrev aTr : List Str := ["a", "trial"]
abbrev gst (ts : Tm) : Sa := ("guest", aTr, look aTr ts)
structure Ti (K : PySem.W.Frag) (w : World) (mg : Str → Option Value) : Prop extends Ty K w mg where
  d61 : Dt K mg "_law_visit" 61
  d62 : Dt K mg "_law_tried" 62
  d63 : Dt K mg "_law_attempts_right" 63
  d64 : Dt K mg "_law_copy_right" 64
  d65 : Dt K mg "law" 65
  u_notF : PySem.W.notFirst K (ga K "Studio") (.ref (ga K "Studio")) = true
  u_notD : PySem.W.notFirst K (ga K "Studio") (.type "dict") = true
  t12 : tbA K "_law_visit" ≠ tbA K "_law_tried"
  t13 : tbA K "_law_visit" ≠ tbA K "law"
  t23 : tbA K "_law_tried" ≠ tbA K "law"
theorem ann_u : ("ann" : Str) ∈ Users := by decide +kernel
theorem zoe_u : ("zoe" : Str) ∈ Users := by decide +kernel
theorem dint (a b : Int) : decide (V.int a = V.int b) = decide (a = b) := by
  rw [decide_eq_decide]
  simp
theorem ws_ifW {X : Cx} {σ : St} {H : Hp} {D : Ends} {way n : Int} {x : Str} {j : Nat} {p p2 p3 pos : Pos} {as : List Stmt} (i : Nat) (hσ : σ[i]? = some (some (.int way))) (h1 : way = n → wB X as D σ H) (h2 : way ≠ n → D.nx σ H)
    (hN : X.N[i]? = some x := by rfl) (hv : Vis X.env.scope x := by first | exact Or.inl rfl | exact Or.inr (Or.inl rfl) | exact Or.inr (Or.inr rfl)) (hd : (x == ("__debug__" : Str)) = false := by decide)
    (hcd : (x == ("__classdict__" : Str)) = false := by decide) : wS X (.If (.Compare (.Name x p) [.Eq] [.Constant (.int n) j p2] p3) as [] pos) D σ H := by
  refine ws_if (wt_cmp op_eq (w_var i ⟨_, hσ, w_int ⟨rfl, _, rfl, ?_⟩⟩ hN hv hd hcd) (by first | rfl | exact nobehind _ (by decide) (by decide)))
  rw [dint]
  by_cases e : way = n
  · rw [decide_eq_true e]; exact iteT (h1 e)
  · rw [decide_eq_false e]; exact iteF (wb_nil (h2 e))
/-- what is seen first -/
def E0 (K : PySem.W.Frag) (H : Hp) (a0 : Addr) (ts : Tm) : Prop := ∃ (o : Obj) (p q t : Addr) (oy : Obj) (ys : List Str), H a0 = some (.frz o (.lst [.ref p, .ref q])) ∧ H p = some (.frz oy (.lst (ys.map V.str))) ∧ IsSet ys (nms ts ++ aTr) ∧ SqT K H q [.str "guest", .ref t] ∧ SqT K H t [.str "a", .str "trial"]
theorem E0.gx {K : PySem.W.Frag} {H H' : Hp} {a0 : Addr} {ts : Tm} (h : E0 K H a0 ts) (g : Gx K H H') : E0 K H' a0 ts := by
  obtain ⟨o, p, q, t, oy, ys, h1, h2, h3, h4, h5⟩ := h
  exact ⟨o, p, q, t, oy, ys, g.keep _ _ trivial h1, g.keep _ _ trivial h2, h3, g.sqt h4, g.sqt h5⟩
def SeenAt (K : PySem.W.Frag) (H : Hp) (sn : Addr) (way : Int) (ts : Tm) : Prop := ∃ (a0 : Addr) (rest : List V), H sn = some (.lst (.ref a0 :: rest)) ∧ E0 K H a0 ts ∧ rest.length ≤ 3 ∧
  (way = 1 → ∃ (b : Addr) (o : Obj) (zs : List Str) (r : List V), rest = .ref b :: r ∧ H b = some (.frz o (.lst (zs.map V.str))) ∧ ("new" : Str) ∈ zs ∧ ∀ z ∈ zs, z ∈ Univ) ∧ (way = 2 → ∃ (b : Addr) (o : Obj) (zs : List Str) (r : List V), rest = .ref b :: r ∧ H b = some (.frz o (.lst (zs.map V.str))) ∧ IsSet zs (nms ts))
theorem SeenAt.gx {K : PySem.W.Frag} {H H' : Hp} {sn : Addr} {way : Int} {ts : Tm} (h : SeenAt K H sn way ts) (g : Gx K H H') (e : H' sn = H sn) : SeenAt K H' sn way ts := by
  obtain ⟨a0, rest, h1, h2, h3, h4, h5⟩ := h
  refine ⟨a0, rest, e.trans h1, h2.gx g, h3, fun z => ?_, fun z => ?_⟩
  · obtain ⟨b, o, zs, r, h6, h7, h8⟩ := h4 z
    exact ⟨b, o, zs, r, h6, g.keep _ _ trivial h7, h8⟩
  · obtain ⟨b, o, zs, r, h6, h7, h8⟩ := h5 z
    exact ⟨b, o, zs, r, h6, g.keep _ _ trivial h7, h8⟩
structure VisR (K : PySem.W.Frag) (H H' : Hp) (x sn : Addr) (k : Str) (way : Int) (ts : Tm) : Prop where
  gr : Gr [x, sn, tbA K "_law_visit"] H H'
  gx : Gx K H H'
  tb : Tbl K H' "_law_visit"
  at_ : ∃ dx d l, H' x = some (.ins (cS K) dx (stf k d l))
  seen : SeenAt K H' sn way ts
theorem Tbl.gr {K : PySem.W.Frag} {H H' : Hp} {n : Str} {M : List Addr} (t : Tbl K H n) (g : Gr M H H') (gx : Gx K H H') (hM : tbA K n ∉ M) : Tbl K H' n := by
  obtain ⟨ps, h, _⟩ := id t
  exact TabS.gx t gx ((g.keep _ _ hM h).trans h.symm)
/-- within a visit -/
structure Mid (K : PySem.W.Frag) (H H' : Hp) (x sn : Addr) (k : Str) (way : Int) (ts : Tm) (few : Nat) : Prop where
  gr : Gr [x, sn, tbA K "_law_visit"] H H'
  gx : Gx K H H'
  tb : Tbl K H' "_law_visit"
  sn : ∃ a0, H' sn = some (.lst [.ref a0]) ∧ E0 K H' a0 ts
  st : ∃ t ss, Std K H' x k t ss ∧ Wf t ∧ (∀ e ∈ ss, WfE e) ∧ ss.length ≤ few ∧ (way = 1 → ("new" : Str) ∈ nms t) ∧ (way = 2 → ∀ n, n ∈ nms t ↔ n ∈ nms ts) ∧ (way = 4 → valA t "nobody" = none)
theorem paired_last {α β : Type} {F : α → β → Prop} {y : β} : ∀ {xs : List α} {ys : List β}, Paired F xs (ys ++ [y]) → ∃ x, xs.getLast? = some x ∧ F x y
  | _, [], .cons r .nil => ⟨_, rfl, r⟩
  | x :: xs, y' :: ys, .cons r t => by
    obtain ⟨z, hz, rz⟩ := paired_last (ys := ys) t
    refine ⟨z, ?_, rz⟩
    cases xs with
    | nil => cases hz
    | cons a b => rw [List.getLast?_cons_cons]; exact hz
theorem Mid.std {K : PySem.W.Frag} {H H' H2 : Hp} {x sn : Addr} {k : Str} {way : Int} {ts : Tm} {few : Nat} (m : Mid K H H' x sn k way ts few) : ∃ dx d l, H' x = some (.ins (cS K) dx (stf k d l)) := by
  obtain ⟨t, ss, ⟨dx, d, l, h, _⟩, _⟩ := m.st
  exact ⟨dx, d, l, h⟩
/-- the studio has gone on -/
theorem Mid.go {K : PySem.W.Frag} {H H' H2 : Hp} {x sn : Addr} {k : Str} {way : Int} {ts : Tm} {few few' : Nat} (m : Mid K H H' x sn k way ts few) (hsx : sn ≠ x) (htx : tbA K "_law_visit" ≠ x) (g : Gr [x] H' H2) (gx : Gx K H' H2)
    (st : ∃ t ss, Std K H2 x k t ss ∧ Wf t ∧ (∀ e ∈ ss, WfE e) ∧ ss.length ≤ few' ∧ (way = 1 → ("new" : Str) ∈ nms t) ∧ (way = 2 → ∀ n, n ∈ nms t ↔ n ∈ nms ts) ∧ (way = 4 → valA t "nobody" = none)) : Mid K H H2 x sn k way ts few' := by
  refine ⟨m.gr.trans (g.mono fun a ha => by simp [List.mem_singleton.mp ha]), m.gx.trans gx, m.tb.gr g gx (by simp [htx]), ?_, st⟩
  obtain ⟨a0, h1, h2⟩ := m.sn
  exact ⟨a0, g.keep _ _ (by simp [hsx]) h1, h2.gx gx⟩
def spVisit (K : PySem.W.Frag) : Sp := fun vs H Q E => ∃ (sn x : Addr) (way : Int) (wk : Addr) (k c : Str) (ts : Tm) (ss1 : List Sa), vs = [.ref sn, .ref x, .int way, .ref wk] ∧ H sn = some (.lst []) ∧
  Std K H x k (putA (putA ts "trial" c) "a" c) (ss1 ++ [gst ts]) ∧ Wf ts ∧ (∀ n ∈ nms ts, n ∈ Base4) ∧ (∀ e ∈ ss1, WfE e) ∧ ss1.length ≤ 10 ∧ Kind k ∧ WalkAt K H wk k c ∧ Cmd c ∧ c.cps.size ≤ 6 ∧ 0 ≤ way ∧ way < 8 ∧ Tbl K H "_law_visit" ∧
  (way ≠ 4 ∧ way ≠ 5 ∧ way ≠ 6 → ∀ r H', VisR K H H' x sn k way ts → H' r = some (.lst [.str "told", .int way]) → Q (.ref r) H') ∧
  (way = 4 → ∀ d H', VisR K H H' x sn k way ts → H' d = some (.xd [("name", .str "nobody")]) → E (.ref (ga K "UnknownName")) (some d) H') ∧
  (way = 5 → ∀ d H', VisR K H H' x sn k way ts → H' d = some (.xd [("given", .int 5)]) → E (.ref (ga K "InvalidCommands")) (some d) H') ∧
  (way = 6 → ∀ d t H', VisR K H H' x sn k way ts → H' t = some (.tup []) → H' d = some (.xd [("given", .ref t)]) → E (.ref (ga K "InvalidChange")) (some d) H')
/-- the nested trial's function -/
def spDeep (K : PySem.W.Frag) (wk : Addr) (c : Str) : Sp := fun vs H Q _ => ∃ x k t ss, vs = [.ref x] ∧ Std K H x k t ss ∧ Wf t ∧ Kind k ∧ ss.length ≤ 100 ∧ WalkAt K H wk k c ∧ ∀ H' t' ss', Gr [x] H H' → Std K H' x k t' ss' → Q .non H'
section
variable {P : Program} {w : World} {K : PySem.W.Frag} {mg : Str → Option Value} {base : Heap}
/-- undo, whatever comes of it -/
theorem back_any {x : Addr} {u k : Str} {ts : Tm} {ss : List Sa} {H : Hp} {Q : VK} {E : XK} (hS : Std K H x k ts ss) (hu : u ∈ Users) (hw : Wf ts) (hs : ∀ e ∈ ss, WfE e) (hz : ss.length ≤ 1000)
    (q : ∀ H' l t' ss', Gr [x] H H' → Std K H' x k t' ss' → Wf t' → (∀ e ∈ ss', WfE e) → ss'.length ≤ ss.length → Q (.ref l) H') : spBack K [.ref x, .str u] H Q E := by
  refine ⟨x, u, k, ts, ss, rfl, hS, hu, hw, hs, hz, ?_⟩
  cases hun : undoA u ts ss with
  | done t' ss' =>
    obtain ⟨h1, h2, h3⟩ := undoA_wf hun hw hs
    exact fun H' l g hS' _ => q H' l t' ss' g hS' h1 h2 h3
  | nothing => exact fun H' l g _ => q H' l ts ss g.up (hS.gr0 g) hw hs (Nat.le_refl _)
  | blocked n => exact fun H' l g _ => q H' l ts ss g.up (hS.gr0 g) hw hs (Nat.le_refl _)
abbrev N61 : List Str := ["_law_seen", "_law_studio", "_law_way", "_law_walk"]
theorem sc61 : FnScope N61 N61 (scL 61) := ⟨rfl, rfl, rfl, by decide +kernel, rfl, by decide +kernel, by decide +kernel⟩
end
end K6

/-! ## L14 -/
namespace K6
open PySem PySem.Spec PyProof.Rows L2
open LamX (CodeO TabS TabB)
section
variable {P : Program} {w : World} {K : PySem.W.Frag} {mg : Str → Option Value} {base : Heap}
theorem law_visit (T : Ti K w mg) (hTB : TB K mg base "_law_visit") : Fb false P w K mg base 22 (ga K "_law_visit") (spVisit K) := by
  obtain ⟨fd, F⟩ := T.d61.fn
  refine fn_bC F sc61 (fun vs H Q E h => by obtain ⟨sn, x, way, wk, k, c, ts, ss1, rfl, _⟩ := h; rfl) (fun _ _ _ _ _ _ us hl => match us, hl with | [_, _, _, _], _ => rfl) ?_
  intro A outer s0 H vs Q E hq hr h
  obtain ⟨sn, x, way, wk, k, c, ts, ss1, rfl, hsn, hS, hw, hb4, hss, hz, hk, hW, hc, h6, hw0, hw8, hT, q1, q4, q5, q6⟩ := h
  have cl := T.stu.cl
  have hw1 : Wf (putA (putA ts "trial" c) "a" c) := (hw.put (by decide +kernel) hc).put (by decide +kernel) hc
  obtain ⟨dx0, d0, l0, hx0, _, _⟩ := id hS
  obtain ⟨pt, hpt, _⟩ := id hT
  have hsx : sn ≠ x := fun e => by rw [e, hx0] at hsn; cases hsn
  have htx : tbA K "_law_visit" ≠ x := fun e => by rw [e, hx0] at hpt; cases hpt
  have hts : tbA K "_law_visit" ≠ sn := fun e => by rw [e, hsn] at hpt; cases hpt
  have wat : ∀ {H'}, Gx K H H' → WalkAt K H' wk k c := fun g => hW.gx g
  have hwn : way = 0 ∨ way = 1 ∨ way = 2 ∨ way = 3 ∨ way = 4 ∨ way = 5 ∨ way = 6 ∨ way = 7 := by omega
  -- what stands at first
  refine wb_cut (fun σ H' => σ = [some (.ref sn), some (.ref x), some (.int way), some (.ref wk)] ∧ ∃ a0, Gr [x, sn, tbA K "_law_visit"] H H' ∧ Gx K H H' ∧ Tbl K H' "_law_visit" ∧ H' sn = some (.lst [.ref a0]) ∧ E0 K H' a0 ts ∧ Std K H' x k (putA (putA ts "trial" c) "a" c) (ss1 ++ [gst ts])) ?_ ?_
  · refine ws_expr (w_append (w_var 0 ⟨_, rfl, sn, [], rfl, hsn, wE_locked (w_lst (wa_cons (wE_locked (w_prop (studio_names T.toTw) hq.up (hr.mono (by decide)) cl T.u_namesP (w_var 1 ⟨_, rfl, x, _, _, rfl, hx0, x, k, _, _, rfl, hS, hw1, fun ys H1 p1 hys g1 hp1 h1 => ⟨p1, _, rfl, h1, trivial, fun o1 => ?_⟩⟩)))))⟩))
    have g2 : Gr [] H (upd H1 p1 (.frz o1 (.lst (ys.map V.str)))) := g1.put (.inl hp1)
    have hp2 : (upd H1 p1 (.frz o1 (.lst (ys.map V.str)))) p1 = some (.frz o1 (.lst (ys.map V.str))) := upd_same
    generalize upd H1 p1 (.frz o1 (.lst (ys.map V.str))) = H2 at g2 hp2 ⊢
    refine wa_cons (w_ix ix_list (w_listG (studio_log T.toTt) hq.up (hr.mono (by decide)) cl T.u_logM rfl T.lst (by decide +kernel) (w_var 1 ⟨_, rfl, x, _, _, rfl, g2.at hx0, rfl, x, k, _, _, rfl, hS.gr0 g2, (by rw [List.length_append, List.length_singleton]; omega), fun H4 zs g4 hL la hla => ?_⟩)))
    obtain ⟨vl, hvl, pl, tl, rfl, hpl, htl⟩ := paired_last hL
    have g5 : Gr [] H4 (upd H4 la (.lst zs)) := Gr.refl.new hla
    have hla5 : (upd H4 la (.lst zs)) la = some (.lst zs) := upd_same
    generalize upd H4 la (.lst zs) = H5 at g5 hla5 ⊢
    refine w_un un_neg (w_int ⟨1, rfl, la, _, -1, .ref pl, rfl, rfl, Src.ix hla5, atI_last hvl, wa_nil ⟨sz2, fun a0 ha0 => ⟨a0, _, rfl, upd_same, trivial, fun o0 => ?_⟩⟩⟩)
    rw [upd_upd]
    have g6 : Gr [] H5 (upd H5 a0 (.frz o0 (.lst [.ref p1, .ref pl]))) := Gr.refl.new ha0
    have ha6 : (upd H5 a0 (.frz o0 (.lst [.ref p1, .ref pl]))) a0 = some (.frz o0 (.lst [.ref p1, .ref pl])) := upd_same
    generalize upd H5 a0 (.frz o0 (.lst [.ref p1, .ref pl])) = H6 at g6 ha6 ⊢
    have g26 := (g4.trans g5).trans g6
    have g06 := g2.trans g26
    have hsn6 := g06.at hsn
    refine ⟨[], hsn6, by decide, rfl, a0, ?_, ?_, ?_, upd_same, ?_, ?_⟩
    · exact g06.up.put (.inr (by simp))
    · exact g06.gx0.trans (Src.gx hsn6)
    · exact Tbl.gr (hT.gr g06 g06.gx0 (by simp)) (M := [sn]) (Gr.refl.put (.inr (by simp))) (Src.gx hsn6) (by simp [hts])
    · refine E0.gx ⟨o0, p1, pl, tl, o1, ys, ha6, g26.at hp2, hys.mono fun z => ?_, .of (g6.at (g5.at hpl)), (g5.trans g6).tup htl⟩ (Src.gx hsn6)
      rw [trial_mem, List.mem_append]
      simp [or_comm, or_assoc, or_left_comm]
    · exact (hS.gr0 g06).gr (M := [sn]) (Gr.refl.put (.inr (by simp))) (by simp [Ne.symm hsx]) (Src.gx hsn6)
  rintro σ H1 ⟨rfl, a0, gr1, gx1, tb1, hs1, he1, hS1⟩
  have hmap : look aTr ts = look aTr ts := rfl
  have hWfE : WfE (gst ts) := ⟨(by decide +kernel : ("guest" : Str) ∈ Users), (by decide +kernel : aTr.Nodup), (by decide +kernel : ∀ n ∈ aTr, n ∈ Univ), hw.look (by decide +kernel : aTr.Nodup)⟩
  have hss1 : ∀ e ∈ ss1 ++ [gst ts], WfE e := fun e he => by
    rcases List.mem_append.mp he with he | he
    · exact hss e he
    · rw [List.mem_singleton.mp he]; exact hWfE
  have hlen1 : (ss1 ++ [gst ts]).length ≤ 11 := by rw [List.length_append, List.length_singleton]; omega
  have hno : valA (putA (putA ts "trial" c) "a" c) "nobody" = none := by
    rw [valA_none, trial_mem]
    rintro (h | h | h)
    · exact absurd h (by decide +kernel)
    · exact absurd h (by decide +kernel)
    · exact absurd (hb4 _ h) (by decide +kernel)
  -- way 1
  refine wb_cut (fun σ H' => σ = [some (.ref sn), some (.ref x), some (.int way), some (.ref wk)] ∧ Gr [x, sn, tbA K "_law_visit"] H H' ∧ Gx K H H' ∧ Tbl K H' "_law_visit" ∧ (∃ a0, H' sn = some (.lst [.ref a0]) ∧ E0 K H' a0 ts) ∧
      ((way ≠ 1 ∧ Std K H' x k (putA (putA ts "trial" c) "a" c) (ss1 ++ [gst ts])) ∨ (way = 1 ∧ ∃ t ss, Std K H' x k t ss ∧ Wf t ∧ (∀ e ∈ ss, WfE e) ∧ ss.length ≤ 12 ∧ ("new" : Str) ∈ nms t))) ?_ ?_
  · refine ws_ifW 2 rfl (fun e => ?_) fun e => ⟨rfl, gr1, gx1, tb1, ⟨a0, hs1, he1⟩, .inl ⟨e, hS1⟩⟩
    obtain ⟨dx, d, l, hx, _, _⟩ := id hS1
    refine wb_one (ws_expr (w_meth (studio_make T.toTu) hq (hr.mono (by decide)) cl T.u_makeM paF (w_var 1 ⟨_, rfl, x, _, _, rfl, hx, rfl, wa_cons (w_str (wa_cons (w_tup (wa_cons (w_str (wa_cons (w_str (wa_cons (w_var 3 ⟨_, rfl, wa_nil ⟨sz3, fun p1 hp1 => ?_⟩⟩)))))))))⟩)))
    have g2 : Gr [] H1 (upd H1 p1 (.tup [.str "put", .str "new", .ref wk])) := Gr.refl.new hp1
    have hp2 : (upd H1 p1 (.tup [.str "put", .str "new", .ref wk])) p1 = some (.tup [.str "put", .str "new", .ref wk]) := upd_same
    generalize upd H1 p1 (.tup [.str "put", .str "new", .ref wk]) = H2 at g2 hp2 ⊢
    refine wa_cons (w_tup (wa_cons (w_str (wa_cons (w_str (wa_cons (w_tup (wa_cons (w_str (wa_cons (w_str (wa_nil ⟨sz2, fun t hpt => wa_nil ⟨sz3, fun p2 hp2' => wa_nil ?_⟩⟩))))))))))))
    have g3 : Gr [] H2 (upd (upd H2 t (.tup [.str "new", .str "new"])) p2 (.tup [.str "join", .str "a", .ref t])) := (Gr.refl.new hpt).new hp2'
    have ht3 : (upd (upd H2 t (.tup [.str "new", .str "new"])) p2 (.tup [.str "join", .str "a", .ref t])) t = some (.tup [.str "new", .str "new"]) := (Gr.refl.new hp2').at upd_same
    have hp3 : (upd (upd H2 t (.tup [.str "new", .str "new"])) p2 (.tup [.str "join", .str "a", .ref t])) p2 = some (.tup [.str "join", .str "a", .ref t]) := upd_same
    generalize upd (upd H2 t (.tup [.str "new", .str "new"])) p2 (.tup [.str "join", .str "a", .ref t]) = H3 at g3 ht3 hp3 ⊢
    have g13 := g2.trans g3
    obtain ⟨t', hrun, hwt, hnew⟩ := runs_new hw1 hc h6
    refine ⟨x, "ann", k, _, _, hS1.gr0 g13, by decide +kernel, hw1, hk, by omega, .inl ⟨[p1, p2], [.put "new" c, .join "a" ["new", "new"]], rfl, by simp, by simp, .cons ⟨⟨wk, g3.at hp2, wat (gx1.trans g13.gx0)⟩, by decide +kernel, hc⟩ (.cons ⟨⟨t, hp3, ht3⟩, by decide +kernel, by simp, by simp, by decide +kernel⟩ .nil), ?_⟩⟩
    unfold MkOut
    rw [hrun]
    intro H' ys hys g hS'
    have gx := g.gxS (hS1.gr0 g13)
    refine ⟨rfl, (gr1.trans g13.up).trans (g.mono fun a ha => by simp [List.mem_singleton.mp ha]), (gx1.trans g13.gx0).trans gx, (tb1.gr g13 g13.gx0 (by simp)).gr g gx (by simp [htx]), ⟨a0, g.keep _ _ (by simp [hsx]) (g13.at hs1), (he1.gx g13.gx0).gx gx⟩, .inr ⟨e, t', _, hS', hwt, fun e' he' => ?_, by rw [List.length_append, List.length_singleton]; omega, hnew⟩⟩
    rcases List.mem_append.mp he' with he' | he'
    · exact hss1 e' he'
    · rw [List.mem_singleton.mp he']
      refine ⟨ann_u, hys.nd, fun n hn => ?_, hw1.look hys.nd⟩
      have := (hys.mem n).mp hn
      have h2 : ∀ n ∈ ([.put "new" c, .join "a" ["new", "new"]] : List Ch).map Ch.nm, n ∈ Univ := by
        intro n hn
        have : n = "new" ∨ n = "a" := by simpa [Ch.nm] using hn
        rcases this with rfl | rfl <;> decide +kernel
      exact h2 n this
  rintro σ H2 ⟨rfl, gr2, gx2, tb2, hs2, hst2⟩
  -- way 2
  refine wb_cut (fun σ H' => σ = [some (.ref sn), some (.ref x), some (.int way), some (.ref wk)] ∧ Mid K H H' x sn k way ts 12) ?_ ?_
  · refine ws_ifW 2 rfl (fun e => ?_) fun e => ⟨rfl, gr2, gx2, tb2, hs2, ?_⟩
    · subst e
      rcases hst2 with ⟨_, hS2⟩ | ⟨z, _⟩
      · obtain ⟨dx, d, l, hx, _, _⟩ := id hS2
        refine wb_one (ws_expr (w_meth (studio_undo T.toTv) hq (hr.mono (by decide)) cl T.u_undoM paF (w_var 1 ⟨_, rfl, x, _, _, rfl, hx, rfl, wa_cons (w_str (wa_nil ⟨x, "guest", k, _, _, rfl, hS2, by decide +kernel, hw1, hss1, by omega, ?_⟩))⟩)))
        rw [undo_last]
        intro H' g hS'
        have hwu := (undoA_wf (u := "guest") (ts := putA (putA ts "trial" c) "a" c) (ss := ss1 ++ [gst ts]) undo_last hw1 hss1).1
        have gx := g.gxS hS2
        obtain ⟨a0, hs2', he2⟩ := hs2
        exact ⟨rfl, gr2.trans (g.mono fun a ha => by simp [List.mem_singleton.mp ha]), gx2.trans gx, tb2.gr g gx (by simp [htx]), ⟨a0, g.keep _ _ (by simp [hsx]) hs2', he2.gx gx⟩, _, _, hS', hwu, hss, by omega, (fun z => absurd z (by decide)), (fun _ n => trial_back n), fun z => absurd z (by decide)⟩
      · exact absurd z (by decide)
    · rcases hst2 with ⟨n1, hS2⟩ | ⟨e1, t, ss, h1, h2, h3, h4, h5⟩
      · exact ⟨_, _, hS2, hw1, hss1, by omega, (fun z => absurd z n1), (fun z => absurd z e), fun _ => hno⟩
      · exact ⟨t, ss, h1, h2, h3, h4, fun _ => h5, (fun z => absurd z e), fun z => by omega⟩
  rintro σ H3 ⟨rfl, m3⟩
  -- way 3
  refine wb_cut (fun σ H' => σ = [some (.ref sn), some (.ref x), some (.int way), some (.ref wk)] ∧ Mid K H H' x sn k way ts 12) ?_ ?_
  · refine ws_ifW 2 rfl (fun e => ?_) fun e => ⟨rfl, m3⟩
    obtain ⟨t, ss, hS3, hwt, hse, hsl, i1, i2, i4⟩ := m3.st
    obtain ⟨dx, d, l, hx, _, _⟩ := id hS3
    refine wb_one (ws_expr (w_att (k := 9) (spv := spDeep K wk c) T.toTq rfl (hr.mono (by decide)) (E := fun _ _ _ => False) paF hTB rfl (lamS1_by (p := "_law_inner") (N := N61) (sc := scL 61) (by decide +kernel)) ?_ ?_ (w_var 1 ⟨_, rfl, x, _, _, rfl, hx, rfl, m3.tb, fun H4 fl g4 hT4 => ?_⟩)))
    · intro A2 outer2 s2 f c' HL v QL EL hrL hsp
      obtain ⟨xi, ki, ti, si, e1, hSi, hwi, hki, hsi, hWi, qi⟩ := hsp
      cases e1
      obtain ⟨dxi, di, li, hxi, _, _⟩ := id hSi
      refine w_meth (studio_make T.toTu) (.inl rfl) hrL cl T.u_makeM (E := fun _ _ _ => False) paF (w_var 4 ⟨_, rfl, xi, _, _, rfl, hxi, rfl, wa_cons (w_str (wa_cons (w_tup (wa_cons (w_str (wa_cons (w_str (wa_cons (w_var 3 ⟨_, rfl, wa_nil ⟨sz3, fun p1 hp1 => wa_nil ?_⟩⟩)))))))))⟩)
      have g2 : Gr [] HL (upd HL p1 (.tup [.str "put", .str "deep", .ref wk])) := Gr.refl.new hp1
      refine ⟨xi, "bob", ki, ti, si, hSi.gr0 g2, by decide +kernel, hwi, hki, by omega, .inl ⟨[p1], [.put "deep" c], rfl, by simp, by simp, .cons ⟨⟨wk, upd_same, hWi.gx g2.gx0⟩, by decide +kernel, hc⟩ .nil, ?_⟩⟩
      unfold MkOut
      rw [runs_one]
      intro H' ys hys g hS'
      exact qi H' _ _ (g2.up.trans g) hS'
    · rintro vs' H' Q' E' ⟨xi, ki, ti, si, rfl, _⟩
      exact ⟨_, rfl⟩
    have gx4 : Gx K H3 H4 := g4.gx fun a ha o e => by
      obtain ⟨ps, hps, _⟩ := m3.tb
      rw [List.mem_singleton.mp ha, hps] at e
      cases e
      exact fun z => z
    have hS4 : Std K H4 x k t ss := hS3.gr g4 (by simp [Ne.symm htx]) gx4
    refine wa_cons (w_tup (wa_cons (w_str (wa_cons (w_str (wa_cons (w_var 3 ⟨_, rfl, wa_nil ⟨sz3, fun p1 hp1 => wa_nil ?_⟩⟩)))))))
    have g5 : Gr [] H4 (upd H4 p1 (.tup [.str "put", .str "z", .ref wk])) := Gr.refl.new hp1
    have hp5 : (upd H4 p1 (.tup [.str "put", .str "z", .ref wk])) p1 = some (.tup [.str "put", .str "z", .ref wk]) := upd_same
    generalize upd H4 p1 (.tup [.str "put", .str "z", .ref wk]) = H5 at g5 hp5 ⊢
    have gx5 : Gx K H H5 := (m3.gx.trans gx4).trans g5.gx0
    refine ⟨g5, x, [p1], [.put "z" c], k, t, ss, [], rfl, hS4.gr0 g5, hwt, hk, by omega, by simp, by simp, .cons ⟨⟨wk, hp5, wat gx5⟩, by decide +kernel, hc⟩ .nil, (fun m hm => absurd hm (by simp)), ?_⟩
    unfold AttOut
    rw [runs_one]
    intro H6 ns Q' E' hns g6 hS6 hQ' hE'
    have gx6 := g6.gxS (hS4.gr0 g5)
    refine ⟨x, k, _, _, rfl, hS6, hwt.put (by decide +kernel) hc, hk, by rw [List.length_append, List.length_singleton]; omega, wat (gx5.trans gx6), fun H7 t' ss' g7 hS7 => ?_⟩
    have gx7 := g7.gxS hS6
    obtain ⟨dx7, d7, l7, hx7, _, _⟩ := id hS7
    refine hQ' .non H7 ⟨g7, gx7, dx7, d7, l7, hx7⟩ fun H8 hend => ?_
    obtain ⟨hend1, hend2, hend3⟩ := hend
    -- from H3 to H8
    have gx38 : Gx K H3 H8 := (((gx4.trans g5.gx0).trans gx6).trans gx7).trans hend2
    have gx08 := m3.gx.trans gx38
    have free8 : ∀ a, H8 a = none → H7 a = none := fun a ha => hend2.free a ha
    have gr48 : Gr [x] H4 H8 := by
      have g47 : Gr [x] H4 H7 := (g5.up.trans g6).trans g7
      refine ⟨fun a o ha e => ?_, fun a ha => g47.free a (free8 a ha)⟩
      have hax : a ≠ x := fun z => ha (by simp [z])
      rw [hend1 a hax]
      exact g47.keep a o ha e
    have gr38 : Gr [x, sn, tbA K "_law_visit"] H3 H8 := (g4.mono fun a ha => by simp [List.mem_singleton.mp ha]).trans (gr48.mono fun a ha => by simp [List.mem_singleton.mp ha])
    obtain ⟨a0, hs3, he3⟩ := m3.sn
    have hs4 := g4.keep _ _ (by simp [Ne.symm hts]) hs3
    refine ⟨rfl, m3.gr.trans gr38, gx08, Tbl.gr (n := "_law_visit") hT4 gr48 (((g5.gx0.trans gx6).trans gx7).trans hend2) (by simp [htx]), ⟨a0, gr48.keep _ _ (by simp [hsx]) hs4, he3.gx gx38⟩, t, ss, hend3, hwt, hse, hsl, i1, i2, i4⟩
  rintro σ H4 ⟨rfl, m4⟩
  have toSeen : ∀ {H' : Hp}, Gr [x, sn, tbA K "_law_visit"] H H' → Gx K H H' → Tbl K H' "_law_visit" → (∃ dx d l, H' x = some (.ins (cS K) dx (stf k d l))) → (∃ a0, H' sn = some (.lst [.ref a0]) ∧ E0 K H' a0 ts) → way ≠ 1 → way ≠ 2 → VisR K H H' x sn k way ts := by
    rintro H' g gx t a ⟨a0, h1, h2⟩ n1 n2
    exact ⟨g, gx, t, a, a0, [], h1, h2, by simp, (fun z => absurd z n1), fun z => absurd z n2⟩
  -- way 4
  refine wb_cut (fun σ H' => σ = [some (.ref sn), some (.ref x), some (.int way), some (.ref wk)] ∧ way ≠ 4 ∧ Mid K H H' x sn k way ts 12) ?_ ?_
  · refine ws_ifW 2 rfl (fun e => ?_) fun e => ⟨rfl, e, m4⟩
    obtain ⟨t, ss, hS4, hwt, hse, hsl, i1, i2, i4⟩ := m4.st
    obtain ⟨dx, d, l, hx, _, _⟩ := id hS4
    obtain ⟨a0, hs4, he4⟩ := m4.sn
    refine wb_one (ws_expr (w_append (w_var 0 ⟨_, rfl, sn, _, rfl, hs4, w_itemO (studio_miss T.toTw) hq (hr.mono (by decide)) T.u_getM T.u_getF paQ (w_var 1 ⟨_, rfl, w_str ⟨x, _, _, rfl, hx, x, "nobody", k, t, ss, rfl, hS4, univ_ok _ (by decide +kernel), i4 e, fun H' d' g hd' => ?_⟩⟩)⟩)))
    exact q4 e d' H' (toSeen (m4.gr.trans g.up) (m4.gx.trans g.gx0) (m4.tb.gr g g.gx0 (by simp)) ⟨dx, d, l, g.at hx⟩ ⟨a0, g.at hs4, he4.gx g.gx0⟩ (by omega) (by omega)) hd'
  rintro σ H5 ⟨rfl, n4, m5⟩
  -- way > 4
  refine wb_cut (fun σ H' => σ = [some (.ref sn), some (.ref x), some (.int way), some (.ref wk)] ∧ Mid K H H' x sn k way ts 13) ?_ ?_
  · obtain ⟨t, ss, hS5, hwt, hse, hsl, i1, i2, i4⟩ := m5.st
    obtain ⟨dx, d, l, hx, _, _⟩ := id hS5
    refine ws_if (wt_cmp op_gt (w_var 2 ⟨_, rfl, w_int ⟨_, _, rfl, rfl, _, rfl, ?_⟩⟩))
    by_cases e : (4 : Int) < way
    · rw [decide_eq_true e]
      refine iteT (wb_one (ws_expr (w_meth (studio_make T.toTu) hq (hr.mono (by decide)) cl T.u_makeM (E := fun _ _ _ => False) paF (w_var 1 ⟨_, rfl, x, _, _, rfl, hx, rfl, wa_cons (w_str (wa_cons (w_tup (wa_cons (w_str (wa_cons (w_str (wa_cons (w_var 3 ⟨_, rfl, wa_nil ⟨sz3, fun p1 hp1 => wa_nil ?_⟩⟩)))))))))⟩))))
      have g2 : Gr [] H5 (upd H5 p1 (.tup [.str "put", .str "new", .ref wk])) := Gr.refl.new hp1
      refine ⟨x, "ann", k, t, ss, hS5.gr0 g2, by decide +kernel, hwt, hk, by omega, .inl ⟨[p1], [.put "new" c], rfl, by simp, by simp, .cons ⟨⟨wk, upd_same, wat (m5.gx.trans g2.gx0)⟩, by decide +kernel, hc⟩ .nil, ?_⟩⟩
      unfold MkOut
      rw [runs_one]
      intro H' ys hys g hS'
      have hg : Gr [x] H5 H' := g2.up.trans g
      refine ⟨rfl, m5.go hsx htx hg (hg.gxS hS5) ⟨_, _, hS', hwt.put (by decide +kernel) hc, fun e' he' => ?_, by rw [List.length_append, List.length_singleton]; omega, (fun z => absurd z (by omega)), (fun z => absurd z (by omega)), fun z => absurd z n4⟩⟩
      rcases List.mem_append.mp he' with he' | he'
      · exact hse e' he'
      · rw [List.mem_singleton.mp he', one_name hys]
        exact ⟨ann_u, by simp, (by decide +kernel : ∀ n ∈ (["new"] : List Str), n ∈ Univ), hwt.look (by simp)⟩
    · rw [decide_eq_false e]
      exact iteF (wb_nil ⟨rfl, m5.gr, m5.gx, m5.tb, m5.sn, t, ss, hS5, hwt, hse, by omega, i1, i2, i4⟩)
  rintro σ H6 ⟨rfl, m6⟩
  -- way 5
  refine wb_cut (fun σ H' => σ = [some (.ref sn), some (.ref x), some (.int way), some (.ref wk)] ∧ way ≠ 5 ∧ Mid K H H' x sn k way ts 13) ?_ ?_
  · refine ws_ifW 2 rfl (fun e => ?_) fun e => ⟨rfl, e, m6⟩
    obtain ⟨t, ss, hS6, hwt, hse, hsl, i1, i2, i4⟩ := m6.st
    obtain ⟨dx, d, l, hx, _, _⟩ := id hS6
    obtain ⟨a0, hs6, he6⟩ := m6.sn
    obtain ⟨dw, mw, qw, hwi⟩ := id (wat m6.gx)
    refine wb_one (ws_expr (w_append (w_var 0 ⟨_, rfl, sn, _, rfl, hs6, w_walkBad T.toTz hq (hr.mono (by decide)) paQ rfl (wa_cons (w_prop (walk_net T.toTx) hq.up (hr.mono (by decide)) T.wal.cl T.w_netP (w_var 3 ⟨_, rfl, wk, _, _, rfl, hwi, wk, k, c, rfl, wat m6.gx, wa_cons (w_int (wa_nil ⟨k, rfl, hk, fun H' d' g hd' => ?_⟩))⟩)))⟩)))
    exact q5 e d' H' (toSeen (m6.gr.trans g.up) (m6.gx.trans g.gx0) (m6.tb.gr g g.gx0 (by simp)) ⟨dx, d, l, g.at hx⟩ ⟨a0, g.at hs6, he6.gx g.gx0⟩ (by omega) (by omega)) hd'
  rintro σ H7 ⟨rfl, n5, m7⟩
  -- way 6
  refine wb_cut (fun σ H' => σ = [some (.ref sn), some (.ref x), some (.int way), some (.ref wk)] ∧ way ≠ 6 ∧ Mid K H H' x sn k way ts 13) ?_ ?_
  · refine ws_ifW 2 rfl (fun e => ?_) fun e => ⟨rfl, e, m7⟩
    obtain ⟨t, ss, hS7, hwt, hse, hsl, i1, i2, i4⟩ := m7.st
    obtain ⟨dx, d, l, hx, _, _⟩ := id hS7
    obtain ⟨a0, hs7, he7⟩ := m7.sn
    refine wb_one (ws_expr (w_meth (studio_make T.toTu) hq (hr.mono (by decide)) cl T.u_makeM paQ (w_var 1 ⟨_, rfl, x, _, _, rfl, hx, rfl, wa_cons (w_str (wa_nil ⟨x, "bob", k, t, ss, hS7, by decide +kernel, hwt, hk, by omega, .inr ⟨rfl, fun H' d' t' g ht' hd' => ?_⟩⟩))⟩)))
    exact q6 e d' t' H' (toSeen (m7.gr.trans g.up) (m7.gx.trans g.gx0) (m7.tb.gr g g.gx0 (by simp)) ⟨dx, d, l, g.at hx⟩ ⟨a0, g.at hs7, he7.gx g.gx0⟩ (by omega) (by omega)) ht' hd'
  rintro σ H8 ⟨rfl, n6, m8⟩
  -- way 7
  refine wb_cut (fun σ H' => σ = [some (.ref sn), some (.ref x), some (.int way), some (.ref wk)] ∧ Gr [x, sn, tbA K "_law_visit"] H H' ∧ Gx K H H' ∧ Tbl K H' "_law_visit" ∧ (∃ a0 rest, H' sn = some (.lst (.ref a0 :: rest)) ∧ E0 K H' a0 ts ∧ rest.length ≤ 1 ∧ (way ≠ 7 → rest = [])) ∧
      ∃ t ss, Std K H' x k t ss ∧ Wf t ∧ (way = 1 → ("new" : Str) ∈ nms t) ∧ (way = 2 → ∀ n, n ∈ nms t ↔ n ∈ nms ts)) ?_ ?_
  · obtain ⟨t, ss, hS8, hwt, hse, hsl, i1, i2, i4⟩ := m8.st
    obtain ⟨a0, hs8, he8⟩ := m8.sn
    refine ws_ifW 2 rfl (fun e => ?_) fun e => ⟨rfl, m8.gr, m8.gx, m8.tb, ⟨a0, [], hs8, he8, by simp, fun _ => rfl⟩, t, ss, hS8, hwt, i1, i2⟩
    refine wb_one (ws_expr (w_append (w_var 0 ⟨_, rfl, sn, _, rfl, hs8, w_lst (wa_cons (w_call (law_back T.toTy) hq (hr.mono (by decide)) (T.d56.df rfl rfl) paF rfl (wa_cons (w_var 1 ⟨_, rfl, wa_cons (w_str (wa_nil (back_any hS8 (by decide +kernel) hwt hse (by omega) fun H9 l9 t9 ss9 g9 hS9 hwt9 hse9 hl9 => ?_)))⟩))))⟩)))
    refine wa_cons (w_call (law_back T.toTy) hq (hr.mono (by decide)) (T.d56.df rfl rfl) paF rfl (wa_cons (w_var 1 ⟨_, rfl, wa_cons (w_str (wa_nil (back_any hS9 (by decide +kernel) hwt9 hse9 (by omega) fun H10 l10 t10 ss10 g10 hS10 hwt10 hse10 hl10 => ?_)))⟩)))
    have gg : Gr [x] H8 H10 := g9.trans g10
    have ggx := gg.gxS hS8
    have hs10 := gg.keep _ _ (by simp [hsx]) hs8
    refine wa_nil ⟨sz2, fun p hp => ?_⟩
    have gp : Gr [] H10 (upd H10 p (.lst [.ref l9, .ref l10])) := Gr.refl.new hp
    have hs11 := gp.at hs10
    generalize upd H10 p (.lst [.ref l9, .ref l10]) = H11 at gp hs11 ⊢
    have gl : Gr [sn] H11 (upd H11 sn (.lst ([.ref a0] ++ [.ref p]))) := Gr.refl.put (.inr (by simp))
    have gxl : Gx K H11 (upd H11 sn (.lst ([.ref a0] ++ [.ref p]))) := Src.gx hs11
    have tb10 : Tbl K H10 "_law_visit" := m8.tb.gr gg ggx (by simp [htx])
    refine ⟨_, hs11, szl (by simp), rfl, ((m8.gr.trans (gg.mono fun a ha => by simp [List.mem_singleton.mp ha])).trans gp.up).trans (gl.mono fun a ha => by simp [List.mem_singleton.mp ha]), ((m8.gx.trans ggx).trans gp.gx0).trans gxl, (tb10.gr gp gp.gx0 (by simp)).gr gl gxl (by simp [hts]), ⟨a0, [.ref p], upd_same, ((he8.gx ggx).gx gp.gx0).gx gxl, by simp, fun z => absurd e z⟩, t10, ss10, (hS10.gr0 gp).gr gl (by simp [Ne.symm hsx]) gxl, hwt10, (fun z => by omega), fun z => by omega⟩
  rintro σ H9 ⟨rfl, gr9, gx9, tb9, ⟨a0, rest, hs9, he9, hrl, hr7⟩, t, ss, hS9, hwt, i1, i2⟩
  obtain ⟨dx, d, l, hx, _, _⟩ := id hS9
  refine wb_cons (ws_expr (w_append (w_var 0 ⟨_, rfl, sn, _, rfl, hs9, wE_locked (w_prop (studio_names T.toTw) hq.up (hr.mono (by decide)) cl T.u_namesP (w_var 1 ⟨_, rfl, x, _, _, rfl, hx, x, k, t, ss, rfl, hS9, hwt, fun ys H10 p1 hys g10 hp1 h10 => ⟨p1, _, rfl, h10, trivial, fun o1 => ?_⟩⟩))⟩)))
  have g11 : Gr [] H9 (upd H10 p1 (.frz o1 (.lst (ys.map V.str)))) := g10.put (.inl hp1)
  have hp11 : (upd H10 p1 (.frz o1 (.lst (ys.map V.str)))) p1 = some (.frz o1 (.lst (ys.map V.str))) := upd_same
  generalize upd H10 p1 (.frz o1 (.lst (ys.map V.str))) = H11 at g11 hp11 ⊢
  have hs11 := g11.at hs9
  have gl : Gr [sn] H11 (upd H11 sn (.lst ((.ref a0 :: rest) ++ [.ref p1]))) := Gr.refl.put (.inr (by simp))
  have gxl : Gx K H11 (upd H11 sn (.lst ((.ref a0 :: rest) ++ [.ref p1]))) := Src.gx hs11
  refine ⟨_, hs11, szl (by rw [List.length_cons]; omega), wb_one (ws_ret (w_lst (wa_cons (w_str (wa_cons (w_var 2 ⟨_, rfl, wa_nil ⟨sz2, fun r hr => ?_⟩⟩))))))⟩
  have hp12 := gxl.keep p1 (.frz o1 (.lst (ys.map V.str))) trivial hp11
  have hs12 : (upd H11 sn (.lst ((.ref a0 :: rest) ++ [.ref p1]))) sn = some (.lst (.ref a0 :: (rest ++ [.ref p1]))) := upd_same
  have hx12 : (upd H11 sn (.lst ((.ref a0 :: rest) ++ [.ref p1]))) x = some (.ins (cS K) dx (stf k d l)) := gl.keep _ _ (by simp [Ne.symm hsx]) (g11.at hx)
  have tb12 := (tb9.gr g11 g11.gx0 (by simp)).gr gl gxl (by simp [hts])
  generalize upd H11 sn (.lst ((.ref a0 :: rest) ++ [.ref p1])) = H12 at gl gxl hp12 hs12 hx12 tb12 hr ⊢
  have gR : Gr [] H12 (upd H12 r (.lst [.str "told", .int way])) := Gr.refl.new hr
  refine q1 ⟨n4, n5, n6⟩ r _ ⟨((gr9.trans g11.up).trans (gl.mono fun a ha => by simp [List.mem_singleton.mp ha])).trans gR.up, ((gx9.trans g11.gx0).trans gxl).trans gR.gx0, tb12.gr gR gR.gx0 (by simp), ⟨dx, d, l, gR.at hx12⟩, a0, rest ++ [.ref p1], gR.at hs12, (((he9.gx g11.gx0).gx gxl).gx gR.gx0), by rw [List.length_append, List.length_singleton]; omega, fun z => ?_, fun z => ?_⟩ upd_same
  · refine ⟨p1, o1, ys, [], by rw [hr7 (by omega)] <;> rfl, gR.at hp12, (hys.mem _).mpr (i1 z), fun y hy => hwt.un y ((hys.mem y).mp hy)⟩
  · exact ⟨p1, o1, ys, [], by rw [hr7 (by omega)] <;> rfl, gR.at hp12, hys.mono (i2 z)⟩
end
end K6

/-! ## L15 -/
namespace K6
open PySem PySem.Spec PyProof.Rows L2
open LamX (CodeO TabS TabB)
/-- the i-th except suite of the j-th statement -/
def sui (l : List Stmt) (j i : Nat) : List Stmt := match l[j]? with
  | some (.Try _ hs _ _ _) => (match hs[i]? with
    | some (.ExceptHandler _ _ b _) => b
    | _ => [])
  | _ => []
theorem AttEnd.gr {K : PySem.W.Frag} {x : Addr} {k : Str} {ts : Tm} {ss : List Sa} {H H' : Hp} (h : AttEnd K x k ts ss H H') : Gr [x] H H' := by
  obtain ⟨h1, h2, h3⟩ := h
  refine ⟨fun a o ha e => ?_, fun a ha => h2.free a ha⟩
  rw [h1 a (fun z => ha (by simp [z]))]
  exact e
structure TriedR (K : PySem.W.Frag) (H H' : Hp) (x sn : Addr) (k : Str) (way : Int) (ts : Tm) (ss : List Sa) : Prop where
  gr : Gr [x, sn, tbA K "_law_visit", tbA K "_law_tried"] H H'
  gx : Gx K H H'
  tv : Tbl K H' "_law_visit"
  tt : Tbl K H' "_law_tried"
  st : Std K H' x k ts ss
  seen : SeenAt K H' sn way ts
theorem TriedR.new {K : PySem.W.Frag} {H H' : Hp} {x sn r : Addr} {k : Str} {way : Int} {ts : Tm} {ss : List Sa} {o : HO} (h : TriedR K H H' x sn k way ts ss) (hr : H' r = none) : TriedR K H (upd H' r o) x sn k way ts ss := by
  have g : Gr [] H' (upd H' r o) := Gr.refl.new hr
  obtain ⟨a0, rest, hs, _⟩ := id h.seen
  exact ⟨h.gr.trans g.up, h.gx.trans g.gx0, h.tv.gr g g.gx0 (by simp), h.tt.gr g g.gx0 (by simp), h.st.gr0 g, h.seen.gx g.gx0 ((g.at hs).trans hs.symm)⟩
section
variable {P : Program} {w : World} {K : PySem.W.Frag} {mg : Str → Option Value} {base : Heap}
abbrev N62 : List Str := ["_law_studio", "_law_walk", "_law_way", "_law_seen", "_law_deeds", "e"]
theorem sc62 : FnScope N62 ["_law_studio", "_law_walk", "_law_way", "_law_seen"] (scL 62) := ⟨rfl, rfl, rfl, by decide +kernel, rfl, by decide +kernel, by decide +kernel⟩
def toldL (way : Int) (t : Addr) : List V := if way = 4 then [.str "raised", .str "nobody"] else if way = 5 then [.str "raised", .int 5] else if way = 6 then [.str "raised", .ref t] else [.str "told", .int way]
def spTried (K : PySem.W.Frag) : Sp := fun vs H Q _ => ∃ (x wk : Addr) (way : Int) (sn : Addr) (k c : Str) (ts : Tm) (ss : List Sa), vs = [.ref x, .ref wk, .int way, .ref sn] ∧ H sn = some (.lst []) ∧ Std K H x k ts ss ∧ Wf ts ∧ (∀ n ∈ nms ts, n ∈ Base4) ∧
  (∀ e ∈ ss, WfE e) ∧ ss.length ≤ 10 ∧ Kind k ∧ WalkAt K H wk k c ∧ Cmd c ∧ c.cps.size ≤ 6 ∧ 0 ≤ way ∧ way < 8 ∧ Tbl K H "_law_visit" ∧ Tbl K H "_law_tried" ∧
  ∀ r t H', TriedR K H H' x sn k way ts ss → H' r = some (.lst (toldL way t)) → (way = 6 → H' t = some (.tup [])) → Q (.ref r) H'
def spInner (K : PySem.W.Frag) (sn : Addr) (way : Int) (wk : Addr) : Sp := fun vs H Q E => ∃ x, vs = [.ref x] ∧ spVisit K [.ref sn, .ref x, .int way, .ref wk] H Q E
theorem law_tried (T : Ti K w mg) (hTv : TB K mg base "_law_visit") (hTB : TB K mg base "_law_tried") : Fb false P w K mg base 35 (ga K "_law_tried") (spTried K) := by
  obtain ⟨fd, F⟩ := T.d62.fn
  refine fn_bC F sc62 (fun vs H Q E h => by obtain ⟨x, wk, way, sn, k, c, ts, ss, rfl, _⟩ := h; rfl) (fun _ _ _ _ _ _ us hl => match us, hl with | [_, _, _, _], _ => rfl) ?_
  intro A outer s0 H vs Q E hq hr h
  obtain ⟨x, wk, way, sn, k, c, ts, ss, rfl, hsn, hS, hw, hb4, hss, hz, hk, hW, hc, h6, hw0, hw8, hTV, hTT, q⟩ := h
  have cl := T.stu.cl
  obtain ⟨dx, d0, l0, hx, _, _⟩ := id hS
  obtain ⟨pv, hpv, _⟩ := id hTV
  obtain ⟨pt, hpt, _⟩ := id hTT
  have hsx : sn ≠ x := fun e => by rw [e, hx] at hsn; cases hsn
  have hvx : tbA K "_law_visit" ≠ x := fun e => by rw [e, hx] at hpv; cases hpv
  have hvs : tbA K "_law_visit" ≠ sn := fun e => by rw [e, hsn] at hpv; cases hpv
  have htx : tbA K "_law_tried" ≠ x := fun e => by rw [e, hx] at hpt; cases hpt
  have hts : tbA K "_law_tried" ≠ sn := fun e => by rw [e, hsn] at hpt; cases hpt
  refine wb_one ?_
  with_reducible refine w_try (Wout := fun cls d _ H => E cls d H) (l := [(.ref (ga K "UnknownName"), 5, sui (defBody (topS 62)) 0 0), (.ref (ga K "InvalidCommands"), 5, sui (defBody (topS 62)) 0 1), (.ref (ga K "InvalidChange"), 5, sui (defBody (topS 62)) 0 2)]) ?hs ?hf ?hN ?tk ?hh ?hb
  case hs => rfl
  case hf => rfl
  case hN => exact sc62.nd
  case tk => exact takesQ
  case hh =>
    refine HdsC.cons ?_ rfl rfl (HdsC.cons ?_ rfl rfl (HdsC.cons ?_ rfl rfl HdsC.nil))
    · exact ⟨rfl, by decide, .inl T.eUnk.xc.mg⟩
    · exact ⟨rfl, by decide, .inl T.eCmd.xc.mg⟩
    · exact ⟨rfl, by decide, .inl T.eChg.xc.mg⟩
  intro pn xe hpn tk
  refine wb_cons (ws_set 4 sc62.nd (w_lst (wa_cons (w_tup (wa_cons (w_str (wa_cons (w_str (wa_cons (w_var 1 ⟨_, rfl, wa_nil ⟨sz3, fun p1 hp1 => ?_⟩⟩))))))))))
  refine wa_cons (w_tup (wa_cons (w_str (wa_cons (w_str (wa_cons (w_var 1 ⟨_, rfl, wa_nil ⟨sz3, fun p2 hp2 => ?_⟩⟩)))))))
  refine wa_nil ⟨sz2, fun ld hld => ?_⟩
  have g1 : Gr [] H (upd (upd (upd H p1 (.tup [.str "put", .str "trial", .ref wk])) p2 (.tup [.str "put", .str "a", .ref wk])) ld (.lst [.ref p1, .ref p2])) := ((Gr.refl.new hp1).new hp2).new hld
  have h1p : (upd (upd (upd H p1 (.tup [.str "put", .str "trial", .ref wk])) p2 (.tup [.str "put", .str "a", .ref wk])) ld (.lst [.ref p1, .ref p2])) p1 = some (.tup [.str "put", .str "trial", .ref wk]) := ((Gr.refl.new hp2).new hld).at upd_same
  have h2p : (upd (upd (upd H p1 (.tup [.str "put", .str "trial", .ref wk])) p2 (.tup [.str "put", .str "a", .ref wk])) ld (.lst [.ref p1, .ref p2])) p2 = some (.tup [.str "put", .str "a", .ref wk]) := (Gr.refl.new hld).at upd_same
  have h3p : (upd (upd (upd H p1 (.tup [.str "put", .str "trial", .ref wk])) p2 (.tup [.str "put", .str "a", .ref wk])) ld (.lst [.ref p1, .ref p2])) ld = some (.lst [.ref p1, .ref p2]) := upd_same
  generalize upd (upd (upd H p1 (.tup [.str "put", .str "trial", .ref wk])) p2 (.tup [.str "put", .str "a", .ref wk])) ld (.lst [.ref p1, .ref p2]) = H1 at g1 h1p h2p h3p ⊢
  have hT1 : Tbl K H1 "_law_tried" := hTT.gr g1 g1.gx0 (by simp)
  refine wb_one (ws_ret (w_att (k := 22) (spv := spInner K sn way wk) T.toTq rfl hr (paT tk) hTB rfl (lamS1_by (p := "_law_inner") (N := N62) (sc := scL 62) (by decide +kernel)) ?_ ?_ (w_var 0 ⟨_, rfl, x, _, _, rfl, g1.at hx, rfl, hT1, fun H5 fl g5 hT5 => ?_⟩)))
  · intro A2 outer2 s2 f c' HL v QL EL hrL hsp
    obtain ⟨xi, e1, hv⟩ := hsp
    cases e1
    exact w_call (law_visit T hTv) (.inl rfl) hrL (T.d61.df rfl rfl) (paT takesL) rfl (wa_cons (w_var 3 ⟨_, rfl, wa_cons (w_var 6 ⟨_, rfl, wa_cons (w_var 2 ⟨_, rfl, wa_cons (w_var 1 ⟨_, rfl, wa_nil hv⟩)⟩)⟩)⟩))
  · rintro vs' H' Q' E' ⟨xi, rfl, _⟩
    exact ⟨_, rfl⟩
  have gx5 : Gx K H1 H5 := g5.gx fun a ha o e => by
    obtain ⟨ps, hps, _⟩ := id hT1
    rw [List.mem_singleton.mp ha, hps] at e
    cases e
    exact fun z => z
  have hpd : ld ≠ tbA K "_law_tried" := fun e => by
    obtain ⟨ps, hps, _⟩ := id hT1
    rw [e, hps] at h3p
    cases h3p
  have hl5 := g5.keep _ _ (by simp [hpd]) h3p
  have h1q : H5 p1 = some (.tup [.str "put", .str "trial", .ref wk]) := gx5.keep _ _ trivial h1p
  have h2q : H5 p2 = some (.tup [.str "put", .str "a", .ref wk]) := gx5.keep _ _ trivial h2p
  have gx05 := g1.gx0.trans gx5
  have hS5 : Std K H5 x k ts ss := (hS.gr0 g1).gr g5 (by simp [Ne.symm htx]) gx5
  have hsn5 : H5 sn = some (.lst []) := g5.keep _ _ (by simp [Ne.symm hts]) (g1.at hsn)
  have hv5 : Tbl K H5 "_law_visit" := (hTV.gr g1 g1.gx0 (by simp)).gr g5 gx5 (by simp [T.t12])
  refine wa_cons (w_ix ix_list (w_var 4 ⟨_, rfl, w_int ⟨ld, _, 0, .ref p1, rfl, rfl, Src.ix hl5, atI_nat (j := 0) rfl, wa_cons (w_ix ix_list (w_var 4 ⟨_, rfl, w_int ⟨ld, _, 1, .ref p2, rfl, rfl, Src.ix hl5, atI_nat (j := 1) rfl, wa_nil ?_⟩⟩))⟩⟩))
  obtain ⟨pv5, hpv5, _⟩ := id hv5
  refine ⟨Gr.refl, x, [p1, p2], [.put "trial" c, .put "a" c], k, ts, ss, [sn, tbA K "_law_visit"], rfl, hS5, hw, hk, by omega, by simp, by simp, .cons ⟨⟨wk, h1q, hW.gx gx05⟩, by decide +kernel, hc⟩ (.cons ⟨⟨wk, h2q, hW.gx gx05⟩, by decide +kernel, hc⟩ .nil), fun m hm => ?_, ?_⟩
  · rcases List.mem_cons.mp hm with rfl | hm
    · rw [hsn5]; simp
    · rw [List.mem_singleton.mp hm, hpv5]; simp
  unfold AttOut
  rw [runs_two]
  intro H6 ns Q' E' hns g6 hS6 hQ' hE'
  obtain rfl := guest_names hns
  have gx6 := g6.gxS hS5
  have fin : ∀ {H' H3 : Hp}, VisR K H6 H' x sn k way ts → AttEnd K x k ts ss H' H3 → TriedR K H H3 x sn k way ts ss := by
    intro H' H3 vr he
    have gE := he.gr
    have gxE := he.2.1
    obtain ⟨a0, rest, hs, _⟩ := id vr.seen
    refine ⟨?_, (((gx05.trans gx6).trans vr.gx).trans gxE), vr.tb.gr gE gxE (by simp [hvx]), ((Tbl.gr (n := "_law_tried") hT5 g6 gx6 (by simp [htx])).gr vr.gr vr.gx (by simp [htx, hts, Ne.symm T.t12])).gr gE gxE (by simp [htx]), he.2.2, vr.seen.gx gxE (he.1 sn hsx)⟩
    have m1 : ∀ a ∈ [tbA K "_law_tried"], a ∈ [x, sn, tbA K "_law_visit", tbA K "_law_tried"] := by simp
    have m2 : ∀ a ∈ [x], a ∈ [x, sn, tbA K "_law_visit", tbA K "_law_tried"] := by simp
    have m3 : ∀ a ∈ [x, sn, tbA K "_law_visit"], a ∈ [x, sn, tbA K "_law_visit", tbA K "_law_tried"] := by
      intro a ha
      simp only [List.mem_cons, List.not_mem_nil, or_false] at ha ⊢
      rcases ha with h | h | h <;> simp [h]
    exact (((g1.up.trans (g5.mono m1)).trans (g6.mono m2)).trans (vr.gr.mono m3)).trans (gE.mono m2)
  have mid : ∀ {H' : Hp}, VisR K H6 H' x sn k way ts → AttMid K x [sn, tbA K "_law_visit"] k H6 H' := fun vr => ⟨vr.gr, vr.gx, vr.at_⟩
  have nex : ∀ {H' H3 : Hp} {r : Addr} {o : HO}, VisR K H6 H' x sn k way ts → AttEnd K x k ts ss H' H3 → H' r = some o → (∀ C dx fs, o ≠ .ins C dx fs) → H3 r = some o := by
    intro H' H3 r o vr he hr hn
    obtain ⟨dx', d', l', hx'⟩ := vr.at_
    have : r ≠ x := fun e => by
      rw [e, hx'] at hr
      cases hr
      exact hn _ _ _ rfl
    rw [he.1 r this]
    exact hr
  refine ⟨x, rfl, sn, x, way, wk, k, c, ts, ss, rfl, g6.keep _ _ (by simp [hsx]) hsn5, hS6, hw, hb4, hss, hz, hk, hW.gx (gx05.trans gx6), hc, h6, hw0, hw8, hv5.gr g6 gx6 (by simp [hvx]), ?_, ?_, ?_, ?_⟩
  · rintro ⟨n4, n5, n6⟩ r H' vr hr'
    refine hQ' _ _ (mid vr) fun H3 he => q r r H3 (fin vr he) ?_ fun z => absurd z n6
    rw [show toldL way r = [.str "told", .int way] from by simp [toldL, n4, n5, n6]]
    exact nex vr he hr' (fun _ _ _ z => nomatch z)
  · rintro e d H' vr hd
    refine hE' _ _ _ (mid vr) fun H3 he => ?_
    have hd3 := nex vr he hd (fun _ _ _ z => nomatch z)
    have tr := fin vr he
    refine ⟨true, T.xUU, fun _ a oe pn' ha hz hf _ => ?_, fun z => nomatch z⟩
    refine wb_one (ws_ret (w_lst (wa_cons (w_str (wa_cons (w_xf T.fU T.nU hz hf (w_var 5 ⟨_, rfl, rfl, d, _, _, rfl, hd3, rfl, wa_nil ⟨sz2, fun l hl => q l l _ (tr.new hl) ?_ fun z => absurd z (by omega)⟩⟩)))))))
    rw [show toldL way l = [.str "raised", .str "nobody"] from by simp [toldL, e]]
    exact upd_same
  · rintro e d H' vr hd
    refine hE' _ _ _ (mid vr) fun H3 he => ?_
    have hd3 := nex vr he hd (fun _ _ _ z => nomatch z)
    have tr := fin vr he
    refine ⟨false, T.xCU, (fun z => nomatch z), fun _ => ⟨true, T.xCC, fun _ a oe pn' ha hz hf _ => ?_, fun z => nomatch z⟩⟩
    refine wb_one (ws_ret (w_lst (wa_cons (w_str (wa_cons (w_xf T.fC T.nC hz hf (w_var 5 ⟨_, rfl, rfl, d, _, _, rfl, hd3, rfl, wa_nil ⟨sz2, fun l hl => q l l _ (tr.new hl) ?_ fun z => absurd z (by omega)⟩⟩)))))))
    rw [show toldL way l = [.str "raised", .int 5] from by simp [toldL, e]]
    exact upd_same
  · rintro e d t H' vr ht hd
    refine hE' _ _ _ (mid vr) fun H3 he => ?_
    have hd3 := nex vr he hd (fun _ _ _ z => nomatch z)
    have ht3 := nex vr he ht (fun _ _ _ z => nomatch z)
    have tr := fin vr he
    refine ⟨false, T.xGU, (fun z => nomatch z), fun _ => ⟨false, T.xGC, (fun z => nomatch z), fun _ => ⟨true, T.xGG, fun _ a oe pn' ha hz hf _ => ?_, fun z => nomatch z⟩⟩⟩
    refine wb_one (ws_ret (w_lst (wa_cons (w_str (wa_cons (w_xf T.fG T.nG hz hf (w_var 5 ⟨_, rfl, rfl, d, _, _, rfl, hd3, rfl, wa_nil ⟨sz2, fun l hl => q l t _ (tr.new hl) ?_ fun _ => (Gr.refl.new hl : Gr [] H3 _).at ht3⟩⟩)))))))
    rw [show toldL way t = [.str "raised", .ref t] from by simp [toldL, e]]
    exact upd_same
end
end K6

/-! ## L16 -/
namespace K6
open PySem PySem.Spec PyProof.Rows L2
/-! ### what a trial tells, as data -/
def toldDs (way : Int) : List PyData := if way = 4 then [.str "raised", .str "nobody"] else if way = 5 then [.str "raised", .int 5] else if way = 6 then [.str "raised", .tuple []] else [.str "told", .int way]
theorem told_dp {K : PySem.W.Frag} {H : Hp} {way : Int} {t : Addr} (h : way = 6 → SqT K H t []) : DpAll K H (toldL way t) (toldDs way) := by
  unfold toldL toldDs
  split
  · exact .cons (.str _) (.cons (.str _) .nil)
  · split
    · exact .cons (.str _) (.cons (.int _) .nil)
    · split
      · rename_i e
        exact .cons (.str _) (.cons (.tup (h e) .nil) .nil)
      · exact .cons (.str _) (.cons (.int _) .nil)
theorem told_sh (way : Int) : SeqAt.shaped (.list (toldDs way)) = true := by
  have a1 : PyData.strOk ("raised" : Str) = true := by decide +kernel
  have a2 : PyData.strOk ("told" : Str) = true := by decide +kernel
  have a3 : PyData.strOk ("nobody" : Str) = true := by decide +kernel
  unfold toldDs
  split
  · simp [SeqAt.shaped, PyData.canLay0, PyData.canLayAll0, PyData.depth, PyData.depthAll, a1, a2, a3]
  · split
    · simp [SeqAt.shaped, PyData.canLay0, PyData.canLayAll0, PyData.depth, PyData.depthAll, a1, a2, a3]
    · split
      · simp [SeqAt.shaped, PyData.canLay0, PyData.canLayAll0, PyData.depth, PyData.depthAll, a1, a2, a3]
      · simp [SeqAt.shaped, PyData.canLay0, PyData.canLayAll0, PyData.depth, PyData.depthAll, a1, a2, a3]
theorem told_eqv (way : Int) : PyData.eqv (.list (toldDs way)) (.list (toldDs way)) = true := by
  unfold toldDs
  split
  · simp [PyData.eqv, PyData.eqvAll]
  · split
    · simp [PyData.eqv, PyData.eqvAll]
    · split
      · simp [PyData.eqv, PyData.eqvAll]
      · simp [PyData.eqv, PyData.eqvAll]
theorem inV_int (n : Int) (ns : List Int) : inV (.int n) (ns.map V.int) = decide (n ∈ ns) := by
  unfold inV
  rw [List.any_map, Bool.eq_iff_iff, List.any_eq_true, decide_eq_true_eq]
  constructor
  · rintro ⟨m, hm, e⟩
    have : m = n := eq_of_beq (show (m == n) = true from e)
    exact this ▸ hm
  · intro h
    exact ⟨n, h, show (n == n) = true from beq_self_eq_true n⟩
/-! ### what is seen first, as data -/
def seenD (ys : List Str) : PyData := .list [.list (ys.map PyData.str), .tuple [.str "guest", .tuple [.str "a", .str "trial"]]]
theorem seen_sh {ys : List Str} (h : ∀ y ∈ ys, PyData.strOk y = true) : SeqAt.shaped (seenD ys) = true := by
  have a1 : PyData.strOk ("guest" : Str) = true := by decide +kernel
  have a2 : PyData.strOk ("a" : Str) = true := by decide +kernel
  have a3 : PyData.strOk ("trial" : Str) = true := by decide +kernel
  simp [seenD, SeqAt.shaped, PyData.canLay0, PyData.canLayAll0, PyData.depth, PyData.depthAll, canAll_strs h, depthAll_strs, a1, a2, a3]
theorem seen_eqv (ys : List Str) : PyData.eqv (seenD ys) (seenD ys) = true := by
  have h := eqvAll_strs ys ys
  rw [decide_eq_true rfl] at h
  simp [seenD, PyData.eqv, PyData.eqvAll, h]
section
variable {P : Program} {w : World} {K : PySem.W.Frag} {mg : Str → Option Value} {base : Heap}
/-! ### attempts -/
abbrev N63 : List Str := ["_law_kind_here", "_law_studio", "_law_texts", "_law_past", "_law_walk", "_law_raised", "_law_way", "_law_seen", "_law_told", "_law_due"]
theorem sc63 : FnScope N63 ["_law_kind_here", "_law_studio", "_law_texts", "_law_past", "_law_walk"] (scL 63) := ⟨rfl, rfl, rfl, by decide +kernel, rfl, by decide +kernel, by decide +kernel⟩
/-- the studio is as before, the tables too -/
structure Still (K : PySem.W.Frag) (H H' : Hp) (M : List Addr) (k : Str) (x : Addr) (ts : Tm) (ps : List Sa) : Prop where
  gr : Gr M H H'
  gx : Gx K H H'
  tv : Tbl K H' "_law_visit"
  tt : Tbl K H' "_law_tried"
  st : Std K H' x k ts (ps.map stp)
def spRight (K : PySem.W.Frag) : Sp := fun vs H Q _ => ∃ (k : Str) (x d l wk : Addr) (c : Str) (ts : Tm) (ps : List Sa), vs = [.str k, .ref x, .ref d, .ref l, .ref wk] ∧ Begun K H k x d l ts ps ∧ Kind k ∧ WalkAt K H wk k c ∧ Cmd c ∧ c.cps.size ≤ 6 ∧ Tbl K H "_law_visit" ∧ Tbl K H "_law_tried" ∧
  ∀ H', Still K H H' [x, tbA K "_law_visit", tbA K "_law_tried"] k x ts ps → Q (.bl true) H'
theorem PL.gx' {K : PySem.W.Frag} {H H' : Hp} {l : Addr} {ps : List Sa} (h : PL K H l ps) (g : Gx K H H') : PL K H' l ps := h.gx g
theorem law_right (T : Ti K w mg) (hTv : TB K mg base "_law_visit") (hTt : TB K mg base "_law_tried") : Fb false P w K mg base 36 (ga K "_law_attempts_right") (spRight K) := by
  obtain ⟨fd, F⟩ := T.d63.fn
  refine fn_b F sc63 (fun vs H Q E h => by obtain ⟨k, x, d, l, wk, c, ts, ps, rfl, _⟩ := h; rfl) (fun _ _ _ _ _ _ us hl => match us, hl with | [_, _, _, _, _], _ => rfl) ?_
  intro pz cdv A outer s0 H vs Q E hp hq hr h
  obtain ⟨k, x, d, l, wk, c, ts, ps, rfl, ⟨⟨hS, hd, hl⟩, hw, hb4, hps, hfew⟩, hk, hW, hc, h6, hTV, hTT, q⟩ := h
  have hw9 := hw.len
  obtain ⟨dx, d0, l0, hx, _, _⟩ := id hS
  obtain ⟨o, kvs, hdo, rkv⟩ := id hd
  have hpst : ∀ e ∈ ps.map stp, WfE e := fun e he => by
    obtain ⟨e', he', rfl⟩ := List.mem_map.mp he
    exact (hps e' he').stp
  have hU : ∀ n ∈ nms ts ++ aTr, n ∈ Univ := fun n hn => by
    rcases List.mem_append.mp hn with hn | hn
    · exact hw.un n hn
    · exact (by decide +kernel : ∀ n ∈ (["a", "trial"] : List Str), n ∈ Univ) n hn
  refine wb_cons (ws_set 5 sc63.nd (wE_locked (w_lst (wa_cons (w_str (wa_cons (w_int (wa_cons (w_tup (wa_nil ⟨sz0, fun et het => wa_nil ⟨sz3, fun rl hrl => ⟨rl, _, rfl, upd_same, trivial, fun orl => ?_⟩⟩⟩))))))))))
  rw [upd_upd]
  have g1 : Gr [] H (upd (upd H et (.tup [])) rl (.frz orl (.lst [.str "nobody", .int 5, .ref et]))) := (Gr.refl.new het).new hrl
  have het1 : (upd (upd H et (.tup [])) rl (.frz orl (.lst [.str "nobody", .int 5, .ref et]))) et = some (.tup []) := (Gr.refl.new hrl).at upd_same
  have hrl1 : (upd (upd H et (.tup [])) rl (.frz orl (.lst [.str "nobody", .int 5, .ref et]))) rl = some (.frz orl (.lst [.str "nobody", .int 5, .ref et])) := upd_same
  generalize upd (upd H et (.tup [])) rl (.frz orl (.lst [.str "nobody", .int 5, .ref et])) = H1 at g1 het1 hrl1 ⊢
  refine wb_cons (w_for ownsQ hq (wi_range T.rng rfl (wa_cons (w_int (wa_nil ⟨8, rfl, by decide, by decide, ?_⟩)))))
  refine for_wk wk_range (fun i σ H' => ∃ z6 z7 z8 z9, σ = [some (.str k), some (.ref x), some (.ref d), some (.ref l), some (.ref wk), some (.ref rl), z6, z7, z8, z9] ∧ Still K H H' [x, tbA K "_law_visit", tbA K "_law_tried"] k x ts ps ∧ Gx K H1 H')
    ⟨none, none, none, none, rfl, ⟨g1.up, g1.gx0, hTV.gr g1 g1.gx0 (by simp), hTT.gr g1 g1.gx0 (by simp), hS.gr0 g1⟩, Gx.refl⟩ (fun _ _ _ _ => trivial) ?_ ?_
  · rintro i y σ H2 hy ⟨z6, z7, z8, z9, rfl, ⟨gr2, gx2, tv2, tt2, st2⟩, gx12⟩
    obtain ⟨hi, rfl⟩ := rng_at hy
    have hi8 : i < 8 := hi
    refine w_gname 6 ?_ sc63.nd
    refine wb_cons (ws_set 7 sc63.nd (w_lst (wa_nil ⟨sz0, fun sn hsn => ?_⟩)))
    have g3 : Gr [] H2 (upd H2 sn (.lst [])) := Gr.refl.new hsn
    have hsn3 : (upd H2 sn (.lst [])) sn = some (.lst []) := upd_same
    have hsn0 : H sn = none := gr2.free _ hsn
    generalize upd H2 sn (.lst []) = H3 at g3 hsn3 ⊢
    have gx3 := gx2.trans g3.gx0
    refine wb_cons (ws_set 8 sc63.nd (w_call (law_tried T hTv hTt) hq (hr.mono (by decide)) (T.d62.df rfl rfl) paF rfl (wa_cons (w_var 1 ⟨_, rfl, wa_cons (w_var 4 ⟨_, rfl, wa_cons (w_var 6 ⟨_, rfl, wa_cons (w_var 7 ⟨_, rfl, wa_nil
      ⟨x, wk, ((i : Nat) : Int), sn, k, c, ts, ps.map stp, rfl, hsn3, st2.gr0 g3, hw, hb4, hpst, by rw [List.length_map]; omega, hk, hW.gx gx3, hc, h6, by omega, by omega, tv2.gr g3 g3.gx0 (by simp), tt2.gr g3 g3.gx0 (by simp), fun r t H4 tr hr4 ht4 => ?_⟩⟩)⟩)⟩)⟩))))
    obtain ⟨gr4, gx4, tv4, tt4, st4, seen4⟩ := tr
    have gx04 := gx3.trans gx4
    have gx14 := (gx12.trans g3.gx0).trans gx4
    have gr04 : Gr [x, tbA K "_law_visit", tbA K "_law_tried"] H H4 := (gr2.trans g3.up).then gr4 fun a ha => by
      simp only [List.mem_cons, List.not_mem_nil, or_false] at ha ⊢
      rcases ha with h | h | h | h
      · exact .inr (.inl h)
      · exact .inl (by rw [h]; exact hsn0)
      · exact .inr (.inr (.inl h))
      · exact .inr (.inr (.inr h))
    have hrl4 := gx14.keep rl (.frz orl (.lst [.str "nobody", .int 5, .ref et])) trivial hrl1
    have het4 : H4 et = some (.tup []) := gx14.keep _ _ trivial het1
    have sqr : ∀ {H'}, Gr [] H4 H' → SqL K H' rl [.str "nobody", .int 5, .ref et] := fun g => .inl (.inr ⟨orl, g.at hrl4⟩)
    -- what is due
    refine wb_cut (fun σ H' => ∃ du, σ = [some (.str k), some (.ref x), some (.ref d), some (.ref l), some (.ref wk), some (.ref rl), some (.int (i : Nat)), some (.ref sn), some (.ref r), some (.ref du)] ∧ Gr [] H4 H' ∧ H' du = some (.lst (toldL (i : Nat) et))) ?_ ?_
    · refine ws_set 9 sc63.nd (w_if (wt_cmp op_in_seq (w_var 6 ⟨_, rfl, w_lst (wa_cons (w_int (wa_cons (w_int (wa_cons (w_int (wa_nil ⟨sz3, fun p hp => ⟨p, ([4, 5, 6] : List Int).map V.int, rfl, .inl (Src.ix upd_same), rfl, rfl, _, rfl, ?_⟩⟩)))))))⟩)))
      rw [if_neg Bool.false_ne_true, inV_int]
      have g5 : Gr [] H4 (upd H4 p (.lst [.int 4, .int 5, .int 6])) := Gr.refl.new hp
      generalize upd H4 p (.lst [.int 4, .int 5, .int 6]) = H5 at g5 ⊢
      by_cases e : ((i : Nat) : Int) ∈ ([4, 5, 6] : List Int)
      · rw [decide_eq_true e]
        have e' : i = 4 ∨ i = 5 ∨ i = 6 := by
          have : ((i : Nat) : Int) = 4 ∨ ((i : Nat) : Int) = 5 ∨ ((i : Nat) : Int) = 6 := by simpa using e
          omega
        rcases e' with rfl | rfl | rfl
        · exact iteT (w_lst (wa_cons (w_str (wa_cons (w_ix ix_list (w_var 5 ⟨_, rfl, w_op op_sub (w_var 6 ⟨_, rfl, w_int ⟨_, _, rfl, rfl, rl, _, _, .str "nobody", rfl, rfl, sqr g5, by rfl, wa_nil ⟨sz2, fun du hdu => ⟨du, rfl, g5.new hdu, upd_same⟩⟩⟩⟩)⟩))))))
        · exact iteT (w_lst (wa_cons (w_str (wa_cons (w_ix ix_list (w_var 5 ⟨_, rfl, w_op op_sub (w_var 6 ⟨_, rfl, w_int ⟨_, _, rfl, rfl, rl, _, _, .int 5, rfl, rfl, sqr g5, by rfl, wa_nil ⟨sz2, fun du hdu => ⟨du, rfl, g5.new hdu, upd_same⟩⟩⟩⟩)⟩))))))
        · exact iteT (w_lst (wa_cons (w_str (wa_cons (w_ix ix_list (w_var 5 ⟨_, rfl, w_op op_sub (w_var 6 ⟨_, rfl, w_int ⟨_, _, rfl, rfl, rl, _, _, .ref et, rfl, rfl, sqr g5, by rfl, wa_nil ⟨sz2, fun du hdu => ⟨du, rfl, g5.new hdu, upd_same⟩⟩⟩⟩)⟩))))))
      · rw [decide_eq_false e]
        refine iteF (w_lst (wa_cons (w_str (wa_cons (w_var 6 ⟨_, rfl, wa_nil ⟨sz2, fun du hdu => ⟨du, rfl, g5.new hdu, ?_⟩⟩⟩)))))
        have e' : ¬ ((i : Nat) : Int) = 4 ∧ ¬ ((i : Nat) : Int) = 5 ∧ ¬ ((i : Nat) : Int) = 6 := by
          refine ⟨fun z => e (by rw [z]; decide), fun z => e (by rw [z]; decide), fun z => e (by rw [z]; decide)⟩
        rw [upd_same]
        simp [toldL, e'.1, e'.2.1, e'.2.2]
    rintro σ H5 ⟨du, rfl, g5, hdu⟩
    have hr5 := g5.at hr4
    refine wb_cons (ws_if (wt_or2 (wt_cmp (op_neD (by have := RoomH.u hr; omega)) (w_var 8 ⟨_, rfl, w_var 9 ⟨_, rfl, _, _, .lst (Src.ix hr5) (told_dp fun z => .of (g5.at (ht4 z))), .lst (Src.ix hdu) (told_dp fun _ => .of (g5.at het4)), told_sh _, told_sh _, _, rfl, ?_⟩⟩))))
    rw [told_eqv]
    have gx05 := gx04.trans g5.gx0
    refine iteF (wt_not (wt_val (w_call (law_same T.toTy) hq.up (hr.mono (by decide)) (T.d59.df rfl rfl) paF rfl (wa_cons (w_var 0 ⟨_, rfl, wa_cons (w_var 1 ⟨_, rfl, wa_cons (w_var 2 ⟨_, rfl, wa_cons (w_var 3 ⟨_, rfl, wa_nil ⟨k, x, d, l, ts, ps, rfl, ⟨st4.gr0 g5, hd.gx gx05, hl.gx gx05⟩, hk, hw, hps, by omega, fun H6 g6 => ⟨true, rfl, ?_⟩⟩⟩)⟩)⟩)⟩)))))
    refine iteF (wb_nil ?_)
    have g46 := g5.trans g6
    have gx46 : Gx K H4 H6 := g46.gx0
    have gx06 := gx04.trans gx46
    have seen6 : SeenAt K H6 sn (i : Nat) ts := by
      obtain ⟨a0, rest, hs, _⟩ := id seen4
      exact seen4.gx gx46 ((g46.at hs).trans hs.symm)
    obtain ⟨a0, rest, hs6, he6, hrl6, s1, s2⟩ := seen6
    obtain ⟨oe, pe, qe, te, oy, ys, ha0, hpe, hys, hqe, hte⟩ := he6
    have hyo : ∀ y ∈ ys, PyData.strOk y = true := fun y hy => univ_ok2 y (hU y ((hys.mem y).mp hy))
    have hd6 := gx06.keep d (.frz o (.dK kvs)) trivial hdo
    -- what is seen first
    refine wb_cons (ws_if (wt_cmp (op_neD (by have := RoomH.u hr; omega)) (w_ix ix_list (w_var 7 ⟨_, rfl, w_int ⟨sn, _, 0, .ref a0, rfl, rfl, Src.ix hs6, atI_nat (j := 0) rfl, w_lst (wa_cons (w_blt (call_sortT hq.calm) T.srt rfl (wa_cons (w_bty (call_setL hq.calm) T.setN rfl (wa_cons (w_op op_cat (w_bty (call_listD hq.calm) T.lst rfl (wa_cons (w_var 2 ⟨_, rfl, wa_nil ⟨d, kvs, rfl, .inr ⟨o, hd6⟩, fun la hla => w_lst (wa_cons (w_str (wa_cons (w_str (wa_nil ⟨sz2, fun lb hlb => ?_⟩)))))⟩⟩)))))))))⟩⟩))))
    have ekeys : (kvs.map fun kv => kV kv.1) = (nms ts).map V.str := by
      have := rkv.keys
      calc kvs.map (fun kv => kV kv.1) = (kvs.map (·.1)).map kV := by rw [List.map_map] <;> rfl
        _ = (nms ts).map V.str := by rw [this, List.map_map] <;> rfl
    refine ⟨la, lb, _, _, rfl, rfl, (Gr.refl.new hlb).at upd_same, upd_same, szm (by rw [List.length_map, rkv.length]; show _ + 2 ≤ _; omega), fun lc hlc => ?_⟩
    refine wa_nil ⟨lc, nms ts ++ aTr, rfl, Src.ix (by rw [upd_same, ekeys, List.map_append] <;> rfl), by rw [List.length_append, List.length_map]; show _ + 2 < _; omega, fun sa L hsa hL hLl => ?_⟩
    have gs : Gr [] H6 (upd (upd (upd (upd H6 la (.lst (kvs.map fun kv => kV kv.1))) lb (.lst [.str "a", .str "trial"])) lc (.lst ((kvs.map fun kv => kV kv.1) ++ [.str "a", .str "trial"]))) sa (StrO P w sa L)) := (((Gr.refl.new hla).new hlb).new hlc).new hsa
    have hsa' : (upd (upd (upd (upd H6 la (.lst (kvs.map fun kv => kV kv.1))) lb (.lst [.str "a", .str "trial"])) lc (.lst ((kvs.map fun kv => kV kv.1) ++ [.str "a", .str "trial"]))) sa (StrO P w sa L)) sa = some (StrO P w sa L) := upd_same
    change wA _ _ _ (upd (upd (upd (upd H6 la (.lst (kvs.map fun kv => kV kv.1))) lb (.lst [.str "a", .str "trial"])) lc (.lst ((kvs.map fun kv => kV kv.1) ++ [.str "a", .str "trial"]))) sa (StrO P w sa L)) _
    generalize upd (upd (upd (upd H6 la (.lst (kvs.map fun kv => kV kv.1))) lb (.lst [.str "a", .str "trial"])) lc (.lst ((kvs.map fun kv => kV kv.1) ++ [.str "a", .str "trial"]))) sa (StrO P w sa L) = HS at gs hsa' ⊢
    refine wa_nil ⟨sa, L, rfl, hsa', by rw [List.length_append, List.length_map] at hLl; have : L.length ≤ ts.length + 2 := hLl; omega, fun ys2 p2 hys2 hp2 => ?_⟩
    have eqy : ys = ys2 := hys.uniq hys2 fun z => (hL z).symm
    subst eqy
    have g7 : Gr [] H6 (upd HS p2 (.lst (ys.map V.str))) := gs.new hp2
    have hp7 : (upd HS p2 (.lst (ys.map V.str))) p2 = some (.lst (ys.map V.str)) := upd_same
    generalize upd HS p2 (.lst (ys.map V.str)) = H7 at g7 hp7 ⊢
    refine wa_cons (w_tup (wa_cons (w_str (wa_cons (w_tup (wa_cons (w_str (wa_cons (w_str (wa_nil ⟨sz2, fun t1 ht1 => wa_nil ⟨sz2, fun t2 ht2 => wa_nil ⟨sz2, fun lr hlr => ?_⟩⟩⟩))))))))))
    have g8 : Gr [] H7 (upd (upd (upd H7 t1 (.tup [.str "a", .str "trial"])) t2 (.tup [.str "guest", .ref t1])) lr (.lst [.ref p2, .ref t2])) := ((Gr.refl.new ht1).new ht2).new hlr
    have h81 : (upd (upd (upd H7 t1 (.tup [.str "a", .str "trial"])) t2 (.tup [.str "guest", .ref t1])) lr (.lst [.ref p2, .ref t2])) t1 = some (.tup [.str "a", .str "trial"]) := ((Gr.refl.new ht2).new hlr).at upd_same
    have h82 : (upd (upd (upd H7 t1 (.tup [.str "a", .str "trial"])) t2 (.tup [.str "guest", .ref t1])) lr (.lst [.ref p2, .ref t2])) t2 = some (.tup [.str "guest", .ref t1]) := (Gr.refl.new hlr).at upd_same
    have h83 : (upd (upd (upd H7 t1 (.tup [.str "a", .str "trial"])) t2 (.tup [.str "guest", .ref t1])) lr (.lst [.ref p2, .ref t2])) lr = some (.lst [.ref p2, .ref t2]) := upd_same
    generalize upd (upd (upd H7 t1 (.tup [.str "a", .str "trial"])) t2 (.tup [.str "guest", .ref t1])) lr (.lst [.ref p2, .ref t2]) = H8 at g8 h81 h82 h83 ⊢
    have g68 := g7.trans g8
    have dp1 : Dp K H8 (.ref a0) (seenD ys) := .lst (.inl (.inr ⟨oe, g68.at ha0⟩)) (.cons (.lst (.inl (.inr ⟨oy, g68.at hpe⟩)) (dpAll_strs ys)) (.cons (.tup (g68.tup hqe) (.cons (.str _) (.cons (.tup (g68.tup hte) (.cons (.str _) (.cons (.str _) .nil))) .nil))) .nil))
    have dp2 : Dp K H8 (.ref lr) (seenD ys) := .lst (Src.ix h83) (.cons (.lst (Src.ix (g8.at hp7)) (dpAll_strs ys)) (.cons (.tup (.of h82) (.cons (.str _) (.cons (.tup (.of h81) (.cons (.str _) (.cons (.str _) .nil))) .nil))) .nil))
    refine ⟨_, _, dp1, dp2, seen_sh hyo, seen_sh hyo, _, rfl, ?_⟩
    rw [seen_eqv]
    refine iteF (wb_nil ?_)
    have g48 := g46.trans g68
    have gx48 : Gx K H4 H8 := g48.gx0
    -- what is seen next
    have hd8 := g68.at hd6
    have stillF : ∀ {H' : Hp}, Gr [] H8 H' → Still K H H' [x, tbA K "_law_visit", tbA K "_law_tried"] k x ts ps ∧ Gx K H1 H' := fun g => by
      have gg := g48.trans g
      exact ⟨⟨gr04.trans gg.up, gx04.trans gg.gx0, tv4.gr gg gg.gx0 (by simp), tt4.gr gg gg.gx0 (by simp), st4.gr0 gg⟩, gx14.trans gg.gx0⟩
    refine wb_one (ws_if (wt_or2 (wt_and2 (wt_cmp op_eq (w_var 6 ⟨_, rfl, w_int ⟨rfl, _, rfl, ?_⟩⟩)))))
    rw [dint]
    by_cases e2 : ((i : Nat) : Int) = 2
    · rw [decide_eq_true e2]
      obtain ⟨b, ob, zs, rr, hrest, hb, hzs⟩ := s2 e2
      subst hrest
      have hzo : ∀ z ∈ zs, PyData.strOk z = true := fun z hz => univ_ok2 z (hw.un z ((hzs.mem z).mp hz))
      refine iteT (wt_cmp (op_neD (by have := RoomH.u hr; omega)) (w_ix ix_list (w_var 7 ⟨_, rfl, w_int ⟨sn, _, 1, .ref b, rfl, rfl, Src.ix (g68.at hs6), atI_nat (j := 1) rfl, w_blt (call_sortedQ hq) T.srt rfl (wa_cons (w_var 2 ⟨_, rfl, wa_nil ⟨d, kvs, nms ts, rfl, .inr ⟨o, hd8⟩, rkv.keys, (by rw [List.length_map]; omega), fun ys3 p3 hpm hso hp3 => ?_⟩⟩))⟩⟩)))
      have e3 : zs = ys3 := hzs.uniq (IsSet.of hpm hso hw.nd) fun _ => Iff.rfl
      subst e3
      have g9 : Gr [] H8 (upd H8 p3 (.lst (zs.map V.str))) := Gr.refl.new hp3
      refine ⟨_, _, .lst (.inl (.inr ⟨ob, g9.at (g68.at hb)⟩)) (dpAll_strs zs), .lst (Src.ix upd_same) (dpAll_strs zs), sh_list hzo, sh_list hzo, _, rfl, ?_⟩
      rw [eqv_list, decide_eq_true rfl]
      refine iteF (wt_and2 (wt_cmp op_eq (w_var 6 ⟨_, rfl, w_int ⟨rfl, _, rfl, ?_⟩⟩)))
      rw [dint, decide_eq_false (by omega)]
      exact iteF (iteF (wb_nil ⟨_, _, _, _, rfl, stillF g9⟩))
    · rw [decide_eq_false e2]
      refine iteF (iteF (wt_and2 (wt_cmp op_eq (w_var 6 ⟨_, rfl, w_int ⟨rfl, _, rfl, ?_⟩⟩))))
      rw [dint]
      by_cases e1 : ((i : Nat) : Int) = 1
      · rw [decide_eq_true e1]
        obtain ⟨b, ob, zs, rr, hrest, hb, hnew, hzU⟩ := s1 e1
        subst hrest
        refine iteT (wt_cmp op_notIn_seq (w_str (w_ix ix_list (w_var 7 ⟨_, rfl, w_int ⟨sn, _, 1, .ref b, rfl, rfl, Src.ix (g68.at hs6), atI_nat (j := 1) rfl, b, _, rfl, .inl (.inl (.inr ⟨ob, g68.at hb⟩)), rfl, flat_strs _, _, rfl, ?_⟩⟩))))
        rw [if_pos rfl, inV_str, decide_eq_true hnew]
        exact iteF (wb_nil ⟨_, _, _, _, rfl, stillF Gr.refl⟩)
      · rw [decide_eq_false e1]
        exact iteF (iteF (wb_nil ⟨_, _, _, _, rfl, stillF Gr.refl⟩))
  rintro σ H2 ⟨z6, z7, z8, z9, rfl, st, _⟩
  exact wb_one (ws_ret (w_bl (q H2 st)))
end
end K6

/-! ## L17 -/
namespace K6
open PySem PySem.Spec PyProof.Rows L2
def dueS (u : Str) : UnR → List Str
  | .nothing => ["nothing", u]
  | .blocked n => ["blocked", n]
  | .done _ _ => ["made"]
theorem dueL_S (u : Str) (r : UnR) : dueL u r = (dueS u r).map V.str := by cases r <;> rfl
theorem due_made {u : Str} {ts : Tm} {ps : List Sa} : dueS u (undoA u ts (ps.map stp)) = (["made"] : List Str) ↔ ∃ r, undoL u ts ps = some r := by
  cases h : undoL u ts ps with
  | some r =>
    obtain ⟨t', p'⟩ := r
    rw [undoL_done h]
    exact ⟨fun _ => ⟨_, rfl⟩, fun _ => rfl⟩
  | none =>
    rcases undoL_none h with e | ⟨n, e⟩
    · rw [e]
      exact ⟨fun z => by simp [dueS] at z, fun ⟨_, z⟩ => nomatch z⟩
    · rw [e]
      exact ⟨fun z => by simp [dueS] at z, fun ⟨_, z⟩ => nomatch z⟩
theorem due_ok {u : Str} {ts : Tm} {ps : List Sa} (hu : u ∈ Users) (hp : ∀ e ∈ ps, WfE e) : ∀ z ∈ dueS u (undoA u ts (ps.map stp)), PyData.strOk z = true := by
  have a1 : PyData.strOk ("nothing" : Str) = true := by decide +kernel
  have a2 : PyData.strOk ("blocked" : Str) = true := by decide +kernel
  have a3 : PyData.strOk ("made" : Str) = true := by decide +kernel
  intro z hz
  cases hl : lat u ps with
  | none =>
    rw [undo_no hl] at hz
    have : z = "nothing" ∨ z = u := by simpa [dueS] using hz
    rcases this with rfl | rfl
    · exact a1
    · exact users_ok2 _ hu
  | some i =>
    obtain ⟨e, he, _⟩ := lat_at hl
    rw [undo_at hl he] at hz
    cases hh : heldA e.2.1 ((ps.drop (i + 1)).map (·.2.1)) with
    | none =>
      rw [hh] at hz
      have : z = "made" := by simpa [dueS] using hz
      rw [this]
      exact a3
    | some n =>
      rw [hh] at hz
      have hn : n ∈ e.2.1 := List.mem_of_find?_eq_some hh
      have : z = "blocked" ∨ z = n := by simpa [dueS] using hz
      rcases this with rfl | rfl
      · exact a2
      · exact univ_ok2 _ ((hp e (List.mem_of_getElem? he)).un _ hn)
/-- the studio after an undo, as the law knows it -/
def undoN (u : Str) (ts : Tm) (ps : List Sa) : Tm × List Sa := (undoL u ts ps).getD (ts, ps)
theorem undoN_wf {u : Str} {ts : Tm} {ps : List Sa} (hw : Wf ts) (hp : ∀ e ∈ ps, WfE e) : Wf (undoN u ts ps).1 ∧ (∀ e ∈ (undoN u ts ps).2, WfE e) ∧ (undoN u ts ps).2.length ≤ ps.length := by
  unfold undoN
  cases h : undoL u ts ps with
  | none => exact ⟨hw, hp, Nat.le_refl _⟩
  | some r => exact undoL_wf (ts' := r.1) (ps' := r.2) h hw hp
section
variable {P : Program} {w : World} {K : PySem.W.Frag} {mg : Str → Option Value} {base : Heap}
/-- undo, as the law knows it -/
theorem back_law {x : Addr} {u k : Str} {ts : Tm} {ps : List Sa} {H : Hp} {Q : VK} {E : XK} (hS : Std K H x k ts (ps.map stp)) (hu : u ∈ Users) (hw : Wf ts) (hp : ∀ e ∈ ps, WfE e) (hz : ps.length ≤ 1000)
    (q : ∀ H' l, Gr [x] H H' → Std K H' x k (undoN u ts ps).1 ((undoN u ts ps).2.map stp) → H' l = some (.lst ((dueS u (undoA u ts (ps.map stp))).map V.str)) → Q (.ref l) H') : spBack K [.ref x, .str u] H Q E := by
  have hpst : ∀ e ∈ ps.map stp, WfE e := fun e he => by
    obtain ⟨e', he', rfl⟩ := List.mem_map.mp he
    exact (hp e' he').stp
  refine ⟨x, u, k, ts, ps.map stp, rfl, hS, hu, hw, hpst, by rw [List.length_map]; exact hz, ?_⟩
  cases h : undoL u ts ps with
  | some r =>
    obtain ⟨t', p'⟩ := r
    have e : undoN u ts ps = (t', p') := by unfold undoN; rw [h] <;> rfl
    rw [undoL_done h, e] at q
    rw [undoL_done h]
    exact fun H' l g hS' hl => q H' l g hS' hl
  | none =>
    have e : undoN u ts ps = (ts, ps) := by unfold undoN; rw [h] <;> rfl
    rw [e] at q
    rcases undoL_none h with e | ⟨n, e⟩
    · rw [e] at q ⊢
      exact fun H' l g hl => q H' l g.up (hS.gr0 g) hl
    · rw [e] at q ⊢
      exact fun H' l g hl => q H' l g.up (hS.gr0 g) hl
end
/-! ### one name more -/
theorem only_put {ts : Tm} {n c : Str} (h : n ∉ nms ts) : putA ts n c = ts ++ [(n, c)] := putA_new h
theorem only_look {ts : Tm} {n : Str} (h : n ∉ nms ts) : look [n] ts = [] := by
  have := valA_none.mpr h
  simp [look, this]
theorem only_back {ts : Tm} {n c : Str} (h : n ∉ nms ts) : mergeA ((putA ts n c).filter fun p => decide (p.1 ∉ ([n] : List Str))) (look [n] ts) = ts := by
  rw [only_look h, only_put h]
  show (ts ++ [(n, c)]).filter (fun p => decide (p.1 ∉ ([n] : List Str))) = ts
  rw [List.filter_append]
  have e1 : ts.filter (fun p => decide (p.1 ∉ ([n] : List Str))) = ts := by
    rw [List.filter_eq_self]
    intro p hp
    have : p.1 ≠ n := fun e => h (e ▸ List.mem_map.mpr ⟨p, hp, rfl⟩)
    simp [this]
  rw [e1]
  simp
theorem only_undo {u n c : Str} {ts : Tm} {ss : List Sa} (h : n ∉ nms ts) : undoA u (putA ts n c) (ss ++ [(u, [n], look [n] ts)]) = .done ts ss := by
  rw [undo_last, only_back h]
theorem paired_rev {α β : Type} {F : α → β → Prop} : ∀ {xs : List α} {ys : List β}, Paired F xs ys → Paired F xs.reverse ys.reverse
  | _, _, .nil => .nil
  | _, _, .cons r t => by
    rw [List.reverse_cons, List.reverse_cons]
    exact paired_app (paired_rev t) (.cons r .nil)
end K6

/-! ## L18 -/
namespace K6
open PySem PySem.Spec PyProof.Rows L2
section
variable {P : Program} {w : World} {K : PySem.W.Frag} {mg : Str → Option Value} {base : Heap}
abbrev N64 : List Str := ["_law_source_here", "_law_kind_here", "_law_studio", "_law_texts", "_law_past", "_law_walk", "_law_twin", "_law_fresh", "_law_user", "_law_rest", "_law_left", "_law_third", "_law_due", "_law_one"]
theorem sc64 : FnScope N64 ["_law_source_here", "_law_kind_here", "_law_studio", "_law_texts", "_law_past", "_law_walk"] (scL 64) := ⟨rfl, rfl, rfl, by decide +kernel, rfl, by decide +kernel, by decide +kernel⟩
def spCopy (K : PySem.W.Frag) : Sp := fun vs H Q _ => ∃ (s : Addr) (k : Str) (x d l wk : Addr) (c : Str) (ts : Tm) (ps : List Sa), vs = [.ref s, .str k, .ref x, .ref d, .ref l, .ref wk] ∧ Begun K H k x d l ts ps ∧ Kind k ∧ WalkAt K H wk k c ∧ Cmd c ∧
  ∀ H', Gr [x] H H' → Gx K H H' → Std K H' x k ts (ps.map stp) → Q (.bl true) H'
abbrev onl (u : Str) (ts : Tm) : Sa := (u, ["only"], look ["only"] ts)
/-- put "only": what comes of it -/
theorem only_make {x : Addr} {u k c : Str} {ts : Tm} {ps : List Sa} {p wk : Addr} {H : Hp} {Q : VK} {E : XK} (hS : Std K H x k ts (ps.map stp)) (hu : u ∈ Users) (hw : Wf ts) (hk : Kind k) (hz : ps.length ≤ 1000) (hp : H p = some (.tup [.str "put", .str "only", .ref wk])) (hW : WalkAt K H wk k c) (hc : Cmd c)
    (q : ∀ H', Gr [x] H H' → Std K H' x k (putA ts "only" c) (ps.map stp ++ [onl u ts]) → Q .non H') : spMake K [.ref x, .str u, .ref p] H Q E := by
  refine ⟨x, u, k, ts, ps.map stp, hS, hu, hw, hk, by rw [List.length_map]; exact hz, .inl ⟨[p], [.put "only" c], rfl, by simp, by simp, .cons ⟨⟨wk, hp, hW⟩, by decide +kernel, hc⟩ .nil, ?_⟩⟩
  unfold MkOut
  rw [runs_one]
  intro H' ys hys g hS'
  obtain rfl := one_name hys
  exact q H' g hS'
/-- undo of "only" -/
theorem only_back_law {x : Addr} {u k c : Str} {ts : Tm} {ps : List Sa} {H : Hp} {Q : VK} {E : XK} (hS : Std K H x k (putA ts "only" c) (ps.map stp ++ [onl u ts])) (hu : u ∈ Users) (hw : Wf ts) (hc : Cmd c) (hp : ∀ e ∈ ps, WfE e) (hz : ps.length ≤ 900) (ho : ("only" : Str) ∉ nms ts)
    (q : ∀ H' l, Gr [x] H H' → Std K H' x k ts (ps.map stp) → H' l = some (.lst [.str "made"]) → Q (.ref l) H') : spBack K [.ref x, .str u] H Q E := by
  refine ⟨x, u, k, _, _, rfl, hS, hu, hw.put (by decide +kernel) hc, fun e he => ?_, by rw [List.length_append, List.length_map, List.length_singleton]; omega, ?_⟩
  · rcases List.mem_append.mp he with he | he
    · obtain ⟨e', he', rfl⟩ := List.mem_map.mp he
      exact (hp e' he').stp
    · rw [List.mem_singleton.mp he]
      exact ⟨hu, by simp, (by decide +kernel : ∀ n ∈ (["only"] : List Str), n ∈ Univ), hw.look (by simp)⟩
  · rw [only_undo ho]
    exact q
theorem law_copy (T : Ti K w mg) : Fb false P w K mg base 11 (ga K "_law_copy_right") (spCopy K) := by
  obtain ⟨fd, F⟩ := T.d64.fn
  refine fn_b F sc64 (fun vs H Q E h => by obtain ⟨s, k, x, d, l, wk, c, ts, ps, rfl, _⟩ := h; rfl) (fun _ _ _ _ _ _ us hl => match us, hl with | [_, _, _, _, _, _], _ => rfl) ?_
  intro pz cdv A outer s0 H vs Q E hp hq hr h
  obtain ⟨s, k, x, d, l, wkA, c, ts, ps, rfl, ⟨⟨hS, hd, hl⟩, hw, hb4, hps, hfew⟩, hk, hW, hc, q⟩ := h
  have cl := T.stu.cl
  have honly : ("only" : Str) ∉ nms ts := fun z => absurd (hb4 _ z) (by decide +kernel)
  have hpz : ps.length ≤ 1000 := by omega
  obtain ⟨dx, d0, l0, hx, _, _⟩ := id hS
  have smO : ∀ {H'}, Gx K H H' → Std K H' x k ts (ps.map stp) → Same K H' k x d l ts ps := fun g h => ⟨h, hd.gx g, hl.gx g⟩
  -- twin
  refine wb_cons (ws_set 6 sc64.nd (w_meth0 (studio_copy T.toTv) hq (hr.mono (by decide)) cl T.u_copyM paF (w_var 2 ⟨_, rfl, x, dx, _, rfl, hx, rfl, x, k, ts, _, rfl, hS, hk, fun H1 tw g1 htw hT1 => ?_⟩)))
  have hS1 := hS.gr0 g1
  have htwx : tw ≠ x := (hS.ne htw).symm
  obtain ⟨dt, d1, l1, htw1, _, _⟩ := id hT1
  refine wb_cons (ws_if (wt_or2 (wt_not (wt_cmp (op_eqR (studio_eq T.toTv) hq (hr.mono (by decide)) T.u_eqM (fun _ => paF)) (w_var 6 ⟨_, rfl, w_var 2 ⟨_, rfl, tw, dt, _, _, rfl, htw1, .inl (std_ty T.toTw hS1), T.u_notF, tw, k, ts, _, .ref x, rfl, hT1, .inl ⟨x, k, ts, _, rfl, hS1, .inr (.inr ⟨rfl, rfl, fun p hp => valA_of hw.nd hp, _, rfl, ?_⟩)⟩⟩⟩)))))
  refine iteF (wt_not (wt_val (w_call (law_same T.toTy) hq.up (hr.mono (by decide)) (T.d59.df rfl rfl) paF rfl (wa_cons (w_var 1 ⟨_, rfl, wa_cons (w_var 6 ⟨_, rfl, wa_cons (w_var 3 ⟨_, rfl, wa_cons (w_var 4 ⟨_, rfl, wa_nil ⟨k, tw, d, l, ts, ps, rfl, ?_, hk, hw, hps, hpz, fun H2 g2 => ⟨true, rfl, ?_⟩⟩⟩)⟩)⟩)⟩)))))
  · exact ⟨hT1, hd.gx (K := K) g1.gx0, hl.gx g1.gx0⟩
  refine iteF (wb_nil ?_)
  have g12 := g1.trans g2
  have hS2 := hS.gr0 g12
  have hT2 := hT1.gr0 g2
  -- fresh
  refine wb_cons (ws_set 7 sc64.nd (w_meth0 (studio_copy T.toTv) hq (hr.mono (by decide)) cl T.u_copyM paF (w_var 2 ⟨_, rfl, x, dx, _, rfl, g12.at hx, rfl, x, k, ts, _, rfl, hS2, hk, fun H3 fr g3 hfr hF3 => ?_⟩)))
  have hfr0 : H fr = none := g12.free _ hfr
  have hfrx : fr ≠ x := (hS2.ne hfr).symm
  have hfrt : fr ≠ tw := (hT2.ne hfr).symm
  have g13 := g12.trans g3
  -- each user, on a fresh copy
  refine wb_cut (fun σ H' => ∃ fr z8 z9 z10, σ = [some (.ref s), some (.str k), some (.ref x), some (.ref d), some (.ref l), some (.ref wkA), some (.ref tw), some (.ref fr), z8, z9, z10, none, none, none] ∧ Gr [x] H H' ∧ Gx K H H' ∧ Std K H' x k ts (ps.map stp) ∧ Std K H' tw k ts (ps.map stp)) ?_ ?_
  · refine w_for ownsQ hq (wi_list (wE_locked (w_lst (wa_cons (w_str (wa_cons (w_str (wa_cons (w_str (wa_nil ⟨sz3, fun pu hpu => ⟨pu, _, rfl, upd_same, trivial, fun ou => ?_⟩⟩))))))))))
    rw [upd_upd]
    have g4 : Gr [] H3 (upd H3 pu (.frz ou (.lst [.str "ann", .str "bob", .str "guest"]))) := Gr.refl.new hpu
    have hpu4 : (upd H3 pu (.frz ou (.lst [.str "ann", .str "bob", .str "guest"]))) pu = some (.frz ou (.lst ((["ann", "bob", "guest"] : List Str).map V.str))) := upd_same
    generalize upd H3 pu (.frz ou (.lst [.str "ann", .str "bob", .str "guest"])) = H4 at g4 hpu4 ⊢
    refine ⟨pu, (["ann", "bob", "guest"] : List Str).map V.str, rfl, .inl (.inr ⟨ou, hpu4⟩), fun J wk => ?_⟩
    have g14 := g13.trans g4
    refine for_wk wk (fun i σ H' => ∃ fr z8 z9 z10, σ = [some (.ref s), some (.str k), some (.ref x), some (.ref d), some (.ref l), some (.ref wkA), some (.ref tw), some (.ref fr), z8, z9, z10, none, none, none] ∧ Gr [x] H H' ∧ Gx K H H' ∧ Gx K H4 H' ∧ Std K H' x k ts (ps.map stp) ∧ Std K H' tw k ts (ps.map stp) ∧ Std K H' fr k ts (ps.map stp) ∧ H fr = none ∧ fr ≠ x ∧ fr ≠ tw)
      ⟨fr, none, none, none, rfl, g14.up, g14.gx0, Gx.refl, hS.gr0 g14, hT2.gr0 (g3.trans g4), hF3.gr0 g4, hfr0, hfrx, hfrt⟩ (fun i σ H' h => by obtain ⟨_, _, _, _, _, _, _, gx, _⟩ := h; exact .inl (.inr ⟨ou, gx.keep _ _ trivial hpu4⟩)) ?_ ?_
    · rintro i y σ H5 hy ⟨fr, z8, z9, z10, rfl, g5, gx5, gx45, hS5, hT5, hF5, hfr0, hfrx, hfrt⟩
      obtain ⟨u, hu, rfl⟩ := str_get hy
      have hu : u ∈ Users := (by decide +kernel : ∀ u ∈ (["ann", "bob", "guest"] : List Str), u ∈ Users) u (List.mem_of_getElem? hu)
      refine w_gname 8 ?_ sc64.nd
      refine wb_cons (ws_if (wt_or2 (wt_neS hr (w_call (law_back T.toTy) hq (hr.mono (by decide)) (T.d56.df rfl rfl) paF rfl (wa_cons (w_var 7 ⟨_, rfl, wa_cons (w_var 8 ⟨_, rfl, wa_nil (back_law hF5 hu hw hps hpz fun H6 la g6 hF6 hla => ?_)⟩)⟩))))))
      have gx6 := g6.gxS hF5
      have gx06 := gx5.trans gx6
      have hS6 := hS5.gr g6 (by simp [Ne.symm hfrx]) gx6
      have hT6 := hT5.gr g6 (by simp [Ne.symm hfrt]) gx6
      refine w_call (law_due T.toTl) hq (hr.mono (by decide)) (T.d57.df rfl rfl) paF rfl (wa_cons (w_var 4 ⟨_, rfl, wa_cons (w_var 8 ⟨_, rfl, wa_nil ⟨l, u, ts, ps, rfl, hl.gx gx06, hps, hpz, fun H7 lb g7 hlb => ?_⟩⟩)⟩))
      rw [dueL_S] at hlb
      refine ⟨la, lb, _, _, rfl, rfl, Src.ix (g7.at hla), Src.ix hlb, due_ok hu hps, due_ok hu hps, ?_⟩
      rw [decide_eq_true rfl]
      refine iteF (wt_not (wt_val (w_call (law_same T.toTy) hq.up (hr.mono (by decide)) (T.d59.df rfl rfl) paF rfl (wa_cons (w_var 1 ⟨_, rfl, wa_cons (w_var 2 ⟨_, rfl, wa_cons (w_var 3 ⟨_, rfl, wa_cons (w_var 4 ⟨_, rfl, wa_nil ⟨k, x, d, l, ts, ps, rfl, ?_, hk, hw, hps, hpz, fun H8 g8 => ⟨true, rfl, ?_⟩⟩⟩)⟩)⟩)⟩)))))
      · exact smO (gx06.trans g7.gx0) (hS6.gr0 g7)
      refine iteF (wb_nil ?_)
      have g68 := g7.trans g8
      have gx08 := gx06.trans g68.gx0
      refine wb_one (ws_if (wt_eqS hr (w_call (law_due T.toTl) hq (hr.mono (by decide)) (T.d57.df rfl rfl) paF rfl (wa_cons (w_var 4 ⟨_, rfl, wa_cons (w_var 8 ⟨_, rfl, wa_nil ⟨l, u, ts, ps, rfl, hl.gx gx08, hps, hpz, fun H9 lc g9 hlc => ?_⟩⟩)⟩)))))
      rw [dueL_S] at hlc
      refine w_lst (wa_cons (w_str (wa_nil ⟨sz1, fun lm hlm => ⟨lc, lm, _, ["made"], rfl, rfl, Src.ix ((Gr.refl.new hlm : Gr [] H9 _).at hlc), Src.ix upd_same, due_ok hu hps, made_ok, ?_⟩⟩)))
      have gA : Gr [] H9 (upd H9 lm (.lst [.str "made"])) := Gr.refl.new hlm
      generalize upd H9 lm (.lst [.str "made"]) = HA at gA ⊢
      have g6A := (g68.trans g9).trans gA
      have gxA := gx06.trans g6A.gx0
      have grA : Gr [x] H HA := ((g5.then g6 fun a ha => .inl (by rw [List.mem_singleton.mp ha]; exact hfr0))).trans g6A.up
      have hSA := hS6.gr0 g6A
      have hTA := hT6.gr0 g6A
      have hFA := hF6.gr0 g6A
      have gx4A := (gx45.trans gx6).trans g6A.gx0
      cases hun : undoL u ts ps with
      | none =>
        have e : undoN u ts ps = (ts, ps) := by unfold undoN; rw [hun] <;> rfl
        rw [e] at hFA
        rw [decide_eq_false (fun z => by obtain ⟨r, hr⟩ := due_made.mp z; rw [hun] at hr; cases hr)]
        exact iteF (wb_nil ⟨fr, _, _, _, rfl, grA, gxA, gx4A, hSA, hTA, hFA, hfr0, hfrx, hfrt⟩)
      | some r =>
      obtain ⟨t', p'⟩ := r
      have e : undoN u ts ps = (t', p') := by unfold undoN; rw [hun] <;> rfl
      rw [e] at hFA
      rw [decide_eq_true (due_made.mpr ⟨_, hun⟩)]
      obtain ⟨hw', hp', hz'⟩ := undoL_wf hun hw hps
      refine iteT (wb_cons (ws_asg (w_call (law_undone T.toTl) hq (hr.mono (by decide)) (T.d58.df rfl rfl) paF rfl (wa_cons (w_var 3 ⟨_, rfl, wa_cons (w_var 4 ⟨_, rfl, wa_cons (w_var 8 ⟨_, rfl, wa_nil ⟨d, l, u, ts, ps, t', p', rfl, hd.gx gxA, hl.gx gxA, hw, hps, hpz, hun, fun HB r d' l' gB hrB hdB hlB => ?_⟩⟩)⟩)⟩)))))
      refine w_gunl (n := 2) hq.calm ⟨r, _, rfl, Src.ix hrB, rfl, w_gcons (w_gname 9 (w_gcons (w_gname 10 (w_gnil ?_) sc64.nd)) sc64.nd)⟩
      refine wb_cons (ws_if (wt_not (wt_val (w_call (law_same T.toTy) hq.up (hr.mono (by decide)) (T.d59.df rfl rfl) paF rfl (wa_cons (w_var 1 ⟨_, rfl, wa_cons (w_var 7 ⟨_, rfl, wa_cons (w_var 9 ⟨_, rfl, wa_cons (w_var 10 ⟨_, rfl, wa_nil ⟨k, fr, d', l', t', p', rfl, ?_, hk, hw', hp', (by omega), fun HC gC => ⟨true, rfl, ?_⟩⟩⟩)⟩)⟩)⟩))))))
      · exact ⟨hFA.gr0 gB, hdB, hlB⟩
      refine iteF (wb_nil ?_)
      have gAC := gB.trans gC
      obtain ⟨dxc, dc, lc', hxc, _, _⟩ := id (hSA.gr0 gAC)
      refine wb_one (ws_set 7 sc64.nd (w_meth0 (studio_copy T.toTv) hq (hr.mono (by decide)) cl T.u_copyM paF (w_var 2 ⟨_, rfl, x, _, _, rfl, hxc, rfl, x, k, ts, _, rfl, hSA.gr0 gAC, hk, fun HD fr2 gD hfr2 hFD => ?_⟩)))
      have gAD := gAC.trans gD
      exact ⟨fr2, _, _, _, rfl, grA.trans gAD.up, gxA.trans gAD.gx0, gx4A.trans gAD.gx0, hSA.gr0 gAD, hTA.gr0 gAD, hFD, grA.free _ (gAC.free _ hfr2), ((hSA.gr0 gAC).ne hfr2).symm, ((hTA.gr0 gAC).ne hfr2).symm⟩
    · rintro σ H5 ⟨fr, z8, z9, z10, rfl, g5, gx5, gx45, hS5, hT5, hF5, hfr0, hfrx, hfrt⟩
      exact ⟨fr, _, _, _, rfl, g5, gx5, hS5, hT5⟩
  rintro σ H5 ⟨fr, z8, z9, z10, rfl, gr5, gx5, hS5, hT5⟩
  -- the twin goes on
  obtain ⟨dt5, dd5, ll5, htw5, _, _⟩ := id hT5
  refine wb_cons (ws_expr (w_meth (studio_make T.toTu) hq (hr.mono (by decide)) cl T.u_makeM (E := fun _ _ _ => False) paF (w_var 6 ⟨_, rfl, tw, _, _, rfl, htw5, rfl, wa_cons (w_str (wa_cons (w_tup (wa_cons (w_str (wa_cons (w_str (wa_cons (w_var 5 ⟨_, rfl, wa_nil ⟨sz3, fun p1 hp1 => wa_nil ?_⟩⟩)))))))))⟩)))
  have g6 : Gr [] H5 (upd H5 p1 (.tup [.str "put", .str "only", .ref wkA])) := Gr.refl.new hp1
  have hp6 : (upd H5 p1 (.tup [.str "put", .str "only", .ref wkA])) p1 = some (.tup [.str "put", .str "only", .ref wkA]) := upd_same
  generalize upd H5 p1 (.tup [.str "put", .str "only", .ref wkA]) = H6 at g6 hp6 ⊢
  have gx6 := gx5.trans g6.gx0
  refine only_make (hT5.gr0 g6) (by decide +kernel) hw hk hpz hp6 (hW.gx gx6) hc fun H7 g7 hT7 => ?_
  have gx67 := g7.gxS (hT5.gr0 g6)
  have gx7 := gx6.trans gx67
  have gr7 : Gr [x] H H7 := (gr5.trans g6.up).then g7 fun a ha => .inl (by rw [List.mem_singleton.mp ha]; exact htw)
  have hS7 : Std K H7 x k ts (ps.map stp) := (hS5.gr0 g6).gr g7 (by simp [Ne.symm htwx]) gx67
  obtain ⟨dt7, dd7, ll7, htw7, _, _⟩ := id hT7
  have hlen : (putA ts "only" c).length ≠ ts.length := by rw [only_put honly, List.length_append, List.length_singleton]; omega
  refine wb_cons (ws_if (wt_or3 (wt_cmp (op_eqR (studio_eq T.toTv) hq (hr.mono (by decide)) T.u_eqM (fun _ => paF)) (w_var 6 ⟨_, rfl, w_var 2 ⟨_, rfl, tw, _, _, _, rfl, htw7, .inl (std_ty T.toTw hS7), T.u_notF, tw, k, _, _, .ref x, rfl, hT7, .inl ⟨x, k, ts, _, rfl, hS7, .inr (.inl ⟨rfl, hlen, _, rfl, ?_⟩)⟩⟩⟩))))
  refine iteF (wt_not (wt_val (w_call (law_same T.toTy) hq.up (hr.mono (by decide)) (T.d59.df rfl rfl) paF rfl (wa_cons (w_var 1 ⟨_, rfl, wa_cons (w_var 2 ⟨_, rfl, wa_cons (w_var 3 ⟨_, rfl, wa_cons (w_var 4 ⟨_, rfl, wa_nil ⟨k, x, d, l, ts, ps, rfl, ?_, hk, hw, hps, hpz, fun H8 g8 => ⟨true, rfl, ?_⟩⟩⟩)⟩)⟩)⟩)))))
  · exact smO gx7 hS7
  refine iteF (wt_neS hr (w_call (law_back T.toTy) hq (hr.mono (by decide)) (T.d56.df rfl rfl) paF rfl (wa_cons (w_var 6 ⟨_, rfl, wa_cons (w_str (wa_nil (only_back_law (hT7.gr0 g8) (by decide +kernel) hw hc hps (by omega) honly fun H9 lb g9 hT9 hlb => ?_)))⟩))))
  refine w_lst (wa_cons (w_str (wa_nil ⟨sz1, fun lm hlm => ⟨lb, lm, ["made"], ["made"], rfl, rfl, Src.ix ((Gr.refl.new hlm : Gr [] H9 _).at hlb), Src.ix upd_same, made_ok, made_ok, ?_⟩⟩)))
  rw [decide_eq_true rfl]
  refine iteF (wb_nil ?_)
  have gA : Gr [] H9 (upd H9 lm (.lst [.str "made"])) := Gr.refl.new hlm
  generalize upd H9 lm (.lst [.str "made"]) = HA at gA ⊢
  have gx89 := g9.gxS (hT7.gr0 g8)
  have gxA := ((gx7.trans g8.gx0).trans gx89).trans gA.gx0
  have grA : Gr [x] H HA := ((gr7.trans g8.up).then g9 fun a ha => .inl (by rw [List.mem_singleton.mp ha]; exact htw)).trans gA.up
  have hSA : Std K HA x k ts (ps.map stp) := ((hS7.gr0 g8).gr g9 (by simp [Ne.symm htwx]) gx89).gr0 gA
  have hTA : Std K HA tw k ts (ps.map stp) := hT9.gr0 gA
  obtain ⟨dxA, ddA, llA, hxA, _, _⟩ := id hSA
  -- third, rest, left
  refine wb_cons (ws_par3 11 9 10 hq.calm sc64.nd (wa_cons (w_meth0 (studio_copy T.toTv) hq (hr.mono (by decide)) cl T.u_copyM paF (w_var 2 ⟨_, rfl, x, _, _, rfl, hxA, rfl, x, k, ts, _, rfl, hSA, hk, fun HB th gB hth hHB => wa_cons (w_var 3 ⟨_, rfl, wa_cons (w_var 4 ⟨_, rfl, wa_nil ⟨_, _, _, rfl, ?_⟩⟩)⟩)⟩))))
  have hth0 : H th = none := grA.free _ hth
  have hthx : th ≠ x := (hSA.ne hth).symm
  have htht : th ≠ tw := (hTA.ne hth).symm
  have gxB := gxA.trans gB.gx0
  have grB := grA.trans gB.up
  have hSB := hSA.gr0 gB
  have hTB := hTA.gr0 gB
  obtain ⟨ol, xs, hlo, rl⟩ := id (hl.gx gxB)
  have hxl := Paired.length rl
  -- all users, one after another
  refine wb_cut (fun σ H' => ∃ z8 z12 d2 l2 t2 p2, σ = [some (.ref s), some (.str k), some (.ref x), some (.ref d), some (.ref l), some (.ref wkA), some (.ref tw), some (.ref fr), z8, some (.ref d2), some (.ref l2), some (.ref th), z12, none] ∧ Gr [x] H H' ∧ Gx K H H' ∧ Std K H' x k ts (ps.map stp) ∧ Std K H' th k ts (ps.map stp) ∧ Std K H' tw k t2 (p2.map stp) ∧ TD H' d2 t2 ∧ PL K H' l2 p2 ∧ Wf t2 ∧ (∀ e ∈ p2, WfE e) ∧ p2.length ≤ 1000) ?_ ?_
  · refine w_for ownsQ hq (wi_list (wE_locked (w_op op_cat (w_lst (wa_cons (w_str (wa_cons (w_str (wa_cons (w_str (wa_nil ⟨sz3, fun pu hpu => ?_⟩)))))))))))
    have g4 : Gr [] HB (upd HB pu (.lst [.str "ann", .str "bob", .str "guest"])) := Gr.refl.new hpu
    have hpu4 : (upd HB pu (.lst [.str "ann", .str "bob", .str "guest"])) pu = some (.lst ((["ann", "bob", "guest"] : List Str).map V.str)) := upd_same
    generalize upd HB pu (.lst [.str "ann", .str "bob", .str "guest"]) = HC at g4 hpu4 ⊢
    refine w_lc (own := [("_law_one", 13)]) hq sc64.nd (blkOk (N := N64) (sc := scL 64)) (wi_list (w_revL (w_var 4 ⟨_, rfl, l, xs, rfl, .inl (.inr ⟨ol, g4.at hlo⟩), fun rv hrv => ⟨rv, xs.reverse, rfl, Src.ix upd_same, fun J wk => ?_⟩⟩)))
    have g5 : Gr [] HC (upd HC rv (.lst xs.reverse)) := Gr.refl.new hrv
    have hrv5 : (upd HC rv (.lst xs.reverse)) rv = some (.lst xs.reverse) := upd_same
    generalize upd HC rv (.lst xs.reverse) = HD at g5 hrv5 ⊢
    have g45 := g4.trans g5
    have rlr := paired_rev rl
    refine lc_wk wk (fun D i H' => HD D = none ∧ Gr [] HD H' ∧ H' D = some (.lst (((ps.reverse.take i).map (·.1)).map V.str))) (fun D hD => ⟨hD, Gr.refl.new hD, by rw [upd_same] <;> rfl⟩) (fun D i H' z => Src.ix (z.2.1.at hrv5)) ?_ ?_
    · rintro D s4 HX C cl' fp j y H' hy' ⟨hD0, gg, hD⟩
      obtain ⟨e, he, pe, rfl, hpa⟩ := paired_get' rlr hy'
      obtain ⟨t, de, hpt, _⟩ := hpa.gx (g45.trans gg).gx0
      have hjl : j < ps.reverse.length := (List.getElem?_eq_some_iff.mp he).1
      rw [List.length_reverse] at hjl
      refine w_gname 13 ⟨rfl, wts_nil (iteT ?_)⟩ sc64.nd
      refine w_ix ix_tup (w_var 13 ⟨_, rfl, w_int ⟨pe, _, 0, .str e.1, rfl, rfl, hpt, atI_nat (j := 0) rfl, _, hD, szl ?_, hD0, gg.put (.inl hD0), ?_⟩⟩)
      · rw [List.length_map, List.length_map, List.length_take]; omega
      · rw [upd_same, List.take_add_one, he, Option.toList_some, List.map_append, List.map_append] <;> rfl
    rintro D HE ⟨hD0, gE, hD⟩
    rw [List.length_reverse, hxl, show ps.length = ps.reverse.length from by rw [List.length_reverse], List.take_length] at hD
    refine ⟨pu, D, _, _, rfl, rfl, (g5.trans gE).at hpu4, hD, szm (by rw [List.length_map, List.length_map, List.length_map, List.length_reverse]; show 3 + _ ≤ _; omega), fun pl hpl => ⟨pl, _, rfl, upd_same, trivial, fun opl => ?_⟩⟩
    rw [upd_upd, ← List.map_append]
    have gF : Gr [] HE (upd HE pl (.frz opl (.lst (((["ann", "bob", "guest"] : List Str) ++ ps.reverse.map (·.1)).map V.str)))) := Gr.refl.new hpl
    have hpl6 : (upd HE pl (.frz opl (.lst (((["ann", "bob", "guest"] : List Str) ++ ps.reverse.map (·.1)).map V.str)))) pl = some (.frz opl (.lst (((["ann", "bob", "guest"] : List Str) ++ ps.reverse.map (·.1)).map V.str))) := upd_same
    generalize upd HE pl (.frz opl (.lst (((["ann", "bob", "guest"] : List Str) ++ ps.reverse.map (·.1)).map V.str))) = HF at gF hpl6 ⊢
    have gBF := (g45.trans gE).trans gF
    refine ⟨pl, ((["ann", "bob", "guest"] : List Str) ++ ps.reverse.map (·.1)).map V.str, rfl, .inl (.inr ⟨opl, hpl6⟩), fun J wk => ?_⟩
    have hus : ∀ u ∈ (["ann", "bob", "guest"] : List Str) ++ ps.reverse.map (·.1), u ∈ Users := fun u hu => by
      rcases List.mem_append.mp hu with hu | hu
      · exact (by decide +kernel : ∀ u ∈ (["ann", "bob", "guest"] : List Str), u ∈ Users) u hu
      · obtain ⟨e, he, rfl⟩ := List.mem_map.mp hu
        exact (hps e (List.mem_reverse.mp he)).us
    generalize (["ann", "bob", "guest"] : List Str) ++ ps.reverse.map (·.1) = us at hus hpl6 wk ⊢
    refine for_wk wk (fun i σ H' => ∃ z8 z12 d2 l2 t2 p2, σ = [some (.ref s), some (.str k), some (.ref x), some (.ref d), some (.ref l), some (.ref wkA), some (.ref tw), some (.ref fr), z8, some (.ref d2), some (.ref l2), some (.ref th), z12, none] ∧ Gr [x] H H' ∧ Gx K H H' ∧ Gx K HF H' ∧ Std K H' x k ts (ps.map stp) ∧ Std K H' th k ts (ps.map stp) ∧ Std K H' tw k t2 (p2.map stp) ∧ TD H' d2 t2 ∧ PL K H' l2 p2 ∧ Wf t2 ∧ (∀ e ∈ p2, WfE e) ∧ p2.length ≤ 1000)
      ⟨z8, none, d, l, ts, ps, rfl, grB.trans gBF.up, gxB.trans gBF.gx0, Gx.refl, hSB.gr0 gBF, hHB.gr0 gBF, hTB.gr0 gBF, hd.gx (gxB.trans gBF.gx0), hl.gx (gxB.trans gBF.gx0), hw, hps, hpz⟩ (fun i σ H' h => by obtain ⟨_, _, _, _, _, _, _, _, _, gx, _⟩ := h; exact .inl (.inr ⟨opl, gx.keep _ _ trivial hpl6⟩)) ?_ ?_
    · rintro i y σ H5 hy ⟨z8, z12, d2, l2, t2, p2, rfl, gr5, gx5, gxF5, hS5, hH5, hT5, hd5, hl5, hw2, hp2, hz2⟩
      obtain ⟨u, hu, rfl⟩ := str_get hy
      have hu : u ∈ Users := hus u (List.mem_of_getElem? hu)
      refine w_gname 8 ?_ sc64.nd
      refine wb_cons (ws_set 12 sc64.nd (w_call (law_due T.toTl) hq (hr.mono (by decide)) (T.d57.df rfl rfl) paF rfl (wa_cons (w_var 10 ⟨_, rfl, wa_cons (w_var 8 ⟨_, rfl, wa_nil ⟨l2, u, t2, p2, rfl, hl5, hp2, hz2, fun H6 lb g6 hlb => ?_⟩⟩)⟩))))
      rw [dueL_S] at hlb
      have hT6 := hT5.gr0 g6
      refine wb_cons (ws_if (wt_or2 (wt_neS hr (w_call (law_back T.toTy) hq (hr.mono (by decide)) (T.d56.df rfl rfl) paF rfl (wa_cons (w_var 6 ⟨_, rfl, wa_cons (w_var 8 ⟨_, rfl, wa_nil (back_law hT6 hu hw2 hp2 hz2 fun H7 la g7 hT7 hla => w_var 12 ⟨_, rfl, ?_⟩)⟩)⟩))))))
      have hlbt : lb ≠ tw := fun e => by
        obtain ⟨_, _, _, z, _⟩ := hT6
        rw [e, z] at hlb
        cases hlb
      have hlb7 := g7.keep _ _ (by simp [hlbt]) hlb
      refine ⟨la, lb, _, _, rfl, rfl, Src.ix hla, Src.ix hlb7, due_ok hu hp2, due_ok hu hp2, ?_⟩
      rw [decide_eq_true rfl]
      have gx67 := g7.gxS hT6
      have gx07 := (gx5.trans g6.gx0).trans gx67
      have hS7 := (hS5.gr0 g6).gr g7 (by simp [Ne.symm htwx]) gx67
      have hH7 := (hH5.gr0 g6).gr g7 (by simp [htht]) gx67
      have gr7 : Gr [x] H H7 := (gr5.trans g6.up).then g7 fun a ha => .inl (by rw [List.mem_singleton.mp ha]; exact htw)
      refine iteF (wt_not (wt_val (w_call (law_same T.toTy) hq.up (hr.mono (by decide)) (T.d59.df rfl rfl) paF rfl (wa_cons (w_var 1 ⟨_, rfl, wa_cons (w_var 2 ⟨_, rfl, wa_cons (w_var 3 ⟨_, rfl, wa_cons (w_var 4 ⟨_, rfl, wa_nil ⟨k, x, d, l, ts, ps, rfl, ?_, hk, hw, hps, hpz, fun H8 g8 => ⟨true, rfl, ?_⟩⟩⟩)⟩)⟩)⟩)))))
      · exact smO gx07 hS7
      refine iteF (wb_nil ?_)
      have gx08 := gx07.trans g8.gx0
      have hd8 := (hd5.gx (g6.gx0.trans gx67)).gx (K := K) g8.gx0
      have hl8 := (hl5.gx (g6.gx0.trans gx67)).gx g8.gx0
      have gxF8 := ((gxF5.trans g6.gx0).trans gx67).trans g8.gx0
      obtain ⟨hwn, hpn, hzn⟩ := undoN_wf (u := u) hw2 hp2
      -- rest, left
      refine wb_cut (fun σ H' => ∃ d3 l3, σ = [some (.ref s), some (.str k), some (.ref x), some (.ref d), some (.ref l), some (.ref wkA), some (.ref tw), some (.ref fr), some (.str u), some (.ref d3), some (.ref l3), some (.ref th), some (.ref lb), none] ∧ Gr [] H8 H' ∧ TD H' d3 (undoN u t2 p2).1 ∧ PL K H' l3 (undoN u t2 p2).2) ?_ ?_
      · refine ws_if (wt_eqS hr (w_var 12 ⟨_, rfl, w_lst (wa_cons (w_str (wa_nil ⟨sz1, fun lm hlm => ⟨lb, lm, _, ["made"], rfl, rfl, Src.ix ((g8.new hlm).at hlb7), Src.ix upd_same, due_ok hu hp2, made_ok, ?_⟩⟩)))⟩))
        have gA : Gr [] H8 (upd H8 lm (.lst [.str "made"])) := Gr.refl.new hlm
        generalize upd H8 lm (.lst [.str "made"]) = HX at gA ⊢
        cases hun : undoL u t2 p2 with
        | none =>
          have e : undoN u t2 p2 = (t2, p2) := by unfold undoN; rw [hun] <;> rfl
          rw [e]
          rw [decide_eq_false (fun z => by obtain ⟨r, hr⟩ := due_made.mp z; rw [hun] at hr; cases hr)]
          exact iteF (wb_nil ⟨d2, l2, rfl, gA, hd8.gx (K := K) gA.gx0, hl8.gx gA.gx0⟩)
        | some r =>
          obtain ⟨t', p'⟩ := r
          have e : undoN u t2 p2 = (t', p') := by unfold undoN; rw [hun] <;> rfl
          rw [e]
          rw [decide_eq_true (due_made.mpr ⟨_, hun⟩)]
          refine iteT (wb_one (ws_asg (w_call (law_undone T.toTl) hq (hr.mono (by decide)) (T.d58.df rfl rfl) paF rfl (wa_cons (w_var 9 ⟨_, rfl, wa_cons (w_var 10 ⟨_, rfl, wa_cons (w_var 8 ⟨_, rfl, wa_nil ⟨d2, l2, u, t2, p2, t', p', rfl, hd8.gx (K := K) gA.gx0, hl8.gx gA.gx0, hw2, hp2, hz2, hun, fun HY r d' l' gY hrY hdY hlY => ?_⟩⟩)⟩)⟩)))))
          exact w_gunl (n := 2) hq.calm ⟨r, _, rfl, Src.ix hrY, rfl, w_gcons (w_gname 9 (w_gcons (w_gname 10 (w_gnil ⟨d', l', rfl, gA.trans gY, hdY, hlY⟩) sc64.nd)) sc64.nd)⟩
      rintro σ H9 ⟨d3, l3, rfl, g9, hd9, hl9⟩
      refine wb_one (ws_if (wt_not (wt_val (w_call (law_same T.toTy) hq.up (hr.mono (by decide)) (T.d59.df rfl rfl) paF rfl (wa_cons (w_var 1 ⟨_, rfl, wa_cons (w_var 6 ⟨_, rfl, wa_cons (w_var 9 ⟨_, rfl, wa_cons (w_var 10 ⟨_, rfl, wa_nil ⟨k, tw, d3, l3, _, _, rfl, ?_, hk, hwn, hpn, (by omega), fun HE' gE' => ⟨true, rfl, ?_⟩⟩⟩)⟩)⟩)⟩))))))
      · exact ⟨(hT7.gr0 g8).gr0 g9, hd9, hl9⟩
      have g7E := (g8.trans g9).trans gE'
      refine iteF (wb_nil ⟨_, _, d3, l3, _, _, rfl, gr7.trans g7E.up, gx07.trans g7E.gx0, (gxF8.trans g9.gx0).trans gE'.gx0, hS7.gr0 g7E, hH7.gr0 g7E, hT7.gr0 g7E, hd9.gx (K := K) gE'.gx0, hl9.gx gE'.gx0, hwn, hpn, by omega⟩)
    · rintro σ H5 ⟨z8, z12, d2, l2, t2, p2, rfl, gr5, gx5, gxF5, hS5, hH5, hT5, hd5, hl5, hw2, hp2, hz2⟩
      exact ⟨z8, z12, d2, l2, t2, p2, rfl, gr5, gx5, hS5, hH5, hT5, hd5, hl5, hw2, hp2, hz2⟩
  rintro σ HG ⟨z8, z12, d2, l2, t2, p2, rfl, grG, gxG, hSG, hHG, hTG, hdG, hlG, hw2, hp2, hz2⟩
  obtain ⟨dxG, ddG, llG, hxG, _, _⟩ := id hSG
  -- the studio goes on
  refine wb_cons (ws_expr (w_meth (studio_make T.toTu) hq (hr.mono (by decide)) cl T.u_makeM (E := fun _ _ _ => False) paF (w_var 2 ⟨_, rfl, x, _, _, rfl, hxG, rfl, wa_cons (w_str (wa_cons (w_tup (wa_cons (w_str (wa_cons (w_str (wa_cons (w_var 5 ⟨_, rfl, wa_nil ⟨sz3, fun p1 hp1 => wa_nil ?_⟩⟩)))))))))⟩)))
  have g6 : Gr [] HG (upd HG p1 (.tup [.str "put", .str "only", .ref wkA])) := Gr.refl.new hp1
  have hp6 : (upd HG p1 (.tup [.str "put", .str "only", .ref wkA])) p1 = some (.tup [.str "put", .str "only", .ref wkA]) := upd_same
  generalize upd HG p1 (.tup [.str "put", .str "only", .ref wkA]) = HI at g6 hp6 ⊢
  refine only_make (hSG.gr0 g6) zoe_u hw hk hpz hp6 (hW.gx (gxG.trans g6.gx0)) hc fun HJ g7 hSJ => ?_
  have gx67 := g7.gxS (hSG.gr0 g6)
  have gxJ := (gxG.trans g6.gx0).trans gx67
  have grJ : Gr [x] H HJ := (grG.trans g6.up).trans g7
  have hHJ := (hHG.gr0 g6).gr g7 (by simp [hthx]) gx67
  have hTJ := (hTG.gr0 g6).gr g7 (by simp [htwx]) gx67
  have hdJ := (hdG.gx (K := K) g6.gx0).gx gx67
  have hlJ := (hlG.gx g6.gx0).gx gx67
  refine wb_cons (ws_if (wt_or2 (wt_not (wt_val (w_call (law_same T.toTy) hq.up (hr.mono (by decide)) (T.d59.df rfl rfl) paF rfl (wa_cons (w_var 1 ⟨_, rfl, wa_cons (w_var 11 ⟨_, rfl, wa_cons (w_var 3 ⟨_, rfl, wa_cons (w_var 4 ⟨_, rfl, wa_nil ⟨k, th, d, l, ts, ps, rfl, ?_, hk, hw, hps, hpz, fun HK gK => ⟨true, rfl, ?_⟩⟩⟩)⟩)⟩)⟩)))))))
  · exact ⟨hHJ, hd.gx gxJ, hl.gx gxJ⟩
  refine iteF (wt_not (wt_val (w_call (law_same T.toTy) hq.up (hr.mono (by decide)) (T.d59.df rfl rfl) paF rfl (wa_cons (w_var 1 ⟨_, rfl, wa_cons (w_var 6 ⟨_, rfl, wa_cons (w_var 9 ⟨_, rfl, wa_cons (w_var 10 ⟨_, rfl, wa_nil ⟨k, tw, d2, l2, t2, p2, rfl, ?_, hk, hw2, hp2, hz2, fun HL gL => ⟨true, rfl, ?_⟩⟩⟩)⟩)⟩)⟩)))))
  · exact ⟨hTJ.gr0 gK, hdJ.gx (K := K) gK.gx0, hlJ.gx gK.gx0⟩
  refine iteF (wb_nil ?_)
  have gJL := gK.trans gL
  refine wb_one (ws_ret (w_and (w_cmp (op_eqD (by have := RoomH.u hr; omega)) (w_call (law_back T.toTy) hq (hr.mono (by decide)) (T.d56.df rfl rfl) paF rfl (wa_cons (w_var 2 ⟨_, rfl, wa_cons (w_str (wa_nil (only_back_law (hSJ.gr0 gJL) zoe_u hw hc hps (by omega) honly fun HM lb g9 hSM hlb => ?_)))⟩))))))
  refine w_lst (wa_cons (w_str (wa_nil ⟨sz1, fun lm hlm => ?_⟩)))
  have gM : Gr [] HM (upd HM lm (.lst [.str "made"])) := Gr.refl.new hlm
  have hlm' : (upd HM lm (.lst [.str "made"])) lm = some (.lst [.str "made"]) := upd_same
  generalize upd HM lm (.lst [.str "made"]) = HN at gM hlm' ⊢
  refine ⟨_, _, .lst (Src.ix (gM.at hlb)) (dpAll_strs ["made"]), .lst (Src.ix hlm') (dpAll_strs ["made"]), sh_list made_ok, sh_list made_ok, ?_⟩
  rw [eqv_list, decide_eq_true rfl]
  have gxL9 := g9.gxS (hSJ.gr0 gJL)
  have gxN := (((gxJ.trans gJL.gx0).trans gxL9).trans gM.gx0)
  have grN : Gr [x] H HN := ((grJ.trans gJL.up).trans g9).trans gM.up
  refine ⟨true, rfl, iteT (w_one (w_call (law_same T.toTy) hq.up (hr.mono (by decide)) (T.d59.df rfl rfl) paF rfl (wa_cons (w_var 1 ⟨_, rfl, wa_cons (w_var 11 ⟨_, rfl, wa_cons (w_var 3 ⟨_, rfl, wa_cons (w_var 4 ⟨_, rfl, wa_nil ⟨k, th, d, l, ts, ps, rfl, ?_, hk, hw, hps, hpz, fun HZ gZ => ?_⟩⟩)⟩)⟩)⟩))))⟩
  · exact ⟨((hHJ.gr0 gJL).gr g9 (by simp [hthx]) gxL9).gr0 gM, hd.gx gxN, hl.gx gxN⟩
  exact q _ (grN.trans gZ.up) (gxN.trans gZ.gx0) ((hSM.gr0 gM).gr0 gZ)
end
end K6

/-! ## L19 -/
namespace K6
open PySem PySem.Spec PyProof.Rows L2
open LamX (CodeO TabS TabB)
theorem cmd_F {c : Str} (h : c.cps.size ≤ 5) (hc : ∀ n ∈ c.cps.toList, isCmd n = true) : Cmd (("F" : Str) ++ c) ∧ (("F" : Str) ++ c).cps.size ≤ 6 := by
  have e : (("F" : Str) ++ c).cps.toList = 70 :: c.cps.toList := by
    rw [str_app_list] <;> rfl
  have hs : (("F" : Str) ++ c).cps.size ≤ 6 := by
    rw [← Array.length_toList, e, List.length_cons, Array.length_toList]
    omega
  refine ⟨⟨Nat.le_trans hs (by decide), fun n hn => ?_⟩, hs⟩
  rw [e] at hn
  rcases List.mem_cons.mp hn with rfl | hn
  · rfl
  · exact hc n hn
theorem SqL.tabs {K : PySem.W.Frag} {H H' : Hp} {a : Addr} {xs : List V} {M : List Addr} (h : SqL K H a xs) (hM : ∀ m ∈ M, ∃ ps, H m = some (.tbl ps)) (g : Gr M H H') : SqL K H' a xs := by
  have keep : ∀ {o : HO}, H a = some o → (∀ ps, o ≠ .tbl ps) → H' a = some o := fun e n => g.keep _ _ (fun z => by
    obtain ⟨ps, hp⟩ := hM a z
    rw [hp] at e
    exact n ps (Option.some.inj e).symm) e
  rcases h with (h | ⟨o, h⟩) | h
  · exact .inl (.inl (keep h (fun _ z => nomatch z)))
  · exact .inl (.inr ⟨o, keep h (fun _ z => nomatch z)⟩)
  · exact .inr h
theorem look_eq {ts : Tm} {ys : List Str} (hs : IsSet ys (nms ts)) (hw : Wf ts) : (look ys ts).length = ts.length ∧ ∀ p ∈ look ys ts, valA ts p.1 = some p.2 := by
  refine ⟨?_, fun p hp => ?_⟩
  · have h1 : nms (look ys ts) = ys := by
      rw [nms_look, List.filter_eq_self]
      intro n hn
      exact valA_mem.mpr ((hs.mem n).mp hn)
    have h2 : (look ys ts).length = (nms (look ys ts)).length := by rw [List.length_map]
    rw [h2, h1, ((List.perm_ext_iff_of_nodup hs.nd hw.nd).mpr hs.mem).length_eq, List.length_map]
  · obtain ⟨n, _, e⟩ := List.mem_filterMap.mp hp
    obtain ⟨c, hc, rfl⟩ := Option.map_eq_some_iff.mp e
    exact hc
section
variable {P : Program} {w : World} {K : PySem.W.Frag} {mg : Str → Option Value} {base : Heap}
abbrev N65 : List Str := ["_law_script", "_law_k", "_law_source_here", "_law_kind_here", "_law_walk", "_law_studio", "_law_texts", "_law_past", "_law_other", "_law_name", "e"]
theorem sc65 : FnScope N65 ["_law_script"] (scL 65) := ⟨rfl, rfl, rfl, by decide +kernel, rfl, by decide +kernel, by decide +kernel⟩
abbrev T3 (K : PySem.W.Frag) : List Addr := [tbA K "_law_visit", tbA K "_law_tried", tbA K "law"]
structure Tbs (K : PySem.W.Frag) (H : Hp) : Prop where
  v : Tbl K H "_law_visit"
  t : Tbl K H "_law_tried"
  l : Tbl K H "law"
theorem Tbs.gr {H H' : Hp} {M : List Addr} (h : Tbs K H) (g : Gr M H H') (gx : Gx K H H') (hM : ∀ a ∈ M, a ∉ T3 K) : Tbs K H' :=
  ⟨h.v.gr g gx fun z => hM _ z (by simp), h.t.gr g gx fun z => hM _ z (by simp), h.l.gr g gx fun z => hM _ z (by simp)⟩
theorem Tbs.gr0 {H H' : Hp} (h : Tbs K H) (g : Gr [] H H') : Tbs K H' := h.gr (K := K) g g.gx0 (fun _ z => absurd z (by simp))
theorem Tbs.tb {H : Hp} (h : Tbs K H) : ∀ m ∈ T3 K, ∃ ps, H m = some (.tbl ps) := by
  obtain ⟨⟨p1, h1, _⟩, ⟨p2, h2, _⟩, ⟨p3, h3, _⟩⟩ := h
  intro m hm
  simp only [List.mem_cons, List.not_mem_nil, or_false] at hm
  rcases hm with rfl | rfl | rfl
  · exact ⟨_, h1⟩
  · exact ⟨_, h2⟩
  · exact ⟨_, h3⟩
theorem Tbs.not {H : Hp} {a : Addr} {o : HO} (h : Tbs K H) (ha : H a = some o) (n : ∀ ps, o ≠ .tbl ps) : a ∉ T3 K := fun z => by
  obtain ⟨ps, hp⟩ := h.tb a z
  rw [hp] at ha
  exact n ps (Option.some.inj ha).symm
def spLaw (K : PySem.W.Frag) : Sp := fun vs H Q _ => ∃ (a : Addr) (ns : List Int), vs = [.ref a] ∧ SqL K H a (ns.map V.int) ∧ ns.length ≤ 63 ∧ Tbs K H ∧ ∀ H', Q (.bl true) H'
/-- what stands between two turns -/
structure Turn' (K : PySem.W.Frag) (H H' : Hp) : Prop where
  gr : Gr (T3 K) H H'
  gx : Gx K H H'
  tb : Tbs K H'
end
end K6

/-! ## L20 -/
namespace K6
open PySem PySem.Spec PyProof.Rows L2
open LamX (CodeO TabS TabB)
/-- the body of the j-th statement, a for -/
def forB (l : List Stmt) (j : Nat) : List Stmt := match l[j]? with
  | some (.For _ _ b _ _) => b
  | _ => []
section
variable {P : Program} {w : World} {K : PySem.W.Frag} {mg : Str → Option Value} {base : Heap}
theorem law_body (T : Ti K w mg) (hTv : TB K mg base "_law_visit") (hTt : TB K mg base "_law_tried") (hTl : TB K mg base "law") {A : Around} {outer : List Env} {s0 : Shared} {H : Hp} {vs : List V} {Q : VK} {E : XK}
    (hq : Qk false (cxQ P w K mg base N65 "law" (scL 65) (ga K "law") (.ref (cdA K "law")) A outer s0 H E none)) (hr : L2H.RoomH 36 (cxQ P w K mg base N65 "law" (scL 65) (ga K "law") (.ref (cdA K "law")) A outer s0 H E none).A) (h : spLaw K vs H Q E) :
    wB (cxQ P w K mg base N65 "law" (scL 65) (ga K "law") (.ref (cdA K "law")) A outer s0 H E none) (defBody (topS 65)) { nx := fun _ H' => Q .non H', rt := Q } (L2.start N65 vs) H := by
  obtain ⟨a, ns, rfl, ha, hz, tb0, q⟩ := h
  have hcalm := hq.calm
  have cl := T.stu.cl
  refine wb_cons (w_for ownsQ hq (wi_range T.rng rfl (wa_cons (w_blt (call_max2 hcalm) T.maxN rfl (wa_cons (w_int (wa_cons (w_blt (call_min2 hcalm) T.minN rfl (wa_cons (w_blt call_len T.len rfl (wa_cons (w_var 0 ⟨_, rfl, wa_nil ⟨_, ns.length, rfl, .inl ⟨ns.map V.int, ha, by rw [List.length_map]⟩, wa_cons (w_int (wa_nil ⟨_, _, rfl, wa_nil ⟨_, _, rfl, wa_nil ⟨_, rfl, by (repeat' split) <;> omega, by (repeat' split) <;> omega, ?_⟩⟩⟩))⟩⟩))))))))))))
  refine for_wk wk_range (fun i σ H' => ∃ z1 z2 z3 z4 z5 z6 z7 z8 z9 z10, σ = [some (.ref a), z1, z2, z3, z4, z5, z6, z7, z8, z9, z10] ∧ Turn' K H H') ⟨none, none, none, none, none, none, none, none, none, none, rfl, Gr.refl, Gx.refl, tb0⟩ (fun _ _ _ _ => trivial) ?_ ?_
  · rintro i y σ H1 hy ⟨z1, z2, z3, z4, z5, z6, z7, z8, z9, z10, rfl, gr1, gx1, tb1⟩
    obtain ⟨hi, rfl⟩ := rng_at hy
    have hi8 : i ≤ 8 := by
      revert hi
      (repeat' split) <;> omega
    clear hi hy
    refine w_gname 1 ?_ sc65.nd
    -- source, kind, walk
    refine wb_cons (ws_set 2 sc65.nd (w_call (law_source T.toTl) hq (hr.mono (by decide)) (T.d47.df rfl rfl) paF rfl (wa_cons (w_var 0 ⟨_, rfl, wa_cons (w_var 1 ⟨_, rfl, wa_nil ⟨a, ns, i, rfl, SqL.tabs ha tb0.tb gr1, by omega, hi8, fun s H2 hs0 g2 hs2 => ?_⟩⟩)⟩))))
    have tb2 := tb1.gr0 g2
    refine wb_cons (ws_set 3 sc65.nd (w_call (law_kind T.toTl) hq (hr.mono (by decide)) (T.d49.df rfl rfl) paF rfl (wa_cons (w_var 2 ⟨_, rfl, wa_nil ⟨s, rfl, hs2, fun k H3 hk g3 gx3 hs3 => ?_⟩⟩))))
    have hsT : s ∉ T3 K := by
      obtain ⟨n', sd', h', _⟩ := id hs2
      exact tb2.not h' (fun _ z => nomatch z)
    have tb3 := tb2.gr g3 gx3 (fun a ha => by rw [List.mem_singleton.mp ha]; exact hsT)
    refine wb_cons (ws_set 4 sc65.nd (w_walk T.toTx hq.up (hr.mono (by decide)) rfl (wa_cons (w_var 3 ⟨_, rfl, wa_cons (w_op op_add_str (w_str (w_call (law_text T.toTl) hq (hr.mono (by decide)) (T.d51.df rfl rfl) paF rfl (wa_cons (w_var 2 ⟨_, rfl, wa_cons (w_int (wa_nil ⟨s, 5, rfl, by decide, hs3, fun c0 H4 hc0 hcc g4 gx4 hs4 => ⟨_, _, rfl, rfl, szm (by show 1 + c0.cps.size ≤ _; omega), wa_nil ?_⟩⟩))⟩)))))⟩))))
    obtain ⟨hc, h6⟩ := cmd_F hc0 hcc
    generalize (("F" : Str) ++ c0) = c at hc h6 ⊢
    refine ⟨k, c, rfl, hk, hc, fun wk H5 hwk g5 hW5 => ?_⟩
    have tb5 := (tb3.gr g4 gx4 (fun a ha => by rw [List.mem_singleton.mp ha]; exact hsT)).gr0 g5
    have hs5 := hs4.gr g5 (by simp)
    -- the studio
    refine wb_cons (ws_asg (w_call (law_started T.toTy) hq (hr.mono (by decide)) (T.d60.df rfl rfl) paF rfl (wa_cons (w_var 2 ⟨_, rfl, wa_cons (w_var 3 ⟨_, rfl, wa_nil ⟨s, k, rfl, hk, hs5, fun r x d l ts ps H6 hx5 g6 gx6 hs6 hr6 hB6 => ?_⟩⟩)⟩))))
    refine w_gunl (n := 3) hcalm ⟨r, _, rfl, Src.ix hr6, rfl, w_gcons (w_gname 5 (w_gcons (w_gname 6 (w_gcons (w_gname 7 (w_gnil ?_) sc65.nd)) sc65.nd)) sc65.nd)⟩
    have hW6 := hW5.gx gx6
    have tb6 := tb5.gr g6 gx6 (fun a ha => by rw [List.mem_singleton.mp ha]; exact hsT)
    obtain ⟨⟨hS6, hd6, hl6⟩, hw, hb4, hps, hfew⟩ := id hB6
    have hpz : ps.length ≤ 1000 := by omega
    have gx16 : Gx K H1 H6 := (((g2.gx0.trans gx3).trans gx4).trans g5.gx0).trans gx6
    have hN : ∀ a ∈ [s], H1 a = none ∨ a ∈ T3 K := fun a ha => .inl (by rw [List.mem_singleton.mp ha]; exact hs0)
    have gr15 : Gr (T3 K) H1 H5 := ((g2.up.then g3 hN).then g4 hN).trans g5.up
    have gr16 : Gr (T3 K) H1 H6 := gr15.then g6 hN
    have hx1 : H1 x = none := gr15.free _ hx5
    have hNx : ∀ a ∈ [x], H1 a = none ∨ a ∈ T3 K := fun a ha => .inl (by rw [List.mem_singleton.mp ha]; exact hx1)
    -- as it was begun
    refine wb_cons (ws_if (wt_or2 (wt_not (wt_val (w_call (law_same T.toTy) hq.up (hr.mono (by decide)) (T.d59.df rfl rfl) paF rfl (wa_cons (w_var 3 ⟨_, rfl, wa_cons (w_var 5 ⟨_, rfl, wa_cons (w_var 6 ⟨_, rfl, wa_cons (w_var 7 ⟨_, rfl, wa_nil ⟨k, x, d, l, ts, ps, rfl, ?_, hk, hw, hps, hpz, fun H7 g7 => ⟨true, rfl, ?_⟩⟩⟩)⟩)⟩)⟩)))))))
    · exact ⟨hS6, hd6, hl6⟩
    have hB7 : Begun K H7 k x d l ts ps := ⟨⟨hS6.gr0 g7, hd6.gx (K := K) g7.gx0, hl6.gx g7.gx0⟩, hw, hb4, hps, hfew⟩
    have tb7 := tb6.gr0 g7
    have hxT : x ∉ T3 K := by
      obtain ⟨dx, d0, l0, hx7, _⟩ := hB7.same.st
      exact tb7.not hx7 (fun _ z => nomatch z)
    refine iteF (wt_not (wt_val (w_call (law_right T hTv hTt) hq (hr.mono (by decide)) (T.d63.df rfl rfl) paF rfl (wa_cons (w_var 3 ⟨_, rfl, wa_cons (w_var 5 ⟨_, rfl, wa_cons (w_var 6 ⟨_, rfl, wa_cons (w_var 7 ⟨_, rfl, wa_cons (w_var 4 ⟨_, rfl, wa_nil ⟨k, x, d, l, wk, c, ts, ps, rfl, hB7, hk, hW6.gx g7.gx0, hc, h6, tb7.v, tb7.t, fun H8 st8 => ⟨true, rfl, ?_⟩⟩⟩)⟩)⟩)⟩)⟩)))))
    refine iteF (wb_nil ?_)
    obtain ⟨gr8, gx8, tv8, tt8, hS8⟩ := st8
    have hxT' : x ≠ tbA K "law" := fun e => hxT (by simp [e])
    have hnl : tbA K "law" ∉ [x, tbA K "_law_visit", tbA K "_law_tried"] := by
      intro z
      simp only [List.mem_cons, List.not_mem_nil, or_false] at z
      rcases z with z | z | z
      · exact hxT' z.symm
      · exact T.t13 z.symm
      · exact T.t23 z.symm
    have tl8 : Tbl K H8 "law" := tb7.l.gr gr8 gx8 hnl
    have gx68 := g7.gx0.trans gx8
    have hB8 : Begun K H8 k x d l ts ps := ⟨⟨hS8, hd6.gx gx68, hl6.gx gx68⟩, hw, hb4, hps, hfew⟩
    have tb8 : Tbs K H8 := ⟨tv8, tt8, tl8⟩
    have gr18 : Gr (T3 K) H1 H8 := (gr16.trans g7.up).then gr8 fun a ha => by
      simp only [List.mem_cons, List.not_mem_nil, or_false] at ha ⊢
      rcases ha with h | h | h
      · exact .inl (by rw [h]; exact hx1)
      · exact .inr (.inl h)
      · exact .inr (.inr (.inl h))
    have gx18 := gx16.trans gx68
    -- copies
    refine wb_cons (ws_if (wt_not (wt_val (w_call (law_copy T) hq (hr.mono (by decide)) (T.d64.df rfl rfl) paF rfl (wa_cons (w_var 2 ⟨_, rfl, wa_cons (w_var 3 ⟨_, rfl, wa_cons (w_var 5 ⟨_, rfl, wa_cons (w_var 6 ⟨_, rfl, wa_cons (w_var 7 ⟨_, rfl, wa_cons (w_var 4 ⟨_, rfl, wa_nil ⟨s, k, x, d, l, wk, c, ts, ps, rfl, hB8, hk, hW6.gx gx68, hc, fun H9 g9 gx9 hS9 => ⟨true, rfl, ?_⟩⟩⟩)⟩)⟩)⟩)⟩)⟩))))))
    refine iteF (wb_nil ?_)
    have tb9 := tb8.gr g9 gx9 (fun a ha => by rw [List.mem_singleton.mp ha]; exact hxT)
    have gr19 : Gr (T3 K) H1 H9 := gr18.then g9 hNx
    have gx19 := gx18.trans gx9
    have hd9 : TD H9 d ts := (hd6.gx gx68).gx gx9
    have hl9 : PL K H9 l ps := (hl6.gx gx68).gx gx9
    -- another studio
    refine wb_cons (ws_set 8 sc65.nd (w_studio T.toTw hq (hr.mono (by decide)) rfl (wa_cons (w_var 3 ⟨_, rfl, wa_nil ⟨k, rfl, hk, fun ot HA hot gA hOA => ?_⟩⟩))))
    have hotx : ot ≠ x := (hS9.ne hot).symm
    have hot1 : H1 ot = none := gr19.free _ hot
    obtain ⟨od, kvs, hdo, rkv⟩ := id (hd9.gx (K := K) gA.gx0)
    have hw9 := hw.len
    refine wb_cons (w_for ownsQ hq (wi_list (wE_locked (w_blt (call_sortedQ hq) T.srt rfl (wa_cons (w_var 6 ⟨_, rfl, wa_nil ⟨d, kvs, nms ts, rfl, .inr ⟨od, hdo⟩, rkv.keys, (by rw [List.length_map]; omega), fun ys py hpm hso hpy => ⟨py, _, rfl, upd_same, trivial, fun oy => ?_⟩⟩⟩))))))
    rw [upd_upd]
    have hys : IsSet ys (nms ts) := .of hpm hso hw.nd
    have gB : Gr [] HA (upd HA py (.frz oy (.lst (ys.map V.str)))) := Gr.refl.new hpy
    have hpyB : (upd HA py (.frz oy (.lst (ys.map V.str)))) py = some (.frz oy (.lst (ys.map V.str))) := upd_same
    generalize upd HA py (.frz oy (.lst (ys.map V.str))) = HB at gB hpyB ⊢
    refine ⟨py, ys.map V.str, rfl, .inl (.inr ⟨oy, hpyB⟩), fun J wkJ => ?_⟩
    have g9B := gA.trans gB
    have tbB := tb9.gr0 g9B
    have hSB := hS9.gr0 g9B
    have gr1B := gr19.trans g9B.up
    have gx1B := gx19.trans g9B.gx0
    have hNo : ∀ a ∈ [ot], H1 a = none ∨ a ∈ T3 K := fun a ha => .inl (by rw [List.mem_singleton.mp ha]; exact hot1)
    have hotT : ot ∉ T3 K := by
      obtain ⟨dx, d0, l0, hx7, _⟩ := hOA.gr0 gB
      exact tbB.not hx7 (fun _ z => nomatch z)
    refine for_wk wkJ (fun j σ H' => ∃ z9 ss, σ = [some (.ref a), some (.int (i : Nat)), some (.ref s), some (.str k), some (.ref wk), some (.ref x), some (.ref d), some (.ref l), some (.ref ot), z9, z10] ∧ Gr [ot] HB H' ∧ Gx K HB H' ∧ Std K H' ot k (look (ys.take j) ts) ss ∧ ss.length = j) ⟨z9, [], rfl, Gr.refl, Gx.refl, hOA.gr0 gB, rfl⟩ (fun j σ H' h => by obtain ⟨_, _, _, _, gx, _⟩ := h; exact .inl (.inr ⟨oy, gx.keep _ _ trivial hpyB⟩)) ?_ ?_
    · rintro j y σ HC hy ⟨z9, ss, rfl, gC, gxC, hOC, hssl⟩
      obtain ⟨n, hn, rfl⟩ := str_get hy
      have hjl : j < ys.length := (List.getElem?_eq_some_iff.mp hn).1
      have hyl : ys.length = ts.length := by rw [hpm.length_eq, List.length_map]
      have hnm : n ∈ nms ts := (hys.mem n).mp (List.mem_of_getElem? hn)
      obtain ⟨cm, hcm⟩ : ∃ cm, valA ts n = some cm := Option.isSome_iff_exists.mp (valA_mem.mpr hnm)
      have hdC : TD HC d ts := (hd9.gx (K := K) g9B.gx0).gx gxC
      have hdg : DGet HC d (.str n) (some (.str cm)) := by
        rcases hdC.get n with ⟨z, _⟩ | ⟨c', z, zz⟩
        · rw [hcm] at z; cases z
        · rw [hcm] at z; cases z; exact zz
      obtain ⟨dxo, ddo, llo, hoo, _, _⟩ := id hOC
      refine w_gname 9 ?_ sc65.nd
      refine wb_one (ws_expr (w_meth (studio_make T.toTu) hq (hr.mono (by decide)) cl T.u_makeM (E := fun _ _ _ => False) paF (w_var 8 ⟨_, rfl, ot, _, _, rfl, hoo, rfl, wa_cons (w_str (wa_cons (w_tup (wa_cons (w_str (wa_cons (w_var 9 ⟨_, rfl, ?_⟩)))))))⟩)))
      refine wa_cons (w_walk T.toTx hq.up (hr.mono (by decide)) rfl (wa_cons (w_var 3 ⟨_, rfl, wa_cons (w_dget hr (w_var 6 ⟨_, rfl, w_var 9 ⟨_, rfl, d, .str cm, rfl, hdg, wa_nil ⟨k, cm, rfl, hk, hw.val hcm, fun wp HX hwp gX hWX => wa_nil ⟨sz3, fun p1 hp1 => wa_nil ?_⟩⟩⟩⟩))⟩)))
      have gp : Gr [] HX (upd HX p1 (.tup [.str "put", .str n, .ref wp])) := Gr.refl.new hp1
      have hpp : (upd HX p1 (.tup [.str "put", .str n, .ref wp])) p1 = some (.tup [.str "put", .str n, .ref wp]) := upd_same
      generalize upd HX p1 (.tup [.str "put", .str n, .ref wp]) = HY at gp hpp ⊢
      have gXY := gX.trans gp
      have hwl : Wf (look (ys.take j) ts) := hw.look (hys.nd.sublist (List.take_sublist _ _))
      refine ⟨ot, "zoe", k, _, ss, hOC.gr0 gXY, zoe_u, hwl, hk, by omega, .inl ⟨[p1], [.put n cm], rfl, by simp, by simp, .cons ⟨⟨wp, hpp, hWX.gx gp.gx0⟩, hw.un n hnm, hw.val hcm⟩ .nil, ?_⟩⟩
      unfold MkOut
      rw [runs_one]
      intro H' ns' hns g hS'
      have hnew : n ∉ nms (look (ys.take j) ts) := fun z => nodup_take hys.nd hn (mem_look z)
      have gxS := g.gxS (hOC.gr0 gXY)
      refine ⟨_, _, rfl, (gC.trans gXY.up).trans g, (gxC.trans gXY.gx0).trans gxS, (by rw [look_snoc hn, hcm]; rw [putA_new hnew] at hS'; exact hS'), by rw [List.length_append, List.length_singleton, hssl]⟩
    rintro σ HC ⟨z9, ss, rfl, gC, gxC, hOC, hssl⟩
    rw [List.length_map, List.take_length] at hOC
    obtain ⟨e1, e2⟩ := look_eq hys hw
    have gr1C := gr1B.then gC hNo
    have gx1C := gx1B.trans gxC
    have tbC := tbB.gr gC gxC (fun a ha => by rw [List.mem_singleton.mp ha]; exact hotT)
    have hSC := hSB.gr gC (by simp [Ne.symm hotx]) gxC
    have hdC : TD HC d ts := (hd9.gx (K := K) g9B.gx0).gx gxC
    have hlC : PL K HC l ps := (hl9.gx g9B.gx0).gx gxC
    obtain ⟨dxo, ddo, llo, hoo, _, _⟩ := id hOC
    obtain ⟨odC, kvC, hdoC, _⟩ := id hdC
    refine wb_cons (ws_if (wt_or3 (wt_not (wt_cmp (op_eqR (studio_eq T.toTv) hq (hr.mono (by decide)) T.u_eqM (fun _ => paF)) (w_var 8 ⟨_, rfl, w_var 5 ⟨_, rfl, ot, _, _, _, rfl, hoo, .inl (std_ty T.toTw hSC), T.u_notF, ot, k, _, _, .ref x, rfl, hOC, .inl ⟨x, k, ts, _, rfl, hSC, .inr (.inr ⟨rfl, e1, e2, _, rfl, ?_⟩)⟩⟩⟩)))))
    refine iteF (wt_cmp (op_eqR (studio_eq T.toTv) hq (hr.mono (by decide)) T.u_eqM (fun _ => paF)) (w_var 8 ⟨_, rfl, w_var 6 ⟨_, rfl, ot, _, _, _, rfl, hoo, .inr ⟨d, odC, kvC, rfl, hdoC, rfl⟩, T.u_notD, ot, k, _, _, .ref d, rfl, hOC, .inr ⟨d, ts, rfl, hdC, _, rfl, ?_⟩⟩⟩))
    refine iteF (wt_cmp (op_eqR (studio_eq T.toTv) hq (hr.mono (by decide)) T.u_eqM (fun _ => paF)) (w_studio T.toTw hq (hr.mono (by decide)) rfl (wa_cons (w_str (wa_nil ⟨"square", rfl, .inl rfl, fun o1 HD ho1 gD hO1 => ?_⟩)))))
    refine w_studio T.toTw hq (hr.mono (by decide)) rfl (wa_cons (w_str (wa_nil ⟨"triangle", rfl, .inr rfl, fun o2 HE ho2 gE hO2 => ?_⟩)))
    obtain ⟨dx1, dd1, ll1, ho11, _, _⟩ := id (hO1.gr0 gE)
    refine ⟨o1, _, _, _, rfl, ho11, .inl (std_ty T.toTw hO2), T.u_notF, o1, "square", [], [], .ref o2, rfl, hO1.gr0 gE, .inl ⟨o2, "triangle", [], [], rfl, hO2, .inl ⟨by decide +kernel, _, rfl, ?_⟩⟩⟩
    refine iteF (wb_nil ?_)
    have gCE := gD.trans gE
    have gr1E := gr1C.trans gCE.up
    have gx1E := gx1C.trans gCE.gx0
    have tbE := tbC.gr0 gCE
    have hSE := hSC.gr0 gCE
    have hdE := hdC.gx (K := K) gCE.gx0
    have hlE := hlC.gx gCE.gx0
    obtain ⟨dxE, ddE, llE, hxE, _, _⟩ := id hSE
    have hno : valA ts "nobody" = none := by
      rw [valA_none]
      exact fun z => absurd (hb4 _ z) (by decide +kernel)
    have hpst : (ps.map stp).length ≤ 1000 := by rw [List.length_map]; exact hpz
    -- an attempt that is refused
    refine wb_one ?_
    with_reducible refine w_try (Wout := fun cls d _ H => E cls d H) (l := [(.ref (ga K "UnknownName"), 10, sui (forB (defBody (topS 65)) 0) 9 0)]) ?hs ?hf ?hN ?tk ?hh ?hb
    case hs => rfl
    case hf => rfl
    case hN => exact sc65.nd
    case tk => exact takesQ
    case hh =>
      refine HdsC.cons ?_ rfl rfl HdsC.nil
      exact ⟨rfl, by decide, .inl T.eUnk.xc.mg⟩
    intro pn xe hpn tk
    refine wb_cons (ws_expr (w_att (k := 0) (spv := fun _ _ _ _ => False) T.toTq rfl (hr.mono (by decide)) (paT tk) hTl rfl (lamS1_by (p := "_law_inner") (N := N65) (sc := scL 65) (by decide +kernel)) ?_ ?_ (w_var 5 ⟨_, rfl, x, _, _, rfl, hxE, rfl, tbE.l, fun HF fl gF hTF => ?_⟩)))
    · intro A2 outer2 s2 f c' HL v QL EL hrL hsp
      exact hsp.elim
    · intro vs' H' Q' E' h
      exact h.elim
    have gxF : Gx K HE HF := gF.gx fun a ha o e => by
      obtain ⟨pp, hpp, _⟩ := id tbE.l
      rw [List.mem_singleton.mp ha, hpp] at e
      cases e
      exact fun z => z
    have hSF : Std K HF x k ts (ps.map stp) := hSE.gr gF (by simp [hxT']) gxF
    refine wa_cons (w_tup (wa_cons (w_str (wa_cons (w_str (wa_nil ⟨sz2, fun p1 hp1 => wa_nil ?_⟩))))))
    have gG : Gr [] HF (upd HF p1 (.tup [.str "drop", .str "nobody"])) := Gr.refl.new hp1
    have hpG : (upd HF p1 (.tup [.str "drop", .str "nobody"])) p1 = some (.tup [.str "drop", .str "nobody"]) := upd_same
    generalize upd HF p1 (.tup [.str "drop", .str "nobody"]) = HG at gG hpG ⊢
    refine ⟨gG, x, [p1], [.drop "nobody"], k, ts, ps.map stp, [], rfl, hSF.gr0 gG, hw, hk, hpst, by simp, by simp, .cons ⟨hpG, (by decide +kernel : ("nobody" : Str) ∈ Univ)⟩ .nil, (fun m hm => absurd hm (by simp)), ?_⟩
    unfold AttOut
    rw [show runs ts [.drop "nobody"] = .unk "nobody" from by simp [runs, run, hno]]
    intro HH dd gH hSH hdd
    have gxH := gH.gxS (hSF.gr0 gG)
    have gxEH := (gxF.trans gG.gx0).trans gxH
    have gr1H : Gr (T3 K) H1 HH := ((gr1E.then gF fun a ha => .inr (by rw [List.mem_singleton.mp ha]; simp)).trans gG.up).then gH hNx
    have gx1H := gx1E.trans gxEH
    have tbF : Tbs K HF := ⟨tbE.v.gr gF gxF (by simp [T.t13]), tbE.t.gr gF gxF (by simp [T.t23]), hTF⟩
    have tbH := (tbF.gr0 gG).gr gH gxH (fun a ha => by rw [List.mem_singleton.mp ha]; exact hxT)
    refine ⟨true, T.xUU, fun _ ae oe pn' hae hz hf _ => ?_, fun z => nomatch z⟩
    refine wb_one (ws_if (wt_or2 (wt_cmp op_ne (w_xf T.fU T.nU hz hf (w_var 10 ⟨_, rfl, rfl, dd, _, _, rfl, hdd, rfl, w_str ⟨rfl, _, rfl, ?_⟩⟩)))))
    rw [decide_eq_true rfl]
    have hr6 : L2H.RoomH 6 ((cxQ P w K mg base N65 "law" (scL 65) (ga K "law") (.ref (cdA K "law")) A outer s0 H E none).suite ae ((ae, oe) :: pn')).A := ⟨(hr.mono (j := 6) (by decide)).dp, (hr.mono (j := 6) (by decide)).un⟩
    refine iteF (wt_not (wt_val (w_call (law_same T.toTy) (hot_suite hz hf) hr6 (T.d59.df rfl rfl) paF rfl (wa_cons (w_var 3 ⟨_, rfl, wa_cons (w_var 5 ⟨_, rfl, wa_cons (w_var 6 ⟨_, rfl, wa_cons (w_var 7 ⟨_, rfl, wa_nil ⟨k, x, d, l, ts, ps, rfl, ?_, hk, hw, hps, hpz, fun HI gI => ⟨true, rfl, ?_⟩⟩⟩)⟩)⟩)⟩)))))
    · exact ⟨hSH, hdE.gx gxEH, hlE.gx gxEH⟩
    exact iteF (wb_nil ⟨_, _, _, _, _, _, _, _, _, _, rfl, (gr1.trans gr1H).trans gI.up, (gx1.trans gx1H).trans gI.gx0, tbH.gr0 gI⟩)
  rintro σ H2 ⟨z1, z2, z3, z4, z5, z6, z7, z8, z9, z10, rfl, _⟩
  exact wb_one (ws_ret (w_bl (q H2)))
end
end K6

/-! ## H1 -/
namespace K6
open PySem PySem.Spec PyProof.Rows L2
theorem facts_of {K : PySem.W.Frag} {w : World} {h : Heap} {mg : Str → Option Value} (KX : K.In h) (G : h.Ns mainGlobals mg) (c : He.SaysX Qfa Qfn Qts Qtf Qex w h K) (c2 : ∀ (i : Nat) {d : Gd}, Qgt[i]? = some d → gtW K d = d.val ∧ d.ok K = true) : Ti K w mg := by
  have D := c.t.d
  exact {
    isi := (He.free_ok KX G (D.fact 0 (f := .free "isinstance") rfl))
    len := (He.free_ok KX G (D.fact 1 (f := .free "len") rfl))
    all := (He.free_ok KX G (D.fact 2 (f := .free "all") rfl))
    srt := (He.free_ok KX G (D.fact 3 (f := .free "sorted") rfl))
    rng := (He.free_ok KX G (D.fact 4 (f := .free "range") rfl))
    str := (He.free_ok KX G (D.fact 5 (f := .free "str") rfl))
    lst := (He.free_ok KX G (D.fact 6 (f := .free "list") rfl))
    cg := (of_decide_eq_true (exA c.more 0 rfl))
    ct := (of_decide_eq_true (exA c.more 1 rfl))
    wal := ⟨(He.glo_ok KX G (D.fact 7 (f := .glo "Walk") rfl)), (He.cls_ok (D.fact 8 (f := .cls "Walk") rfl)), (He.mkr_ok (D.fact 9 (f := .mkr "Walk") rfl)), (of_decide_eq_true (exA c.more 2 rfl)), (of_decide_eq_true (exA c.more 3 rfl))⟩
    d20 := ⟨(He.glo_ok KX G (D.fact 10 (f := .glo "is_net") rfl)), (funD_fun (D.def_ 0 (d := dd_0) rfl))⟩
    d21 := ⟨(He.glo_ok KX G (D.fact 11 (f := .glo "check_net") rfl)), (funD_fun (D.def_ 1 (d := dd_1) rfl))⟩
    d23 := ⟨(He.glo_ok KX G (D.fact 12 (f := .glo "heading_count") rfl)), (funD_fun (D.def_ 2 (d := dd_2) rfl))⟩
    d24 := ⟨(He.glo_ok KX G (D.fact 13 (f := .glo "step_of") rfl)), (funD_fun (D.def_ 3 (d := dd_3) rfl))⟩
    d25 := ⟨(He.glo_ok KX G (D.fact 14 (f := .glo "added") rfl)), (funD_fun (D.def_ 4 (d := dd_4) rfl))⟩
    d26 := ⟨(He.glo_ok KX G (D.fact 15 (f := .glo "scaled") rfl)), (funD_fun (D.def_ 5 (d := dd_5) rfl))⟩
    d30 := ⟨(He.glo_ok KX G (D.fact 16 (f := .glo "all_moves") rfl)), (funD_fun (D.def_ 6 (d := dd_6) rfl))⟩
    stepsG := (He.glo_ok KX G (D.fact 17 (f := .glo "STEPS") rfl))
    stepsD := (c.t.tab 0)
    stepsV := steps_ok (exA c.more 4 rfl) (exA c.more 5 rfl)
    changesG := (He.glo_ok KX G (D.fact 18 (f := .glo "CHANGES") rfl))
    changesV := changes_ok (c.t.tab 1) (exA c.more 6 rfl)
    inverseG := (He.glo_ok KX G (D.fact 19 (f := .glo "INVERSE") rfl))
    inverseD := (c.t.tab 2)
    inverseV := inverse_ok (exA c.more 7 rfl)
    most := most_ok (exA c.more 8 rfl) (of_decide_eq_true (exA c.more 9 rfl)) (exA c.more 10 rfl)
    w_init := (funD_fun (D.def_ 7 (d := dd_7) rfl))
    w_net := (gt_fun (d := gd_0) (c2 0 rfl))
    w_cmd := (gt_fun (d := gd_1) (c2 1 rfl))
    w_eq := (funD_fun (D.def_ 8 (d := dd_8) rfl))
    w_with := (funD_fun (D.def_ 9 (d := dd_9) rfl))
    w_add := (funD_fun (D.def_ 10 (d := dd_10) rfl))
    w_netP := ⟨(of_decide_eq_true (exA c.more 11 rfl)), (of_decide_eq_true (exA c.more 12 rfl)), (of_decide_eq_true (exA c.more 13 rfl)), recB_ok (exA c.more 14 rfl)⟩
    w_cmdP := ⟨(of_decide_eq_true (exA c.more 15 rfl)), (of_decide_eq_true (exA c.more 16 rfl)), (of_decide_eq_true (exA c.more 17 rfl)), recB_ok (exA c.more 18 rfl)⟩
    w_eqM := ⟨(He.meth_ok (D.fact 20 (f := .meth "Walk" "__eq__") rfl)).at_, (He.meth_ok (D.fact 20 (f := .meth "Walk" "__eq__") rfl)).fn⟩
    w_ne := (of_decide_eq_true (exA c.more 19 rfl))
    w_addM := ⟨(He.meth_ok (D.fact 21 (f := .meth "Walk" "__add__") rfl)).at_, (He.meth_ok (D.fact 21 (f := .meth "Walk" "__add__") rfl)).fn⟩
    w_first := (exA c.more 20 rfl)
    w_withM := (He.meth_ok (D.fact 22 (f := .meth "Walk" "with_commands") rfl))
    w_notF := (exA c.more 21 rfl)
    w_isiW := (of_decide_eq_true (exA c.more 22 rfl))
    w_n1 := (He.noat_ok (D.fact 23 (f := .noat "Walk" "own_net") rfl))
    w_n2 := (He.noat_ok (D.fact 24 (f := .noat "Walk" "own_commands") rfl))
    w_n3 := (He.noat_ok (D.fact 25 (f := .noat "Walk" "own_moves") rfl))
    w_n4 := (He.noat_ok (D.fact 26 (f := .noat "Walk" "own_places") rfl))
    eCmd := ⟨⟨(He.glo_ok KX G (D.fact 27 (f := .glo "InvalidCommands") rfl)), xcB_ok (exA c.more 23 rfl), (of_decide_eq_true (exA c.more 24 rfl)), (of_decide_eq_true (exA c.more 25 rfl)), (of_decide_eq_true (exA c.more 26 rfl)), (exA c.more 27 rfl), (of_decide_eq_true (exA c.more 28 rfl)), (of_decide_eq_true (exA c.more 29 rfl)), (of_decide_eq_true (exA c.more 30 rfl)), xfB_ok (exA c.more 31 rfl)⟩, (funD_fun (D.def_ 11 (d := dd_11) rfl))⟩
    eChg := ⟨⟨(He.glo_ok KX G (D.fact 28 (f := .glo "InvalidChange") rfl)), xcB_ok (exA c.more 32 rfl), (of_decide_eq_true (exA c.more 33 rfl)), (of_decide_eq_true (exA c.more 34 rfl)), (of_decide_eq_true (exA c.more 35 rfl)), (exA c.more 36 rfl), (of_decide_eq_true (exA c.more 37 rfl)), (of_decide_eq_true (exA c.more 38 rfl)), (of_decide_eq_true (exA c.more 39 rfl)), xfB_ok (exA c.more 40 rfl)⟩, (funD_fun (D.def_ 12 (d := dd_12) rfl))⟩
    eLim := ⟨⟨(He.glo_ok KX G (D.fact 29 (f := .glo "LimitExceeded") rfl)), xcB_ok (exA c.more 41 rfl), (of_decide_eq_true (exA c.more 42 rfl)), (of_decide_eq_true (exA c.more 43 rfl)), (of_decide_eq_true (exA c.more 44 rfl)), (exA c.more 45 rfl), (of_decide_eq_true (exA c.more 46 rfl)), (of_decide_eq_true (exA c.more 47 rfl)), (of_decide_eq_true (exA c.more 48 rfl)), xfB_ok (exA c.more 49 rfl)⟩, (funD_fun (D.def_ 13 (d := dd_13) rfl))⟩
    eNo := ⟨⟨(He.glo_ok KX G (D.fact 30 (f := .glo "NothingToUndo") rfl)), xcB_ok (exA c.more 50 rfl), (of_decide_eq_true (exA c.more 51 rfl)), (of_decide_eq_true (exA c.more 52 rfl)), (of_decide_eq_true (exA c.more 53 rfl)), (exA c.more 54 rfl), (of_decide_eq_true (exA c.more 55 rfl)), (of_decide_eq_true (exA c.more 56 rfl)), (of_decide_eq_true (exA c.more 57 rfl)), xfB_ok (exA c.more 58 rfl)⟩, (funD_fun (D.def_ 14 (d := dd_14) rfl))⟩
    eUnk := ⟨⟨(He.glo_ok KX G (D.fact 31 (f := .glo "UnknownName") rfl)), xcB_ok (exA c.more 59 rfl), (of_decide_eq_true (exA c.more 60 rfl)), (of_decide_eq_true (exA c.more 61 rfl)), (of_decide_eq_true (exA c.more 62 rfl)), (exA c.more 63 rfl), (of_decide_eq_true (exA c.more 64 rfl)), (of_decide_eq_true (exA c.more 65 rfl)), (of_decide_eq_true (exA c.more 66 rfl)), xfB_ok (exA c.more 67 rfl)⟩, (funD_fun (D.def_ 15 (d := dd_15) rfl))⟩
    eBlk := ⟨⟨(He.glo_ok KX G (D.fact 32 (f := .glo "Blocked") rfl)), xcB_ok (exA c.more 68 rfl), (of_decide_eq_true (exA c.more 69 rfl)), (of_decide_eq_true (exA c.more 70 rfl)), (of_decide_eq_true (exA c.more 71 rfl)), (exA c.more 72 rfl), (of_decide_eq_true (exA c.more 73 rfl)), (of_decide_eq_true (exA c.more 74 rfl)), (of_decide_eq_true (exA c.more 75 rfl)), xfB_ok (exA c.more 76 rfl)⟩, (funD_fun (D.def_ 16 (d := dd_16) rfl))⟩
    wkE := (He.glo_ok KX G (D.fact 33 (f := .glo "WalkError") rfl))
    wkR := (exA c.more 77 rfl)
    wkG := (of_decide_eq_true (exA c.more 78 rfl))
    wkI := fcB_ok (exA c.more 79 rfl)
    nOver := (He.free_ok KX G (D.fact 34 (f := .free "OverflowError") rfl))
    nLook := (He.free_ok KX G (D.fact 35 (f := .free "LookupError") rfl))
    nKey := (He.free_ok KX G (D.fact 36 (f := .free "KeyError") rfl))
    nRun := (He.free_ok KX G (D.fact 37 (f := .free "RuntimeError") rfl))
    iOver := fcB_ok (exA c.more 80 rfl)
    iLook := fcB_ok (exA c.more 81 rfl)
    iKey := fcB_ok (exA c.more 82 rfl)
    iRun := fcB_ok (exA c.more 83 rfl)
    letG := (He.str_ok KX G (D.fact 38 (f := .str "LETTERS" "abcdefghijklmnopqrstuvwxyz") rfl))
    maxG := (He.int_ok KX G (D.fact 39 (f := .int "MAX_LETTERS" 8) rfl))
    gstG := (He.str_ok KX G (D.fact 40 (f := .str "GUEST" "guest") rfl))
    tupN := (He.free_ok KX G (D.fact 41 (f := .free "tuple") rfl))
    d36 := ⟨(He.glo_ok KX G (D.fact 42 (f := .glo "is_name") rfl)), (funD_fun (D.def_ 17 (d := dd_17) rfl))⟩
    d37 := ⟨(He.glo_ok KX G (D.fact 43 (f := .glo "check_name") rfl)), (funD_fun (D.def_ 18 (d := dd_18) rfl))⟩
    d38 := ⟨(He.glo_ok KX G (D.fact 44 (f := .glo "check_user") rfl)), (funD_fun (D.def_ 19 (d := dd_19) rfl))⟩
    d39 := ⟨(He.glo_ok KX G (D.fact 45 (f := .glo "has_change_form") rfl)), (funD_fun (D.def_ 20 (d := dd_20) rfl))⟩
    d40 := ⟨(He.glo_ok KX G (D.fact 46 (f := .glo "joined") rfl)), (funD_fun (D.def_ 21 (d := dd_21) rfl))⟩
    d41 := ⟨(He.glo_ok KX G (D.fact 47 (f := .glo "fitting") rfl)), (funD_fun (D.def_ 22 (d := dd_22) rfl))⟩
    d42 := ⟨(He.glo_ok KX G (D.fact 48 (f := .glo "changed") rfl)), (funD_fun (D.def_ 23 (d := dd_23) rfl))⟩
    stp := ⟨(He.glo_ok KX G (D.fact 49 (f := .glo "Step") rfl)), (He.cls_ok (D.fact 50 (f := .cls "Step") rfl)), (He.mkr_ok (D.fact 51 (f := .mkr "Step") rfl)), (of_decide_eq_true (exA c.more 84 rfl)), (of_decide_eq_true (exA c.more 85 rfl))⟩
    stu := ⟨(He.glo_ok KX G (D.fact 52 (f := .glo "Studio") rfl)), (He.cls_ok (D.fact 53 (f := .cls "Studio") rfl)), (He.mkr_ok (D.fact 54 (f := .mkr "Studio") rfl)), (of_decide_eq_true (exA c.more 86 rfl)), (of_decide_eq_true (exA c.more 87 rfl))⟩
    s_init := (funD_fun (D.def_ 24 (d := dd_24) rfl))
    s_n1 := (He.noat_ok (D.fact 55 (f := .noat "Step" "user") rfl))
    s_n2 := (He.noat_ok (D.fact 56 (f := .noat "Step" "touched") rfl))
    s_n3 := (He.noat_ok (D.fact 57 (f := .noat "Step" "before") rfl))
    u_init := (funD_fun (D.def_ 25 (d := dd_25) rfl))
    u_net := (gt_fun (d := gd_2) (c2 2 rfl))
    u_names := (gt_fun (d := gd_3) (c2 3 rfl))
    u_latest := (funD_fun (D.def_ 26 (d := dd_26) rfl))
    u_undo := (funD_fun (D.def_ 27 (d := dd_27) rfl))
    u_copy := (funD_fun (D.def_ 28 (d := dd_28) rfl))
    u_len := (funD_fun (D.def_ 29 (d := dd_29) rfl))
    u_eq := (funD_fun (D.def_ 30 (d := dd_30) rfl))
    u_has := (funD_fun (D.def_ 31 (d := dd_31) rfl))
    u_get := (funD_fun (D.def_ 32 (d := dd_32) rfl))
    u_netP := ⟨(of_decide_eq_true (exA c.more 88 rfl)), (of_decide_eq_true (exA c.more 89 rfl)), (of_decide_eq_true (exA c.more 90 rfl)), recB_ok (exA c.more 91 rfl)⟩
    u_namesP := ⟨(of_decide_eq_true (exA c.more 92 rfl)), (of_decide_eq_true (exA c.more 93 rfl)), (of_decide_eq_true (exA c.more 94 rfl)), recB_ok (exA c.more 95 rfl)⟩
    u_latestM := (He.meth_ok (D.fact 58 (f := .meth "Studio" "latest") rfl))
    u_undoM := (He.meth_ok (D.fact 59 (f := .meth "Studio" "undo") rfl))
    u_copyM := (He.meth_ok (D.fact 60 (f := .meth "Studio" "copy") rfl))
    u_lenM := ⟨(He.meth_ok (D.fact 61 (f := .meth "Studio" "__len__") rfl)).at_, (He.meth_ok (D.fact 61 (f := .meth "Studio" "__len__") rfl)).fn⟩
    u_eqM := ⟨(He.meth_ok (D.fact 62 (f := .meth "Studio" "__eq__") rfl)).at_, (He.meth_ok (D.fact 62 (f := .meth "Studio" "__eq__") rfl)).fn⟩
    u_hasM := ⟨(He.meth_ok (D.fact 63 (f := .meth "Studio" "__contains__") rfl)).at_, (He.meth_ok (D.fact 63 (f := .meth "Studio" "__contains__") rfl)).fn⟩
    u_getM := ⟨(He.meth_ok (D.fact 64 (f := .meth "Studio" "__getitem__") rfl)).at_, (He.meth_ok (D.fact 64 (f := .meth "Studio" "__getitem__") rfl)).fn⟩
    u_getF := (exA c.more 96 rfl)
    u_n1 := (He.noat_ok (D.fact 65 (f := .noat "Studio" "own_net") rfl))
    u_n2 := (He.noat_ok (D.fact 66 (f := .noat "Studio" "walks") rfl))
    u_n3 := (He.noat_ok (D.fact 67 (f := .noat "Studio" "steps") rfl))
    anyN := (He.free_ok KX G (D.fact 68 (f := .free "any") rfl))
    u_isiU := (of_decide_eq_true (exA c.more 97 rfl))
    u_isiD := (of_decide_eq_true (exA c.more 98 rfl))
    u_make := (funD_fun (D.def_ 33 (d := dd_33) rfl))
    u_makeM := (He.meth_ok (D.fact 69 (f := .meth "Studio" "make") rfl))
    u_makeB := ⟨(He.meth_ok (D.fact 69 (f := .meth "Studio" "make") rfl)), (of_decide_eq_true (exA c.more 99 rfl)), (of_decide_eq_true (exA c.more 100 rfl)), by decide, (exA c.more 101 rfl)⟩
    u_log := (funD_fun (D.def_ 34 (d := dd_34) rfl))
    u_logM := (He.meth_ok (D.fact 70 (f := .meth "Studio" "log") rfl))
    tri := ⟨(He.glo_ok KX G (D.fact 71 (f := .glo "Trial") rfl)), (He.cls_ok (D.fact 72 (f := .cls "Trial") rfl)), (He.mkr_ok (D.fact 73 (f := .mkr "Trial") rfl)), (of_decide_eq_true (exA c.more 102 rfl)), (of_decide_eq_true (exA c.more 103 rfl))⟩
    r_init := (funD_fun (D.def_ 35 (d := dd_35) rfl))
    r_enter := (funD_fun (D.def_ 36 (d := dd_36) rfl))
    r_exit := (funD_fun (D.def_ 37 (d := dd_37) rfl))
    r_n1 := (He.noat_ok (D.fact 74 (f := .noat "Trial" "studio") rfl))
    r_n2 := (He.noat_ok (D.fact 75 (f := .noat "Trial" "walks") rfl))
    r_n3 := (He.noat_ok (D.fact 76 (f := .noat "Trial" "steps") rfl))
    r_enterM := (He.meth_ok (D.fact 77 (f := .meth "Trial" "__enter__") rfl))
    r_exitM := (He.meth_ok (D.fact 78 (f := .meth "Trial" "__exit__") rfl))
    u_att := (funD_fun (D.def_ 38 (d := dd_38) rfl))
    u_attM := (He.meth_ok (D.fact 79 (f := .meth "Studio" "attempt") rfl))
    maxN := (He.free_ok KX G (D.fact 80 (f := .free "max") rfl))
    minN := (He.free_ok KX G (D.fact 81 (f := .free "min") rfl))
    setN := (He.free_ok KX G (D.fact 82 (f := .free "set") rfl))
    dctN := (He.free_ok KX G (D.fact 83 (f := .free "dict") rfl))
    d47 := ⟨(He.glo_ok KX G (D.fact 84 (f := .glo "_law_source") rfl)), (funD_fun (D.def_ 39 (d := dd_39) rfl))⟩
    d48 := ⟨(He.glo_ok KX G (D.fact 85 (f := .glo "_law_draw") rfl)), (funD_fun (D.def_ 40 (d := dd_40) rfl))⟩
    d49 := ⟨(He.glo_ok KX G (D.fact 86 (f := .glo "_law_kind") rfl)), (funD_fun (D.def_ 41 (d := dd_41) rfl))⟩
    d50 := ⟨(He.glo_ok KX G (D.fact 87 (f := .glo "_law_names") rfl)), (funD_fun (D.def_ 42 (d := dd_42) rfl))⟩
    d51 := ⟨(He.glo_ok KX G (D.fact 88 (f := .glo "_law_text") rfl)), (funD_fun (D.def_ 43 (d := dd_43) rfl))⟩
    d52 := ⟨(He.glo_ok KX G (D.fact 89 (f := .glo "_law_deed") rfl)), (funD_fun (D.def_ 44 (d := dd_44) rfl))⟩
    d53 := ⟨(He.glo_ok KX G (D.fact 90 (f := .glo "_law_done") rfl)), (funD_fun (D.def_ 45 (d := dd_45) rfl))⟩
    d54 := ⟨(He.glo_ok KX G (D.fact 91 (f := .glo "_law_all") rfl)), (funD_fun (D.def_ 46 (d := dd_46) rfl))⟩
    d55 := ⟨(He.glo_ok KX G (D.fact 92 (f := .glo "_law_made") rfl)), (funD_fun (D.def_ 47 (d := dd_47) rfl))⟩
    d56 := ⟨(He.glo_ok KX G (D.fact 93 (f := .glo "_law_back") rfl)), (funD_fun (D.def_ 48 (d := dd_48) rfl))⟩
    d57 := ⟨(He.glo_ok KX G (D.fact 94 (f := .glo "_law_back_due") rfl)), (funD_fun (D.def_ 49 (d := dd_49) rfl))⟩
    d58 := ⟨(He.glo_ok KX G (D.fact 95 (f := .glo "_law_undone") rfl)), (funD_fun (D.def_ 50 (d := dd_50) rfl))⟩
    d59 := ⟨(He.glo_ok KX G (D.fact 96 (f := .glo "_law_same") rfl)), (funD_fun (D.def_ 51 (d := dd_51) rfl))⟩
    d60 := ⟨(He.glo_ok KX G (D.fact 97 (f := .glo "_law_started") rfl)), (funD_fun (D.def_ 52 (d := dd_52) rfl))⟩
    d61 := ⟨(He.glo_ok KX G (D.fact 98 (f := .glo "_law_visit") rfl)), (funD_fun (D.def_ 53 (d := dd_53) rfl))⟩
    d62 := ⟨(He.glo_ok KX G (D.fact 99 (f := .glo "_law_tried") rfl)), (funD_fun (D.def_ 54 (d := dd_54) rfl))⟩
    d63 := ⟨(He.glo_ok KX G (D.fact 100 (f := .glo "_law_attempts_right") rfl)), (funD_fun (D.def_ 55 (d := dd_55) rfl))⟩
    d64 := ⟨(He.glo_ok KX G (D.fact 101 (f := .glo "_law_copy_right") rfl)), (funD_fun (D.def_ 56 (d := dd_56) rfl))⟩
    d65 := ⟨(He.glo_ok KX G (D.fact 102 (f := .glo "law") rfl)), (funD_fun (D.def_ 57 (d := dd_57) rfl))⟩
    xUU := (He.exm_ok (D.fact 103 (f := .exm "UnknownName" "UnknownName" true) rfl))
    xLU := (He.exm_ok (D.fact 104 (f := .exm "LimitExceeded" "UnknownName" false) rfl))
    xLL := (He.exm_ok (D.fact 105 (f := .exm "LimitExceeded" "LimitExceeded" true) rfl))
    xNN := (He.exm_ok (D.fact 106 (f := .exm "NothingToUndo" "NothingToUndo" true) rfl))
    xBN := (He.exm_ok (D.fact 107 (f := .exm "Blocked" "NothingToUndo" false) rfl))
    xBB := (He.exm_ok (D.fact 108 (f := .exm "Blocked" "Blocked" true) rfl))
    xCU := (He.exm_ok (D.fact 109 (f := .exm "InvalidCommands" "UnknownName" false) rfl))
    xCC := (He.exm_ok (D.fact 110 (f := .exm "InvalidCommands" "InvalidCommands" true) rfl))
    xGU := (He.exm_ok (D.fact 111 (f := .exm "InvalidChange" "UnknownName" false) rfl))
    xGC := (He.exm_ok (D.fact 112 (f := .exm "InvalidChange" "InvalidCommands" false) rfl))
    xGG := (He.exm_ok (D.fact 113 (f := .exm "InvalidChange" "InvalidChange" true) rfl))
    fU := xfB_ok (exA c.more 67 rfl)
    fL := xfB_ok (exA c.more 49 rfl)
    fN := xfB_ok (exA c.more 58 rfl)
    fB := xfB_ok (exA c.more 76 rfl)
    fC := xfB_ok (exA c.more 31 rfl)
    fG := xfB_ok (exA c.more 40 rfl)
    nU := (of_decide_eq_true (exA c.more 64 rfl))
    nL := (of_decide_eq_true (exA c.more 46 rfl))
    nN := (of_decide_eq_true (exA c.more 55 rfl))
    nB := (of_decide_eq_true (exA c.more 73 rfl))
    nC := (of_decide_eq_true (exA c.more 28 rfl))
    nG := (of_decide_eq_true (exA c.more 37 rfl))
    u_notF := (exA c.more 104 rfl)
    u_notD := (exA c.more 105 rfl)
    t12 := (of_decide_eq_true (exA c.more 106 rfl))
    t13 := (of_decide_eq_true (exA c.more 107 rfl))
    t23 := (of_decide_eq_true (exA c.more 108 rfl)) }
end K6

/-! ## H3 -/
namespace K6
open PySem PySem.Spec PyProof.Rows L2
open LamX (CodeO TabS TabB)
section
variable {P : Program} {w : World} {K : PySem.W.Frag} {mg : Str → Option Value} {base : Heap}
theorem law_ok (T : Ti K w mg) (hTv : TB K mg base "_law_visit") (hTt : TB K mg base "_law_tried") (hTl : TB K mg base "law") {fd : FuncData} (F : Fun K "law" "law" (topS 65) (ga K "law") fd) :
    FnOk P w K mg base (L2N.CX P w) 37 (ga K "law") fd ["_law_script"] (spLaw K) := by
  obtain ⟨oc, od, kV, doc, pm, an, cdv, ct, osl, rfl, lk, hcd⟩ := F.ex
  obtain ⟨c, rfl⟩ := He.codeIn_ref hcd
  have ec : cdA K "law" = c := He.codeOf_eq (p := ("law", none)) lk rfl
  refine fn_of lk hcd sc65 (fun vs H Q E h => by obtain ⟨a, ns, rfl, _⟩ := h; rfl) fun A outer s H vs Q E hr hsp => ?_
  refine ⟨wB (cxQ P w K mg base N65 "law" (scL 65) (ga K "law") (.ref c) A outer s H E none) (defBody (topS 65)), pB, ?_⟩
  subst ec
  exact law_body T hTv hTt hTl (.inl rfl) ⟨hr.dp, hr.un⟩ hsp
end
theorem cxn_none {P : Program} {w : World} (H : Hp) (s : Shared) (e : Value) (s' : Shared) (c : L2N.CX P w [] H s (fun _ _ _ => False) e s') : False := by
  obtain ⟨a, B, H', cls, d, _, _, _, _, _, _, _, z⟩ := c
  exact z.elim
theorem lawAt {w : World} {K : PySem.W.Frag} {mg : Str → Option Value} {fa' : Addr} {h : Heap} (KX : K.In h) (G : h.Ns mainGlobals mg) (hfa : mg ("law" : Str) = some (.ref fa')) (c : He.SaysX Qfa Qfn Qts Qtf Qex w h K) (c2 : ∀ (i : Nat) {d : Gd}, Qgt[i]? = some d → gtW K d = d.val ∧ d.ok K = true) :
    LamX.LawAtS PySem.Challenge.rw_loopwalks_k61_whole_attempts_and_copies w K (L2N.CX (PySem.Challenge.rw_loopwalks_k61_whole_attempts_and_copies).prog w) 37 63 "_law_script" mg fa' h := by
  have T := facts_of KX G c c2
  obtain ⟨fd, F⟩ := T.d65.fn
  have e := hfa.symm.trans T.d65.mg
  obtain rfl : fa' = ga K "law" := by cases e; rfl
  have mem : ∀ {p : Addr × Addr}, p ∈ Qtf.map (He.cT K) → ∃ q ∈ Qtf, He.cT K q = p := fun hp => List.mem_map.mp hp
  refine ⟨fd, Qtf.map (He.cT K), spLaw K, fun p hp => ?_, fun p hp => ?_, fun p hp => ?_, fun s u => ?_, fun H a ns hl _ hT hS => ?_, fun base kb gb hB => ?_⟩
  · obtain ⟨q, hq, rfl⟩ := mem hp
    exact c.empty q hq
  · obtain ⟨q, hq, rfl⟩ := mem hp
    exact c.out q hq
  · obtain ⟨q, hq, rfl⟩ := mem hp
    exact PySem.W.codeHd_of_K KX (c.hd q hq)
  · obtain ⟨oc, od, kV, doc, pm, an, cdv, ct, osl, rfl, lk, hcd⟩ := F.ex
    exact BindsTo.of_eq rfl
  · have t1 := hT (He.cT K ("_law_visit", none)) (List.mem_map.mpr ⟨_, by simp [Qtf], rfl⟩)
    have t2 := hT (He.cT K ("_law_tried", none)) (List.mem_map.mpr ⟨_, by simp [Qtf], rfl⟩)
    have t3 := hT (He.cT K ("law", none)) (List.mem_map.mpr ⟨_, by simp [Qtf], rfl⟩)
    exact ⟨a, ns, rfl, hS, hl, ⟨TabS.nil t1, TabS.nil t2, TabS.nil t3⟩, fun _ => rfl⟩
  · exact law_ok T (hB _ (List.mem_map.mpr ⟨("_law_visit", none), by simp [Qtf], rfl⟩)) (hB _ (List.mem_map.mpr ⟨("_law_tried", none), by simp [Qtf], rfl⟩)) (hB _ (List.mem_map.mpr ⟨("law", none), by simp [Qtf], rfl⟩)) F
end K6

/-! ## H4 -/
section
set_option maxHeartbeats 0
namespace K6
open PySem PySem.Spec PyProof.Rows L2
theorem run_ (w : World) : HandSHeadRun.RunEq Rw qv hk ob 30000 nmsT w := PySem.W.byRow2 "special-get-raises" (fun w => runfalse w) (fun w => runtrue w) w
end K6
open PySem PySem.W PySem.Calls PyProof.Rows
theorem PySem.Challenge.cw_loopwalks_k61_whole_attempts_and_copies_holds : PySem.Challenge.rw_loopwalks_k61_whole_attempts_and_copies.Holds := by
  w_on; o_law
  refine HandSHeadRun.head_any (r := OpenLaw.row PySem.Challenge.rw_loopwalks_k61_whole_attempts_and_copies) (q := K6.qv) (H := K6.hk) (ob := K6.ob) (M := 30000) (loose := K6.nmsT) (d := HandSHeadRun.topDef (OpenLaw.row PySem.Challenge.rw_loopwalks_k61_whole_attempts_and_copies).prog 65) (kwd := []) K6.ob_eq
    (by kernel_rfl) (fun s => by kernel_rfl) K6.run_ (by kernel_rfl) (by kernel_rfl) (by kernel_rfl) (by rfl) K6.row_said K6.row_fits K6.row_bare ?hw ?hc
  case hw => w_witness2
  case hc =>
    refine LamX.walk_ofTsE (l := PySem.Challenge.rw_loopwalks_k61_whole_attempts_and_copies) (n := 63) (k := 37) (x := "_law_script") (CX := fun w => L2N.CX (PySem.Challenge.rw_loopwalks_k61_whole_attempts_and_copies).prog w) rfl (by decide) (by kernel_rfl) ⟨rfl, by decide, by decide⟩ ?F ?CX
    case F =>
      intro w mg fa' h Y G hmg0
      obtain ⟨K, KX, c⟩ := Y
      have hmg : mg ("law" : PySem.Str) = some (.ref fa') := by
        have e : (HandSHeadRun.topDef (OpenLaw.row PySem.Challenge.rw_loopwalks_k61_whole_attempts_and_copies).prog 65).name = ("law" : PySem.Str) := by kernel_rfl
        rw [← e]
        exact hmg0
      exact ⟨K, KX, K6.lawAt KX G hmg c.x c.gd⟩
    case CX => exact fun w H s e s' c => K6.cxn_none H s e s' c
end
