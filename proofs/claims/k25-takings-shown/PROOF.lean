import PyProof.Rows.All
import Wide.All
import OpenK.AllK
import Wide.FinOn
import HandS.ForMost
import HandS.Slots
import HandS.SlotsOwn
import HandS.Defaults
import HandS.MakeKwOnly
import HandS.Star
import HandS.Conv
import HandS.Style
import HandS.IsInst
import HandS.Wide
import HandS.Zip
import HandS.SortInts
import HandS.Lambda
import HandS.IterVal
import HandS.HeadHook4
import HandS.HeadWalk
import HandS.Head2
import HandS.TupAny
import HandS.Nested
import KE.DataMinKey
import PyProof.InstNe
import KE.GoesEnum
import PySem.Challenge.RW_heaprows_k25_whole_takings_shown
import HandS.Walk
import HandS.HeadEnd
set_option Elab.async false
set_option linter.all false
set_option maxRecDepth 100000
set_option maxHeartbeats 4000000
/-! HrA: the heap's growth (Ex), steps of readings. -/
namespace Hr
open PySem PySem.Spec PyProof.Rows L2 LamX SlX

/-! ### growth: what was tracked stays (but for the code tables, which may grow) -/
structure Ex (T : List (Addr × Str)) (H H' : Hp) : Prop where
  k : ∀ b o, H b = some o → (∀ ps, o ≠ .tbl ps) → H' b = some o
  t : Tabs T H → Tabs T H'
/-- nothing but perhaps a table stands there -/
def Fre (H : Hp) (l : Addr) : Prop := ∀ o, H l = some o → ∃ ps, o = .tbl ps
section
variable {T : List (Addr × Str)} {H H' H1 H2 H3 : Hp} {a b l p : Addr} {K : PySem.W.Frag} {xs ys : List V} {o : HO}
theorem Ex.refl (H : Hp) : Ex T H H := ⟨fun _ _ h _ => h, fun t => t⟩
theorem Ex.trans (x : Ex T H H1) (y : Ex T H1 H2) : Ex T H H2 := ⟨fun c o h n => y.k c o (x.k c o h n) n, fun t => y.t (x.t t)⟩
theorem Fre.of (h : H l = none) : Fre H l := fun o e => by rw [h] at e; cases e
theorem Fre.back (e : Ex T H H') (h : Fre H' l) : Fre H l := fun o q => by
  cases o with
  | tbl ps => exact ⟨ps, rfl⟩
  | _ => exact h _ (e.k _ _ q fun ps z => by cases z)
theorem Ex.fre (e : Ex T H H') (h : H' l = none) : Fre H l := Fre.back e (Fre.of h)
theorem Ex.new (h : H p = none) : Ex T H (upd H p o) :=
  ⟨fun b u e _ => by rw [upd_ne (ne_of_none e h)]; exact e, fun t => t.ext fun b u e => by rw [upd_ne (ne_of_none e h)]; exact e⟩
theorem tabs_upd {n : HO} (h : H l = some o) (h1 : ∀ ps, o ≠ .tbl ps) (h2 : ∀ c q, o ≠ CodeO c q) (t : Tabs T H) : Tabs T (upd H l n) := fun p hp => by
  obtain ⟨ps, a1, a2, a3⟩ := t p hp
  have ne : ∀ {b u}, H b = some u → u ≠ o → upd H l n b = some u := fun {b u} e z => by
    rw [upd_ne (fun w => z (by rw [w, h] at e; exact (Option.some.inj e).symm))]
    exact e
  refine ⟨ps, ne a1 fun z => h1 ps z.symm, a2, fun pos cv hc => ?_⟩
  obtain ⟨c, e1, e2⟩ := a3 pos cv hc
  exact ⟨c, e1, ne e2 fun z => h2 _ _ z.symm⟩
theorem lst_ne_code (c : Addr) (q : Str) : HO.lst xs ≠ CodeO c q := fun z => by unfold CodeO at z; cases z
/-- a list that H does not know may change -/
theorem Ex.mut (e : Ex T H H1) (hf : Fre H l) (hl : H1 l = some (.lst xs)) : Ex T H (upd H1 l (.lst ys)) :=
  ⟨fun b u q n => by
    have hb : b ≠ l := fun z => by
      rw [z] at q
      obtain ⟨ps, w⟩ := hf u q
      exact n ps w
    rw [upd_ne hb]
    exact e.k b u q n, fun t => tabs_upd hl (fun _ z => by cases z) (fun c q => lst_ne_code c q) (e.t t)⟩
theorem Ex.lst (e : Ex T H H') (h : H a = some (.lst xs)) : H' a = some (.lst xs) := e.k _ _ h fun _ z => by cases z
theorem Ex.tup (e : Ex T H H') (h : H a = some (.tup xs)) : H' a = some (.tup xs) := e.k _ _ h fun _ z => by cases z
theorem Ex.frz {ob : Obj} (e : Ex T H H') (h : H a = some (.frz ob o)) : H' a = some (.frz ob o) := e.k _ _ h fun _ z => by cases z
theorem Ex.seqL (e : Ex T H H') (h : SqL K H a xs) : SqL K H' a xs := by
  rcases h with (h | ⟨o, h⟩) | h
  · exact .inl (.inl (e.lst h))
  · exact .inl (.inr ⟨o, e.frz h⟩)
  · exact .inr h
theorem Ex.seqT (e : Ex T H H') (h : SqT K H a xs) : SqT K H' a xs := by
  rcases h with (h | ⟨o, h⟩) | h
  · exact .inl (.inl (e.tup h))
  · exact .inl (.inr ⟨o, e.frz h⟩)
  · exact .inr h
theorem slO_tbl {a C dx : Addr} {vs : List (Option V)} (ps : Array Value) : SlO a C dx vs ≠ .tbl ps := fun z => by unfold SlO at z; cases z
theorem Ex.slt {C dx : Addr} {vs : List (Option V)} (e : Ex T H H') (h : Slt H a C dx vs) : Slt H' a C dx vs := by
  rcases h with ⟨h1, h2⟩ | ⟨h1, h2⟩
  · exact .inl ⟨e.k _ _ h1 (fun _ z => by cases z), h2⟩
  · exact .inr ⟨e.k _ _ h1 slO_tbl, e.k _ _ h2 fun _ z => by cases z⟩
theorem fre_ne (hf : Fre H l) (h : H a = some (.lst xs)) : a ≠ l := fun z => by
  rw [z] at h
  obtain ⟨ps, w⟩ := hf _ h
  cases w
end
end Hr

set_option maxHeartbeats 4000000
/-! HrB: own __contains__, __getitem__, __iter__, methods with keywords on slotted instances. -/
namespace Hr
open PySem PySem.Spec PyProof.Rows L2 LamX SlX

/-! ### x not in o, o[i] by the class's own defs -/
def rNotInOwn (C : Addr) (sp : Sp) (E : XK) : R2 := fun x y H Q => ∃ a dx vs, y = .ref a ∧ Slt H a C dx vs ∧ sp [.ref a, x] H (fun z H' => ∃ b, z = .bl b ∧ Q (.bl (!b)) H') E
def rIxOwn (C : Addr) (sp : Sp) (E : XK) : R2 := fun x y H Q => ∃ a dx vs, x = .ref a ∧ Slt H a C dx vs ∧ sp [.ref a, y] H Q E
section
variable {X : Cx} {CX : CXT} {C g : Addr} {n : Nat} {sp : Sp} {E : XK} {a b : Expr} {ta tb : TE} {pos : Pos}
theorem op_notInOwn (hs : PySem.W.findIn X.K (.ref C) "__contains__" = some (some (.ref g))) (hf : PySem.W.isFn X.K (.ref g) = true) (F : FnR X.prog X.w X.K X.mg X.base CX n g sp)
    (hr : Room n X.A) (hx : Passes CX X E) : OpR X (compareOp .NotIn) (rNotInOwn C sp E) := by
  intro pins s σ H x y v u Q I rx ry h
  obtain ⟨a, dx, vs, rfl, ha, q⟩ := h
  cases (show u = Value.ref a from ry)
  obtain ⟨sl, od, _, J, _⟩ := slt_inst I ha
  obtain ⟨m, hF⟩ := I.fr
  refine PySem.W.notIn_K hF I.ok.mod.kin J hs hf ?_
  refine wpAny_mono (wpAny_call (run_fnR (us := [.ref a, v]) (vs := [.ref a, x]) F hr hx I (.cons rfl (.cons rx .nil)) q)) (fun w s' z => ?_) fun _ _ x => x
  obtain ⟨z', H', I', rz, b, eb, qz⟩ := z
  subst eb
  cases (show w = Value.bool b from rz)
  exact wpAny_truthy_bool ⟨.bl (!b), H', I', rfl, qz⟩
/-- a[b], a an instance whose class has __getitem__ -/
theorem pe_ixOwn (hs : PySem.W.findIn X.K (.ref C) "__getitem__" = some (some (.ref g))) (hf : PySem.W.isFn X.K (.ref g) = true) (hfn : PySem.W.fnIn X.K g = true) (F : FnR X.prog X.w X.K X.mg X.base CX n g sp)
    (hr : Room (n + 1) X.A) (hx : Passes CX X E) (ha : PE X a ta) (hb : PE X b tb)
    (hsl : ∀ (x : Addr) (i : Value), subscripted b true (.ref x) i = runValue (.builtin "lifetime.subscript" ⟨[.ref x, i], []⟩)) :
    PE X (.Subscript a b pos) (tOp (rIxOwn C sp E) ta tb) := by
  refine ⟨fun pins s σ H Q I h => ?_⟩
  refine Subscript_ (binT ha hb I h fun v u s2 x y H2 I2 rx ry q => ?_)
  obtain ⟨p, dx, vs, rfl, hsl2, q⟩ := q
  cases (show v = Value.ref p from rx)
  obtain ⟨sl, od, _, J, _⟩ := slt_inst I2 hsl2
  obtain ⟨m, hF⟩ := I2.fr
  refine PySem.W.sub_K hF I2.ok.mod.kin J hs hfn hf ?_ (hsl p u)
  exact wpAny_call (run_at (us := [.ref p, u]) (ws := [.ref p, y]) F hr.in1 I2.env0.in1 hx I2 (.cons rfl (.cons ry .nil)) q)
end

/-! ### o.m(e, .., k = v) -/
def tMethSlK (C : Addr) (n m : Nat) (sp : Sp) (gV : List V → List V → List V) (E : XK) (ta : TE) (t tk : TA) : TE := fun σ H Q => ta σ H fun x H1 => ∃ a dx vs, x = .ref a ∧ Slt H1 a C dx vs ∧
  t σ H1 fun ws H2 => tk σ H2 fun zs H3 => ws.length = n ∧ zs.length = m ∧ sp (gV (x :: ws) zs) H3 Q E
section
variable {X : Cx} {CX : CXT} {k n : Nat} {f C : Addr} {fd : FuncData} {ps ks : List Str} {sp : Sp} {E : XK} {m : Str} {apos pos : Pos} {o e : Expr} {es : List Expr} {kws : List Keyword} {ta : TE} {t tk : TA} {g : List Value → List Value → List Value} {gV : List V → List V → List V}
theorem pe_methSlK {pl : Sem Bool} (he : PE X o ta) (c : SCls X.K C) (hm : Meth X.K C m f) (F : FnOk X.prog X.w X.K X.mg X.base CX k f fd ps sp) (hr : Room k X.A) (hb : KBn X.K fd ps (n + 1) ks g gV) (hx : Passes CX X E)
    (ha : PA X (e :: es) t) (hkw : PK X kws tk) (hall : (backToKw pos (keywordEach kws X.env)).all (·.1.isSome) = true := by rfl) (hks : (backToKw pos (keywordEach kws X.env)).filterMap (·.1) = ks := by rfl)
    (hst : starEach (e :: es) X.env = (false, eval e X.env) :: starEach es X.env := by rfl)
    (hpl : ((backTo pos (starEach (e :: es) X.env)).any (·.1) || (backToKw pos (keywordEach kws X.env)).any (·.1.isNone)) = false := by rfl)
    (ht : eval (.Call (.Attribute o m apos) (e :: es) kws pos) X.env = (do
      let ov ← eval o X.env
      standAt apos.atName
      let (f, first) ← holding [ov] (getMethod ov m pl)
      callWith pos f first (backTo pos (starEach (e :: es) X.env)) (backToKw pos (keywordEach kws X.env))) := by rfl) :
    PE X (.Call (.Attribute o m apos) (e :: es) kws pos) (tMethSlK C n ks.length sp gV E ta t tk) := by
  refine ⟨fun pins s σ H Q I h => ?_⟩
  refine PySem.W.methodCall_KW (pl := pl) (thn (he.run pins s σ H _ I h) fun u s1 ⟨x, H1, I1, rx, a, dx, vs, ex, hsl, q⟩ => ?_) ht
  subst ex
  obtain rfl : u = Value.ref a := rx
  refine getmethsl_ok I1 hsl c hm ?_
  refine PySem.W.callWith_KW (first := [.ref a]) (h₀ := X.base) I.ok.mod.kin hm.kp hall (thn (ha.run pos pins s1 σ H1 _ I1 q) fun us s2 ⟨ws, H2, I2, r, q2⟩ => ?_) hpl hst
  refine thn (hkw.run pos pins s2 σ H2 _ I2 q2) fun zs' s3 ⟨zs, H3, I3, rz, l1, l2, q3⟩ => ⟨I3.kIn, ?_⟩
  rw [hks]
  exact run_fnN (us := .ref a :: us) (vs := .ref a :: ws) F hr hb hx I3 (.cons rfl r) rz (by rw [List.length_cons, l1]) l2 q3
end
end Hr

set_option maxHeartbeats 4000000
/-! HrC: iter(a tuple) as a value; a for over an instance whose __iter__ hands back such an iterator. -/
namespace Hr
open PySem PySem.Spec PyProof.Rows L2 LamX SlX

def ItT (t it : Addr) (i : Nat) : HO := .ext fun h => h.IsTupleIter it t i
theorem itT_ok {P : Program} {w : World} {H : Hp} {h : Heap} {t it : Addr} {i : Nat} (e : h.IsTupleIter it t i) : ObjOk P w H h it (ItT t it i) :=
  ⟨e, (let ⟨o, e1, _⟩ := e; ⟨o, e1⟩), fun _ _ q k => q.at fun o z => k o z⟩
def rIterT (K : PySem.W.Frag) (n : Nat) : List V → Hp → VK → Prop := fun xs H Q => ∃ (t : Addr) (zs : List V), xs = [.ref t] ∧ SqT K H t zs ∧ ∀ it, H it = none → n ≤ it → Q (.ref it) (upd H it (ItT t it 0))
section
variable {prog : Program} {w : World} {A : Around} {E : Value → Shared → Prop} {s : Shared} {t : Addr} {items : Array Value}
theorem call_iter_tuple {Q : Value → Shared → Prop} (hl : s.heap.IsTuple t items) (h : Q (.ref s.heap.objs.size) { s with heap := s.heap.push { cls := .type "tuple_iterator", data := .fields #[.ref t, .int 0 0] } }) :
    wpAny (model prog w) A (call (.builtin "iter") [.ref t]) Q E s := by
  refine Calls.call_function_entry (by decide +kernel) (by decide +kernel) PySem.W.kdk_entry_iter (PySem.W.kdk_args_iter _) ?_
  unfold Builtin.«iter»
  refine wpAny_bind (m := someArgs "iter" 1 2 _) (wpAny_of_eq (a := [Value.ref t]) (by first | rfl | kernel_rfl!) ?_)
  show wpAny _ _ (pyIter (.ref t) >>= _) _ _ _
  refine wpAny_bind (wpAny_pyIter_tuple hl ?_)
  exact wpAny_pure ⟨_, rfl, h⟩
end
section
variable {X : Cx}
theorem call_iterT : CallR X (.builtin "iter") (rIterT X.K X.s_0.heap.objs.size) := by
  intro pins s σ H xs us Q I r h
  obtain ⟨t, zs, rfl, hq, q⟩ := h
  obtain ⟨u, rfl, ru⟩ := vals1 r
  cases ru
  obtain ⟨its, rv, pl, hz⟩ := I.tuple hq
  refine call_iter_tuple (show s.heap.IsTuple t its.toArray from pl) ?_
  exact ⟨.ref s.heap.objs.size, _, I.laid (t' := s.toks) (fun b u e => Heap.get?_push_of_some _ e) (Nat.le_refl _) (itT_ok ⟨_, Heap.get?_push_size _ rfl, rfl, rfl⟩), rfl, q _ (I.hok.fresh (Nat.le_refl _)) I.sz⟩
end

/-- the class's __iter__ hands back a new iterator over the tuple in slot j -/
def IterDef (P : Program) (w : World) (K : PySem.W.Frag) (mg : Str → Option Value) (base : Heap) (k : Nat) (f C : Addr) (j : Nat) : Prop :=
  ∀ (A : Around) (outer : List Env) (s : Shared) (H : Hp) (x dx : Addr) (vs : List (Option V)) (Q : VK) (E : XK), Room k A → Env0 P w K mg base A outer s H → Slt H x C dx vs →
    (∃ p xs, vs[j]? = some (some (.ref p)) ∧ SqT K H p xs ∧ ∀ it, H it = none → s.heap.objs.size ≤ it → Q (.ref it) (upd H it (ItT p it 0))) →
    codeAny (model P w) A (.call (.ref f) ⟨[.ref x], []⟩) (CR CX0 outer P w H s Q E) s
def iOwn (K : PySem.W.Frag) (C : Addr) (j : Nat) (te : TE) : TI := fun σ H R => te σ H fun x H1 => ∃ a dx vs p xs, x = .ref a ∧ Slt H1 a C dx vs ∧ vs[j]? = some (some (.ref p)) ∧ SqT K H1 p xs ∧ R (Itt K p) H1
section
variable {X : Cx} {tg e : Expr} {te : TE} {C f : Addr} {k j : Nat}
theorem pi_own (he : PE X e te) (hs : PySem.W.findIn X.K (.ref C) "__iter__" = some (some (.ref f))) (hf : PySem.W.isFn X.K (.ref f) = true) (D : IterDef X.prog X.w X.K X.mg X.base k f C j) (hr : Room k X.A) : PI X tg e (iOwn X.K C j te) := by
  refine ⟨fun pins s σ H R I h => ?_⟩
  refine thn (he.run pins s σ H _ I h) fun u s1 ⟨x, H1, I1, rx, a, dx, vs, p, xs, ex, hsl, hv, hq, q⟩ => ?_
  subst ex
  obtain rfl : u = Value.ref a := rx
  obtain ⟨sl, od, _, J, _⟩ := slt_inst I1 hsl
  obtain ⟨m, hF⟩ := I1.fr
  refine PySem.W.owit_iter hF I1.ok.mod.kin J hs hf ?_
  refine wpAny_call (codeAny_mono (D X.A X.stack s1 H1 a dx vs (fun v H' => ∃ it, v = .ref it ∧ H1 it = none ∧ s1.heap.objs.size ≤ it ∧ H' = upd H1 it (ItT p it 0)) E0 hr I1.env0 hsl ⟨p, xs, hv, hq, fun it hn hle => ⟨it, rfl, hn, hle, rfl⟩⟩) fun r s2 hq2 => ?_)
  cases r with
  | error e => exact (show False from hq2).elim
  | ok fl =>
    cases fl with
    | ret u =>
      obtain ⟨v, H', I2, rv, it, ev, hn, hle, eH⟩ := I1.after hq2
      subst ev eH
      obtain rfl : u = Value.ref it := rv
      have st : s2.heap.IsTupleIter it p 0 := (I2.hok it _ upd_same).1
      show PySem.W.OwitIt _ _ _ _ _ _
      unfold PySem.W.OwitIt
      refine wpAny_specialOf (name := Str.ofString "__next__") st.typeIs F.slot_tuple_iterator_next.lookup ?_
      have e1 : ItX.dropH (upd H1 it (ItT p it 0)) it = H1 := ItX.dropH_upd hn
      refine ⟨it, [it], _, _, H1, rfl, ?_, turn_tuple p it, st, fun b hb => ?_, q⟩
      · have z := ItX.inv_drop I2 (a := it) upd_same
        rw [e1] at z
        exact z
      · have e : b = it := by simpa using hb
        rw [e]
        have z := ItX.inv_fp I2 (a := it) upd_same (Nat.le_trans I1.sz hle)
        rw [e1] at z
        exact z
    | next => exact False.elim hq2
    | brk => exact False.elim hq2
    | cont => exact False.elim hq2
end
end Hr

set_option maxHeartbeats 4000000
/-! HrD: == of an instance and a tuple, != by an own __eq__. -/
namespace Hr
open PySem PySem.Spec PyProof.Rows L2 LamX SlX

section
variable {prog : Program} {w : World} {A : Around} {E : Value → Shared → Prop} {s : Shared} {K : PySem.W.Frag} {x C L f : Addr} {h₀ : Heap} {m : Str → Option Value} {ox : Obj} {od : Option Obj} {name : Str} {b tb : Value}
theorem ifBoundB_K {M : Model} {id : String} {T : String} {args : List Value} {Q : Option Value → Shared → Prop} (X : K.In s.heap) (I : PySem.W.InstAt s.heap x ox C od) (hs : PySem.W.findIn K (.ref C) name = some (some (.builtin id))) (S : Slot T name id)
    (h : wpAny M A (call (.builtin id) (.ref x :: args)) (fun v => Q (some v)) E s) : wpAny M A (callSpecialIfBound? (.ref x) name args) Q E s := by
  simp only [callSpecialIfBound?, bindSpecialIfBound?]
  refine wpAny_holding (wpAny_bind (wpAny_bind (wpAny_bind (I.type.here ((PySem.W.looks_findIn X hs).here ?_)))))
  simp only [S.bind]
  refine wpAny_bind (wpAny_askSetting (wpAny_ite ?_))
  have fin : wpAny M A (call (.builtin id) ([.ref x] ++ args) >>= fun v => pure (some v)) Q E s := wpAny_bind (wpAny_mono h (fun v s' h' => wpAny_pure h') fun _ _ h' => h')
  split
  · exact wpAny_bind (wpAny_pure (wpAny_pure fin))
  · exact wpAny_tryCatch (wpAny_bind (wpAny_pure (wpAny_pure fin)))
theorem check_slot_K {M : Model} {id owner n : String} {rest : List Value} {Q : Unit → Shared → Prop} (hk : builtinKind id = some .slot) (hs : splitId id = some (owner, n)) (ha : argsOk id ⟨.ref x :: rest, []⟩)
    (X : K.In s.heap) (I : PySem.W.InstAt s.heap x ox C od) (hm : PySem.W.mroIn K C (.type owner) = some true) (hq : Q () s) : wpAny M A (checkBuiltinCall id ⟨.ref x :: rest, []⟩) Q E s := by
  simp only [checkBuiltinCall, hk, hs]
  refine wpAny_bind ?_
  unfold isInstance
  refine wpAny_bind (I.type.here ((PySem.W.looks_mroIn X hm).here ?_))
  cases hsig : Manifest.signature? id with
  | none => exact wpAny_pure hq
  | some sig =>
    simp only [argsOk, hsig] at ha
    have h2 : Bind.checkArgs id sig ⟨.ref x :: rest, []⟩ = pure () := ha
    show wpAny M A (Bind.checkArgs id sig ⟨.ref x :: rest, []⟩) Q E _
    rw [h2]
    exact wpAny_pure hq
theorem objNe_K (X : K.In s.heap) (I : PySem.W.InstAt s.heap x ox C od) (hs : PySem.W.findIn K (.ref C) "__eq__" = some (some (.ref f))) (hf : PySem.W.isFn K (.ref f) = true) (hu : A.units < cLine) {Q : PySem.Fin → Shared → Prop}
    (hcall : wpAny (model prog w) A (call (.ref f) [.ref x, b]) (fun v s' => ∃ c, v = .bool c ∧ Q (.done (.ret (.bool (!c)))) s') E s) :
    wpAny (model prog w) A (Builtin.«object.__ne__» ⟨[.ref x, b], []⟩) Q E s := by
  obtain ⟨hh, g, d, t, os⟩ := s
  unfold Builtin.«object.__ne__»
  repeat (first
    | with_reducible refine wpAny_cRoomFor hu ?_
    | (refine wpAny_bind (m := callSpecialIfBound? (.ref x) (Str.ofString "__eq__") [b])
        (PySem.W.ifBound_K X I hs hf (wpAny_mono hcall (fun r s' hr => by
          obtain ⟨c, rfl, hq⟩ := hr
          repeat (first | exact hq | exact wpAny_pure hq | exact wpAny_truthy_bool hq | (refine wpAny_bind (m := truthy (.bool _)) (wpAny_truthy_bool ?_)) | wp_step)) fun _ _ e => e)))
    | wp_step)
theorem ne_own_K {Q : Value → Shared → Prop} (hu : A.units + 1 < cLine) (X : K.In s.heap) (I : PySem.W.InstAt s.heap x ox C od) (hb : PySem.W.Looks (model prog w) s.heap (typeOf b) tb) (hn : PySem.W.notFirst K C tb = true)
    (hs : PySem.W.findIn K (.ref C) "__eq__" = some (some (.ref f))) (hf : PySem.W.isFn K (.ref f) = true) (hne : PySem.W.findIn K (.ref C) "__ne__" = some (some (.builtin "object.__ne__"))) (hm : PySem.W.mroIn K C (.type "object") = some true)
    (h : wpAny (model prog w) A.in1 (call (.ref f) [.ref x, b]) (fun v s' => ∃ c, v = .bool c ∧ Q (.bool (!c)) s') E s) : wpAny (model prog w) A (richCompare .NotEq (.ref x) b) Q E s := by
  have one : wpAny (model prog w) A (tryCompare (.ref x) "__ne__" b) (fun r s' => ∃ v, r = some v ∧ Q v s') E s := by
    unfold tryCompare
    refine wpAny_bind (ifBoundB_K (name := "__ne__") X I hne F.cmp_object.ne (wpAny_call (codeAny_call_builtin F.cmp_object.ne.plain F.cmpEntry_ne
      (check_slot_K F.cmpKind_ne F.cmpSplit_ne (F.cmpArgs_ne _ _) X I hm (objNe_K (A := A.in1) X I hs hf hu (wpAny_mono h (fun v s' hv => ?_) fun _ _ e => e))))))
    obtain ⟨c, rfl, hq⟩ := hv
    first
      | exact ⟨c, rfl, wpAny_pure ⟨_, rfl, hq⟩⟩
      | exact ⟨c, rfl, wpAny_pure (wpAny_pure ⟨_, rfl, hq⟩)⟩
      | exact ⟨c, rfl, ⟨_, rfl, hq⟩⟩
  unfold richCompare
  simp only [oneThing_ref]
  refine wpAny_holding (wpAny_bind (wpAny_cRoomFor (Nat.lt_of_succ_lt hu) ?_))
  rw [cmpInfo_NotEq]
  dsimp only
  refine wpAny_bind (I.type.here (wpAny_bind (hb.here ?_)))
  split
  · rename_i q
    have e : PySem.W.subIn K tb (.ref C) = some false := by
      rcases Bool.or_eq_true_iff.mp hn with e | e
      · rw [beq_iff_eq.mp e] at q; simp at q
      · exact beq_iff_eq.mp e
    refine wpAny_bind ((PySem.W.looks_subIn X e).here ?_)
    simp only [Bool.false_eq_true, if_false]
    refine wpAny_bind (wpAny_mono one (fun r s' z => ?_) fun _ _ e => e)
    obtain ⟨v, rfl, hq⟩ := z
    exact wpAny_pure hq
  · refine wpAny_bind (wpAny_pure ?_)
    simp only [Bool.false_eq_true, if_false]
    refine wpAny_bind (wpAny_mono one (fun r s' z => ?_) fun _ _ e => e)
    obtain ⟨v, rfl, hq⟩ := z
    exact wpAny_pure hq
theorem tup_type {M : Model} {h : Heap} {a : Addr} {its : Array Value} (t : IsTup h a its) : PySem.W.Looks M h (typeOf (.ref a)) (.type "tuple") := by
  obtain ⟨o, e, c, _⟩ := t
  exact c ▸ (PySem.W.Looks.ld e).andThen .now
end
/-- an instance == a tuple -/
def rEqTup (K : PySem.W.Frag) (C : Addr) (sp : Sp) (E : XK) : R2 := fun x y H Q => ∃ a dx vs b xs, x = .ref a ∧ y = .ref b ∧ Slt H a C dx vs ∧ SqT K H b xs ∧ sp [x, y] H Q E
/-- an instance != an instance of the same class -/
def rNeOwn (C : Addr) (sp : Sp) (E : XK) : R2 := fun x y H Q => ∃ a dx vs b dy ws, x = .ref a ∧ y = .ref b ∧ Slt H a C dx vs ∧ Slt H b C dy ws ∧ sp [x, y] H (fun z H' => ∃ c, z = .bl c ∧ Q (.bl (!c)) H') E
section
variable {X : Cx} {CX : CXT} {C g : Addr} {n : Nat} {sp : Sp} {E : XK}
theorem op_eqTup (hn : PySem.W.notFirst X.K C (.type "tuple") = true) (hs : PySem.W.findIn X.K (.ref C) "__eq__" = some (some (.ref g))) (hf : PySem.W.isFn X.K (.ref g) = true) (F : FnR X.prog X.w X.K X.mg X.base CX n g sp)
    (hr : Room n X.A) (hx : Passes CX X E) : OpR X (compareOp .Eq) (rEqTup X.K C sp E) := by
  intro pins s σ H x y v u Q I rx ry h
  obtain ⟨a, dx, vs, b, xs, rfl, rfl, ha, hb, q⟩ := h
  cases (show v = Value.ref a from rx)
  cases (show u = Value.ref b from ry)
  obtain ⟨sl, od, _, J, _⟩ := slt_inst I ha
  obtain ⟨its, rv, pt, _⟩ := I.tuple hb
  obtain ⟨m, hF⟩ := I.fr
  refine PySem.W.cmp_K (op := .Eq) (tb := .type "tuple") hr.units0 hF I.ok.mod.kin J (tup_type pt) hn hs hf ?_
  refine wpAny_mono (wpAny_call (run_fnR (us := [.ref a, .ref b]) (vs := [.ref a, .ref b]) F hr hx I (.cons rfl (.cons rfl .nil)) q)) (fun w s' z => ?_) fun _ _ x => x
  obtain ⟨z', H', I', rz, qz⟩ := z
  exact cmpback rz ⟨z', H', I', rz, qz⟩
theorem op_neOwn (hn : PySem.W.notFirst X.K C (.ref C) = true) (hs : PySem.W.findIn X.K (.ref C) "__eq__" = some (some (.ref g))) (hf : PySem.W.isFn X.K (.ref g) = true) (hne : PySem.W.findIn X.K (.ref C) "__ne__" = some (some (.builtin "object.__ne__")))
    (hm : PySem.W.mroIn X.K C (.type "object") = some true) (F : FnR X.prog X.w X.K X.mg X.base CX n g sp) (hr : Room (n + 1) X.A) (hx : Passes CX X E) : OpR X (compareOp .NotEq) (rNeOwn C sp E) := by
  intro pins s σ H x y v u Q I rx ry h
  obtain ⟨a, dx, vs, b, dy, ws, rfl, rfl, ha, hb, q⟩ := h
  cases (show v = Value.ref a from rx)
  cases (show u = Value.ref b from ry)
  obtain ⟨sl, od, _, J, _⟩ := slt_inst I ha
  obtain ⟨sl', od', _, J', _⟩ := slt_inst I hb
  show wpAny _ _ (richCompare .NotEq (.ref a) (.ref b)) _ _ _
  refine ne_own_K (tb := .ref C) (hu_of hr) I.kIn J J'.type hn hs hf hne hm ?_
  refine wpAny_mono (wpAny_call (run_at (us := [.ref a, .ref b]) (ws := [.ref a, .ref b]) F hr.in1 I.env0.in1 hx I (.cons rfl (.cons rfl .nil)) q)) (fun w s' z => ?_) fun _ _ x => x
  obtain ⟨z', H', I', rz, c, ec, qz⟩ := z
  subst ec
  exact ⟨c, rz, .bl (!c), H', I', rfl, qz⟩
end
end Hr

set_option maxHeartbeats 4000000
/-! HrE: a lambda of one parameter that captures names of the def, called by a built-in; min(e, key=such a lambda). -/
namespace Hr
open PySem PySem.Spec PyProof.Rows L2 LamX SlX NdefX

/-- the lambda's words -/
abbrev LF (q : Str) (params : Arguments) (scope : Scope) (cl : List (Str × Addr)) (c' : Addr) : NF := ⟨"<lambda>", q, params, [], scope, cl, c'⟩
section
variable {X : Cx} {pins : List (Addr × Obj)} {σ : L2.St} {H : Hp} {s : Shared}
theorem lam_call {A : Around} {q y : Str} {params : Arguments} {body : Expr} {scope : Scope} {cl : List (Str × Addr)} {pm ctv : Value} {c' f : Addr} {N fr : List Str} {js : List Nat} {k : Nat} {v : V} {u : Value} {Q : VK}
    (I : Inv X pins σ H s) (S : NScope N [y] fr scope) (cp : Caps X cl fr js) (hf : s.heap.get? f = some (PySem.W.kla_obj "<lambda>" q params body scope cl pm c' ctv)) (hc : H c' = some (CodeO c' q)) (hr : Room (k + 1) A) (e0 : Env0 X.prog X.w X.K X.mg X.base A X.stack s H)
    (hbind : bindArgs (PySem.W.kla_fn "<lambda>" q params body scope cl pm (.ref c') ctv) ⟨[u], []⟩ = pure [(y, u)]) (rv : RelV v u)
    (hbody : Room k (A.deeper (envF (LF q params scope cl c') f s.heap.objs.size)) → ∃ t, PE (ncx CX0 X.prog X.w X.K X.mg X.base N (LF q params scope cl c') f A X.stack s H E0).nox body t ∧ t (startF N [v] (js.map (slotAt σ))) H Q) :
    codeAny (model X.prog X.w) A (.call (.ref f) ⟨[u], []⟩) (CR CX0 X.stack X.prog X.w H s Q E0) s := by
  obtain ⟨⟨oc, vs, t, hoc, hdc, hvc⟩, _, _⟩ := I.hok c' _ hc
  refine PySem.W.kla_callFunE hr.depth hf rfl S.co S.gen rfl ⟨c', oc, vs, t, rfl, hoc, hdc, hvc⟩ ?_
  rw [hbind]
  have lim : s.heap.NoLimit := I.nolimit
  refine wpAny_pure (wpAny_newFunctionEnv S.nocell (fun z hz => ?_) (fun h₁ hns hsb => ⟨lim.fresh _ hsb, ?_⟩) S.kind)
  · have e : z = (y, u) := by simpa using hz
    rw [e]
    exact S.par y (List.mem_cons_self)
  · show codeAny _ _ (.expr body (envF (LF q params scope cl c') f s.heap.objs.size)) _ _
    have kp : ∀ b o, s.heap.get? b = some o → h₁.get? b = some o := fun b o e => hsb.extBut b o (Nat.ne_of_lt (Heap.lt_size e)) (Heap.get?_push_of_some _ e)
    obtain ⟨t, ht, hq⟩ := hbody (hr.deeper _)
    have J := inv_startN (CX := CX0) (F := LF q params scope cl c') (f := f) (E := E0) (N := N) (tk := s.toks + ([(y, u)] : List (Str × Value)).length) (h₁ := h₁) (us := [u]) (vs := [v]) S hr.hd e0 rfl (.cons rv .nil) (cells_of I cp) hns kp
    refine PySem.W.kla_codeExpr (wpAny_mono (ht.nox.run [] _ _ H Q J hq) (fun v s' hq => ?_) fun e s' hq => hq)
    obtain ⟨w', H', J', rv, q⟩ := hq
    exact ⟨w', H', J'.os, J'.bare, J'.base, J'.hok, rv, q⟩
end
end Hr

set_option maxHeartbeats 4000000
/-! HrF: min(e, key=lambda y: ..) over a tuple of ints, the keys tuples of ints. -/
namespace Hr
open PySem PySem.Spec PyProof.Rows L2 LamX SlX NdefX

section
variable {prog : Program} {w : World} {A : Around} {I p : Addr} {cs : List Int}
/-- the tuple's iterator stands at turn i -/
def Wst (I p : Addr) (cs : List Int) (i : Nat) (s : Shared) : Prop := s.heap.IsTupleIter I p i ∧ ∃ its : List Value, Vals (cs.map V.int) its ∧ s.heap.IsTuple p its.toArray
def Wp (cs : List Int) (i : Nat) (v : Value) : Prop := ∃ c, cs[i]? = some c ∧ RelV (.int c) v
theorem walks_tup (hh : A.handled = none) (hne : p ≠ I) : WalksS prog w A I [I, p] [I] (fun a b => b = a) cs.length (Wp cs) (Wst I p cs) where
  sub := fun b hb => by
    have e : b = I := by simpa using hb
    rw [e]
    exact List.mem_cons_self
  grefl := fun _ => rfl
  gtrans := fun _ _ _ h1 h2 => h2.trans h1
  frame := fun i s h' tk st _ hk => by
    obtain ⟨⟨o, e, c, d⟩, its, r, ⟨o2, e2, c2, d2⟩⟩ := st
    exact ⟨⟨o, hk I (List.mem_cons_self) o e, c, d⟩, its, r, ⟨o2, hk p (List.mem_cons_of_mem _ (List.mem_cons_self)) o2 e2, c2, d2⟩⟩
  item := fun i s Q E hi st hQ => by
    obtain ⟨hit, its, r, ht⟩ := st
    have hx : (cs.map V.int)[i]? = some (V.int cs[i]) := by rw [List.getElem?_map, List.getElem?_eq_getElem hi]; rfl
    obtain ⟨u, hu, ru⟩ := r.get hx
    refine wpAny_pyNext_tuple_item hit ht (x := u) (by rw [List.getElem?_toArray]; exact hu) fun h' it' sb => ?_
    refine hQ u _ ⟨cs[i], List.getElem?_eq_getElem hi, ru⟩ ⟨it', its, r, ?_⟩ ⟨fun b o hb e => ?_, rfl, rfl, rfl, Nat.le_refl _⟩
    · obtain ⟨o2, e2, c2, d2⟩ := ht
      exact ⟨o2, (sb.2 p hne).trans e2, c2, d2⟩
    · exact (sb.2 b (fun z => hb (by rw [z]; exact List.mem_cons_self))).trans e
  done := fun s Q E st hQ => by
    obtain ⟨hit, its, r, ht⟩ := st
    have hl := r.length
    rw [List.length_map] at hl
    refine wpAny_pyNext_tuple_end hh hit ht (by rw [List.getElem?_toArray]; exact List.getElem?_eq_none_iff.mpr (by omega)) fun h' eb => hQ _ ⟨fun b o hb e => ?_, rfl, rfl, rfl, Nat.le_refl _⟩
    exact eb b o (fun z => hb (by rw [z]; exact List.mem_cons_self)) e
  self := fun i s Q E st h => wpAny_pyIter_tupleiter st.1 h
end

section
variable {X : Cx} {pins : List (Addr × Obj)} {σ : L2.St} {H1 : Hp} {S I : Addr}
/-- between two turns: what H1 knows stands, besides at most tuples -/
def Jm (X : Cx) (pins : List (Addr × Obj)) (σ : L2.St) (H1 : Hp) (S I : Addr) (s : Shared) : Prop :=
  ∃ H', Inv X pins σ H' s ∧ (∀ b o, H1 b = some o → H' b = some o) ∧ (∀ b o, H' b = some o → H1 b = some o ∨ ∃ xs, o = .tup xs) ∧ FpOk X pins H' S ∧ FpOk X pins H' I
/-- a key -/
def Vm (X : Cx) (H1 : Hp) (S I : Addr) (a : Nat → List Int) (i : Nat) (k : Value) (s : Shared) : Prop :=
  ∃ q, ∃ its : List Value, k = .ref q ∧ q ≠ S ∧ q ≠ I ∧ q ∉ frs X.stack ∧ H1 q = none ∧ IsTup s.heap q its.toArray ∧ Vals ((a i).map V.int) its
theorem jm_keep {s s' : Shared} (j : Jm X pins σ H1 S I s) (m : Moved (S :: [I]) (fun a b => b = a) s s') : Jm X pins σ H1 S I s' := by
  obtain ⟨H', J, h1, h2, fS, fI⟩ := j
  refine ⟨H', ?_, h1, h2, fS, fI⟩
  obtain ⟨mh, mg, md, mo, mt⟩ := m
  obtain ⟨h', g', d', t', os'⟩ := s'
  obtain rfl : os' = s.os := mo
  obtain rfl : g' = s.gens := mg
  have nn : ∀ b u, H' b = some u → b ∉ S :: [I] := fun b u e z => by
    rcases List.mem_cons.mp z with z | z
    · rw [z, fS.1] at e; cases e
    · have z2 : b = I := by simpa using z
      rw [z2, fI.1] at e; cases e
  refine J.step (ch := S :: [I]) (fun b hb => ?_) (fun b o _ _ hc e _ => mh b o hc e) (fun b o _ _ hc e _ => ⟨o.slots, mh b o hc e⟩) (fun _ _ _ _ n => n) (fun b o hc e => ⟨o, mh b o hc e⟩) (fun _ _ e => e) (fun _ _ _ e => e)
    (fun b ps e => ⟨#[], by rw [e]; simp⟩) (fun m hm => ?_) (fun b u e => ?_) J.bare
  · rcases List.mem_cons.mp hb with z | z
    · rw [z]
      exact ⟨fS.2.2.2.1, fS.2.1, fS.2.2.2.2.1, fS.2.2.2.2.2⟩
    · have z2 : b = I := by simpa using z
      rw [z2]
      exact ⟨fI.2.2.2.1, fI.2.1, fI.2.2.2.2.1, fI.2.2.2.2.2⟩
  · obtain ⟨o, es, ep, ho, r⟩ := hm
    refine ⟨o, es, ep, mh _ o (fun z => ?_) ho, r⟩
    rcases List.mem_cons.mp z with z | z
    · exact fS.2.1 z.symm
    · exact fI.2.1 (show _ = I by simpa using z).symm
  · refine (J.hok b u e).stay (fun c v hc q => mh c v ?_ q) (fun _ q => q) fun _ _ q => q
    rcases hc with z | z
    · rw [z]; exact nn b u e
    · exact nn c _ z
theorem vm_keep {a : Nat → List Int} {i : Nat} {k : Value} {s s' : Shared} (v : Vm X H1 S I a i k s) (m : Moved (S :: [I]) (fun a b => b = a) s s') : Vm X H1 S I a i k s' := by
  obtain ⟨q, its, ek, n1, n2, n3, n4, ⟨o, e, c, d⟩, r⟩ := v
  refine ⟨q, its, ek, n1, n2, n3, n4, ⟨o, m.heap q o (fun z => ?_) e, c, d⟩, r⟩
  rcases List.mem_cons.mp z with z | z
  · exact n1 z
  · exact n2 (by simpa using z)
/-- frames stand in the heap -/
theorem frame_there {H : Hp} {s : Shared} (J : Inv X pins σ H s) {q : Addr} (h : q ∈ frs X.stack) : ∃ o, s.heap.get? q = some o := by
  rcases List.mem_cons.mp (J.stkSub q h) with e | h
  · obtain ⟨m, ⟨o, _, _, ho, _⟩, _⟩ := J.loc
    exact ⟨o, by rw [e]; exact ho⟩
  · obtain ⟨_, o, ho, _⟩ := J.funs.mem h
    exact ⟨o, ho⟩
end
end Hr

set_option maxHeartbeats 4000000
/-! HrG: the keys' run, min(e, key=lambda). -/
namespace Hr
open PySem PySem.Spec PyProof.Rows L2 LamX SlX NdefX

section
variable {X : Cx} {pins : List (Addr × Obj)} {σ : L2.St} {H1 : Hp} {S I p f c' : Addr} {cs : List Int} {a : Nat → List Int} {q y : Str} {params : Arguments} {body : Expr} {scope : Scope} {cl : List (Str × Addr)} {pm ctv : Value} {N fr : List Str} {js : List Nat} {k : Nat} {tb : TE}
theorem key_run (Sc : NScope N [y] fr scope) (cp : Caps X cl fr js) (hpin : (f, PySem.W.kla_obj "<lambda>" q params body scope cl pm c' ctv) ∈ pins) (hc : H1 c' = some (CodeO c' q)) (hr : Room (k + 2) X.A) (hSp : SqT X.K H1 p (cs.map V.int))
    (hbind : ∀ u : Value, bindArgs (PySem.W.kla_fn "<lambda>" q params body scope cl pm (.ref c') ctv) ⟨[u], []⟩ = pure [(y, u)])
    (hbody : ∀ (A : Around) (s : Shared) (H : Hp), Room k (A.deeper (envF (LF q params scope cl c') f s.heap.objs.size)) → PE (ncx CX0 X.prog X.w X.K X.mg X.base N (LF q params scope cl c') f A X.stack s H E0).nox body tb)
    (hread : ∀ (i : Nat) (c : Int) (H' : Hp), cs[i]? = some c → (∀ b o, H1 b = some o → H' b = some o) → tb (startF N [.int c] (js.map (slotAt σ))) H' (fun v H'' => ∃ q, v = .ref q ∧ H' q = none ∧ H'' = upd H' q (.tup ((a i).map V.int)))) :
    KeyRun X.prog X.w X.A.in1 (.ref f) .Lt S [I] (fun a b => b = a) cs.length (Wp cs) (Wst I p cs) (Jm X pins σ H1 S I) (Vm X H1 S I a) (fun i j => HT.lexLt (a i) (a j)) where
  keep := fun s s' j m => jm_keep j m
  keepV := fun i k s s' v m => vm_keep v m
  turn := by
    intro i v s o Q E hi hP hJ hst hS h
    obtain ⟨H', J, h1, h2, fS, fI⟩ := hJ
    obtain ⟨c, hci, rv⟩ := hP
    have hf : s.heap.get? f = some (PySem.W.kla_obj "<lambda>" q params body scope cl pm c' ctv) := (J.pin _ (List.mem_append_right _ hpin)).1
    have hr1 : Room (k + 1) X.A.in1 := hr.in1
    refine wpAny_call (codeAny_mono (lam_call (A := X.A.in1) (k := k) (Q := fun v H'' => ∃ q, v = .ref q ∧ H' q = none ∧ H'' = upd H' q (.tup ((a i).map V.int))) J Sc cp hf (h1 _ _ hc) hr1 J.env0.in1 (hbind v) rv
      fun hr2 => ⟨tb, hbody _ _ _ hr2, hread i c H' hci h1⟩) fun r s' hq => ?_)
    cases r with
    | error e => exact (show False from hq).elim
    | ok fl =>
      cases fl with
      | next => exact False.elim hq
      | brk => exact False.elim hq
      | cont => exact False.elim hq
      | ret u =>
        obtain ⟨w', H'', os, bare, un, hok, rw', qa, ev, hn, eH⟩ := hq
        subst ev eH
        obtain rfl : u = Value.ref qa := rw'
        have noq : s.heap.get? qa = none := by
          cases e : s.heap.get? qa with
          | none => rfl
          | some ob =>
            have z := un.free qa ob e hn (by simp)
            rw [upd_same] at z
            cases z
        have J2 : Inv X pins σ (upd H' qa (.tup ((a i).map V.int))) s' := J.call' (ch := []) os un hok bare (fun b z => absurd z (by simp))
        have neS : qa ≠ S := fun z => by rw [z, hS] at noq; cases noq
        have hit := hst.1
        have neI : qa ≠ I := fun z => by
          obtain ⟨ob, e, _⟩ := hit
          rw [z, e] at noq
          cases noq
        have frs_ne : qa ∉ frs X.stack := fun z => by
          obtain ⟨ob, e⟩ := frame_there J z
          rw [e] at noq
          cases noq
        have fpk : ∀ {b : Addr}, b ≠ qa → FpOk X pins H' b → FpOk X pins (upd H' qa (.tup ((a i).map V.int))) b := fun {b} ne z => ⟨by rw [upd_ne ne]; exact z.1, z.2⟩
        have nofr : ∀ {b : Addr}, FpOk X pins H' b → b ∉ frs X.stack := fun {b} z hb => by
          rcases List.mem_cons.mp (J.stkSub b hb) with e | e
          · exact z.2.1 e
          · exact z.2.2.1 e
        have grow : ∀ b o, H' b = some o → upd H' qa (.tup ((a i).map V.int)) b = some o := fun b o e => by rw [upd_ne (ne_of_none e hn)]; exact e
        refine h (.ref qa) s' ⟨_, J2, fun b o e => grow b o (h1 b o e), fun b o e => ?_, fpk neS.symm fS, fpk neI.symm fI⟩ ⟨?_, ?_⟩ ?_ ?_ ?_
        · by_cases hb : b = qa
          · rw [hb, upd_same] at e
            exact .inr ⟨_, (Option.some.inj e).symm⟩
          · rw [upd_ne hb] at e
            exact h2 b o e
        · obtain ⟨ob, e, c2, d2⟩ := hit
          exact ⟨ob, un.keep I ob e fI.1 (nofr fI) (by simp), c2, d2⟩
        · have sq : SqT X.K (upd H' qa (.tup ((a i).map V.int))) p (cs.map V.int) := by
            rcases hSp with (z | ⟨ob, z⟩) | z
            · exact .inl (.inl (grow _ _ (h1 _ _ z)))
            · exact .inl (.inr ⟨ob, grow _ _ (h1 _ _ z)⟩)
            · exact .inr z
          obtain ⟨its, r2, pt, _⟩ := J2.tuple sq
          exact ⟨its, r2, pt⟩
        · exact un.keep S o hS fS.1 (nofr fS) (by simp)
        · obtain ⟨_, its, r2, pt⟩ := hok qa _ upd_same
          refine ⟨qa, its, rfl, neS, neI, frs_ne, ?_, pt, r2⟩
          cases e : H1 qa with
          | none => rfl
          | some ob =>
            have z := h1 _ _ e
            rw [hn] at z
            cases z
        · rintro j k' ⟨q1, its, ek, m1, m2, m3, m4, pt, r1⟩
          refine ⟨q1, ?_⟩
          cases e : H' q1 with
          | none =>
            obtain ⟨ob, e1, c1, d1⟩ := pt
            exact ⟨its, ek, m1, m2, m3, m4, ⟨ob, un.keep q1 ob e1 e m3 (by simp), c1, d1⟩, r1⟩
          | some u1 =>
            rcases h2 q1 u1 e with z | ⟨xs, z⟩
            · rw [m4] at z
              cases z
            · subst z
              obtain ⟨_, its2, r2, pt2⟩ := J.hok q1 _ e
              have e2 : its2 = its := by
                obtain ⟨ob, e1, c1, n1, d1⟩ := pt
                obtain ⟨ob2, e3, c3, n3, d3⟩ := pt2
                rw [e1] at e3
                cases e3
                rw [d1] at d3
                injection d3 with d3 _
                exact (by simpa using congrArg Array.toList d3 : its = its2).symm
              subst e2
              have e3 : xs = (a j).map V.int := r2.inj r1
              subst e3
              obtain ⟨_, its3, r3, pt3⟩ := hok q1 _ (grow _ _ e)
              exact ⟨its3, ek, m1, m2, m3, m4, pt3, r3⟩
  cmp := by
    rintro i j ki kj s Q E ⟨H', J, _⟩ ⟨q1, its, rfl, _, _, _, _, pt, r1⟩ ⟨q2, its2, rfl, _, _, _, _, pt2, r2⟩ hQ
    have i1 : IntsAre its.toArray.toList (a i) := intsAre_of r1
    have i2 : IntsAre its2.toArray.toList (a j) := intsAre_of r2
    show wpAny _ _ (compareOp .Lt (.ref q1) (.ref q2)) _ _ _
    exact HT.lt_tupInts pt pt2 i1 i2 hr.in1.units0 hQ
end
end Hr

set_option maxHeartbeats 4000000
/-! HrH: min(e, key=lambda y: ..) as a rule. -/
namespace Hr
open PySem PySem.Spec PyProof.Rows L2 LamX SlX NdefX

/-- the first of the least keys -/
def minAt (a : Nat → List Int) (n : Nat) : Nat := argBest (fun i j => HT.lexLt (a i) (a j)) (n - 1)
/-- a: the key of the i-th item -/
def tMinKey (K : PySem.W.Frag) (T : List (Addr × Str)) (N : List Str) (js : List Nat) (tb te : TE) : TE := fun σ H Q => te σ H fun x H0 => ∃ (p : Addr) (cs : List Int) (a : Nat → List Int), x = .ref p ∧ SqT K H0 p (cs.map V.int) ∧ 0 < cs.length ∧ Tabs T H0 ∧
  (∀ (i : Nat) (c : Int) (H' : Hp), cs[i]? = some c → Ex T H0 H' → tb (startF N [.int c] (js.map (slotAt σ))) H' (fun v H'' => ∃ q, v = .ref q ∧ H' q = none ∧ H'' = upd H' q (.tup ((a i).map V.int)))) ∧
  ∀ (c : Int) (H2 : Hp), cs[minAt a cs.length]? = some c → Ex T H0 H2 → Q (.int c) H2
section
variable {X : Cx} {T : List (Addr × Str)} {e : Expr} {te tb : TE} {y : Str} {params : Arguments} {body : Expr} {scope : Scope} {cP P : Addr} {N fr : List Str} {js : List Nat} {k : Nat} {pp pos lpos kpos : Pos}
theorem pe_minKey (hcalm : X.calm = true) (hg : Gl X "min") (hm : X.mg "min" = none) (he : PE X e te) (TB : TabB X.base X.mg cP P) (hcode : X.env.code = .ref cP) (hmT : (P, X.env.qual ++ "<lambda>") ∈ T) (hu : ∀ p ∈ T, p.1 = P → p.2 = X.env.qual ++ "<lambda>")
    (hdef : defaultsOf params X.env = ([], [])) (Sc : NScope N [y] fr scope) (hfree : ∀ z ∈ scope.names, z.2 = .free → X.env.scope.names.lookup z.1 = some .cell ∨ X.env.scope.names.lookup z.1 = some .free)
    (hfr : ∀ z ∈ fr, (z, NameKind.free) ∈ scope.names) (hjs : js.map (fun j => X.N[j]?) = fr.map some) (hr : Room (k + 2) X.A)
    (hbind : ∀ (q : Str) (cl : List (Str × Addr)) (pm cv ctv : Value) (u : Value), bindArgs (PySem.W.kla_fn "<lambda>" q params body scope cl pm cv ctv) ⟨[u], []⟩ = pure [(y, u)])
    (hbody : ∀ (A : Around) (s : Shared) (H : Hp) (f c' : Addr), Room k (A.deeper (envF (LF (X.env.qual ++ "<lambda>") params scope (cloFrom X.env.cells scope.names []) c') f s.heap.objs.size)) →
      PE (ncx CX0 X.prog X.w X.K X.mg X.base N (LF (X.env.qual ++ "<lambda>") params scope (cloFrom X.env.cells scope.names []) c') f A X.stack s H E0).nox body tb)
    (hst : backTo pos (starEach [e] X.env) = (false, eval e X.env) :: backTo pos (starEach [] X.env) := by rfl) (hst2 : starEach [e] X.env = (false, eval e X.env) :: starEach [] X.env := by rfl) (hpl : (backTo pos (starEach [e] X.env)).any (·.1) = false := by rfl) :
    PE X (.Call (.Name "min" pp) [e] [⟨some "key", .Lambda params body scope lpos, kpos⟩] pos) (tMinKey X.K T N js tb te) := by
  refine ⟨fun pins s σ H Q I h => ?_⟩
  refine wpAny_Call_Name_kw (ld_blt I hg hm boot_min ?_)
  refine PyProof.Rows.callWith_kw (one_arg he I h (fun v s1 x H0 I0 rx h => ?_) hst2) hst hpl (by rfl) (by rfl)
  obtain ⟨p, cs, a, ex, hS, hn, hT, hread, hQ⟩ := h
  subst ex
  obtain rfl : v = Value.ref p := rx
  show wpAny _ _ (evalAll ((do let v ← eval (.Lambda params body scope lpos) X.env; standAt pos; pure v) :: [])) _ _ s1
  have hfree2 : ∀ z ∈ scope.names, z.2 = .free → ∃ c, X.env.cells.lookup z.1 = some c := fun z hz e => (hfree z hz e).elim (fun w => I.ok.has _ (.inl w)) fun w => I.ok.has _ (.inr w)
  refine wpAny_evalAll_cons (wpAny_bind (lam_make2 I0 TB hcode hmT hu hT hdef hfree2 fun f c' pm ctv H1 s2 I1 eN T1 hf hfn hfr2 hco => wpAny_bind (wpAny_standAt (wpAny_pure ?_))))
  refine wpAny_evalAll_nil ?_
  show wpAny _ _ (call (.builtin "min") [.ref p] [(Str.ofString "key", .ref f)]) _ _ _
  have eL : f ≠ X.env.locals := fun z => by
    obtain ⟨m, ⟨o, es, ep, ho, hd, _⟩, _⟩ := I1.loc
    rw [z, ho] at hf
    have hf2 := Option.some.inj hf
    rw [hf2] at hd
    cases hd
  have eF : f ∉ X.fs := fun z => by
    rcases I1.ok.stk with w | ⟨w, hfr3⟩
    · exact hfr2 (by rw [w]; exact z)
    · refine hfr2 ?_
      rw [w]
      unfold frs
      rw [List.filterMap_cons, hfr3]
      exact List.mem_cons_of_mem _ z
  have I2 : Inv X ((f, PySem.W.kla_obj "<lambda>" (X.env.qual ++ "<lambda>") params body scope (cloFrom X.env.cells scope.names []) pm c' ctv) :: pins) σ H1 s2 := I1.pins_of fun z hz => by
    rcases List.mem_cons.mp hz with w | w
    · rw [w]
      exact ⟨hf, hfn, eL, eF, fun v z => by cases z⟩
    · exact I1.pin z (List.mem_append_right _ w)
  have eX : Ex T H0 H1 := ⟨eN, fun _ => T1⟩
  have sq1 : SqT X.K H1 p (cs.map V.int) := eX.seqT hS
  obtain ⟨its, rv, pt, _⟩ := I2.tuple sq1
  refine call_min_walkK (wpAny_pyIter_tuple (show s2.heap.IsTuple p its.toArray from pt) ?_)
  have hsz : (s2.heap.push { cls := .type "tuple_iterator", data := .fields #[.ref p, .int 0 0] }).objs.size = s2.heap.objs.size + 1 := size_push' ..
  have hpl2 : p < s2.heap.objs.size := by
    obtain ⟨o, e, _⟩ := pt
    exact Heap.lt_size e
  have nep : p ≠ s2.heap.objs.size := Nat.ne_of_lt hpl2
  have I3 : Inv X ((f, PySem.W.kla_obj "<lambda>" (X.env.qual ++ "<lambda>") params body scope (cloFrom X.env.cells scope.names []) pm c' ctv) :: pins) σ H1 { s2 with heap := s2.heap.push { cls := .type "tuple_iterator", data := .fields #[.ref p, .int 0 0] } } := I2.kept (t' := s2.toks) fun b o e => Heap.get?_push_of_some _ e
  refine ⟨s2.heap.objs.size, [s2.heap.objs.size, p], [s2.heap.objs.size], fun a b => b = a, cs.length, Wp cs, Wst s2.heap.objs.size p cs, Jm X ((f, PySem.W.kla_obj "<lambda>" (X.env.qual ++ "<lambda>") params body scope (cloFrom X.env.cells scope.names []) pm c' ctv) :: pins) σ H1 (s2.heap.push { cls := .type "tuple_iterator", data := .fields #[.ref p, .int 0 0] }).objs.size s2.heap.objs.size,
    Vm X H1 (s2.heap.push { cls := .type "tuple_iterator", data := .fields #[.ref p, .int 0 0] }).objs.size s2.heap.objs.size a, fun i j => HT.lexLt (a i) (a j), rfl, walks_tup (A := X.A.in1) (I.ok.hd hcalm) nep, ⟨⟨_, Heap.get?_push_size _ rfl, rfl, rfl⟩, its, rv, ?_⟩, fun b hb => ?_, hn, ?_, ?_, ?_⟩
  · obtain ⟨o, e, c, d⟩ := pt
    exact ⟨o, Heap.get?_push_of_some _ e, c, d⟩
  · show b < (s2.heap.push { cls := .type "tuple_iterator", data := .fields #[.ref p, .int 0 0] }).objs.size
    rw [hsz]
    rcases List.mem_cons.mp hb with z | z
    · rw [z]
      exact Nat.lt_succ_self _
    · have z2 : b = p := by simpa using z
      rw [z2]
      exact Nat.lt_succ_of_lt hpl2
  · refine key_run Sc (Caps.made I.ok hfree hfr hjs) List.mem_cons_self hco hr sq1 (hbind _ _ _ _ _) (fun A s H hr2 => hbody A s H f c' hr2) fun i c H' hci hge => hread i c H' hci ⟨fun b o e n => hge b o (eN b o e n), fun _ => ?_⟩
    exact T1.ext hge
  · exact ⟨H1, I3, fun _ _ e => e, fun _ _ e => .inl e, I3.fpOk (Nat.le_refl _) (I3.hok.fresh (Nat.le_refl _)), I2.fpOk (Nat.le_refl _) (I2.hok.fresh (Nat.le_refl _))⟩
  · rintro v s' ⟨c, hc, rv⟩ ⟨H', J, h1, _, _, _⟩
    refine ⟨.int c, H', J.pins_of fun z hz => J.pin z (List.mem_append_right _ (List.mem_cons_of_mem _ hz)), rv, hQ c H' hc ⟨fun b o e n => h1 b o (eN b o e n), fun _ => T1.ext h1⟩⟩
end
end Hr

set_option maxHeartbeats 4000000
/-! HrJ: for .. in enumerate(a tuple). -/
namespace Hr
open PySem PySem.Spec PyProof.Rows L2 LamX SlX

theorem meets_enum1B {v : Value} {o : Obj} {H : Heap → Prop} (B : Begins v o H) :
    Meets (Builtin.«enumerate.__new__» ⟨[.type "enumerate", v], []⟩) (fun _ R s => H s.heap ∧
      R (.ok (.ret (.ref (s.heap.push o).objs.size))) { s with heap := (s.heap.push o).push { cls := .type "enumerate", data := .fields #[.none, .bool false, .ref s.heap.objs.size, rawInt 0, .none, .none] } }) :=
  .of_wp fun prog w A R s h => by
    obtain ⟨hp, g, d, tk, os⟩ := s; obtain ⟨h1, h⟩ := h
    have hsub := sub_enumerate
    have q1 : ∀ {A' : Around} {E : Value → Shared → Prop} {Q : Value → Shared → Prop}, Q (.ref hp.objs.size) ⟨hp.push o, g, d, tk, os⟩ → wpAny (model prog w) A' (pyIter v) Q E ⟨hp, g, d, tk, os⟩ :=
      fun q => B.iter prog w _ _ ⟨hp, g, d, tk, os⟩ _ h1 q
    wp_walk using q1
    refine wpAny_stack_any fun st => wpAny_pure ?_
    split
    · rename_i c _ _ _ _ _
      cases (c == Value.type "enumerate")
      · wp_walk using q1
        exact ⟨_, rfl, h⟩
      · wp_walk using q1
        exact ⟨_, rfl, h⟩
    · wp_walk using q1
      exact ⟨_, rfl, h⟩
section
variable {prog : Program} {w : World} {A : Around} {E : Value → Shared → Prop} {s : Shared}
theorem enum_begins1 {v : Value} {o : Obj} {H : Heap → Prop} {Q : Value → Shared → Prop} (B : Begins v o H) (h1 : H s.heap)
    (h : ∀ h', IsEnum h' (s.heap.objs.size + 1) s.heap.objs.size 0 .none → h'.get? s.heap.objs.size = some o → h'.objs.size = s.heap.objs.size + 2 →
      (∀ b o, s.heap.get? b = some o → h'.get? b = some o) → Q (.ref (s.heap.objs.size + 1)) { s with heap := h' }) :
    wpAny (model prog w) A (call (.type "enumerate") [v]) Q E s := by
  refine callType_new F.called_enumerate (by decide) (F.typeCall_enumerate_1 _) (F.newCall_enumerate_1 _) (fun obj => F.args_object_init_2 obj _) F.entry_enumerate_new
    (meets_enum1B B) ⟨h1, ?_⟩
  have hz : (s.heap.push o).objs.size = s.heap.objs.size + 1 := Heap.size_push ..
  show _ ∧ _
  rw [hz]
  have he : IsEnum ((s.heap.push o).push { cls := .type "enumerate", data := .fields #[.none, .bool false, .ref s.heap.objs.size, rawInt 0, .none, .none] }) (s.heap.objs.size + 1) s.heap.objs.size 0 .none := by
    have := Heap.get?_push_size (s.heap.push o) (o := { cls := .type "enumerate", data := .fields #[.none, .bool false, .ref s.heap.objs.size, rawInt 0, .none, .none] }) rfl
    rw [hz] at this; exact this
  refine ⟨⟨_, he, rfl⟩, h _ he (Heap.get?_push_of_some _ (Heap.get?_push_size _ B.free)) (by rw [Heap.size_push, hz]) fun b o x => Heap.get?_push_of_some _ (Heap.get?_push_of_some _ x)⟩
end
/-- the tuple at a, each item in a new pair -/
def IteT (K : PySem.W.Frag) (a : Addr) : It :=
  ⟨fun i H => ∃ (xs : List V) (x : V), SqT K H a xs ∧ xs[i]? = some x, fun i H v H' => ∃ T x, v = .ref T ∧ H T = none ∧ H' = upd H T (.tup [.int (i : Nat), x]) ∧ ∀ xs, SqT K H a xs → xs[i]? = some x, fun i H => ∃ xs : List V, SqT K H a xs ∧ xs.length = i⟩
theorem turn_enumT {P : Program} {w : World} {K : PySem.W.Frag} {elts : List Expr} {kk : Nat} {tpos : Pos} (a e it : Addr) :
    Turn P w K (.Tuple elts kk tpos) (IteT K a) [e, it] e (fun i h => (∃ old, IsEnum h e it ((i : Nat) : Int) old) ∧ h.IsTupleIter it a i ∧ e ≠ it ∧ a ≠ it ∧ a ≠ e) where
  mem := by simp
  obj := fun i h st b hb => by
    obtain ⟨⟨old, he⟩, ⟨o, ho, hc, hd⟩, _⟩ := st
    have e' : b = e ∨ b = it := by simpa using hb
    rcases e' with z | z
    · rw [z]; exact ⟨_, he, fun v q => nomatch q⟩
    · rw [z]; exact ⟨o, ho, fun v q => by rw [hd] at q; cases q⟩
  keep := fun i h h' st k => let ⟨⟨old, he⟩, hi, hne⟩ := st; ⟨⟨old, k e (by simp) _ he⟩, hi.at fun o q => k it (by simp) o q, hne⟩
  item := by
    intro X hP hw hK hc i pins s σ H E I hf st hg
    subst hP hw hK
    obtain ⟨⟨old, he⟩, hit, hne, nai, nae⟩ := st
    obtain ⟨xs, x, hq, hx⟩ := hg
    obtain ⟨its, rv, p, hz⟩ := I.tuple hq
    obtain ⟨u, hu, ru⟩ := rv.get hx
    have hel : e < s.heap.objs.size := Heap.lt_size he
    have hil : it < s.heap.objs.size := by obtain ⟨_, q, _⟩ := hit; exact Heap.lt_size q
    have p' : s.heap.IsTuple a its.toArray := p
    have hlt : i < its.toArray.size := by
      obtain ⟨z, _⟩ := List.getElem?_eq_some_iff.mp hu
      simpa using z
    refine wpAny_pyNext_enum_itemD (Draws.tuple (A := X.A.in1) (I.ok.hd hc) it a nai its.toArray) he ⟨hit, p'⟩ hlt hne (fun z => ?_) fun x' h' tk hx' ho hst' hT hsz hk => ?_
    · rcases List.mem_cons.mp z with z | z
      · exact hne z
      · exact nae (by simpa using z : e = a).symm
    obtain ⟨hit', ht'⟩ := hst'
    have eu : x' = u := by
      rw [List.getElem?_toArray, hu] at hx'
      exact (Option.some.inj hx').symm
    subst eu
    refine ⟨_, rfl, wpAny_letOwnedTupleGo_enum (s := { s with heap := h', toks := tk + 1 }) ho fun h'' he' sb => ?_⟩
    have hT2 : h''.get? s.heap.objs.size = some { cls := .type "tuple", data := .seq #[.int i tk, x'] } := (sb.2 _ (Nat.ne_of_gt hel)).trans hT
    have new : ObjOk X.prog X.w (upd H s.heap.objs.size (.tup [.int (i : Nat), x])) h'' s.heap.objs.size (.tup [.int (i : Nat), x]) :=
      ⟨by show 2 ≤ sizeLine; decide, [.int i tk, x'], .cons ⟨_, rfl⟩ (.cons ru .nil), ⟨_, hT2, rfl, _, rfl⟩⟩
    have I1 : Inv X pins σ (upd H s.heap.objs.size (.tup [.int (i : Nat), x])) { s with heap := h'', toks := tk + 1 } :=
      I.turnedNew (ch := [e, it]) (fun b ob hb q => (sb.2 b (fun z => hb (by simp [z]))).trans (hk b ob (fun z => hb (by simp [z])) (fun z => hb (by simp [z])) q)) hf (Nat.le_refl _) new
    refine ⟨.ref s.heap.objs.size, _, I1, rfl, ⟨_, x, rfl, I.hok.fresh (Nat.le_refl _), rfl, fun ys hy => ?_⟩, ⟨⟨x', ?_⟩, hit'.at fun o q => (sb.2 it (Ne.symm hne)).trans q, hne, nai, nae⟩, fun b hb => ?_⟩
    · obtain ⟨its2, rv2, p2, _⟩ := I.tuple hy
      have e2 : its2 = its := by
        obtain ⟨o1, a1, _, ⟨n1, d1⟩⟩ := p
        obtain ⟨o2, a2, _, ⟨n2, d2⟩⟩ := p2
        rw [a1] at a2
        cases a2
        rw [d1] at d2
        injection d2 with z1 _
        simpa using z1.symm
      subst e2
      have z := rv.length
      have z2 := rv2.length
      obtain ⟨il, _⟩ := List.getElem?_eq_some_iff.mp hx
      have il2 : i < ys.length := by omega
      obtain ⟨u2, hu2, ru2⟩ := rv2.get (List.getElem?_eq_getElem il2)
      rw [hu] at hu2
      cases hu2
      rw [List.getElem?_eq_getElem il2]
      exact congrArg some (RelV.inj ru2 ru)
    · have e1 : ((i + 1 : Nat) : Int) = (i : Int) + 1 := by omega
      rw [e1]; exact he'
    · have hb' : b < s.heap.objs.size := by
        have e' : b = e ∨ b = it := by simpa using hb
        rcases e' with z | z
        · rw [z]; exact hel
        · rw [z]; exact hil
      rw [upd_ne (Nat.ne_of_lt hb')]
      exact (hf b hb).1
  done := by
    intro X hP hw hK hc i pins s σ H E I hf st hg
    subst hP hw hK
    obtain ⟨⟨old, he⟩, hit, hne, nai, nae⟩ := st
    obtain ⟨xs, hq, hx⟩ := hg
    obtain ⟨its, rv, p, hz⟩ := I.tuple hq
    obtain ⟨f0, f1, f2, f3, f4, f5⟩ := hf it (by simp)
    have hl := rv.length
    have p' : s.heap.IsTuple a its.toArray := p
    have en : i = its.toArray.size := by rw [List.size_toArray]; omega
    refine wpAny_pyNext_enum_endD (Draws.tuple (A := X.A.in1) (I.ok.hd hc) it a nai its.toArray) he ⟨by rw [← en]; exact hit, p'⟩ fun h' eb => ⟨rfl, I.turned (t' := s.toks) (fun b o hb q => eb b o hb q) f0 f1 f3 f4 f5⟩
  self := fun A i s Q E st h => let ⟨⟨_, he⟩, _⟩ := st; wpAny_pyIter_enum he h
/-- enumerate(a list | a tuple) -/
def iEnumA (K : PySem.W.Frag) (ta : TA) : TI := fun σ H R => ta σ H fun vs H1 => ∃ a xs, vs = [.ref a] ∧ ((SqL K H1 a xs ∧ R (Ite K a) H1) ∨ (SqT K H1 a xs ∧ R (IteT K a) H1))
theorem pi_enumA {X : Cx} {e : Expr} {ta : TA} {p pos tpos : Pos} {elts : List Expr} {kk : Nat} (hg : Gl X "enumerate") (hm : X.mg "enumerate" = none) (ha : PA X [e] ta) (hs : starEach [e] X.env = [(false, eval e X.env)] := by rfl) :
    PI X (.Tuple elts kk tpos) (.Call (.Name "enumerate" p) [e] [] pos) (iEnumA X.K ta) := by
  refine ⟨fun pins s σ H R I h => ?_⟩
  refine Call_ (ld_blt I hg hm boot_enumerate (PyProof.Rows.callWith_type1 (thn (ha.run pos pins s σ H _ I h) fun us s1 ⟨vs, H1, I1, r1, q1⟩ => ?_) hs rfl))
  obtain ⟨a, xs, ex, hq⟩ := q1
  subst ex
  cases r1 with
  | cons r rr =>
    cases rr
    cases r
    rcases hq with ⟨hq, q⟩ | ⟨hq, q⟩
    · obtain ⟨its, rv, p', hz⟩ := I1.list hq
      refine call_enumerate_list p'.isList fun h' he hit hsz hk => wpAny_pyIter_enum he ?_
      have I2 : Inv X pins σ H1 { s1 with heap := h' } := I1.kept (t' := s1.toks) hk
      refine ⟨s1.heap.objs.size + 1, [s1.heap.objs.size + 1, s1.heap.objs.size], _, _, H1, rfl, I2, turn_enum a (s1.heap.objs.size + 1) s1.heap.objs.size, ⟨⟨.none, he⟩, hit, Nat.succ_ne_self _⟩, fun b hb => ?_, q⟩
      have e' : b = s1.heap.objs.size + 1 ∨ b = s1.heap.objs.size := by simpa using hb
      have hle : s1.heap.objs.size ≤ b := by
        rcases e' with z | z
        · rw [z]; exact Nat.le_add_right _ _
        · rw [z]; exact Nat.le_refl _
      exact I1.fpOk hle (I1.hok.fresh hle)
    · obtain ⟨its, rv, p', hz⟩ := I1.tuple hq
      have pt : s1.heap.IsTuple a its.toArray := p'
      have hal : a < s1.heap.objs.size := by
        obtain ⟨o, eo, _⟩ := pt
        exact Heap.lt_size eo
      refine enum_begins1 (begins_tuple a its.toArray) pt fun h' he ho hsz hk => wpAny_pyIter_enum he ?_
      have hit : h'.IsTupleIter s1.heap.objs.size a 0 := ⟨_, ho, rfl, rfl⟩
      have I2 : Inv X pins σ H1 { s1 with heap := h' } := I1.kept (t' := s1.toks) hk
      refine ⟨s1.heap.objs.size + 1, [s1.heap.objs.size + 1, s1.heap.objs.size], _, _, H1, rfl, I2, turn_enumT a (s1.heap.objs.size + 1) s1.heap.objs.size, ⟨⟨.none, he⟩, hit, Nat.succ_ne_self _, Nat.ne_of_lt hal, Nat.ne_of_lt (Nat.lt_succ_of_lt hal)⟩, fun b hb => ?_, q⟩
      have e' : b = s1.heap.objs.size + 1 ∨ b = s1.heap.objs.size := by simpa using hb
      have hle : s1.heap.objs.size ≤ b := by
        rcases e' with z | z
        · rw [z]; exact Nat.le_add_right _ _
        · rw [z]; exact Nat.le_refl _
      exact I1.fpOk hle (I1.hok.fresh hle)
end Hr

set_option maxHeartbeats 0
/-! HrI: the head: each def as a datum, the facts of classes, the run. (printed by gen_headfile.py) -/
namespace Hr
open PySem PySem.Spec PyProof.Rows L2 LamX SlX
abbrev Rw : PySem.W.OpenLaw := PySem.Challenge.rw_heaprows_k25_whole_takings_shown
abbrev Pg : Program := PySem.Challenge.pw_heaprows_k25_whole_takings_shown
def top (i : Nat) : Stmt := Pg.main.body.getD i (.Pass ⟨0, 0, 0, 0⟩)
def clsBody : Stmt → List Stmt
  | .ClassDef _ _ _ b _ _ _ _ _ _ _ => b
  | _ => []
def mth (i j : Nat) : Stmt := (clsBody (top i)).getD j (.Pass ⟨0, 0, 0, 0⟩)
abbrev s_is_number : Stmt := top 16
def d_is_number : He.DefD := ⟨("is_number", none), "is_number", "is_number", defArgs s_is_number, defBody s_is_number, defScope s_is_number, [], []⟩
abbrev s_is_key : Stmt := top 17
def d_is_key : He.DefD := ⟨("is_key", none), "is_key", "is_key", defArgs s_is_key, defBody s_is_key, defScope s_is_key, [], []⟩
abbrev s_check_arms : Stmt := top 18
def d_check_arms : He.DefD := ⟨("check_arms", none), "check_arms", "check_arms", defArgs s_check_arms, defBody s_check_arms, defScope s_check_arms, [], []⟩
abbrev s_check_row : Stmt := top 19
def d_check_row : He.DefD := ⟨("check_row", none), "check_row", "check_row", defArgs s_check_row, defBody s_check_row, defScope s_check_row, [], []⟩
abbrev s_Tree_init : Stmt := mth 20 1
def d_Tree_init : He.DefD := ⟨("Tree", some "__init__"), "__init__", "Tree.__init__", defArgs s_Tree_init, defBody s_Tree_init, defScope s_Tree_init, [], [("arms", .int 2)]⟩
abbrev s_Tree_contains : Stmt := mth 20 4
def d_Tree_contains : He.DefD := ⟨("Tree", some "__contains__"), "__contains__", "Tree.__contains__", defArgs s_Tree_contains, defBody s_Tree_contains, defScope s_Tree_contains, [], []⟩
abbrev s_Tree_iter : Stmt := mth 20 5
def d_Tree_iter : He.DefD := ⟨("Tree", some "__iter__"), "__iter__", "Tree.__iter__", defArgs s_Tree_iter, defBody s_Tree_iter, defScope s_Tree_iter, [], []⟩
abbrev s_Tree_getitem : Stmt := mth 20 6
def d_Tree_getitem : He.DefD := ⟨("Tree", some "__getitem__"), "__getitem__", "Tree.__getitem__", defArgs s_Tree_getitem, defBody s_Tree_getitem, defScope s_Tree_getitem, [], []⟩
abbrev s_Tree_check_place : Stmt := mth 20 8
def d_Tree_check_place : He.DefD := ⟨("Tree", some "check_place"), "check_place", "Tree.check_place", defArgs s_Tree_check_place, defBody s_Tree_check_place, defScope s_Tree_check_place, [], []⟩
abbrev s_Tree_parent : Stmt := mth 20 9
def d_Tree_parent : He.DefD := ⟨("Tree", some "parent"), "parent", "Tree.parent", defArgs s_Tree_parent, defBody s_Tree_parent, defScope s_Tree_parent, [], []⟩
abbrev s_Tree_way_to : Stmt := mth 20 10
def d_Tree_way_to : He.DefD := ⟨("Tree", some "way_to"), "way_to", "Tree.way_to", defArgs s_Tree_way_to, defBody s_Tree_way_to, defScope s_Tree_way_to, [], []⟩
abbrev s_check_heap : Stmt := top 22
def d_check_heap : He.DefD := ⟨("check_heap", none), "check_heap", "check_heap", defArgs s_check_heap, defBody s_check_heap, defScope s_check_heap, [], []⟩
abbrev s_check_different : Stmt := top 23
def d_check_different : He.DefD := ⟨("check_different", none), "check_different", "check_different", defArgs s_check_different, defBody s_check_different, defScope s_check_different, [], []⟩
abbrev s_faults_in : Stmt := top 24
def d_faults_in : He.DefD := ⟨("faults_in", none), "faults_in", "faults_in", defArgs s_faults_in, defBody s_faults_in, defScope s_faults_in, [], []⟩
abbrev s_Sift_init : Stmt := mth 26 1
def d_Sift_init : He.DefD := ⟨("Sift", some "__init__"), "__init__", "Sift.__init__", defArgs s_Sift_init, defBody s_Sift_init, defScope s_Sift_init, [], []⟩
abbrev s_moved : Stmt := top 27
def d_moved : He.DefD := ⟨("moved", none), "moved", "moved", defArgs s_moved, defBody s_moved, defScope s_moved, [], []⟩
abbrev s_first_least : Stmt := top 28
def d_first_least : He.DefD := ⟨("first_least", none), "first_least", "first_least", defArgs s_first_least, defBody s_first_least, defScope s_first_least, [], []⟩
abbrev s_way_down : Stmt := top 29
def d_way_down : He.DefD := ⟨("way_down", none), "way_down", "way_down", defArgs s_way_down, defBody s_way_down, defScope s_way_down, [], []⟩
abbrev s_sunk : Stmt := top 30
def d_sunk : He.DefD := ⟨("sunk", none), "sunk", "sunk", defArgs s_sunk, defBody s_sunk, defScope s_sunk, [], []⟩
abbrev s_without_last : Stmt := top 32
def d_without_last : He.DefD := ⟨("without_last", none), "without_last", "without_last", defArgs s_without_last, defBody s_without_last, defScope s_without_last, [], []⟩
abbrev s_taken : Stmt := top 33
def d_taken : He.DefD := ⟨("taken", none), "taken", "taken", defArgs s_taken, defBody s_taken, defScope s_taken, [], []⟩
abbrev s_check_ahead : Stmt := top 35
def d_check_ahead : He.DefD := ⟨("check_ahead", none), "check_ahead", "check_ahead", defArgs s_check_ahead, defBody s_check_ahead, defScope s_check_ahead, [], []⟩
abbrev s_check_room : Stmt := top 36
def d_check_room : He.DefD := ⟨("check_room", none), "check_room", "check_room", defArgs s_check_room, defBody s_check_room, defScope s_check_room, [], []⟩
abbrev s_row_ahead : Stmt := top 37
def d_row_ahead : He.DefD := ⟨("row_ahead", none), "row_ahead", "row_ahead", defArgs s_row_ahead, defBody s_row_ahead, defScope s_row_ahead, [], []⟩
abbrev s_place_above : Stmt := top 38
def d_place_above : He.DefD := ⟨("place_above", none), "place_above", "place_above", defArgs s_place_above, defBody s_place_above, defScope s_place_above, [], []⟩
abbrev s_Before_init : Stmt := mth 39 1
def d_Before_init : He.DefD := ⟨("Before", some "__init__"), "__init__", "Before.__init__", defArgs s_Before_init, defBody s_Before_init, defScope s_Before_init, [], []⟩
abbrev s_Before_eq : Stmt := mth 39 2
def d_Before_eq : He.DefD := ⟨("Before", some "__eq__"), "__eq__", "Before.__eq__", defArgs s_Before_eq, defBody s_Before_eq, defScope s_Before_eq, [], []⟩
abbrev s_Before_shows : Stmt := mth 39 3
def d_Before_shows : He.DefD := ⟨("Before", some "shows"), "shows", "Before.shows", defArgs s_Before_shows, defBody s_Before_shows, defScope s_Before_shows, [], [("arms", .int 2)]⟩
abbrev s_Over_init : Stmt := mth 40 1
def d_Over_init : He.DefD := ⟨("Over", some "__init__"), "__init__", "Over.__init__", defArgs s_Over_init, defBody s_Over_init, defScope s_Over_init, [], []⟩
abbrev s_Over_eq : Stmt := mth 40 2
def d_Over_eq : He.DefD := ⟨("Over", some "__eq__"), "__eq__", "Over.__eq__", defArgs s_Over_eq, defBody s_Over_eq, defScope s_Over_eq, [], []⟩
abbrev s_Over_shows : Stmt := mth 40 3
def d_Over_shows : He.DefD := ⟨("Over", some "shows"), "shows", "Over.shows", defArgs s_Over_shows, defBody s_Over_shows, defScope s_Over_shows, [], [("arms", .int 2)]⟩
abbrev s_undo_take : Stmt := top 41
def d_undo_take : He.DefD := ⟨("undo_take", none), "undo_take", "undo_take", defArgs s_undo_take, defBody s_undo_take, defScope s_undo_take, [], [("arms", .int 2)]⟩
abbrev s_law_number : Stmt := top 43
def d_law_number : He.DefD := ⟨("_law_number", none), "_law_number", "_law_number", defArgs s_law_number, defBody s_law_number, defScope s_law_number, [], []⟩
abbrev s_law_take : Stmt := top 44
def d_law_take : He.DefD := ⟨("_law_take", none), "_law_take", "_law_take", defArgs s_law_take, defBody s_law_take, defScope s_law_take, [], []⟩
abbrev s_law_pick : Stmt := top 45
def d_law_pick : He.DefD := ⟨("_law_pick", none), "_law_pick", "_law_pick", defArgs s_law_pick, defBody s_law_pick, defScope s_law_pick, [], []⟩
abbrev s_law_parent : Stmt := top 46
def d_law_parent : He.DefD := ⟨("_law_parent", none), "_law_parent", "_law_parent", defArgs s_law_parent, defBody s_law_parent, defScope s_law_parent, [], []⟩
abbrev s_law_children : Stmt := top 47
def d_law_children : He.DefD := ⟨("_law_children", none), "_law_children", "_law_children", defArgs s_law_children, defBody s_law_children, defScope s_law_children, [], []⟩
abbrev s_law_way : Stmt := top 48
def d_law_way : He.DefD := ⟨("_law_way", none), "_law_way", "_law_way", defArgs s_law_way, defBody s_law_way, defScope s_law_way, [], []⟩
abbrev s_law_arms : Stmt := top 49
def d_law_arms : He.DefD := ⟨("_law_arms", none), "_law_arms", "_law_arms", defArgs s_law_arms, defBody s_law_arms, defScope s_law_arms, [], []⟩
abbrev s_law_order : Stmt := top 50
def d_law_order : He.DefD := ⟨("_law_order", none), "_law_order", "_law_order", defArgs s_law_order, defBody s_law_order, defScope s_law_order, [], []⟩
abbrev s_law_is_heap : Stmt := top 51
def d_law_is_heap : He.DefD := ⟨("_law_is_heap", none), "_law_is_heap", "_law_is_heap", defArgs s_law_is_heap, defBody s_law_is_heap, defScope s_law_is_heap, [], []⟩
abbrev s_law_heap : Stmt := top 52
def d_law_heap : He.DefD := ⟨("_law_heap", none), "_law_heap", "_law_heap", defArgs s_law_heap, defBody s_law_heap, defScope s_law_heap, [], []⟩
abbrev s_law_down : Stmt := top 53
def d_law_down : He.DefD := ⟨("_law_down", none), "_law_down", "_law_down", defArgs s_law_down, defBody s_law_down, defScope s_law_down, [], []⟩
abbrev s_law_out : Stmt := top 54
def d_law_out : He.DefD := ⟨("_law_out", none), "_law_out", "_law_out", defArgs s_law_out, defBody s_law_out, defScope s_law_out, [], []⟩
abbrev s_law_unlike : Stmt := top 55
def d_law_unlike : He.DefD := ⟨("_law_unlike", none), "_law_unlike", "_law_unlike", defArgs s_law_unlike, defBody s_law_unlike, defScope s_law_unlike, [], []⟩
abbrev s_law_is_before : Stmt := top 56
def d_law_is_before : He.DefD := ⟨("_law_is_before", none), "_law_is_before", "_law_is_before", defArgs s_law_is_before, defBody s_law_is_before, defScope s_law_is_before, [], []⟩
abbrev s_law_shifted : Stmt := top 57
def d_law_shifted : He.DefD := ⟨("_law_shifted", none), "_law_shifted", "_law_shifted", defArgs s_law_shifted, defBody s_law_shifted, defScope s_law_shifted, [], []⟩
abbrev s_law : Stmt := top 58
def d_law : He.DefD := ⟨("law", none), "law", "law", defArgs s_law, defBody s_law, defScope s_law, [], []⟩
def fn : List He.DefD := [d_is_number, d_is_key, d_check_arms, d_check_row, d_Tree_init, d_Tree_contains, d_Tree_iter, d_Tree_getitem, d_Tree_check_place, d_Tree_parent, d_Tree_way_to, d_check_heap, d_check_different, d_faults_in, d_Sift_init, d_moved, d_first_least, d_way_down, d_sunk, d_without_last, d_taken, d_check_ahead, d_check_room, d_row_ahead, d_place_above, d_Before_init, d_Before_eq, d_Before_shows, d_Over_init, d_Over_eq] ++ [d_Over_shows, d_undo_take, d_law_number, d_law_take, d_law_pick, d_law_parent, d_law_children, d_law_way, d_law_arms, d_law_order, d_law_is_heap, d_law_heap, d_law_down, d_law_out, d_law_unlike, d_law_is_before, d_law_shifted, d_law]
def loose1 : List Str := ["_wall", "__name__", "HeapError", "BadRow", "NotHeap", "SameKeys", "BadArms", "BadMany", "BadPlace", "BadKey", "Empty", "Full", "MOST_ARMS", "MOST_PLACES", "MOST_KEY", "is_number", "is_key", "check_arms", "check_row", "Tree", "check_heap", "check_different", "faults_in", "Sift", "moved", "first_least", "way_down", "sunk", "without_last", "taken"]
def loose2 : List Str := ["check_ahead", "check_room", "row_ahead", "place_above", "Before", "Over", "undo_take", "_law_number", "_law_take", "_law_pick", "_law_parent", "_law_children", "_law_way", "_law_arms", "_law_order", "_law_is_heap", "_law_heap", "_law_down", "_law_out", "_law_unlike", "_law_is_before", "_law_shifted"]
def loose : List Str := loose1 ++ loose2
def fa : List He.Fa := [.glo "is_number", .glo "is_key", .glo "check_arms", .glo "check_row", .glo "Tree", .glo "check_heap", .glo "check_different", .glo "faults_in", .glo "Sift", .glo "moved", .glo "first_least", .glo "way_down", .glo "sunk", .glo "without_last", .glo "taken", .glo "check_ahead", .glo "check_room", .glo "row_ahead", .glo "place_above", .glo "Before", .glo "Over", .glo "undo_take", .glo "law"] ++ [.glo "_law_number", .glo "_law_take", .glo "_law_pick", .glo "_law_parent", .glo "_law_children", .glo "_law_way", .glo "_law_arms", .glo "_law_order", .glo "_law_is_heap", .glo "_law_heap", .glo "_law_down", .glo "_law_out", .glo "_law_unlike", .glo "_law_is_before", .glo "_law_shifted"] ++ [.free "isinstance", .free "int", .free "bool", .free "list", .free "tuple", .free "len", .free "enumerate", .free "range", .free "iter", .free "min", .free "zip", .free "sum", .free "any", .free "sorted"] ++ [.int "MOST_ARMS" 4, .int "MOST_PLACES" 12, .int "MOST_KEY" 1000000000, .mkr "Tree", .mkr "Sift", .mkr "Before", .mkr "Over", .meth "Tree" "check_place", .meth "Tree" "parent", .meth "Tree" "way_to", .meth "Before" "shows", .meth "Over" "shows"]

/-! ### facts of the classes with slots -/
def sclsB (K : PySem.W.Frag) (x : Str) : Bool := PySem.W.plainGet K (He.ga K x) Str.empty && (PySem.W.isClsIn K (He.ga K x) && (PySem.W.plainOver K (He.ga K x) && He.eqO (PySem.W.findIn K (.ref (He.ga K x)) "__setattr__") (some (some (.builtin "object.__setattr__")))))
theorem sclsB_ok {K : PySem.W.Frag} {x : Str} (c : sclsB K x = true) : SCls K (He.ga K x) := by
  obtain ⟨c1, c⟩ := He.ba c
  obtain ⟨c2, c⟩ := He.ba c
  obtain ⟨c3, c4⟩ := He.ba c
  exact ⟨c1, c2, c3, He.eqO_ok c4⟩
def slotB (K : PySem.W.Frag) (x f : Str) (i : Nat) : Bool := He.eqO (PySem.W.findIn K (.ref (He.ga K x)) f) (some (some (.ref (He.ma K (He.ga K x) f)))) && (He.eqO (PySem.W.specialIn K (.ref (He.ma K (He.ga K x) f)) "__get__") (some (some (.builtin "member_descriptor.__get__"))) && (decide (PySem.W.takesIn K (.ref (He.ma K (He.ga K x) f)) = some true) && (decide (PySem.W.typeIn K (.ref (He.ma K (He.ga K x) f)) = some (.type "member_descriptor")) && (decide (PySem.W.slotIn K (He.ma K (He.ga K x) f) (He.ga K x) = some i) && decide (i < 1000)))))
theorem slotB_ok {K : PySem.W.Frag} {x f : Str} {i : Nat} (c : slotB K x f i = true) : Slot1 K (He.ga K x) f (He.ma K (He.ga K x) f) i := by
  obtain ⟨c1, c⟩ := He.ba c
  obtain ⟨c2, c⟩ := He.ba c
  obtain ⟨c3, c⟩ := He.ba c
  obtain ⟨c4, c⟩ := He.ba c
  obtain ⟨c5, c6⟩ := He.ba c
  exact ⟨He.eqO_ok c1, He.eqO_ok c2, of_decide_eq_true c3, of_decide_eq_true c4, of_decide_eq_true c5, of_decide_eq_true c6⟩
def isiB (K : PySem.W.Frag) (x : Str) : Bool := He.eqO (PySem.W.findIn K (.ref (He.ga K x)) "__class__") (some (some (.builtin "object.__class__"))) && (He.eqO (PySem.W.specialIn K (.builtin "object.__class__") "__get__") (some (some (.builtin "getset_descriptor.__get__"))) && (decide (PySem.W.takesIn K (.builtin "object.__class__") = some true) && decide (PySem.W.mroIn K (He.ga K x) (.type "object") = some true)))
theorem isiB_ok {K : PySem.W.Frag} {x : Str} (c : isiB K x = true) : SIsi K (He.ga K x) := by
  obtain ⟨c1, c⟩ := He.ba c
  obtain ⟨c2, c⟩ := He.ba c
  obtain ⟨c3, c4⟩ := He.ba c
  exact ⟨He.eqO_ok c1, He.eqO_ok c2, of_decide_eq_true c3, of_decide_eq_true c4⟩
/-- a special method of the class -/
def ownB (K : PySem.W.Frag) (x m : Str) : Bool := He.eqO (PySem.W.findIn K (.ref (He.ga K x)) m) (some (some (.ref (He.ma K (He.ga K x) m)))) && (PySem.W.isFn K (.ref (He.ma K (He.ga K x) m)) && PySem.W.fnIn K (He.ma K (He.ga K x) m))
def ex (K : PySem.W.Frag) : Bool :=
  (["Tree", "Sift", "Before", "Over"].all fun x => sclsB K x) &&
  ((["Before", "Over"].all fun x => isiB K x) &&
  ((slotB K "Tree" "many" 1 && (slotB K "Tree" "arms" 0 && (slotB K "Tree" "places" 2 && (slotB K "Sift" "row" 1 && (slotB K "Sift" "way" 2 && (slotB K "Sift" "looks" 0 && (slotB K "Before" "row" 0 && (slotB K "Over" "place" 1 && slotB K "Over" "key" 0)))))))) &&
  ((ownB K "Tree" "__contains__" && (ownB K "Tree" "__iter__" && (ownB K "Tree" "__getitem__" && (ownB K "Before" "__eq__" && ownB K "Over" "__eq__")))) &&
  ((["Before", "Over"].all fun x => PySem.W.notFirst K (He.ga K x) (.ref (He.ga K x)) && He.eqO (PySem.W.findIn K (.ref (He.ga K x)) "__ne__") (some (some (.builtin "object.__ne__")))) &&
  (PySem.W.notFirst K (He.ga K "Before") (.type "tuple") && (PySem.W.notFirst K (He.ga K "Before") (.ref (He.ga K "Over")) && (decide (PySem.W.kitOne K (.ref (He.ga K "Before")) (.ref (He.ga K "Before")) = some true) && (decide (PySem.W.kitOne K (.ref (He.ga K "Over")) (.ref (He.ga K "Before")) = some false) && (decide (PySem.W.kitOne K (.ref (He.ga K "Over")) (.ref (He.ga K "Over")) = some true) && decide (PySem.W.kitOne K (.type "tuple") (.ref (He.ga K "Before")) = some false))))))))))
def tf : List He.Defn := [("first_least", none)]
abbrev hk : PySem.W.Hook := He.hookX 5 fa fn [] tf ex
def ob (s : PySem.W.SharedT) : He.AlX := He.obsX 5 fa fn [] tf ex (HandSHeadRun.getT s)
theorem ob_eq (s : PySem.W.SharedT) : ob s = hk.obs s.abs := He.obsX_eq (HandSHeadRun.getT_eq s)
abbrev R : PySem.W.OpenRow := PySem.W.OpenLaw.row PySem.Challenge.rw_heaprows_k25_whole_takings_shown
end Hr

set_option maxHeartbeats 4000000
/-! HrK: rules with new objects told by growth (New), readings made monotone (mE, mA, mT), steps of readings (r_*). -/
namespace Hr
open PySem PySem.Spec PyProof.Rows L2 LamX SlX

/-- an object o at a new address -/
def New (T : List (Addr × Str)) (o : HO) (H : Hp) (Q : VK) : Prop := ∀ p H', H p = none → Ex T H H' → H' p = some o → Q (.ref p) H'
theorem New.kit {T : List (Addr × Str)} {o : HO} {H : Hp} {Q : VK} (h : New T o H Q) : ∀ p, H p = none → Q (.ref p) (upd H p o) := fun p hp => h p _ hp (Ex.new hp) upd_same
/-- a list or a tuple -/
def SqA (K : PySem.W.Frag) (H : Hp) (a : Addr) (xs : List V) : Prop := SqL K H a xs ∨ SqT K H a xs
theorem sqL_of {K : PySem.W.Frag} {H : Hp} {a : Addr} {xs : List V} (h : H a = some (.lst xs)) : SqL K H a xs := .inl (.inl h)
theorem sqT_of {K : PySem.W.Frag} {H : Hp} {a : Addr} {xs : List V} (h : H a = some (.tup xs)) : SqT K H a xs := .inl (.inl h)
theorem Ex.seqA {T : List (Addr × Str)} {K : PySem.W.Frag} {H H' : Hp} {a : Addr} {xs : List V} (e : Ex T H H') (h : SqA K H a xs) : SqA K H' a xs := h.elim (fun z => .inl (e.seqL z)) fun z => .inr (e.seqT z)
/-- an instance on its way: fresh from C(..), or stored into -/
def Ini (H : Hp) (a C dx : Addr) (vs : List (Option V)) : Prop := dx ≠ a ∧ ((H a = some (.ins C dx []) ∧ H dx = some (.own a) ∧ vs = []) ∨ (H a = some (SlO a C dx vs) ∧ H dx = some (.xd [])))
theorem Ini.slt {H : Hp} {a C dx : Addr} {vs : List (Option V)} (h : Ini H a C dx vs) : Slt H a C dx vs := h.2.elim (fun z => .inl ⟨z.1, z.2.2⟩) .inr
theorem Ini.new {H : Hp} {x C dx : Addr} (ne : dx ≠ x) : Ini (upd (upd H dx (.own x)) x (.ins C dx [])) x C dx [] := ⟨ne, .inl ⟨upd_same, by rw [upd_ne ne, upd_same], rfl⟩⟩
theorem Ini.ex {T : List (Addr × Str)} {H H' : Hp} {a C dx : Addr} {vs : List (Option V)} (h : Ini H a C dx vs) (e : Ex T H H') : Ini H' a C dx vs := ⟨h.1, by
  rcases h.2 with ⟨h1, h2, h3⟩ | ⟨h1, h2⟩
  · exact .inl ⟨e.k _ _ h1 (fun _ z => by cases z), e.k _ _ h2 (fun _ z => by cases z), h3⟩
  · exact .inr ⟨e.k _ _ h1 slO_tbl, e.k _ _ h2 fun _ z => by cases z⟩⟩
theorem heap_all (n : Nat) (ob : Obj) (hf : ob.isFreed = false) : (∀ b o, (Heap.mk (Array.replicate n ob) {}).get? b = some o → o = ob) ∧ ∀ b, b < n → (Heap.mk (Array.replicate n ob) {}).get? b = some ob := by
  have key : ∀ b, (Heap.mk (Array.replicate n ob) {}).get? b = if b < n then some ob else none := fun b => by
    unfold Heap.get?
    rw [show (Heap.mk (Array.replicate n ob) {}).objs[b]? = if b < n then some ob else none from Array.getElem?_replicate]
    by_cases h : b < n
    · rw [if_pos h]
      obtain ⟨c, d, dt, sl⟩ := ob
      cases dt <;> first | rfl | cases hf
    · rw [if_neg h]
  refine ⟨fun b o e => ?_, fun b h => by rw [key b, if_pos h]⟩
  rw [key b] at e
  by_cases h : b < n
  · rw [if_pos h] at e
    exact (Option.some.inj e).symm
  · rw [if_neg h] at e
    cases e
theorem slO_ne_code {a C dx c : Addr} {vs : List (Option V)} {q : Str} : SlO a C dx vs ≠ CodeO c q := fun z => by
  unfold SlO CodeO at z
  injection z with z
  obtain ⟨h1, h2⟩ := heap_all (c + 1) { cls := .none, data := .fields #[.none, .str q 0] } rfl
  have r2 := (congrFun z (Heap.mk (Array.replicate (c + 1) { cls := .none, data := .fields #[.none, .str q 0] }) {})).mpr ⟨_, _, 0, h2 c (Nat.lt_succ_self _), rfl, rfl⟩
  obtain ⟨sl, e1, _⟩ := r2
  have e2 := h1 a _ e1
  cases e2
theorem Ini.put {T : List (Addr × Str)} {H H1 : Hp} {a C dx : Addr} {vs ws : List (Option V)} (e : Ex T H H1) (ha : Fre H a) (hd : Fre H dx) (hs : Ini H1 a C dx vs) : Ex T H (slH H1 a C dx ws) ∧ Ini (slH H1 a C dx ws) a C dx ws := by
  have nH : ∀ b u, H b = some u → (∀ ps, u ≠ .tbl ps) → b ≠ a ∧ b ≠ dx := fun b u q n => ⟨fun z => by
    rw [z] at q
    obtain ⟨ps, w⟩ := ha u q
    exact n ps w, fun z => by
    rw [z] at q
    obtain ⟨ps, w⟩ := hd u q
    exact n ps w⟩
  refine ⟨⟨fun b u q n => ?_, fun t => ?_⟩, hs.1, .inr ⟨upd_same, by unfold slH; rw [upd_ne hs.1, upd_same]⟩⟩
  · obtain ⟨n1, n2⟩ := nH b u q n
    rw [slH_ne n1 n2]
    exact e.k b u q n
  · have t1 := e.t t
    unfold slH
    rcases hs.2 with ⟨h1, h2, _⟩ | ⟨h1, h2⟩
    · have t2 : Tabs T (upd H1 dx (.xd [])) := tabs_upd h2 (fun _ z => by cases z) (fun c q z => by unfold CodeO at z; cases z) t1
      exact tabs_upd (o := .ins C dx []) (by rw [upd_ne (Ne.symm hs.1)]; exact h1) (fun _ z => by cases z) (fun c q z => by unfold CodeO at z; cases z) t2
    · have t2 : Tabs T (upd H1 dx (.xd [])) := tabs_upd h2 (fun _ z => by cases z) (fun c q z => by unfold CodeO at z; cases z) t1
      exact tabs_upd (o := SlO a C dx vs) (by rw [upd_ne (Ne.symm hs.1)]; exact h1) slO_tbl (fun c q => slO_ne_code) t2
end Hr

set_option maxHeartbeats 4000000
/-! HrL: rules told by growth. -/
namespace Hr
open PySem PySem.Spec PyProof.Rows L2 LamX SlX

/-! ### readings made monotone -/
def mE (t : TE) : TE := fun σ H Q => ∃ Q', t σ H Q' ∧ ∀ v H', Q' v H' → Q v H'
def mA (t : TA) : TA := fun σ H Q => ∃ Q', t σ H Q' ∧ ∀ v H', Q' v H' → Q v H'
def mT (t : TT) : TT := fun σ H Q => ∃ Q', t σ H Q' ∧ ∀ v H', Q' v H' → Q v H'
abbrev TR := L2.St → Hp → (Int → Int → Hp → Prop) → Prop
def mR (t : TR) : TR := fun σ H Q => ∃ Q', t σ H Q' ∧ ∀ a b H', Q' a b H' → Q a b H'
section
variable {X : Cx} {e : Expr} {es : List Expr} {t t' : TE} {ta : TA} {tt tt' : TT}
theorem peImp (h : PE X e t) (i : ∀ σ H Q, t' σ H Q → t σ H Q) : PE X e t' := ⟨fun pins s σ H Q I q => h.run pins s σ H Q I (i σ H Q q)⟩
theorem ptImp (h : PT X e tt) (i : ∀ σ H Q, tt' σ H Q → tt σ H Q) : PT X e tt' := ⟨fun pins s σ H Q I q => h.run pins s σ H Q I (i σ H Q q)⟩
theorem peM (h : PE X e t) : PE X e (mE t) := ⟨fun pins s σ H Q I ⟨Q', q, i⟩ => thn (h.run pins s σ H Q' I q) fun u s1 ⟨x, H1, I1, r, z⟩ => ⟨x, H1, I1, r, i _ _ z⟩⟩
theorem paM (h : PA X es ta) : PA X es (mA ta) := ⟨fun pos pins s σ H Q I ⟨Q', q, i⟩ => thn (h.run pos pins s σ H Q' I q) fun u s1 ⟨x, H1, I1, r, z⟩ => ⟨x, H1, I1, r, i _ _ z⟩⟩
theorem ptM (h : PT X e tt) : PT X e (mT tt) := ⟨fun pins s σ H Q I ⟨Q', q, i⟩ => thn (h.run pins s σ H Q' I q) fun u s1 ⟨H1, I1, z⟩ => ⟨H1, I1, i _ _ z⟩⟩
theorem prM {tr : TR} (h : PRg X e tr) : PRg X e (mR tr) := fun pins s σ H Q I ⟨Q', q, i⟩ => thn (h pins s σ H Q' I q) fun u s1 ⟨r, a, b, t, x, v, H', z1, z2, z3, z4⟩ => ⟨r, a, b, t, x, v, H', z1, z2, z3, i _ _ _ z4⟩
theorem crImp {f : Value} {r r' : List V → Hp → VK → Prop} (h : CallR X f r) (i : ∀ xs H Q, r' xs H Q → r xs H Q) : CallR X f r' := fun pins s σ H xs us Q I v q => h pins s σ H xs us Q I v (i xs H Q q)
theorem orImp {f : Value → Value → Sem Value} {r r' : R2} (h : OpR X f r) (i : ∀ x y H Q, r' x y H Q → r x y H Q) : OpR X f r' := fun pins s σ H x y v u Q I rx ry q => h pins s σ H x y v u Q I rx ry (i x y H Q q)
theorem orOr {f : Value → Value → Sem Value} {r r' : R2} (h : OpR X f r) (h' : OpR X f r') : OpR X f (fun x y H Q => r x y H Q ∨ r' x y H Q) := fun pins s σ H x y v u Q I rx ry q => q.elim (h pins s σ H x y v u Q I rx ry) (h' pins s σ H x y v u Q I rx ry)
theorem ixImp {r r' : R2} (h : IxR X r) (i : ∀ x y H Q, r' x y H Q → r x y H Q) : IxR X r' := fun value slice pins s σ H x y v u Q I rx ry q hs => h value slice pins s σ H x y v u Q I rx ry (i x y H Q q) hs
theorem mtImp {id : String} {r r' : V → List V → Hp → VK → Prop} (h : MtR X id r) (i : ∀ x xs H Q, r' x xs H Q → r x xs H Q) : MtR X id r' := fun pins s σ H x xs v us Q I rx rs q => h pins s σ H x xs v us Q I rx rs (i x xs H Q q)
theorem slImp {r r' : V → Option Int → Option Int → Hp → VK → Prop} (h : SlR X r) (i : ∀ x a b H Q, r' x a b H Q → r x a b H Q) : SlR X r' := fun pins s σ H x v vl vu lo hi sl Q I rx hs pl pu q => h pins s σ H x v vl vu lo hi sl Q I rx hs pl pu (i x lo hi H Q q)
end

/-- a list or a tuple -/
def RA (H : Hp) (a : Addr) (xs : List V) : Prop := H a = some (.lst xs) ∨ H a = some (.tup xs)
theorem RA.sq {K : PySem.W.Frag} {H : Hp} {a : Addr} {xs : List V} (h : RA H a xs) : SqL K H a xs ∨ SqT K H a xs := h.elim (fun z => .inl (sqL_of z)) fun z => .inr (sqT_of z)
theorem Ex.ra {T : List (Addr × Str)} {H H' : Hp} {a : Addr} {xs : List V} (e : Ex T H H') (h : RA H a xs) : RA H' a xs := h.elim (fun z => .inl (e.lst z)) fun z => .inr (e.tup z)

/-! ### leaves -/
def nLst (T : List (Addr × Str)) (t : TA) : TE := fun σ H Q => t σ H fun xs H1 => xs.length ≤ 1000 ∧ New T (.lst xs) H1 Q
def nTup (T : List (Addr × Str)) (t : TA) : TE := fun σ H Q => t σ H fun xs H1 => xs.length ≤ 1000 ∧ New T (.tup xs) H1 Q
def nRevL (T : List (Addr × Str)) (t : TE) : TE := fun σ H Q => t σ H fun x H1 => ∃ a xs, x = .ref a ∧ H1 a = some (.lst xs) ∧ New T (.lst xs.reverse) H1 Q
def nTupRg (T : List (Addr × Str)) (t : TR) : TE := fun σ H Q => t σ H fun a b H1 => RgOk a b ∧ New T (.tup (rgV a b)) H1 Q
def nLstRg (T : List (Addr × Str)) (t : TR) : TE := fun σ H Q => t σ H fun a b H1 => RgOk a b ∧ New T (.lst (rgV a b)) H1 Q
def lLen : List V → Hp → VK → Prop := fun xs H Q => ∃ p ys, xs = [.ref p] ∧ RA H p ys ∧ Q (.int ys.length) H
def lLenS (K : PySem.W.Frag) : List V → Hp → VK → Prop := fun xs H Q => ∃ p ys, xs = [.ref p] ∧ SqL K H p ys ∧ Q (.int ys.length) H
def lList (T : List (Addr × Str)) : List V → Hp → VK → Prop := fun xs H Q => ∃ p ys, xs = [.ref p] ∧ RA H p ys ∧ New T (.lst ys) H Q
def lTuple (T : List (Addr × Str)) : List V → Hp → VK → Prop := fun xs H Q => ∃ p ys, xs = [.ref p] ∧ RA H p ys ∧ ∀ q H', Ex T H H' → H' q = some (.tup ys) → Q (.ref q) H'
def lInt : List V → Hp → VK → Prop := fun xs H Q => ∃ i, xs = [.int i] ∧ Q (.int i) H
def lMin : List V → Hp → VK → Prop := fun xs H Q => ∃ i j : Int, xs = [.int i, .int j] ∧ Q (.int (min i j)) H
def lSum : List V → Hp → VK → Prop := fun vs H Q => ∃ (a : Addr) (ns : List Int), vs = [V.ref a] ∧ H a = some (.lst (ns.map V.int)) ∧ Q (.int ns.sum) H
def lAny : List V → Hp → VK → Prop := fun vs H Q => ∃ (a : Addr) (bs : List Bool), vs = [V.ref a] ∧ H a = some (.lst (bs.map V.bl)) ∧ Q (.bl (bs.any id)) H
def lSorted (T : List (Addr × Str)) : List V → Hp → VK → Prop := fun vs H Q => ∃ (a : Addr) (ns : List Int), vs = [V.ref a] ∧ H a = some (.lst (ns.map V.int)) ∧ ∀ p H' (ms : List Int), H p = none → ms.Perm ns → Ex T H H' → H' p = some (.lst (ms.map V.int)) → Q (.ref p) H'
def lIx : R2 := fun x y H Q => ∃ p xs i v, x = .ref p ∧ y = .int i ∧ RA H p xs ∧ atI xs i = some v ∧ Q v H
def lIxS (K : PySem.W.Frag) : R2 := fun x y H Q => ∃ p xs i v, x = .ref p ∧ y = .int i ∧ SqL K H p xs ∧ atI xs i = some v ∧ Q v H
def lCat (T : List (Addr × Str)) : R2 := fun x y H Q => ∃ l b xs zs, x = .ref l ∧ y = .ref b ∧ H l = some (.lst xs) ∧ H b = some (.lst zs) ∧ xs.length + zs.length ≤ 1000 ∧ New T (.lst (xs ++ zs)) H Q
/-- two lists, two tuples of ints -/
def Eqb (K : PySem.W.Frag) (H : Hp) (x y : V) (b : Bool) : Prop := ∃ (p q : Addr) (ns ms : List Int), x = .ref p ∧ y = .ref q ∧ ((SqL K H p (ns.map V.int) ∧ SqL K H q (ms.map V.int)) ∨ (SqT K H p (ns.map V.int) ∧ SqT K H q (ms.map V.int))) ∧ b = decide (ns = ms)
def lEq (K : PySem.W.Frag) : R2 := fun x y H Q => ∃ b, Eqb K H x y b ∧ Q (.bl b) H
def lNe (K : PySem.W.Frag) : R2 := fun x y H Q => ∃ b, Eqb K H x y b ∧ Q (.bl (!b)) H
def lSlL (K : PySem.W.Frag) (T : List (Addr × Str)) : V → Option Int → Option Int → Hp → VK → Prop := fun x lo hi H Q => ∃ a xs, x = .ref a ∧ SqL K H a xs ∧ New T (.lst (cutV xs lo hi)) H Q
/-- of a list or a tuple -/
def lSl (T : List (Addr × Str)) : V → Option Int → Option Int → Hp → VK → Prop := fun x lo hi H Q => ∃ a xs, x = .ref a ∧ ((H a = some (.lst xs) ∧ New T (.lst (cutV xs lo hi)) H Q) ∨ (H a = some (.tup xs) ∧ ∀ p H', Ex T H H' → H' p = some (.tup (cutV xs lo hi)) → Q (.ref p) H'))
def lIn (neg : Bool) : R2 := fun x y H Q => ∃ (p : Addr) (i : Int) (ns : List Int), y = .ref p ∧ x = .int i ∧ RA H p (ns.map V.int) ∧ Q (.bl (if neg then !decide (i ∈ ns) else decide (i ∈ ns))) H
def lIndex : V → List V → Hp → VK → Prop := fun x xs H Q => ∃ (a : Addr) (ns : List Int) (i : Int), x = V.ref a ∧ xs = [.int i] ∧ H a = some (.lst (ns.map V.int)) ∧ i ∈ ns ∧ ∀ j : Nat, ns[j]? = some i → Q (.int (j : Nat)) H
section
variable {X : Cx} {T : List (Addr × Str)} {e : Expr} {es : List Expr} {t te : TE} {ta : TA} {pos : Pos}
theorem c_lst (h : PA X es ta) : PE X (.List es pos) (nLst T ta) := peImp (pe_lst (paM h)) fun σ H Q q => ⟨_, q, fun xs H1 z => ⟨Nat.le_of_lt (small1000 z.1), z.2.kit⟩⟩
theorem c_tup {k : Nat} (h : PA X es ta) : PE X (.Tuple es k pos) (nTup T ta) := peImp (pe_tup (paM h)) fun σ H Q q => ⟨_, q, fun xs H1 z => ⟨Nat.le_of_lt (small1000 z.1), z.2.kit⟩⟩
theorem c_revL {k : Nat} {p1 p2 p3 : Pos} (he : PE X e te) : PE X (.Subscript e (.Slice none none (some (.UnaryOp .USub (.Constant (.int 1) k p1) p2)) p3) pos) (nRevL T te) :=
  peImp (pe_revL (peM he)) fun σ H Q q => ⟨_, q, fun x H1 ⟨a, xs, z1, z2, z3⟩ => ⟨a, xs, z1, sqL_of z2, z3.kit⟩⟩
theorem c_listRg {p : Pos} {tr : TR} (hc : X.calm = true) (hg : Gl X "list") (hm : X.mg "list" = none) (he : PRg X e tr) (na : starEach [e] X.env = (false, eval e X.env) :: starEach [] X.env := by rfl) : PE X (.Call (.Name "list" p) [e] [] pos) (nLstRg T tr) :=
  peImp (pe_listRg hc hg hm (prM he) na) fun σ H Q q => ⟨_, q, fun a b H1 z => ⟨z.1, z.2.kit⟩⟩
theorem c_tupRg {p : Pos} {tr : TR} (hc : X.calm = true) (hg : Gl X "tuple") (hm : X.mg "tuple" = none) (he : PRg X e tr) (na : starEach [e] X.env = (false, eval e X.env) :: starEach [] X.env := by rfl) : PE X (.Call (.Name "tuple" p) [e] [] pos) (nTupRg T tr) :=
  peImp (pe_tupRg hc hg hm (prM he) na) fun σ H Q q => ⟨_, q, fun a b H1 z => ⟨z.1, z.2.kit⟩⟩
theorem l_len : CallR X (.builtin "len") lLen := crImp call_len_seq fun xs H Q ⟨p, ys, e, h, q⟩ => ⟨p, ys, e, h.sq, q⟩
theorem l_lenS : CallR X (.builtin "len") (lLenS X.K) := crImp call_len_seq fun xs H Q ⟨p, ys, e, h, q⟩ => ⟨p, ys, e, .inl h, q⟩
theorem l_list : CallR X (.type "list") (lList T) := crImp call_list_of fun xs H Q ⟨p, ys, e, h, q⟩ => ⟨p, ys, e, h.sq, q.kit⟩
theorem l_tuple : CallR X (.type "tuple") (lTuple T) := crImp call_tuple_of fun xs H Q ⟨p, ys, e, h, q⟩ => ⟨p, ys, e, by
  rcases h with h | h
  · exact .inl ⟨sqL_of h, fun l hl => q l _ (Ex.new hl) upd_same⟩
  · exact .inr ⟨sqT_of h, q p H (Ex.refl H) h⟩⟩
theorem l_int : CallR X (.type "int") lInt := crImp call_int1 fun xs H Q ⟨i, e, q⟩ => .inl ⟨i, e, q⟩
theorem l_min (hc : X.calm = true) : CallR X (.builtin "min") lMin := crImp (call_min2 hc) fun xs H Q ⟨i, j, e, q⟩ => ⟨i, j, e, by
  have z : (if j < i then j else i) = min i j := by
    by_cases h : j < i
    · rw [if_pos h]; omega
    · rw [if_neg h]; omega
  rw [z]
  exact q⟩
theorem l_sum (hc : X.calm = true) : CallR X (.builtin "sum") lSum := crImp (cr_sum hc) fun xs H Q ⟨a, ns, e, h, q⟩ => ⟨a, ns, e, sqL_of h, q⟩
theorem l_any (hc : X.calm = true) : CallR X (.builtin "any") lAny := crImp (cr_any hc) fun xs H Q ⟨a, ns, e, h, q⟩ => ⟨a, ns, e, sqL_of h, q⟩
theorem l_ix : IxR X lIx := ixImp (IxR.or ix_list ix_tup) fun x y H Q ⟨p, xs, i, v, e1, e2, h, a, q⟩ => by
  rcases h with h | h
  · exact .inl ⟨p, xs, i, v, e1, e2, sqL_of h, a, q⟩
  · exact .inr ⟨p, xs, i, v, e1, e2, sqT_of h, a, q⟩
theorem l_ixS : IxR X (lIxS X.K) := ix_list
theorem l_cat : OpR X (binaryOp .Add) (lCat T) := orImp op_cat fun x y H Q ⟨l, b, xs, zs, e1, e2, h1, h2, hl, q⟩ => ⟨l, b, xs, zs, e1, e2, h1, h2, Nat.le_of_lt (small1000 hl), q.kit⟩
theorem dpAll_ints {K : PySem.W.Frag} {H : Hp} : ∀ ns : List Int, DpAll K H (ns.map V.int) (ns.map PyData.int)
  | [] => .nil
  | n :: r => .cons (.int n) (dpAll_ints r)
theorem eqvAll_ints : ∀ ns ms : List Int, PyData.eqvAll (ns.map PyData.int) (ms.map PyData.int) = decide (ns = ms)
  | [], [] => by simp [PyData.eqvAll]
  | [], _ :: _ => by simp [PyData.eqvAll]
  | _ :: _, [] => by simp [PyData.eqvAll]
  | n :: r, k :: q => by
    simp only [List.map_cons, PyData.eqvAll, PyData.eqv, eqvAll_ints r q]
    by_cases h : n = k <;> simp [h]
theorem shapedT_ints (ns : List Int) : SeqAt.shaped (.tuple (ns.map PyData.int)) = true := by
  have h1 := PySem.W.depthAll_ints ns
  have h2 : PyData.depth (.tuple (ns.map PyData.int)) ≤ 64 := by simp only [PyData.depth]; omega
  show (PyData.canLay0 (.tuple (ns.map PyData.int)) && decide (PyData.depth (.tuple (ns.map PyData.int)) ≤ 64)) = true
  rw [Bool.and_eq_true]
  exact ⟨by simp only [PyData.canLay0]; exact PySem.W.canLayAll0_ints ns, decide_eq_true h2⟩
theorem Eqb.dp {K : PySem.W.Frag} {H : Hp} {x y : V} {b : Bool} (h : Eqb K H x y b) : ∃ d e, Dp K H x d ∧ Dp K H y e ∧ SeqAt.shaped d = true ∧ SeqAt.shaped e = true ∧ PyData.eqv d e = b := by
  obtain ⟨p, q, ns, ms, rfl, rfl, h, rfl⟩ := h
  rcases h with ⟨h1, h2⟩ | ⟨h1, h2⟩
  · exact ⟨_, _, .lst h1 (dpAll_ints ns), .lst h2 (dpAll_ints ms), PySem.W.shaped_ints ns, PySem.W.shaped_ints ms, by simp only [PyData.eqv]; exact eqvAll_ints ns ms⟩
  · exact ⟨_, _, .tup h1 (dpAll_ints ns), .tup h2 (dpAll_ints ms), shapedT_ints ns, shapedT_ints ms, by simp only [PyData.eqv]; exact eqvAll_ints ns ms⟩
theorem l_eq (hu : X.A.units + 64 < cLine) : OpR X (compareOp .Eq) (lEq X.K) := orImp (op_eqD hu) fun x y H Q ⟨b, h, q⟩ => by
  obtain ⟨d, e, h1, h2, s1, s2, rfl⟩ := h.dp
  exact ⟨d, e, h1, h2, s1, s2, q⟩
theorem l_ne (hu : X.A.units + 64 < cLine) : OpR X (compareOp .NotEq) (lNe X.K) := orImp (op_neD hu) fun x y H Q ⟨b, h, q⟩ => by
  obtain ⟨d, e, h1, h2, s1, s2, rfl⟩ := h.dp
  exact ⟨d, e, h1, h2, s1, s2, q⟩
theorem l_slL : SlR X (lSlL X.K T) := slImp sl_list fun x a b H Q ⟨p, xs, e, h, q⟩ => ⟨p, xs, e, h, q.kit⟩
theorem r_slA {H : Hp} {Q : VK} {a : Addr} {xs : List V} {lo hi : Option Int} (h : RA H a xs) (q : ∀ p H', Ex T H H' → RA H' p (cutV xs lo hi) → Q (.ref p) H') : lSl T (.ref a) lo hi H Q :=
  ⟨a, xs, rfl, h.elim (fun z => .inl ⟨z, fun p H' _ e w => q p H' e (.inl w)⟩) fun z => .inr ⟨z, fun p H' e w => q p H' e (.inr w)⟩⟩
theorem r_slL {H : Hp} {Q : VK} {a : Addr} {xs : List V} {lo hi : Option Int} (h : H a = some (.lst xs)) (q : ∀ p H', H p = none → Ex T H H' → H' p = some (.lst (cutV xs lo hi)) → Q (.ref p) H') : lSl T (.ref a) lo hi H Q := ⟨a, xs, rfl, .inl ⟨h, q⟩⟩
theorem r_slT {H : Hp} {Q : VK} {a : Addr} {xs : List V} {lo hi : Option Int} (h : H a = some (.tup xs)) (q : ∀ p H', Ex T H H' → H' p = some (.tup (cutV xs lo hi)) → Q (.ref p) H') : lSl T (.ref a) lo hi H Q := ⟨a, xs, rfl, .inr ⟨h, q⟩⟩
theorem l_sl : SlR X (lSl T) := slImp (SlR.or sl_list sl_tupA) fun x a b H Q ⟨p, xs, e, h⟩ => by
  rcases h with ⟨h, q⟩ | ⟨h, q⟩
  · exact .inl ⟨p, xs, e, sqL_of h, q.kit⟩
  · refine .inr ⟨p, xs, e, sqT_of h, fun hw => q p H (Ex.refl H) ?_, fun _ l hl => q l _ (Ex.new hl) upd_same⟩
    have z : cutV xs a b = xs := by
      unfold cutV
      rw [hw.1, hw.2, Nat.sub_zero, List.drop_zero, List.take_length]
    rw [z]
    exact h
theorem inV_ints (i : Int) : ∀ ns : List Int, inV (.int i) (ns.map V.int) = decide (i ∈ ns)
  | [] => by simp [inV]
  | n :: r => by
    have z := inV_ints i r
    unfold inV at z ⊢
    rw [List.map_cons, List.any_cons, z]
    show ((n == i) || decide (i ∈ r)) = decide (i ∈ n :: r)
    by_cases h : n = i
    · subst h; simp
    · have h2 : ¬ i = n := fun w => h w.symm
      simp [h, h2]
theorem flat_ints (ns : List Int) : (ns.map V.int).all flatV = true := by
  rw [List.all_eq_true]
  intro x hx
  obtain ⟨i, _, rfl⟩ := List.mem_map.mp hx
  rfl
theorem l_in : OpR X (compareOp .In) (lIn false) := orImp op_in_seq fun x y H Q ⟨p, i, ns, e1, e2, h, q⟩ => by
  subst e1 e2
  exact ⟨p, _, rfl, h.sq, rfl, flat_ints ns, by rw [inV_ints]; exact q⟩
theorem l_notIn : OpR X (compareOp .NotIn) (lIn true) := orImp op_notIn_seq fun x y H Q ⟨p, i, ns, e1, e2, h, q⟩ => by
  subst e1 e2
  exact ⟨p, _, rfl, h.sq, rfl, flat_ints ns, by rw [inV_ints]; exact q⟩
theorem l_sorted : CallR X (.builtin "sorted") (lSorted T) := crImp cr_sortedI fun xs H Q ⟨a, ns, e, h, q⟩ => ⟨a, ns, e, sqL_of h, fun ms p hp _ hn => q p _ ms hn hp (Ex.new hn) upd_same⟩
theorem l_index : MtR X "list.index" lIndex := mtImp mt_index fun x xs H Q ⟨a, ns, i, e1, e2, h, hi, q⟩ => by
  have key : ∃ j : Nat, ns[j]? = some i ∧ ∀ m z, m < j → ns[m]? = some z → z ≠ i := by
    clear h q
    induction ns with
    | nil => cases hi
    | cons n r ih =>
      by_cases e : n = i
      · exact ⟨0, by rw [e]; rfl, fun m z hm _ => absurd hm (Nat.not_lt_zero _)⟩
      · have hr : i ∈ r := by
          rcases List.mem_cons.mp hi with w | w
          · exact absurd w.symm e
          · exact w
        obtain ⟨j, h1, h2⟩ := ih hr
        refine ⟨j + 1, h1, fun m z hm hz => ?_⟩
        cases m with
        | zero =>
          have w : n = z := Option.some.inj hz
          rw [← w]
          exact e
        | succ m => exact h2 m z (by omega) hz
  obtain ⟨j, h1, h2⟩ := key
  refine ⟨a, ns.map V.int, .int i, j, .int i, e1, e2, sqL_of h, rfl, flat_ints ns, by rw [List.getElem?_map, h1]; rfl, by show (i == i) = true; simp, fun m z hm hz => ?_, q j h1⟩
  rw [List.getElem?_map] at hz
  cases hz2 : ns[m]? with
  | none =>
    rw [hz2] at hz
    cases hz
  | some y =>
    rw [hz2] at hz
    have e : V.int y = z := Option.some.inj hz
    subst e
    show (y == i) = false
    simpa using h2 m y hm hz2
end
end Hr

set_option maxHeartbeats 4000000
/-! HrM: what the head says (Wd), promises of defs (OkD, OkK), calls, steps of readings (r_*). (printed by gen_m.py) -/
namespace Hr
open PySem PySem.Spec PyProof.Rows L2 LamX SlX

structure Wd (K : PySem.W.Frag) (mg : Str → Option Value) (base : Heap) : Prop where
  tb : TabB base mg (He.cT K ("first_least", none)).1 (He.cT K ("first_least", none)).2
  glo : ∀ (i : Nat) (x : Str), fa[i]? = some (.glo x) → mg x = some (.ref (He.ga K x))
  free : ∀ (i : Nat) (x : Str), fa[i]? = some (.free x) → mg x = none
  int : ∀ (i : Nat) (x : Str) (z : Int), fa[i]? = some (.int x z) → ∃ t, mg x = some (.int z t)
  mkr : ∀ (i : Nat) (x : Str), fa[i]? = some (.mkr x) → Mk K (He.ga K x) (He.ma K (He.ga K x) "__init__")
  meth : ∀ (i : Nat) (x m : Str), fa[i]? = some (.meth x m) → Meth K (He.ga K x) m (He.ma K (He.ga K x) m)
  def_ : ∀ (i : Nat) (d : He.DefD), fn[i]? = some d → ∃ fd, FunD K d.name d.qual d.params d.body d.scope (d.dvs K) (d.kws K) (He.fAd K d.at_) fd
  more : ex K = true
theorem Wd.g_is_number {K : PySem.W.Frag} {mg : Str → Option Value} {base : Heap} (W : Wd K mg base) : mg "is_number" = some (.ref (He.ga K "is_number")) := W.glo 0 "is_number" rfl
theorem Wd.g_is_key {K : PySem.W.Frag} {mg : Str → Option Value} {base : Heap} (W : Wd K mg base) : mg "is_key" = some (.ref (He.ga K "is_key")) := W.glo 1 "is_key" rfl
theorem Wd.g_check_arms {K : PySem.W.Frag} {mg : Str → Option Value} {base : Heap} (W : Wd K mg base) : mg "check_arms" = some (.ref (He.ga K "check_arms")) := W.glo 2 "check_arms" rfl
theorem Wd.g_check_row {K : PySem.W.Frag} {mg : Str → Option Value} {base : Heap} (W : Wd K mg base) : mg "check_row" = some (.ref (He.ga K "check_row")) := W.glo 3 "check_row" rfl
theorem Wd.g_Tree {K : PySem.W.Frag} {mg : Str → Option Value} {base : Heap} (W : Wd K mg base) : mg "Tree" = some (.ref (He.ga K "Tree")) := W.glo 4 "Tree" rfl
theorem Wd.g_check_heap {K : PySem.W.Frag} {mg : Str → Option Value} {base : Heap} (W : Wd K mg base) : mg "check_heap" = some (.ref (He.ga K "check_heap")) := W.glo 5 "check_heap" rfl
theorem Wd.g_check_different {K : PySem.W.Frag} {mg : Str → Option Value} {base : Heap} (W : Wd K mg base) : mg "check_different" = some (.ref (He.ga K "check_different")) := W.glo 6 "check_different" rfl
theorem Wd.g_faults_in {K : PySem.W.Frag} {mg : Str → Option Value} {base : Heap} (W : Wd K mg base) : mg "faults_in" = some (.ref (He.ga K "faults_in")) := W.glo 7 "faults_in" rfl
theorem Wd.g_Sift {K : PySem.W.Frag} {mg : Str → Option Value} {base : Heap} (W : Wd K mg base) : mg "Sift" = some (.ref (He.ga K "Sift")) := W.glo 8 "Sift" rfl
theorem Wd.g_moved {K : PySem.W.Frag} {mg : Str → Option Value} {base : Heap} (W : Wd K mg base) : mg "moved" = some (.ref (He.ga K "moved")) := W.glo 9 "moved" rfl
theorem Wd.g_first_least {K : PySem.W.Frag} {mg : Str → Option Value} {base : Heap} (W : Wd K mg base) : mg "first_least" = some (.ref (He.ga K "first_least")) := W.glo 10 "first_least" rfl
theorem Wd.g_way_down {K : PySem.W.Frag} {mg : Str → Option Value} {base : Heap} (W : Wd K mg base) : mg "way_down" = some (.ref (He.ga K "way_down")) := W.glo 11 "way_down" rfl
theorem Wd.g_sunk {K : PySem.W.Frag} {mg : Str → Option Value} {base : Heap} (W : Wd K mg base) : mg "sunk" = some (.ref (He.ga K "sunk")) := W.glo 12 "sunk" rfl
theorem Wd.g_without_last {K : PySem.W.Frag} {mg : Str → Option Value} {base : Heap} (W : Wd K mg base) : mg "without_last" = some (.ref (He.ga K "without_last")) := W.glo 13 "without_last" rfl
theorem Wd.g_taken {K : PySem.W.Frag} {mg : Str → Option Value} {base : Heap} (W : Wd K mg base) : mg "taken" = some (.ref (He.ga K "taken")) := W.glo 14 "taken" rfl
theorem Wd.g_check_ahead {K : PySem.W.Frag} {mg : Str → Option Value} {base : Heap} (W : Wd K mg base) : mg "check_ahead" = some (.ref (He.ga K "check_ahead")) := W.glo 15 "check_ahead" rfl
theorem Wd.g_check_room {K : PySem.W.Frag} {mg : Str → Option Value} {base : Heap} (W : Wd K mg base) : mg "check_room" = some (.ref (He.ga K "check_room")) := W.glo 16 "check_room" rfl
theorem Wd.g_row_ahead {K : PySem.W.Frag} {mg : Str → Option Value} {base : Heap} (W : Wd K mg base) : mg "row_ahead" = some (.ref (He.ga K "row_ahead")) := W.glo 17 "row_ahead" rfl
theorem Wd.g_place_above {K : PySem.W.Frag} {mg : Str → Option Value} {base : Heap} (W : Wd K mg base) : mg "place_above" = some (.ref (He.ga K "place_above")) := W.glo 18 "place_above" rfl
theorem Wd.g_Before {K : PySem.W.Frag} {mg : Str → Option Value} {base : Heap} (W : Wd K mg base) : mg "Before" = some (.ref (He.ga K "Before")) := W.glo 19 "Before" rfl
theorem Wd.g_Over {K : PySem.W.Frag} {mg : Str → Option Value} {base : Heap} (W : Wd K mg base) : mg "Over" = some (.ref (He.ga K "Over")) := W.glo 20 "Over" rfl
theorem Wd.g_undo_take {K : PySem.W.Frag} {mg : Str → Option Value} {base : Heap} (W : Wd K mg base) : mg "undo_take" = some (.ref (He.ga K "undo_take")) := W.glo 21 "undo_take" rfl
theorem Wd.g_law {K : PySem.W.Frag} {mg : Str → Option Value} {base : Heap} (W : Wd K mg base) : mg "law" = some (.ref (He.ga K "law")) := W.glo 22 "law" rfl
theorem Wd.g_law_number {K : PySem.W.Frag} {mg : Str → Option Value} {base : Heap} (W : Wd K mg base) : mg "_law_number" = some (.ref (He.ga K "_law_number")) := W.glo 23 "_law_number" rfl
theorem Wd.g_law_take {K : PySem.W.Frag} {mg : Str → Option Value} {base : Heap} (W : Wd K mg base) : mg "_law_take" = some (.ref (He.ga K "_law_take")) := W.glo 24 "_law_take" rfl
theorem Wd.g_law_pick {K : PySem.W.Frag} {mg : Str → Option Value} {base : Heap} (W : Wd K mg base) : mg "_law_pick" = some (.ref (He.ga K "_law_pick")) := W.glo 25 "_law_pick" rfl
theorem Wd.g_law_parent {K : PySem.W.Frag} {mg : Str → Option Value} {base : Heap} (W : Wd K mg base) : mg "_law_parent" = some (.ref (He.ga K "_law_parent")) := W.glo 26 "_law_parent" rfl
theorem Wd.g_law_children {K : PySem.W.Frag} {mg : Str → Option Value} {base : Heap} (W : Wd K mg base) : mg "_law_children" = some (.ref (He.ga K "_law_children")) := W.glo 27 "_law_children" rfl
theorem Wd.g_law_way {K : PySem.W.Frag} {mg : Str → Option Value} {base : Heap} (W : Wd K mg base) : mg "_law_way" = some (.ref (He.ga K "_law_way")) := W.glo 28 "_law_way" rfl
theorem Wd.g_law_arms {K : PySem.W.Frag} {mg : Str → Option Value} {base : Heap} (W : Wd K mg base) : mg "_law_arms" = some (.ref (He.ga K "_law_arms")) := W.glo 29 "_law_arms" rfl
theorem Wd.g_law_order {K : PySem.W.Frag} {mg : Str → Option Value} {base : Heap} (W : Wd K mg base) : mg "_law_order" = some (.ref (He.ga K "_law_order")) := W.glo 30 "_law_order" rfl
theorem Wd.g_law_is_heap {K : PySem.W.Frag} {mg : Str → Option Value} {base : Heap} (W : Wd K mg base) : mg "_law_is_heap" = some (.ref (He.ga K "_law_is_heap")) := W.glo 31 "_law_is_heap" rfl
theorem Wd.g_law_heap {K : PySem.W.Frag} {mg : Str → Option Value} {base : Heap} (W : Wd K mg base) : mg "_law_heap" = some (.ref (He.ga K "_law_heap")) := W.glo 32 "_law_heap" rfl
theorem Wd.g_law_down {K : PySem.W.Frag} {mg : Str → Option Value} {base : Heap} (W : Wd K mg base) : mg "_law_down" = some (.ref (He.ga K "_law_down")) := W.glo 33 "_law_down" rfl
theorem Wd.g_law_out {K : PySem.W.Frag} {mg : Str → Option Value} {base : Heap} (W : Wd K mg base) : mg "_law_out" = some (.ref (He.ga K "_law_out")) := W.glo 34 "_law_out" rfl
theorem Wd.g_law_unlike {K : PySem.W.Frag} {mg : Str → Option Value} {base : Heap} (W : Wd K mg base) : mg "_law_unlike" = some (.ref (He.ga K "_law_unlike")) := W.glo 35 "_law_unlike" rfl
theorem Wd.g_law_is_before {K : PySem.W.Frag} {mg : Str → Option Value} {base : Heap} (W : Wd K mg base) : mg "_law_is_before" = some (.ref (He.ga K "_law_is_before")) := W.glo 36 "_law_is_before" rfl
theorem Wd.g_law_shifted {K : PySem.W.Frag} {mg : Str → Option Value} {base : Heap} (W : Wd K mg base) : mg "_law_shifted" = some (.ref (He.ga K "_law_shifted")) := W.glo 37 "_law_shifted" rfl
theorem Wd.f_isinstance {K : PySem.W.Frag} {mg : Str → Option Value} {base : Heap} (W : Wd K mg base) : mg "isinstance" = none := W.free 38 "isinstance" rfl
theorem Wd.f_int {K : PySem.W.Frag} {mg : Str → Option Value} {base : Heap} (W : Wd K mg base) : mg "int" = none := W.free 39 "int" rfl
theorem Wd.f_bool {K : PySem.W.Frag} {mg : Str → Option Value} {base : Heap} (W : Wd K mg base) : mg "bool" = none := W.free 40 "bool" rfl
theorem Wd.f_list {K : PySem.W.Frag} {mg : Str → Option Value} {base : Heap} (W : Wd K mg base) : mg "list" = none := W.free 41 "list" rfl
theorem Wd.f_tuple {K : PySem.W.Frag} {mg : Str → Option Value} {base : Heap} (W : Wd K mg base) : mg "tuple" = none := W.free 42 "tuple" rfl
theorem Wd.f_len {K : PySem.W.Frag} {mg : Str → Option Value} {base : Heap} (W : Wd K mg base) : mg "len" = none := W.free 43 "len" rfl
theorem Wd.f_enumerate {K : PySem.W.Frag} {mg : Str → Option Value} {base : Heap} (W : Wd K mg base) : mg "enumerate" = none := W.free 44 "enumerate" rfl
theorem Wd.f_range {K : PySem.W.Frag} {mg : Str → Option Value} {base : Heap} (W : Wd K mg base) : mg "range" = none := W.free 45 "range" rfl
theorem Wd.f_iter {K : PySem.W.Frag} {mg : Str → Option Value} {base : Heap} (W : Wd K mg base) : mg "iter" = none := W.free 46 "iter" rfl
theorem Wd.f_min {K : PySem.W.Frag} {mg : Str → Option Value} {base : Heap} (W : Wd K mg base) : mg "min" = none := W.free 47 "min" rfl
theorem Wd.f_zip {K : PySem.W.Frag} {mg : Str → Option Value} {base : Heap} (W : Wd K mg base) : mg "zip" = none := W.free 48 "zip" rfl
theorem Wd.f_sum {K : PySem.W.Frag} {mg : Str → Option Value} {base : Heap} (W : Wd K mg base) : mg "sum" = none := W.free 49 "sum" rfl
theorem Wd.f_any {K : PySem.W.Frag} {mg : Str → Option Value} {base : Heap} (W : Wd K mg base) : mg "any" = none := W.free 50 "any" rfl
theorem Wd.f_sorted {K : PySem.W.Frag} {mg : Str → Option Value} {base : Heap} (W : Wd K mg base) : mg "sorted" = none := W.free 51 "sorted" rfl
theorem Wd.i_MOST_ARMS {K : PySem.W.Frag} {mg : Str → Option Value} {base : Heap} (W : Wd K mg base) : ∃ t, mg "MOST_ARMS" = some (.int 4 t) := W.int 52 "MOST_ARMS" 4 rfl
theorem Wd.i_MOST_PLACES {K : PySem.W.Frag} {mg : Str → Option Value} {base : Heap} (W : Wd K mg base) : ∃ t, mg "MOST_PLACES" = some (.int 12 t) := W.int 53 "MOST_PLACES" 12 rfl
theorem Wd.i_MOST_KEY {K : PySem.W.Frag} {mg : Str → Option Value} {base : Heap} (W : Wd K mg base) : ∃ t, mg "MOST_KEY" = some (.int 1000000000 t) := W.int 54 "MOST_KEY" 1000000000 rfl
theorem Wd.k_Tree {K : PySem.W.Frag} {mg : Str → Option Value} {base : Heap} (W : Wd K mg base) : Mk K (He.ga K "Tree") (He.ma K (He.ga K "Tree") "__init__") := W.mkr 55 "Tree" rfl
theorem Wd.k_Sift {K : PySem.W.Frag} {mg : Str → Option Value} {base : Heap} (W : Wd K mg base) : Mk K (He.ga K "Sift") (He.ma K (He.ga K "Sift") "__init__") := W.mkr 56 "Sift" rfl
theorem Wd.k_Before {K : PySem.W.Frag} {mg : Str → Option Value} {base : Heap} (W : Wd K mg base) : Mk K (He.ga K "Before") (He.ma K (He.ga K "Before") "__init__") := W.mkr 57 "Before" rfl
theorem Wd.k_Over {K : PySem.W.Frag} {mg : Str → Option Value} {base : Heap} (W : Wd K mg base) : Mk K (He.ga K "Over") (He.ma K (He.ga K "Over") "__init__") := W.mkr 58 "Over" rfl
theorem Wd.m_Tree_check_place {K : PySem.W.Frag} {mg : Str → Option Value} {base : Heap} (W : Wd K mg base) : Meth K (He.ga K "Tree") "check_place" (He.ma K (He.ga K "Tree") "check_place") := W.meth 59 "Tree" "check_place" rfl
theorem Wd.m_Tree_parent {K : PySem.W.Frag} {mg : Str → Option Value} {base : Heap} (W : Wd K mg base) : Meth K (He.ga K "Tree") "parent" (He.ma K (He.ga K "Tree") "parent") := W.meth 60 "Tree" "parent" rfl
theorem Wd.m_Tree_way_to {K : PySem.W.Frag} {mg : Str → Option Value} {base : Heap} (W : Wd K mg base) : Meth K (He.ga K "Tree") "way_to" (He.ma K (He.ga K "Tree") "way_to") := W.meth 61 "Tree" "way_to" rfl
theorem Wd.m_Before_shows {K : PySem.W.Frag} {mg : Str → Option Value} {base : Heap} (W : Wd K mg base) : Meth K (He.ga K "Before") "shows" (He.ma K (He.ga K "Before") "shows") := W.meth 62 "Before" "shows" rfl
theorem Wd.m_Over_shows {K : PySem.W.Frag} {mg : Str → Option Value} {base : Heap} (W : Wd K mg base) : Meth K (He.ga K "Over") "shows" (He.ma K (He.ga K "Over") "shows") := W.meth 63 "Over" "shows" rfl
theorem Wd.d_is_number {K : PySem.W.Frag} {mg : Str → Option Value} {base : Heap} (W : Wd K mg base) : ∃ fd, FunD K Hr.d_is_number.name Hr.d_is_number.qual Hr.d_is_number.params Hr.d_is_number.body Hr.d_is_number.scope (Hr.d_is_number.dvs K) (Hr.d_is_number.kws K) (He.fAd K Hr.d_is_number.at_) fd := W.def_ 0 Hr.d_is_number rfl
theorem Wd.d_is_key {K : PySem.W.Frag} {mg : Str → Option Value} {base : Heap} (W : Wd K mg base) : ∃ fd, FunD K Hr.d_is_key.name Hr.d_is_key.qual Hr.d_is_key.params Hr.d_is_key.body Hr.d_is_key.scope (Hr.d_is_key.dvs K) (Hr.d_is_key.kws K) (He.fAd K Hr.d_is_key.at_) fd := W.def_ 1 Hr.d_is_key rfl
theorem Wd.d_check_arms {K : PySem.W.Frag} {mg : Str → Option Value} {base : Heap} (W : Wd K mg base) : ∃ fd, FunD K Hr.d_check_arms.name Hr.d_check_arms.qual Hr.d_check_arms.params Hr.d_check_arms.body Hr.d_check_arms.scope (Hr.d_check_arms.dvs K) (Hr.d_check_arms.kws K) (He.fAd K Hr.d_check_arms.at_) fd := W.def_ 2 Hr.d_check_arms rfl
theorem Wd.d_check_row {K : PySem.W.Frag} {mg : Str → Option Value} {base : Heap} (W : Wd K mg base) : ∃ fd, FunD K Hr.d_check_row.name Hr.d_check_row.qual Hr.d_check_row.params Hr.d_check_row.body Hr.d_check_row.scope (Hr.d_check_row.dvs K) (Hr.d_check_row.kws K) (He.fAd K Hr.d_check_row.at_) fd := W.def_ 3 Hr.d_check_row rfl
theorem Wd.d_Tree_init {K : PySem.W.Frag} {mg : Str → Option Value} {base : Heap} (W : Wd K mg base) : ∃ fd, FunD K Hr.d_Tree_init.name Hr.d_Tree_init.qual Hr.d_Tree_init.params Hr.d_Tree_init.body Hr.d_Tree_init.scope (Hr.d_Tree_init.dvs K) (Hr.d_Tree_init.kws K) (He.fAd K Hr.d_Tree_init.at_) fd := W.def_ 4 Hr.d_Tree_init rfl
theorem Wd.d_Tree_contains {K : PySem.W.Frag} {mg : Str → Option Value} {base : Heap} (W : Wd K mg base) : ∃ fd, FunD K Hr.d_Tree_contains.name Hr.d_Tree_contains.qual Hr.d_Tree_contains.params Hr.d_Tree_contains.body Hr.d_Tree_contains.scope (Hr.d_Tree_contains.dvs K) (Hr.d_Tree_contains.kws K) (He.fAd K Hr.d_Tree_contains.at_) fd := W.def_ 5 Hr.d_Tree_contains rfl
theorem Wd.d_Tree_iter {K : PySem.W.Frag} {mg : Str → Option Value} {base : Heap} (W : Wd K mg base) : ∃ fd, FunD K Hr.d_Tree_iter.name Hr.d_Tree_iter.qual Hr.d_Tree_iter.params Hr.d_Tree_iter.body Hr.d_Tree_iter.scope (Hr.d_Tree_iter.dvs K) (Hr.d_Tree_iter.kws K) (He.fAd K Hr.d_Tree_iter.at_) fd := W.def_ 6 Hr.d_Tree_iter rfl
theorem Wd.d_Tree_getitem {K : PySem.W.Frag} {mg : Str → Option Value} {base : Heap} (W : Wd K mg base) : ∃ fd, FunD K Hr.d_Tree_getitem.name Hr.d_Tree_getitem.qual Hr.d_Tree_getitem.params Hr.d_Tree_getitem.body Hr.d_Tree_getitem.scope (Hr.d_Tree_getitem.dvs K) (Hr.d_Tree_getitem.kws K) (He.fAd K Hr.d_Tree_getitem.at_) fd := W.def_ 7 Hr.d_Tree_getitem rfl
theorem Wd.d_Tree_check_place {K : PySem.W.Frag} {mg : Str → Option Value} {base : Heap} (W : Wd K mg base) : ∃ fd, FunD K Hr.d_Tree_check_place.name Hr.d_Tree_check_place.qual Hr.d_Tree_check_place.params Hr.d_Tree_check_place.body Hr.d_Tree_check_place.scope (Hr.d_Tree_check_place.dvs K) (Hr.d_Tree_check_place.kws K) (He.fAd K Hr.d_Tree_check_place.at_) fd := W.def_ 8 Hr.d_Tree_check_place rfl
theorem Wd.d_Tree_parent {K : PySem.W.Frag} {mg : Str → Option Value} {base : Heap} (W : Wd K mg base) : ∃ fd, FunD K Hr.d_Tree_parent.name Hr.d_Tree_parent.qual Hr.d_Tree_parent.params Hr.d_Tree_parent.body Hr.d_Tree_parent.scope (Hr.d_Tree_parent.dvs K) (Hr.d_Tree_parent.kws K) (He.fAd K Hr.d_Tree_parent.at_) fd := W.def_ 9 Hr.d_Tree_parent rfl
theorem Wd.d_Tree_way_to {K : PySem.W.Frag} {mg : Str → Option Value} {base : Heap} (W : Wd K mg base) : ∃ fd, FunD K Hr.d_Tree_way_to.name Hr.d_Tree_way_to.qual Hr.d_Tree_way_to.params Hr.d_Tree_way_to.body Hr.d_Tree_way_to.scope (Hr.d_Tree_way_to.dvs K) (Hr.d_Tree_way_to.kws K) (He.fAd K Hr.d_Tree_way_to.at_) fd := W.def_ 10 Hr.d_Tree_way_to rfl
theorem Wd.d_check_heap {K : PySem.W.Frag} {mg : Str → Option Value} {base : Heap} (W : Wd K mg base) : ∃ fd, FunD K Hr.d_check_heap.name Hr.d_check_heap.qual Hr.d_check_heap.params Hr.d_check_heap.body Hr.d_check_heap.scope (Hr.d_check_heap.dvs K) (Hr.d_check_heap.kws K) (He.fAd K Hr.d_check_heap.at_) fd := W.def_ 11 Hr.d_check_heap rfl
theorem Wd.d_check_different {K : PySem.W.Frag} {mg : Str → Option Value} {base : Heap} (W : Wd K mg base) : ∃ fd, FunD K Hr.d_check_different.name Hr.d_check_different.qual Hr.d_check_different.params Hr.d_check_different.body Hr.d_check_different.scope (Hr.d_check_different.dvs K) (Hr.d_check_different.kws K) (He.fAd K Hr.d_check_different.at_) fd := W.def_ 12 Hr.d_check_different rfl
theorem Wd.d_faults_in {K : PySem.W.Frag} {mg : Str → Option Value} {base : Heap} (W : Wd K mg base) : ∃ fd, FunD K Hr.d_faults_in.name Hr.d_faults_in.qual Hr.d_faults_in.params Hr.d_faults_in.body Hr.d_faults_in.scope (Hr.d_faults_in.dvs K) (Hr.d_faults_in.kws K) (He.fAd K Hr.d_faults_in.at_) fd := W.def_ 13 Hr.d_faults_in rfl
theorem Wd.d_Sift_init {K : PySem.W.Frag} {mg : Str → Option Value} {base : Heap} (W : Wd K mg base) : ∃ fd, FunD K Hr.d_Sift_init.name Hr.d_Sift_init.qual Hr.d_Sift_init.params Hr.d_Sift_init.body Hr.d_Sift_init.scope (Hr.d_Sift_init.dvs K) (Hr.d_Sift_init.kws K) (He.fAd K Hr.d_Sift_init.at_) fd := W.def_ 14 Hr.d_Sift_init rfl
theorem Wd.d_moved {K : PySem.W.Frag} {mg : Str → Option Value} {base : Heap} (W : Wd K mg base) : ∃ fd, FunD K Hr.d_moved.name Hr.d_moved.qual Hr.d_moved.params Hr.d_moved.body Hr.d_moved.scope (Hr.d_moved.dvs K) (Hr.d_moved.kws K) (He.fAd K Hr.d_moved.at_) fd := W.def_ 15 Hr.d_moved rfl
theorem Wd.d_first_least {K : PySem.W.Frag} {mg : Str → Option Value} {base : Heap} (W : Wd K mg base) : ∃ fd, FunD K Hr.d_first_least.name Hr.d_first_least.qual Hr.d_first_least.params Hr.d_first_least.body Hr.d_first_least.scope (Hr.d_first_least.dvs K) (Hr.d_first_least.kws K) (He.fAd K Hr.d_first_least.at_) fd := W.def_ 16 Hr.d_first_least rfl
theorem Wd.d_way_down {K : PySem.W.Frag} {mg : Str → Option Value} {base : Heap} (W : Wd K mg base) : ∃ fd, FunD K Hr.d_way_down.name Hr.d_way_down.qual Hr.d_way_down.params Hr.d_way_down.body Hr.d_way_down.scope (Hr.d_way_down.dvs K) (Hr.d_way_down.kws K) (He.fAd K Hr.d_way_down.at_) fd := W.def_ 17 Hr.d_way_down rfl
theorem Wd.d_sunk {K : PySem.W.Frag} {mg : Str → Option Value} {base : Heap} (W : Wd K mg base) : ∃ fd, FunD K Hr.d_sunk.name Hr.d_sunk.qual Hr.d_sunk.params Hr.d_sunk.body Hr.d_sunk.scope (Hr.d_sunk.dvs K) (Hr.d_sunk.kws K) (He.fAd K Hr.d_sunk.at_) fd := W.def_ 18 Hr.d_sunk rfl
theorem Wd.d_without_last {K : PySem.W.Frag} {mg : Str → Option Value} {base : Heap} (W : Wd K mg base) : ∃ fd, FunD K Hr.d_without_last.name Hr.d_without_last.qual Hr.d_without_last.params Hr.d_without_last.body Hr.d_without_last.scope (Hr.d_without_last.dvs K) (Hr.d_without_last.kws K) (He.fAd K Hr.d_without_last.at_) fd := W.def_ 19 Hr.d_without_last rfl
theorem Wd.d_taken {K : PySem.W.Frag} {mg : Str → Option Value} {base : Heap} (W : Wd K mg base) : ∃ fd, FunD K Hr.d_taken.name Hr.d_taken.qual Hr.d_taken.params Hr.d_taken.body Hr.d_taken.scope (Hr.d_taken.dvs K) (Hr.d_taken.kws K) (He.fAd K Hr.d_taken.at_) fd := W.def_ 20 Hr.d_taken rfl
theorem Wd.d_check_ahead {K : PySem.W.Frag} {mg : Str → Option Value} {base : Heap} (W : Wd K mg base) : ∃ fd, FunD K Hr.d_check_ahead.name Hr.d_check_ahead.qual Hr.d_check_ahead.params Hr.d_check_ahead.body Hr.d_check_ahead.scope (Hr.d_check_ahead.dvs K) (Hr.d_check_ahead.kws K) (He.fAd K Hr.d_check_ahead.at_) fd := W.def_ 21 Hr.d_check_ahead rfl
theorem Wd.d_check_room {K : PySem.W.Frag} {mg : Str → Option Value} {base : Heap} (W : Wd K mg base) : ∃ fd, FunD K Hr.d_check_room.name Hr.d_check_room.qual Hr.d_check_room.params Hr.d_check_room.body Hr.d_check_room.scope (Hr.d_check_room.dvs K) (Hr.d_check_room.kws K) (He.fAd K Hr.d_check_room.at_) fd := W.def_ 22 Hr.d_check_room rfl
theorem Wd.d_row_ahead {K : PySem.W.Frag} {mg : Str → Option Value} {base : Heap} (W : Wd K mg base) : ∃ fd, FunD K Hr.d_row_ahead.name Hr.d_row_ahead.qual Hr.d_row_ahead.params Hr.d_row_ahead.body Hr.d_row_ahead.scope (Hr.d_row_ahead.dvs K) (Hr.d_row_ahead.kws K) (He.fAd K Hr.d_row_ahead.at_) fd := W.def_ 23 Hr.d_row_ahead rfl
theorem Wd.d_place_above {K : PySem.W.Frag} {mg : Str → Option Value} {base : Heap} (W : Wd K mg base) : ∃ fd, FunD K Hr.d_place_above.name Hr.d_place_above.qual Hr.d_place_above.params Hr.d_place_above.body Hr.d_place_above.scope (Hr.d_place_above.dvs K) (Hr.d_place_above.kws K) (He.fAd K Hr.d_place_above.at_) fd := W.def_ 24 Hr.d_place_above rfl
theorem Wd.d_Before_init {K : PySem.W.Frag} {mg : Str → Option Value} {base : Heap} (W : Wd K mg base) : ∃ fd, FunD K Hr.d_Before_init.name Hr.d_Before_init.qual Hr.d_Before_init.params Hr.d_Before_init.body Hr.d_Before_init.scope (Hr.d_Before_init.dvs K) (Hr.d_Before_init.kws K) (He.fAd K Hr.d_Before_init.at_) fd := W.def_ 25 Hr.d_Before_init rfl
theorem Wd.d_Before_eq {K : PySem.W.Frag} {mg : Str → Option Value} {base : Heap} (W : Wd K mg base) : ∃ fd, FunD K Hr.d_Before_eq.name Hr.d_Before_eq.qual Hr.d_Before_eq.params Hr.d_Before_eq.body Hr.d_Before_eq.scope (Hr.d_Before_eq.dvs K) (Hr.d_Before_eq.kws K) (He.fAd K Hr.d_Before_eq.at_) fd := W.def_ 26 Hr.d_Before_eq rfl
theorem Wd.d_Before_shows {K : PySem.W.Frag} {mg : Str → Option Value} {base : Heap} (W : Wd K mg base) : ∃ fd, FunD K Hr.d_Before_shows.name Hr.d_Before_shows.qual Hr.d_Before_shows.params Hr.d_Before_shows.body Hr.d_Before_shows.scope (Hr.d_Before_shows.dvs K) (Hr.d_Before_shows.kws K) (He.fAd K Hr.d_Before_shows.at_) fd := W.def_ 27 Hr.d_Before_shows rfl
theorem Wd.d_Over_init {K : PySem.W.Frag} {mg : Str → Option Value} {base : Heap} (W : Wd K mg base) : ∃ fd, FunD K Hr.d_Over_init.name Hr.d_Over_init.qual Hr.d_Over_init.params Hr.d_Over_init.body Hr.d_Over_init.scope (Hr.d_Over_init.dvs K) (Hr.d_Over_init.kws K) (He.fAd K Hr.d_Over_init.at_) fd := W.def_ 28 Hr.d_Over_init rfl
theorem Wd.d_Over_eq {K : PySem.W.Frag} {mg : Str → Option Value} {base : Heap} (W : Wd K mg base) : ∃ fd, FunD K Hr.d_Over_eq.name Hr.d_Over_eq.qual Hr.d_Over_eq.params Hr.d_Over_eq.body Hr.d_Over_eq.scope (Hr.d_Over_eq.dvs K) (Hr.d_Over_eq.kws K) (He.fAd K Hr.d_Over_eq.at_) fd := W.def_ 29 Hr.d_Over_eq rfl
theorem Wd.d_Over_shows {K : PySem.W.Frag} {mg : Str → Option Value} {base : Heap} (W : Wd K mg base) : ∃ fd, FunD K Hr.d_Over_shows.name Hr.d_Over_shows.qual Hr.d_Over_shows.params Hr.d_Over_shows.body Hr.d_Over_shows.scope (Hr.d_Over_shows.dvs K) (Hr.d_Over_shows.kws K) (He.fAd K Hr.d_Over_shows.at_) fd := W.def_ 30 Hr.d_Over_shows rfl
theorem Wd.d_undo_take {K : PySem.W.Frag} {mg : Str → Option Value} {base : Heap} (W : Wd K mg base) : ∃ fd, FunD K Hr.d_undo_take.name Hr.d_undo_take.qual Hr.d_undo_take.params Hr.d_undo_take.body Hr.d_undo_take.scope (Hr.d_undo_take.dvs K) (Hr.d_undo_take.kws K) (He.fAd K Hr.d_undo_take.at_) fd := W.def_ 31 Hr.d_undo_take rfl
theorem Wd.d_law_number {K : PySem.W.Frag} {mg : Str → Option Value} {base : Heap} (W : Wd K mg base) : ∃ fd, FunD K Hr.d_law_number.name Hr.d_law_number.qual Hr.d_law_number.params Hr.d_law_number.body Hr.d_law_number.scope (Hr.d_law_number.dvs K) (Hr.d_law_number.kws K) (He.fAd K Hr.d_law_number.at_) fd := W.def_ 32 Hr.d_law_number rfl
theorem Wd.d_law_take {K : PySem.W.Frag} {mg : Str → Option Value} {base : Heap} (W : Wd K mg base) : ∃ fd, FunD K Hr.d_law_take.name Hr.d_law_take.qual Hr.d_law_take.params Hr.d_law_take.body Hr.d_law_take.scope (Hr.d_law_take.dvs K) (Hr.d_law_take.kws K) (He.fAd K Hr.d_law_take.at_) fd := W.def_ 33 Hr.d_law_take rfl
theorem Wd.d_law_pick {K : PySem.W.Frag} {mg : Str → Option Value} {base : Heap} (W : Wd K mg base) : ∃ fd, FunD K Hr.d_law_pick.name Hr.d_law_pick.qual Hr.d_law_pick.params Hr.d_law_pick.body Hr.d_law_pick.scope (Hr.d_law_pick.dvs K) (Hr.d_law_pick.kws K) (He.fAd K Hr.d_law_pick.at_) fd := W.def_ 34 Hr.d_law_pick rfl
theorem Wd.d_law_parent {K : PySem.W.Frag} {mg : Str → Option Value} {base : Heap} (W : Wd K mg base) : ∃ fd, FunD K Hr.d_law_parent.name Hr.d_law_parent.qual Hr.d_law_parent.params Hr.d_law_parent.body Hr.d_law_parent.scope (Hr.d_law_parent.dvs K) (Hr.d_law_parent.kws K) (He.fAd K Hr.d_law_parent.at_) fd := W.def_ 35 Hr.d_law_parent rfl
theorem Wd.d_law_children {K : PySem.W.Frag} {mg : Str → Option Value} {base : Heap} (W : Wd K mg base) : ∃ fd, FunD K Hr.d_law_children.name Hr.d_law_children.qual Hr.d_law_children.params Hr.d_law_children.body Hr.d_law_children.scope (Hr.d_law_children.dvs K) (Hr.d_law_children.kws K) (He.fAd K Hr.d_law_children.at_) fd := W.def_ 36 Hr.d_law_children rfl
theorem Wd.d_law_way {K : PySem.W.Frag} {mg : Str → Option Value} {base : Heap} (W : Wd K mg base) : ∃ fd, FunD K Hr.d_law_way.name Hr.d_law_way.qual Hr.d_law_way.params Hr.d_law_way.body Hr.d_law_way.scope (Hr.d_law_way.dvs K) (Hr.d_law_way.kws K) (He.fAd K Hr.d_law_way.at_) fd := W.def_ 37 Hr.d_law_way rfl
theorem Wd.d_law_arms {K : PySem.W.Frag} {mg : Str → Option Value} {base : Heap} (W : Wd K mg base) : ∃ fd, FunD K Hr.d_law_arms.name Hr.d_law_arms.qual Hr.d_law_arms.params Hr.d_law_arms.body Hr.d_law_arms.scope (Hr.d_law_arms.dvs K) (Hr.d_law_arms.kws K) (He.fAd K Hr.d_law_arms.at_) fd := W.def_ 38 Hr.d_law_arms rfl
theorem Wd.d_law_order {K : PySem.W.Frag} {mg : Str → Option Value} {base : Heap} (W : Wd K mg base) : ∃ fd, FunD K Hr.d_law_order.name Hr.d_law_order.qual Hr.d_law_order.params Hr.d_law_order.body Hr.d_law_order.scope (Hr.d_law_order.dvs K) (Hr.d_law_order.kws K) (He.fAd K Hr.d_law_order.at_) fd := W.def_ 39 Hr.d_law_order rfl
theorem Wd.d_law_is_heap {K : PySem.W.Frag} {mg : Str → Option Value} {base : Heap} (W : Wd K mg base) : ∃ fd, FunD K Hr.d_law_is_heap.name Hr.d_law_is_heap.qual Hr.d_law_is_heap.params Hr.d_law_is_heap.body Hr.d_law_is_heap.scope (Hr.d_law_is_heap.dvs K) (Hr.d_law_is_heap.kws K) (He.fAd K Hr.d_law_is_heap.at_) fd := W.def_ 40 Hr.d_law_is_heap rfl
theorem Wd.d_law_heap {K : PySem.W.Frag} {mg : Str → Option Value} {base : Heap} (W : Wd K mg base) : ∃ fd, FunD K Hr.d_law_heap.name Hr.d_law_heap.qual Hr.d_law_heap.params Hr.d_law_heap.body Hr.d_law_heap.scope (Hr.d_law_heap.dvs K) (Hr.d_law_heap.kws K) (He.fAd K Hr.d_law_heap.at_) fd := W.def_ 41 Hr.d_law_heap rfl
theorem Wd.d_law_down {K : PySem.W.Frag} {mg : Str → Option Value} {base : Heap} (W : Wd K mg base) : ∃ fd, FunD K Hr.d_law_down.name Hr.d_law_down.qual Hr.d_law_down.params Hr.d_law_down.body Hr.d_law_down.scope (Hr.d_law_down.dvs K) (Hr.d_law_down.kws K) (He.fAd K Hr.d_law_down.at_) fd := W.def_ 42 Hr.d_law_down rfl
theorem Wd.d_law_out {K : PySem.W.Frag} {mg : Str → Option Value} {base : Heap} (W : Wd K mg base) : ∃ fd, FunD K Hr.d_law_out.name Hr.d_law_out.qual Hr.d_law_out.params Hr.d_law_out.body Hr.d_law_out.scope (Hr.d_law_out.dvs K) (Hr.d_law_out.kws K) (He.fAd K Hr.d_law_out.at_) fd := W.def_ 43 Hr.d_law_out rfl
theorem Wd.d_law_unlike {K : PySem.W.Frag} {mg : Str → Option Value} {base : Heap} (W : Wd K mg base) : ∃ fd, FunD K Hr.d_law_unlike.name Hr.d_law_unlike.qual Hr.d_law_unlike.params Hr.d_law_unlike.body Hr.d_law_unlike.scope (Hr.d_law_unlike.dvs K) (Hr.d_law_unlike.kws K) (He.fAd K Hr.d_law_unlike.at_) fd := W.def_ 44 Hr.d_law_unlike rfl
theorem Wd.d_law_is_before {K : PySem.W.Frag} {mg : Str → Option Value} {base : Heap} (W : Wd K mg base) : ∃ fd, FunD K Hr.d_law_is_before.name Hr.d_law_is_before.qual Hr.d_law_is_before.params Hr.d_law_is_before.body Hr.d_law_is_before.scope (Hr.d_law_is_before.dvs K) (Hr.d_law_is_before.kws K) (He.fAd K Hr.d_law_is_before.at_) fd := W.def_ 45 Hr.d_law_is_before rfl
theorem Wd.d_law_shifted {K : PySem.W.Frag} {mg : Str → Option Value} {base : Heap} (W : Wd K mg base) : ∃ fd, FunD K Hr.d_law_shifted.name Hr.d_law_shifted.qual Hr.d_law_shifted.params Hr.d_law_shifted.body Hr.d_law_shifted.scope (Hr.d_law_shifted.dvs K) (Hr.d_law_shifted.kws K) (He.fAd K Hr.d_law_shifted.at_) fd := W.def_ 46 Hr.d_law_shifted rfl
theorem Wd.d_law {K : PySem.W.Frag} {mg : Str → Option Value} {base : Heap} (W : Wd K mg base) : ∃ fd, FunD K Hr.d_law.name Hr.d_law.qual Hr.d_law.params Hr.d_law.body Hr.d_law.scope (Hr.d_law.dvs K) (Hr.d_law.kws K) (He.fAd K Hr.d_law.at_) fd := W.def_ 47 Hr.d_law rfl
section
variable {K : PySem.W.Frag} {mg : Str → Option Value} {base : Heap}
theorem Wd.exs (W : Wd K mg base) : (["Tree", "Sift", "Before", "Over"].all fun x => sclsB K x) = true ∧ (["Before", "Over"].all fun x => isiB K x) = true ∧ (slotB K "Tree" "many" 1 && (slotB K "Tree" "arms" 0 && (slotB K "Tree" "places" 2 && (slotB K "Sift" "row" 1 && (slotB K "Sift" "way" 2 && (slotB K "Sift" "looks" 0 && (slotB K "Before" "row" 0 && (slotB K "Over" "place" 1 && slotB K "Over" "key" 0)))))))) = true ∧ (ownB K "Tree" "__contains__" && (ownB K "Tree" "__iter__" && (ownB K "Tree" "__getitem__" && (ownB K "Before" "__eq__" && ownB K "Over" "__eq__")))) = true ∧ (["Before", "Over"].all fun x => PySem.W.notFirst K (He.ga K x) (.ref (He.ga K x)) && He.eqO (PySem.W.findIn K (.ref (He.ga K x)) "__ne__") (some (some (.builtin "object.__ne__")))) = true ∧ (PySem.W.notFirst K (He.ga K "Before") (.type "tuple") && (PySem.W.notFirst K (He.ga K "Before") (.ref (He.ga K "Over")) && (decide (PySem.W.kitOne K (.ref (He.ga K "Before")) (.ref (He.ga K "Before")) = some true) && (decide (PySem.W.kitOne K (.ref (He.ga K "Over")) (.ref (He.ga K "Before")) = some false) && (decide (PySem.W.kitOne K (.ref (He.ga K "Over")) (.ref (He.ga K "Over")) = some true) && decide (PySem.W.kitOne K (.type "tuple") (.ref (He.ga K "Before")) = some false)))))) = true := by
  obtain ⟨c1, c⟩ := He.ba W.more
  obtain ⟨c2, c⟩ := He.ba c
  obtain ⟨c3, c⟩ := He.ba c
  obtain ⟨c4, c⟩ := He.ba c
  obtain ⟨c5, c6⟩ := He.ba c
  exact ⟨c1, c2, c3, c4, c5, c6⟩
theorem Wd.s_Tree (W : Wd K mg base) : SCls K (He.ga K "Tree") := sclsB_ok (List.all_eq_true.mp W.exs.1 "Tree" (by simp))
theorem Wd.s_Sift (W : Wd K mg base) : SCls K (He.ga K "Sift") := sclsB_ok (List.all_eq_true.mp W.exs.1 "Sift" (by simp))
theorem Wd.s_Before (W : Wd K mg base) : SCls K (He.ga K "Before") := sclsB_ok (List.all_eq_true.mp W.exs.1 "Before" (by simp))
theorem Wd.s_Over (W : Wd K mg base) : SCls K (He.ga K "Over") := sclsB_ok (List.all_eq_true.mp W.exs.1 "Over" (by simp))
theorem Wd.x_Before (W : Wd K mg base) : SIsi K (He.ga K "Before") := isiB_ok (List.all_eq_true.mp W.exs.2.1 "Before" (by simp))
theorem Wd.x_Over (W : Wd K mg base) : SIsi K (He.ga K "Over") := isiB_ok (List.all_eq_true.mp W.exs.2.1 "Over" (by simp))
theorem Wd.l_Tree_many (W : Wd K mg base) : Slot1 K (He.ga K "Tree") "many" (He.ma K (He.ga K "Tree") "many") 1 := slotB_ok (He.ba W.exs.2.2.1).1
theorem Wd.l_Tree_arms (W : Wd K mg base) : Slot1 K (He.ga K "Tree") "arms" (He.ma K (He.ga K "Tree") "arms") 0 := slotB_ok (He.ba (He.ba W.exs.2.2.1).2).1
theorem Wd.l_Tree_places (W : Wd K mg base) : Slot1 K (He.ga K "Tree") "places" (He.ma K (He.ga K "Tree") "places") 2 := slotB_ok (He.ba (He.ba (He.ba W.exs.2.2.1).2).2).1
theorem Wd.l_Sift_row (W : Wd K mg base) : Slot1 K (He.ga K "Sift") "row" (He.ma K (He.ga K "Sift") "row") 1 := slotB_ok (He.ba (He.ba (He.ba (He.ba W.exs.2.2.1).2).2).2).1
theorem Wd.l_Sift_way (W : Wd K mg base) : Slot1 K (He.ga K "Sift") "way" (He.ma K (He.ga K "Sift") "way") 2 := slotB_ok (He.ba (He.ba (He.ba (He.ba (He.ba W.exs.2.2.1).2).2).2).2).1
theorem Wd.l_Sift_looks (W : Wd K mg base) : Slot1 K (He.ga K "Sift") "looks" (He.ma K (He.ga K "Sift") "looks") 0 := slotB_ok (He.ba (He.ba (He.ba (He.ba (He.ba (He.ba W.exs.2.2.1).2).2).2).2).2).1
theorem Wd.l_Before_row (W : Wd K mg base) : Slot1 K (He.ga K "Before") "row" (He.ma K (He.ga K "Before") "row") 0 := slotB_ok (He.ba (He.ba (He.ba (He.ba (He.ba (He.ba (He.ba W.exs.2.2.1).2).2).2).2).2).2).1
theorem Wd.l_Over_place (W : Wd K mg base) : Slot1 K (He.ga K "Over") "place" (He.ma K (He.ga K "Over") "place") 1 := slotB_ok (He.ba (He.ba (He.ba (He.ba (He.ba (He.ba (He.ba (He.ba W.exs.2.2.1).2).2).2).2).2).2).2).1
theorem Wd.l_Over_key (W : Wd K mg base) : Slot1 K (He.ga K "Over") "key" (He.ma K (He.ga K "Over") "key") 0 := slotB_ok (He.ba (He.ba (He.ba (He.ba (He.ba (He.ba (He.ba (He.ba W.exs.2.2.1).2).2).2).2).2).2).2).2
theorem ownB_ok {x m : Str} (c : ownB K x m = true) : PySem.W.findIn K (.ref (He.ga K x)) m = some (some (.ref (He.ma K (He.ga K x) m))) ∧ PySem.W.isFn K (.ref (He.ma K (He.ga K x) m)) = true ∧ PySem.W.fnIn K (He.ma K (He.ga K x) m) = true := ⟨He.eqO_ok (He.ba c).1, (He.ba (He.ba c).2).1, (He.ba (He.ba c).2).2⟩
theorem Wd.o_Tree_contains (W : Wd K mg base) : PySem.W.findIn K (.ref (He.ga K "Tree")) "__contains__" = some (some (.ref (He.ma K (He.ga K "Tree") "__contains__"))) ∧ PySem.W.isFn K (.ref (He.ma K (He.ga K "Tree") "__contains__")) = true ∧ PySem.W.fnIn K (He.ma K (He.ga K "Tree") "__contains__") = true := ownB_ok (He.ba W.exs.2.2.2.1).1
theorem Wd.o_Tree_iter (W : Wd K mg base) : PySem.W.findIn K (.ref (He.ga K "Tree")) "__iter__" = some (some (.ref (He.ma K (He.ga K "Tree") "__iter__"))) ∧ PySem.W.isFn K (.ref (He.ma K (He.ga K "Tree") "__iter__")) = true ∧ PySem.W.fnIn K (He.ma K (He.ga K "Tree") "__iter__") = true := ownB_ok (He.ba (He.ba W.exs.2.2.2.1).2).1
theorem Wd.o_Tree_getitem (W : Wd K mg base) : PySem.W.findIn K (.ref (He.ga K "Tree")) "__getitem__" = some (some (.ref (He.ma K (He.ga K "Tree") "__getitem__"))) ∧ PySem.W.isFn K (.ref (He.ma K (He.ga K "Tree") "__getitem__")) = true ∧ PySem.W.fnIn K (He.ma K (He.ga K "Tree") "__getitem__") = true := ownB_ok (He.ba (He.ba (He.ba W.exs.2.2.2.1).2).2).1
theorem Wd.o_Before_eq (W : Wd K mg base) : PySem.W.findIn K (.ref (He.ga K "Before")) "__eq__" = some (some (.ref (He.ma K (He.ga K "Before") "__eq__"))) ∧ PySem.W.isFn K (.ref (He.ma K (He.ga K "Before") "__eq__")) = true ∧ PySem.W.fnIn K (He.ma K (He.ga K "Before") "__eq__") = true := ownB_ok (He.ba (He.ba (He.ba (He.ba W.exs.2.2.2.1).2).2).2).1
theorem Wd.o_Over_eq (W : Wd K mg base) : PySem.W.findIn K (.ref (He.ga K "Over")) "__eq__" = some (some (.ref (He.ma K (He.ga K "Over") "__eq__"))) ∧ PySem.W.isFn K (.ref (He.ma K (He.ga K "Over") "__eq__")) = true ∧ PySem.W.fnIn K (He.ma K (He.ga K "Over") "__eq__") = true := ownB_ok (He.ba (He.ba (He.ba (He.ba W.exs.2.2.2.1).2).2).2).2
theorem Wd.n_Before (W : Wd K mg base) : PySem.W.notFirst K (He.ga K "Before") (.ref (He.ga K "Before")) = true ∧ PySem.W.findIn K (.ref (He.ga K "Before")) "__ne__" = some (some (.builtin "object.__ne__")) := ⟨(He.ba (List.all_eq_true.mp W.exs.2.2.2.2.1 "Before" (by simp))).1, He.eqO_ok (He.ba (List.all_eq_true.mp W.exs.2.2.2.2.1 "Before" (by simp))).2⟩
theorem Wd.n_Over (W : Wd K mg base) : PySem.W.notFirst K (He.ga K "Over") (.ref (He.ga K "Over")) = true ∧ PySem.W.findIn K (.ref (He.ga K "Over")) "__ne__" = some (some (.builtin "object.__ne__")) := ⟨(He.ba (List.all_eq_true.mp W.exs.2.2.2.2.1 "Over" (by simp))).1, He.eqO_ok (He.ba (List.all_eq_true.mp W.exs.2.2.2.2.1 "Over" (by simp))).2⟩
theorem Wd.last (W : Wd K mg base) : PySem.W.notFirst K (He.ga K "Before") (.type "tuple") = true ∧ PySem.W.notFirst K (He.ga K "Before") (.ref (He.ga K "Over")) = true ∧ PySem.W.kitOne K (.ref (He.ga K "Before")) (.ref (He.ga K "Before")) = some true ∧ PySem.W.kitOne K (.ref (He.ga K "Over")) (.ref (He.ga K "Before")) = some false ∧ PySem.W.kitOne K (.ref (He.ga K "Over")) (.ref (He.ga K "Over")) = some true ∧ PySem.W.kitOne K (.type "tuple") (.ref (He.ga K "Before")) = some false := by
  obtain ⟨c1, c⟩ := He.ba W.exs.2.2.2.2.2
  obtain ⟨c2, c⟩ := He.ba c
  obtain ⟨c3, c⟩ := He.ba c
  obtain ⟨c4, c⟩ := He.ba c
  obtain ⟨c5, c6⟩ := He.ba c
  exact ⟨c1, c2, of_decide_eq_true c3, of_decide_eq_true c4, of_decide_eq_true c5, of_decide_eq_true c6⟩
end
/-! ### promises -/
structure OkD (P : Program) (w : World) (K : PySem.W.Frag) (mg : Str → Option Value) (base : Heap) (d : He.DefD) (ps : List Str) (k : Nat) (sp : Sp) : Prop where
  ex : ∃ fd, FunD K d.name d.qual d.params d.body d.scope [] [] (He.fAd K d.at_) fd ∧ FnOk P w K mg base CX0 k (He.fAd K d.at_) fd ps sp ∧ Binds K fd ps []
abbrev gApp : List V → List V → List V := fun vs zs => vs ++ zs
structure OkK (P : Program) (w : World) (K : PySem.W.Frag) (mg : Str → Option Value) (base : Heap) (d : He.DefD) (ps : List Str) (n : Nat) (k : Nat) (sp : Sp) : Prop where
  ex : ∃ fd, FunD K d.name d.qual d.params d.body d.scope [] (d.kws K) (He.fAd K d.at_) fd ∧ FnOk P w K mg base CX0 k (He.fAd K d.at_) fd ps sp ∧ ∃ g, KBn K fd ps n ["arms"] g gApp
def nCall (sp : Sp) (t : TA) : TE := fun σ H Q => t σ H fun vs H1 => sp vs H1 Q E0
def nCallK (n : Nat) (sp : Sp) (t tk : TA) : TE := fun σ H Q => t σ H fun vs H1 => tk σ H1 fun zs H2 => vs.length = n ∧ zs.length = 1 ∧ sp (vs ++ zs) H2 Q E0
def nMake (C : Addr) (sp : Sp) (t : TA) : TE := fun σ H Q => t σ H fun vs H1 => ∀ x dx, H1 x = none → H1 dx = none → dx ≠ x → sp (.ref x :: vs) (upd (upd H1 dx (.own x)) x (.ins C dx [])) (fun v H2 => v = .non ∧ Q (.ref x) H2) E0
section
variable {P : Program} {w : World} {K : PySem.W.Frag} {mg : Str → Option Value} {base : Heap} {d : He.DefD} {N ps : List Str} {k n : Nat} {sp : Sp}
/-- THE RULE for a def without defaults -/
theorem ok_of (hF : ∃ fd, FunD K d.name d.qual d.params d.body d.scope [] [] (He.fAd K d.at_) fd) (S : FnScope N ps d.scope) (len : ∀ vs H Q E, sp vs H Q E → vs.length = ps.length)
    (hb : ∀ (kV doc pm : Value) (an : Option Addr) (cdv ct : Value) (us : List Value), us.length = ps.length → bindArgs (PySem.W.fnOf d.name d.qual d.params d.body d.scope .none kV doc pm an cdv ct) ⟨us, []⟩ = pure (ps.zip us))
    (hbody : ∀ (cdv : Value) (A : Around) (outer : List Env) (s : Shared) (H : Hp) (vs : List V) (Q : VK) (E : XK), Room k (A.deeper (envOfC d.qual d.scope s.heap.objs.size (He.fAd K d.at_) cdv)) → sp vs H Q E →
      ∃ t, PSs (cxOf CX0 P w K mg base N d.qual d.scope (He.fAd K d.at_) cdv A outer s H E).nox d.body t ∧ t ⟨fun _ H' => Q .non H', Q, fun _ _ => False, fun _ _ => False⟩ (start N vs) H) : OkD P w K mg base d ps (k + 1) sp := by
  obtain ⟨fd, F⟩ := hF
  exact ⟨fd, F, F.ok S len fun cdv A outer s H vs Q E hr h => (hbody cdv A outer s H vs Q E hr h).imp fun t ⟨h1, h2⟩ => ⟨h1.nox, h2⟩, F.bindsN hb⟩
/-- .. for a def with the keyword-only parameter arms -/
theorem okK_of (hF : ∃ fd, FunD K d.name d.qual d.params d.body d.scope [] (d.kws K) (He.fAd K d.at_) fd) (hk : d.kws K ≠ []) (S : FnScope N ps d.scope) (len : ∀ vs H Q E, sp vs H Q E → vs.length = ps.length)
    (hb : ∀ (D : Addr) (doc pm : Value) (an : Option Addr) (cdv ct : Value) (us ws : List Value), us.length = n → ws.length = 1 →
      bindArgs (PySem.W.fnOf d.name d.qual d.params d.body d.scope .none (.ref D) doc pm an cdv ct) ⟨us, [("arms" : Str)].zip ws⟩ = pure (ps.zip (us ++ ws)))
    (hbody : ∀ (cdv : Value) (A : Around) (outer : List Env) (s : Shared) (H : Hp) (vs : List V) (Q : VK) (E : XK), Room k (A.deeper (envOfC d.qual d.scope s.heap.objs.size (He.fAd K d.at_) cdv)) → sp vs H Q E →
      ∃ t, PSs (cxOf CX0 P w K mg base N d.qual d.scope (He.fAd K d.at_) cdv A outer s H E).nox d.body t ∧ t ⟨fun _ H' => Q .non H', Q, fun _ _ => False, fun _ _ => False⟩ (start N vs) H) : OkK P w K mg base d ps n (k + 1) sp := by
  obtain ⟨fd, F⟩ := hF
  obtain ⟨mv, B⟩ := F.kbinds0 (ps := ps) n ["arms"] [] (fun us _ ws => us ++ ws) hk (fun q hq => by cases hq) (fun h1 _ h3 => h1.append h3) fun D doc pm an cdv ct us mv ws l1 l2 l3 => hb D doc pm an cdv ct us ws l1 l3
  exact ⟨fd, F, F.ok S len fun cdv A outer s H vs Q E hr h => (hbody cdv A outer s H vs Q E hr h).imp fun t ⟨h1, h2⟩ => ⟨h1.nox, h2⟩, _, B⟩
theorem OkD.fnR (O : OkD P w K mg base d ps k sp) : FnR P w K mg base CX0 k (He.fAd K d.at_) sp := by
  obtain ⟨fd, F, G, B⟩ := O.ex
  intro A outer s H us vs Q E hr e0 r h
  have l1 := G.len vs H Q E h
  have b := B s us (fun b o e => (e0.bs b o (e0.mod.kin b o e)).1) (by rw [List.append_nil, ← r.length]; exact l1)
  rw [List.append_nil] at b
  exact G.run A outer s H ⟨us, []⟩ us vs Q E hr e0 b r h
end
section
variable {X : Cx} {d : He.DefD} {ps : List Str} {k k' n : Nat} {sp : Sp} {x m : Str} {p pos apos : Pos} {e o : Expr} {es : List Expr} {kws : List Keyword} {t tk : TA} {te ta : TE} {C : Addr}
theorem app_nil_eq (sp : Sp) (t : TA) : tCall sp [] E0 t = nCall sp t := by
  funext σ H Q
  have e : (fun vs H1 => sp (vs ++ []) H1 Q E0) = fun vs H1 => sp vs H1 Q E0 := by
    funext vs H1
    rw [List.append_nil]
  show t σ H (fun vs H1 => sp (vs ++ []) H1 Q E0) = t σ H fun vs H1 => sp vs H1 Q E0
  rw [e]
theorem c_call (O : OkD X.prog X.w X.K X.mg X.base d ps k sp) (hr : Room k' X.A) (hm : X.mg x = some (.ref (He.fAd X.K d.at_))) (ha : PA X (e :: es) t) (hk : k ≤ k' := by decide) (hg : Gl X x := by rfl) (hdb : (x == ("__debug__" : Str)) = false := by decide)
    (he : starEach (e :: es) X.env = (false, eval e X.env) :: starEach es X.env := by rfl) (hpl : (backTo pos (starEach es X.env)).any (·.1) = false := by rfl) : PE X (.Call (.Name x p) (e :: es) [] pos) (nCall sp t) := by
  obtain ⟨fd, F, G, B⟩ := O.ex
  rw [← app_nil_eq]
  exact pe_call G (hr.mono hk) hg hm F.kp B .nil pass0 ha hdb he hpl
theorem c_callK (O : OkK X.prog X.w X.K X.mg X.base d ps n k sp) (hr : Room k' X.A) (hm : X.mg x = some (.ref (He.fAd X.K d.at_))) (ha : PA X (e :: es) t) (hkw : PK X kws tk) (hk : k ≤ k' := by decide) (hg : Gl X x := by rfl)
    (hall : (backToKw pos (keywordEach kws X.env)).all (·.1.isSome) = true := by rfl) (hks : (backToKw pos (keywordEach kws X.env)).filterMap (·.1) = [("arms" : Str)] := by rfl) (hdb : (x == ("__debug__" : Str)) = false := by decide)
    (he : starEach (e :: es) X.env = (false, eval e X.env) :: starEach es X.env := by rfl) (hpl : ((backTo pos (starEach (e :: es) X.env)).any (·.1) || (backToKw pos (keywordEach kws X.env)).any (·.1.isNone)) = false := by rfl) :
    PE X (.Call (.Name x p) (e :: es) kws pos) (nCallK n sp t tk) := by
  obtain ⟨fd, F, G, g, B⟩ := O.ex
  exact pe_callN G (hr.mono hk) hg hm F.kp B pass0 ha hkw hall hks hdb he hpl
/-- C(e, ..) -/
theorem c_make (O : OkD X.prog X.w X.K X.mg X.base d ps k sp) (M : Mk X.K C (He.fAd X.K d.at_)) (hr : Room k' X.A) (hm : X.mg x = some (.ref C)) (ha : PA X (e :: es) t) (hk : k + 1 ≤ k' := by decide) (hg : Gl X x := by rfl) (hdb : (x == ("__debug__" : Str)) = false := by decide)
    (he : starEach (e :: es) X.env = (false, eval e X.env) :: starEach es X.env := by rfl) (hpl : (backTo pos (starEach es X.env)).any (·.1) = false := by rfl) : PE X (.Call (.Name x p) (e :: es) [] pos) (nMake C sp t) := by
  obtain ⟨fd, F, G, B⟩ := O.ex
  refine peImp (pe_make M G (hr.mono hk) hg hm B .nil pass0 (paM ha) hdb he hpl) fun σ H Q q => ⟨_, q, fun vs H1 z x' dx h1 h2 h3 => ?_⟩
  rw [List.append_nil]
  exact z x' dx h1 h2 h3
/-- C(e, .., arms = v) -/
def nMakeK (C : Addr) (n : Nat) (sp : Sp) (t tk : TA) : TE := tMakeK C n 1 sp gApp E0 t tk
theorem c_makeK (O : OkK X.prog X.w X.K X.mg X.base d ps (n + 1) k sp) (M : Mk X.K C (He.fAd X.K d.at_)) (hr : Room k' X.A) (hm : X.mg x = some (.ref C)) (ha : PA X (e :: es) t) (hkw : PK X kws tk) (hk : k + 1 ≤ k' := by decide) (hg : Gl X x := by rfl)
    (hall : (backToKw pos (keywordEach kws X.env)).all (·.1.isSome) = true := by rfl) (hks : (backToKw pos (keywordEach kws X.env)).filterMap (·.1) = [("arms" : Str)] := by rfl) (hdb : (x == ("__debug__" : Str)) = false := by decide)
    (he : starEach (e :: es) X.env = (false, eval e X.env) :: starEach es X.env := by rfl) (hpl : ((backTo pos (starEach (e :: es) X.env)).any (·.1) || (backToKw pos (keywordEach kws X.env)).any (·.1.isNone)) = false := by rfl) :
    PE X (.Call (.Name x p) (e :: es) kws pos) (nMakeK C n sp t tk) := by
  obtain ⟨fd, F, G, g, B⟩ := O.ex
  exact pe_makeK M G (hr.mono hk) hg hm B pass0 ha hkw hall hks hdb he hpl
/-- o.m(e, ..) -/
theorem c_meth {pl : Sem Bool} (he : PE X o ta) (c : SCls X.K C) (O : OkD X.prog X.w X.K X.mg X.base d ps k sp) (hm : Meth X.K C m (He.fAd X.K d.at_)) (hr : Room k' X.A) (ha : PA X (e :: es) t) (hk : k ≤ k' := by decide) (hst : starEach (e :: es) X.env = (false, eval e X.env) :: starEach es X.env := by rfl)
    (hpl : (backTo pos (starEach es X.env)).any (·.1) = false := by rfl)
    (ht : eval (.Call (.Attribute o m apos) (e :: es) [] pos) X.env = (do
      let ov ← eval o X.env
      standAt apos.atName
      let (f, first) ← holding [ov] (getMethod ov m pl)
      callWith pos f first (backTo pos (starEach (e :: es) X.env)) (backToKw pos (keywordEach [] X.env))) := by rfl) :
    PE X (.Call (.Attribute o m apos) (e :: es) [] pos) (tMethSl C sp E0 ta t) := pe_methSl he c hm O.fnR (hr.mono hk) pass0 ha hst hpl ht
/-- o.m(e, .., arms = v) -/
theorem c_methK {pl : Sem Bool} (he : PE X o ta) (c : SCls X.K C) (O : OkK X.prog X.w X.K X.mg X.base d ps (n + 1) k sp) (hm : Meth X.K C m (He.fAd X.K d.at_)) (hr : Room k' X.A) (ha : PA X (e :: es) t) (hkw : PK X kws tk) (hk : k ≤ k' := by decide)
    (hall : (backToKw pos (keywordEach kws X.env)).all (·.1.isSome) = true := by rfl) (hks : (backToKw pos (keywordEach kws X.env)).filterMap (·.1) = [("arms" : Str)] := by rfl)
    (hst : starEach (e :: es) X.env = (false, eval e X.env) :: starEach es X.env := by rfl)
    (hpl : ((backTo pos (starEach (e :: es) X.env)).any (·.1) || (backToKw pos (keywordEach kws X.env)).any (·.1.isNone)) = false := by rfl)
    (ht : eval (.Call (.Attribute o m apos) (e :: es) kws pos) X.env = (do
      let ov ← eval o X.env
      standAt apos.atName
      let (f, first) ← holding [ov] (getMethod ov m pl)
      callWith pos f first (backTo pos (starEach (e :: es) X.env)) (backToKw pos (keywordEach kws X.env))) := by rfl) :
    PE X (.Call (.Attribute o m apos) (e :: es) kws pos) (tMethSlK C n 1 sp gApp E0 ta t tk) := by
  obtain ⟨fd, F, G, g, B⟩ := O.ex
  exact pe_methSlK he c hm G (hr.mono hk) B pass0 ha hkw hall hks hst hpl ht
end

/-! ### steps of readings -/
section
variable {σ : L2.St} {H : Hp} {Q : VK} {x y v : V} {ta tb te : TE} {t u : TS} {n : L2.St → Hp → Prop} {r : VK} {b c : L2.St → Hp → Prop} {K : PySem.W.Frag} {T : List (Addr × Str)}
theorem r_entry {D : Ends} {σ' : L2.St} (e : σ = σ') (h : t D σ' H) : t D σ H := by rw [e]; exact h
theorem r_entryE {te : TE} {σ' : L2.St} (e : σ = σ') (h : te σ' H Q) : te σ H Q := by rw [e]; exact h
theorem r_ktup {tr : TA} (h : tr σ H fun xs H1 => xs.length ≤ sizeLine ∧ ∀ p, H1 p = none → Q (.ref p) (upd H1 p (.tup xs))) : tTup tr σ H Q := h
theorem r_var {i : Nat} (h : σ[i]? = some (some v)) (q : Q v H) : tVar i σ H Q := ⟨v, h, q⟩
theorem r_c (q : Q v H) : tC v σ H Q := q
theorem r_op {o : R2} (h : ta σ H fun x H1 => tb σ H1 fun y H2 => o x y H2 Q) : tOp o ta tb σ H Q := h
theorem r_un {o : V → Hp → VK → Prop} (h : ta σ H fun x H1 => o x H1 Q) : tUn o ta σ H Q := h
theorem r_I0 {g : Int → Int → V} {i j : Int} (q : Q (g i j) H) : rI0 g (.int i) (.int j) H Q := ⟨i, j, rfl, rfl, q⟩
theorem r_I {C : Int → Int → Prop} {g : Int → Int → V} {i j : Int} (hc : C i j) (q : Q (g i j) H) : rI C g (.int i) (.int j) H Q := ⟨i, j, rfl, rfl, hc, q⟩
theorem r_U {g : Int → V} {i : Int} (q : Q (g i) H) : rU g (.int i) H Q := ⟨i, rfl, q⟩
theorem r_nil {Q : List V → Hp → Prop} (q : Q [] H) : tNil σ H Q := q
theorem r_cons {tr : TA} {Q : List V → Hp → Prop} (h : ta σ H fun x H1 => tr σ H1 fun xs H2 => Q (x :: xs) H2) : tCons ta tr σ H Q := h
theorem r_cb {o : List V → Hp → VK → Prop} {tr : TA} (h : tr σ H fun vs H1 => o vs H1 Q) : tCB o tr σ H Q := h
theorem r_call {sp : Sp} {tr : TA} (h : tr σ H fun vs H1 => sp vs H1 Q E0) : nCall sp tr σ H Q := h
theorem r_callK {m : Nat} {sp : Sp} {tr tk : TA} (h : tr σ H fun vs H1 => tk σ H1 fun zs H2 => vs.length = m ∧ zs.length = 1 ∧ sp (vs ++ zs) H2 Q E0) : nCallK m sp tr tk σ H Q := h
theorem r_and {A B C : Prop} (ha : A) (hb : B) (hc : C) : A ∧ B ∧ C := ⟨ha, hb, hc⟩
theorem r_test {Q : Bool → Hp → Prop} (h : te σ H fun x H' => ∃ k, x = .bl k ∧ Q k H') : tTest te σ H Q := h
theorem r_B {Q : Bool → Hp → Prop} (h : te σ H fun x H' => ∃ k, x = .bl k ∧ Q k H') : tB te σ H Q := h
theorem r_bl {k : Bool} {Q : Bool → Prop} (q : Q k) : ∃ c, V.bl k = .bl c ∧ Q c := ⟨k, rfl, q⟩
theorem r_int1 {i : Int} {Q : Int → Prop} (q : Q i) : ∃ c, V.int i = .int c ∧ Q c := ⟨i, rfl, q⟩
theorem r_Not {tt : TT} {Q : Bool → Hp → Prop} (h : tt σ H fun k H1 => Q (!k) H1) : tNot tt σ H Q := h
theorem r_And {t1 t2 : TT} {Q : Bool → Hp → Prop} (h : t1 σ H fun k H1 => if k = true then t2 σ H1 Q else Q false H1) : tAnd t1 t2 σ H Q := h
theorem r_Or {t1 t2 : TT} {Q : Bool → Hp → Prop} (h : t1 σ H fun k H1 => if k = true then Q true H1 else t2 σ H1 Q) : tOr t1 t2 σ H Q := h
theorem r_AndV (h : ta σ H fun x H1 => ∃ k, x = .bl k ∧ if k = true then tb σ H1 Q else Q (.bl false) H1) : tAndV ta tb σ H Q := h
theorem r_OrV (h : ta σ H fun x H1 => ∃ k, x = .bl k ∧ if k = true then Q (.bl true) H1 else tb σ H1 Q) : tOrV ta tb σ H Q := h
theorem r_NotV (h : ta σ H fun x H1 => ∃ k, x = .bl k ∧ Q (.bl (!k)) H1) : tNotV ta σ H Q := h
theorem r_If {tt : TT} (h : tt σ H fun k H1 => if k = true then ta σ H1 Q else tb σ H1 Q) : tIf tt ta tb σ H Q := h
theorem r_ite {k : Bool} {A B : Prop} (h1 : k = true → A) (h2 : k = false → B) : if k = true then A else B := by
  cases k with
  | true => exact h1 rfl
  | false => exact h2 rfl
theorem r_then {k : Bool} {A B : Prop} (h : k = true) (q : A) : if k = true then A else B := by rw [if_pos h]; exact q
theorem r_else {k : Bool} {A B : Prop} (h : k = false) (q : B) : if k = true then A else B := by rw [if_neg (by rw [h]; exact Bool.false_ne_true)]; exact q
theorem r_seq (h : t ⟨u ⟨n, r, b, c⟩, r, b, c⟩ σ H) : tSeq t u ⟨n, r, b, c⟩ σ H := h
theorem r_asg {g : TG} (h : te σ H fun x H1 => g x σ H1 n) : tAsg te g ⟨n, r, b, c⟩ σ H := h
theorem r_drop (h : te σ H fun _ H1 => n σ H1) : tDrop te ⟨n, r, b, c⟩ σ H := h
theorem r_ret (h : te σ H r) : tRet te ⟨n, r, b, c⟩ σ H := h
theorem r_retN (h : r .non H) : tRetN ⟨n, r, b, c⟩ σ H := h
theorem r_next (h : n σ H) : tNext ⟨n, r, b, c⟩ σ H := h
theorem r_brk (h : b σ H) : tBreak ⟨n, r, b, c⟩ σ H := h
theorem r_ifS {tt : TT} {D : Ends} (h : tt σ H fun k H1 => if k = true then t D σ H1 else u D σ H1) : tIfS tt t u D σ H := h
theorem r_par {i j : Nat} {tr : TA} (h : tr σ H fun vs H1 => ∃ v w, vs = [v, w] ∧ gName i v σ H1 fun σ2 H2 => gName j w σ2 H2 n) : tPar i j tr ⟨n, r, b, c⟩ σ H := h
theorem r_par3 {i j l : Nat} {tr : TA} (h : tr σ H fun vs H1 => ∃ u v w, vs = [u, v, w] ∧ gName i u σ H1 fun σ2 H2 => gName j v σ2 H2 fun σ3 H3 => gName l w σ3 H3 n) : tPar3 i j l tr ⟨n, r, b, c⟩ σ H := h
theorem r_two {x y : V} {Q : V → V → Prop} (q : Q x y) : ∃ v w, [x, y] = [v, w] ∧ Q v w := ⟨x, y, rfl, q⟩
theorem r_three {x y z : V} {Q : V → V → V → Prop} (q : Q x y z) : ∃ u v w, [x, y, z] = [u, v, w] ∧ Q u v w := ⟨x, y, z, rfl, q⟩
theorem r_lst {tr : TA} (h : tr σ H fun xs H1 => xs.length ≤ 1000 ∧ New T (.lst xs) H1 Q) : nLst T tr σ H Q := h
theorem r_tup {tr : TA} (h : tr σ H fun xs H1 => xs.length ≤ 1000 ∧ New T (.tup xs) H1 Q) : nTup T tr σ H Q := h
theorem r_len {p : Addr} {ys : List V} (h : RA H p ys) (q : Q (.int ys.length) H) : lLen [.ref p] H Q := ⟨p, ys, rfl, h, q⟩
theorem r_intc {i : Int} (q : Q (.int i) H) : lInt [.int i] H Q := ⟨i, rfl, q⟩
theorem r_min {i j : Int} (q : Q (.int (min i j)) H) : lMin [.int i, .int j] H Q := ⟨i, j, rfl, q⟩
theorem r_ix {p : Addr} {xs : List V} {i : Int} (h : RA H p xs) (ha : atI xs i = some v) (q : Q v H) : lIx (.ref p) (.int i) H Q := ⟨p, xs, i, v, rfl, rfl, h, ha, q⟩
theorem r_eqE (h : scal x y = true) (q : Q (.bl (decide (x = y))) H) : rEq x y H Q := ⟨h, q⟩
theorem r_neE (h : scal x y = true) (q : Q (.bl (!decide (x = y))) H) : rNe x y H Q := ⟨h, q⟩
theorem r_chain {o o' : R2} {tc : TE} (h : ta σ H fun x H1 => tb σ H1 fun y H2 => o x y H2 fun z H3 => ∃ k, z = .bl k ∧ (if k = true then tc σ H3 fun w' H4 => o' y w' H4 Q else Q (.bl false) H3)) : tChain o o' ta tb tc σ H Q := h
theorem r_isiI {i : Int} (q : Q (.bl true) H) : rIsi K [.int i, .ty "int"] H Q := ⟨_, _, .type "int", .type "int", true, rfl, .ty _, .base (.int i), kit_ty (by decide +kernel), q⟩
theorem r_isiB {i : Int} (q : Q (.bl false) H) : rIsi K [.int i, .ty "bool"] H Q := ⟨_, _, .type "int", .type "bool", false, rfl, .ty _, .base (.int i), kit_ty (by decide +kernel), q⟩
theorem r_tt {A B : Prop} (h : A) : if true = true then A else B := h
theorem r_ff {A B : Prop} (h : B) : if false = true then A else B := by rw [if_neg Bool.false_ne_true]; exact h
theorem r_nt {A B : Prop} (h : B) : if (!true) = true then A else B := by rw [if_neg (by decide)]; exact h
theorem r_nf {A B : Prop} (h : A) : if (!false) = true then A else B := h
theorem r_iEnum {ta : TA} {R : It → Hp → Prop} (h : ta σ H fun vs H1 => ∃ a xs, vs = [.ref a] ∧ ((SqL K H1 a xs ∧ R (Ite K a) H1) ∨ (SqT K H1 a xs ∧ R (IteT K a) H1))) : iEnumA K ta σ H R := h
theorem r_iZipA {ta : TA} {R : It → Hp → Prop} (h : ta σ H fun vs H1 => ∃ a b xs ys, vs = [.ref a, .ref b] ∧ ((SqL K H1 a xs ∧ SqL K H1 b ys ∧ R (Itz K a b) H1) ∨ (SqT K H1 a xs ∧ SqT K H1 b ys ∧ R (RZ.ItzT K a b) H1))) : RZ.iZipA K ta σ H R := h
theorem r_iZip {ta : TA} {R : It → Hp → Prop} (h : ta σ H fun vs H1 => ∃ a b xs ys, vs = [.ref a, .ref b] ∧ SqL K H1 a xs ∧ SqL K H1 b ys ∧ R (Itz K a b) H1) : iZip K ta σ H R := h
theorem r_iRng1 {ta : TA} {R : It → Hp → Prop} (h : ta σ H fun vs H1 => ∃ j : Int, vs = [.int j] ∧ -(2 ^ 62) ≤ j ∧ j < 2 ^ 62 ∧ R (Itr 0 j.toNat) H1) : iRng1 ta σ H R := h
theorem r_iRng2 {ta : TA} {R : It → Hp → Prop} (h : ta σ H fun vs H1 => ∃ i j : Int, vs = [.int i, .int j] ∧ (-(2 ^ 62) ≤ i ∧ i < 2 ^ 62 ∧ -(2 ^ 62) ≤ j ∧ j < 2 ^ 62) ∧ R (Itr i (j - i).toNat) H1) : iRng2 ta σ H R := h
theorem r_iList {R : It → Hp → Prop} (h : te σ H fun x H1 => ∃ a, x = .ref a ∧ (∃ xs, SqL K H1 a xs) ∧ R (Itl K a) H1) : iList K te σ H R := h
theorem r_iTup {R : It → Hp → Prop} (h : te σ H fun x H1 => ∃ a, x = .ref a ∧ (∃ xs, SqT K H1 a xs) ∧ R (Itt K a) H1) : iTup K te σ H R := h
theorem r_tupRg {tr : TR} (h : tr σ H fun a b H1 => RgOk a b ∧ New T (.tup (rgV a b)) H1 Q) : nTupRg T tr σ H Q := h
theorem r_lstRg {tr : TR} (h : tr σ H fun a b H1 => RgOk a b ∧ New T (.lst (rgV a b)) H1 Q) : nLstRg T tr σ H Q := h
theorem r_rg1 {F : Int → Int → Hp → Prop} (h : ta σ H fun x H1 => ∃ n, x = .int n ∧ F 0 n H1) : tRg1 ta σ H F := h
theorem r_rg2 {F : Int → Int → Hp → Prop} (h : ta σ H fun x H1 => tb σ H1 fun y H2 => ∃ i j, x = .int i ∧ y = .int j ∧ F i j H2) : tRg2 ta tb σ H F := h
theorem r_int2 {i j : Int} {F : Int → Int → Prop} (q : F i j) : ∃ c d, V.int i = .int c ∧ V.int j = .int d ∧ F c d := ⟨i, j, rfl, rfl, q⟩
theorem r_ssl {f : Str} (h : tb σ H fun y H1 => ta σ H1 fun x H2 => ∃ a C dx p vs i, x = .ref a ∧ Slt H2 a C dx vs ∧ SCls K C ∧ Slot1 K C f p i ∧ n σ (slH H2 a C dx (putS i y vs))) : sSl K ta tb f ⟨n, r, b, c⟩ σ H := h
theorem r_aug {i : Nat} {te : TE} {ti : TIp} (hx : σ[i]? = some (some x)) (h : te σ H fun y H1 => ti x y H1 fun z H2 => gName i z σ H2 n) : tAug i te ti ⟨n, r, b, c⟩ σ H := ⟨x, hx, h⟩
theorem r_ipI {f : Int → Int → Int} {i j : Int} (q : Q (.int (f i j)) H) : ipI f (.int i) (.int j) H Q := ⟨i, j, rfl, rfl, q⟩
theorem r_while {tc : TT} (Pv : Nat → L2.St → Hp → Prop) (m0 : Nat) (h0 : Pv m0 σ H) (hs : ∀ m σ H, Pv m σ H → tc σ H fun k H1 => if k = true then t ⟨fun σ' H' => ∃ m', m' < m ∧ Pv m' σ' H', r, n, fun σ' H' => ∃ m', m' < m ∧ Pv m' σ' H'⟩ σ H1 else n σ H1) : tWhile (mT tc) t ⟨n, r, b, c⟩ σ H :=
  ⟨Pv, ⟨m0, h0⟩, fun m σ H p => ⟨_, hs m σ H p, fun k H1 z => by
    cases k with
    | true =>
      rw [if_pos rfl] at z ⊢
      exact ⟨_, fun _ _ h => h, z⟩
    | false =>
      rw [if_neg Bool.false_ne_true] at z ⊢
      exact z⟩⟩
theorem r_makeK {C : Addr} {m : Nat} {sp : Sp} {tr tk : TA} (h : tr σ H fun vs H1 => tk σ H1 fun zs H2 => vs.length = m ∧ zs.length = 1 ∧ ∀ x dx, H2 x = none → H2 dx = none → dx ≠ x → sp (gApp (.ref x :: vs) zs) (upd (upd H2 dx (.own x)) x (.ins C dx [])) (fun v H3 => v = .non ∧ Q (.ref x) H3) E0) : nMakeK C m sp tr tk σ H Q := h
theorem r_make {C : Addr} {sp : Sp} {tr : TA} (h : tr σ H fun vs H1 => ∀ x dx, H1 x = none → H1 dx = none → dx ≠ x → sp (.ref x :: vs) (upd (upd H1 dx (.own x)) x (.ins C dx [])) (fun v H2 => v = .non ∧ Q (.ref x) H2) E0) : nMake C sp tr σ H Q := h
theorem r_methK {C : Addr} {m : Nat} {sp : Sp} {tr tk : TA} (h : ta σ H fun x H1 => ∃ a dx vs, x = .ref a ∧ Slt H1 a C dx vs ∧ tr σ H1 fun ws H2 => tk σ H2 fun zs H3 => ws.length = m ∧ zs.length = 1 ∧ sp (gApp (x :: ws) zs) H3 Q E0) : tMethSlK C m 1 sp gApp E0 ta tr tk σ H Q := h
theorem r_in {p : Addr} {i : Int} {ns : List Int} (h : RA H p (ns.map V.int)) (q : Q (.bl (decide (i ∈ ns))) H) : lIn false (.int i) (.ref p) H Q := ⟨p, i, ns, rfl, rfl, h, q⟩
theorem r_notIn {p : Addr} {i : Int} {ns : List Int} (h : RA H p (ns.map V.int)) (q : Q (.bl (!decide (i ∈ ns))) H) : lIn true (.int i) (.ref p) H Q := ⟨p, i, ns, rfl, rfl, h, q⟩
theorem cut_to (xs : List V) (i : Nat) : cutV xs none (some (i : Int)) = xs.take i := by
  unfold cutV
  rw [HT.sIx_nat, HT.sIx_none, List.drop_zero, Nat.sub_zero]
  by_cases h : i ≤ xs.length
  · rw [Nat.min_eq_left h]
  · rw [Nat.min_eq_right (by omega), List.take_of_length_le (Nat.le_refl _), List.take_of_length_le (by omega)]
theorem sIx_one (n d : Nat) : HT.sIx n d (some 1) = min 1 n := HT.sIx_nat n d 1
theorem sIx_neg (n d : Nat) : HT.sIx n d (some (-1)) = n - 1 := by
  show (if (-1 : Int) < 0 then ((-1 : Int) + (n : Int)).toNat else min (-1 : Int).toNat n) = n - 1
  rw [if_pos (by decide)]
  omega
theorem cut_one (xs : List V) : cutV xs (some 1) none = xs.drop 1 := by
  unfold cutV
  rw [sIx_one, HT.sIx_none]
  cases xs with
  | nil => rfl
  | cons x r =>
    have e : min 1 (x :: r).length = 1 := by rw [List.length_cons]; omega
    rw [e]
    refine List.take_of_length_le ?_
    rw [List.length_drop]
    omega
theorem cut_mid (xs : List V) : cutV xs (some 1) (some (-1)) = (xs.drop 1).take (xs.length - 2) := by
  unfold cutV
  rw [sIx_one, sIx_neg]
  cases xs with
  | nil => rfl
  | cons x r =>
    have e : min 1 (x :: r).length = 1 := by rw [List.length_cons]; omega
    rw [e]
    have e2 : (x :: r).length - 1 - 1 = (x :: r).length - 2 := by omega
    rw [e2]
theorem cut_init (xs : List V) : cutV xs none (some (-1)) = xs.take (xs.length - 1) := by
  unfold cutV
  rw [HT.sIx_none, sIx_neg, List.drop_zero, Nat.sub_zero]
theorem r_star {tr : TA} {F : List V → Hp → Prop} (h : te σ H fun x H1 => ∃ p xs, x = V.ref p ∧ (SqT K H1 p xs ∨ SqL K H1 p xs) ∧ tr σ H1 fun ys H2 => F (xs ++ ys) H2) : StX.tStar K te tr σ H F := h
theorem r_sl {f : Str} (h : ta σ H fun x H1 => ∃ a C dx p vs i v, x = .ref a ∧ Slt H1 a C dx vs ∧ SCls K C ∧ Slot1 K C f p i ∧ vs[i]? = some (some v) ∧ Q v H1) : SlX.tSl K ta f σ H Q := h
theorem r_slv {a C dx p : Addr} {f : Str} {vs : List (Option V)} {i : Nat} {F : V → Prop} (h : Slt H a C dx vs) (hc : SCls K C) (hs : Slot1 K C f p i) (hv : vs[i]? = some (some v)) (q : F v) :
    ∃ a' C dx p vs i v, V.ref a = .ref a' ∧ Slt H a' C dx vs ∧ SCls K C ∧ Slot1 K C f p i ∧ vs[i]? = some (some v) ∧ F v := ⟨a, C, dx, p, vs, i, v, rfl, h, hc, hs, hv, q⟩
theorem r_part {Q : Option Int → Hp → Prop} (h : te σ H fun x H1 => ∃ i, x = .int i ∧ Q (some i) H1) : tPart te σ H Q := h
theorem r_noPart {Q : Option Int → Hp → Prop} (h : Q none H) : tNoPart σ H Q := h
theorem r_slice {o : V → Option Int → Option Int → Hp → VK → Prop} {tl th : TO} (h : te σ H fun x H1 => tl σ H1 fun l H2 => th σ H2 fun u H3 => o x l u H3 Q) : L2.tSl o te tl th σ H Q := h
theorem r_revL (h : te σ H fun x H1 => ∃ a xs, x = .ref a ∧ H1 a = some (.lst xs) ∧ New T (.lst xs.reverse) H1 Q) : nRevL T te σ H Q := h
theorem r_bm {S : String} {o : V → List V → Hp → VK → Prop} {tr : TA} (h : te σ H fun x H1 => tyV K S x H1 ∧ tr σ H1 fun xs H2 => o x xs H2 Q) : tBM K S o te tr σ H Q := h
theorem r_app {l : Addr} {xs : List V} (h : H l = some (.lst xs)) (hl : xs.length ≤ 1000) (q : Q .non (upd H l (.lst (xs ++ [y])))) : rAppend (.ref l) [y] H Q := ⟨l, xs, y, rfl, rfl, h, small1000 hl, q⟩
theorem r_meth {C : Addr} {sp : Sp} {tr : TA} (h : ta σ H fun x H1 => ∃ a dx vs, x = .ref a ∧ Slt H1 a C dx vs ∧ tr σ H1 fun ws H2 => sp (x :: ws) H2 Q E0) : tMethSl C sp E0 ta tr σ H Q := h
theorem r_methv {C a dx : Addr} {vs : List (Option V)} {F : Prop} (h : Slt H a C dx vs) (q : F) : ∃ a' dx vs, V.ref a = .ref a' ∧ Slt H a' C dx vs ∧ F := ⟨a, dx, vs, rfl, h, q⟩
theorem r_sub {to ti : TE} {ts : TSet} {F : L2.St → Hp → Prop} (h : to σ H fun o H1 => ti σ H1 fun i H2 => ts o i v H2 fun H3 => F σ H3) : gSub to ti ts v σ H F := h
theorem r_setL {p : Addr} {xs : List V} {k : Int} {j : Nat} {F : Hp → Prop} (h : H p = some (.lst xs)) (hj : ixN xs.length k = some j) (q : F (upd H p (.lst (xs.set j v)))) : rSetL (.ref p) (.int k) v H F := ⟨p, xs, k, j, rfl, rfl, h, hj, q⟩
theorem r_tupg {tg : TGs} {m : Nat} {a : Addr} {xs : List V} {F : L2.St → Hp → Prop} (h : SqT K H a xs) (hl : xs.length = m) (q : tg xs σ H F) : gTup K m tg (.ref a) σ H F := ⟨a, xs, rfl, h, hl, q⟩
theorem r_gcons {tg : TG} {ug : TGs} {vs : List V} {F : L2.St → Hp → Prop} (q : tg v σ H fun σ' H' => ug vs σ' H' F) : gCons tg ug (v :: vs) σ H F := ⟨v, vs, rfl, q⟩
theorem r_gnil {F : L2.St → Hp → Prop} (q : F σ H) : gNil [] σ H F := ⟨rfl, q⟩
end
theorem r_gn0 {a0 : Option V} {l : L2.St} {v : V} {H : Hp} {Q : L2.St → Hp → Prop} (q : Q (some v::l) H) : gName 0 v (a0::l) H Q := q
theorem r_gn1 {a0 a1 : Option V} {l : L2.St} {v : V} {H : Hp} {Q : L2.St → Hp → Prop} (q : Q (a0::some v::l) H) : gName 1 v (a0::a1::l) H Q := q
theorem r_gn2 {a0 a1 a2 : Option V} {l : L2.St} {v : V} {H : Hp} {Q : L2.St → Hp → Prop} (q : Q (a0::a1::some v::l) H) : gName 2 v (a0::a1::a2::l) H Q := q
theorem r_gn3 {a0 a1 a2 a3 : Option V} {l : L2.St} {v : V} {H : Hp} {Q : L2.St → Hp → Prop} (q : Q (a0::a1::a2::some v::l) H) : gName 3 v (a0::a1::a2::a3::l) H Q := q
theorem r_gn4 {a0 a1 a2 a3 a4 : Option V} {l : L2.St} {v : V} {H : Hp} {Q : L2.St → Hp → Prop} (q : Q (a0::a1::a2::a3::some v::l) H) : gName 4 v (a0::a1::a2::a3::a4::l) H Q := q
theorem r_gn5 {a0 a1 a2 a3 a4 a5 : Option V} {l : L2.St} {v : V} {H : Hp} {Q : L2.St → Hp → Prop} (q : Q (a0::a1::a2::a3::a4::some v::l) H) : gName 5 v (a0::a1::a2::a3::a4::a5::l) H Q := q
theorem r_gn6 {a0 a1 a2 a3 a4 a5 a6 : Option V} {l : L2.St} {v : V} {H : Hp} {Q : L2.St → Hp → Prop} (q : Q (a0::a1::a2::a3::a4::a5::some v::l) H) : gName 6 v (a0::a1::a2::a3::a4::a5::a6::l) H Q := q
theorem r_gn7 {a0 a1 a2 a3 a4 a5 a6 a7 : Option V} {l : L2.St} {v : V} {H : Hp} {Q : L2.St → Hp → Prop} (q : Q (a0::a1::a2::a3::a4::a5::a6::some v::l) H) : gName 7 v (a0::a1::a2::a3::a4::a5::a6::a7::l) H Q := q
theorem r_gn8 {a0 a1 a2 a3 a4 a5 a6 a7 a8 : Option V} {l : L2.St} {v : V} {H : Hp} {Q : L2.St → Hp → Prop} (q : Q (a0::a1::a2::a3::a4::a5::a6::a7::some v::l) H) : gName 8 v (a0::a1::a2::a3::a4::a5::a6::a7::a8::l) H Q := q
theorem r_gn9 {a0 a1 a2 a3 a4 a5 a6 a7 a8 a9 : Option V} {l : L2.St} {v : V} {H : Hp} {Q : L2.St → Hp → Prop} (q : Q (a0::a1::a2::a3::a4::a5::a6::a7::a8::some v::l) H) : gName 9 v (a0::a1::a2::a3::a4::a5::a6::a7::a8::a9::l) H Q := q
theorem r_gn10 {a0 a1 a2 a3 a4 a5 a6 a7 a8 a9 a10 : Option V} {l : L2.St} {v : V} {H : Hp} {Q : L2.St → Hp → Prop} (q : Q (a0::a1::a2::a3::a4::a5::a6::a7::a8::a9::some v::l) H) : gName 10 v (a0::a1::a2::a3::a4::a5::a6::a7::a8::a9::a10::l) H Q := q
theorem r_gn11 {a0 a1 a2 a3 a4 a5 a6 a7 a8 a9 a10 a11 : Option V} {l : L2.St} {v : V} {H : Hp} {Q : L2.St → Hp → Prop} (q : Q (a0::a1::a2::a3::a4::a5::a6::a7::a8::a9::a10::some v::l) H) : gName 11 v (a0::a1::a2::a3::a4::a5::a6::a7::a8::a9::a10::a11::l) H Q := q
theorem r_gn12 {a0 a1 a2 a3 a4 a5 a6 a7 a8 a9 a10 a11 a12 : Option V} {l : L2.St} {v : V} {H : Hp} {Q : L2.St → Hp → Prop} (q : Q (a0::a1::a2::a3::a4::a5::a6::a7::a8::a9::a10::a11::some v::l) H) : gName 12 v (a0::a1::a2::a3::a4::a5::a6::a7::a8::a9::a10::a11::a12::l) H Q := q
theorem r_gn13 {a0 a1 a2 a3 a4 a5 a6 a7 a8 a9 a10 a11 a12 a13 : Option V} {l : L2.St} {v : V} {H : Hp} {Q : L2.St → Hp → Prop} (q : Q (a0::a1::a2::a3::a4::a5::a6::a7::a8::a9::a10::a11::a12::some v::l) H) : gName 13 v (a0::a1::a2::a3::a4::a5::a6::a7::a8::a9::a10::a11::a12::a13::l) H Q := q
theorem r_gn14 {a0 a1 a2 a3 a4 a5 a6 a7 a8 a9 a10 a11 a12 a13 a14 : Option V} {l : L2.St} {v : V} {H : Hp} {Q : L2.St → Hp → Prop} (q : Q (a0::a1::a2::a3::a4::a5::a6::a7::a8::a9::a10::a11::a12::a13::some v::l) H) : gName 14 v (a0::a1::a2::a3::a4::a5::a6::a7::a8::a9::a10::a11::a12::a13::a14::l) H Q := q
theorem r_gn15 {a0 a1 a2 a3 a4 a5 a6 a7 a8 a9 a10 a11 a12 a13 a14 a15 : Option V} {l : L2.St} {v : V} {H : Hp} {Q : L2.St → Hp → Prop} (q : Q (a0::a1::a2::a3::a4::a5::a6::a7::a8::a9::a10::a11::a12::a13::a14::some v::l) H) : gName 15 v (a0::a1::a2::a3::a4::a5::a6::a7::a8::a9::a10::a11::a12::a13::a14::a15::l) H Q := q
theorem r_gn16 {a0 a1 a2 a3 a4 a5 a6 a7 a8 a9 a10 a11 a12 a13 a14 a15 a16 : Option V} {l : L2.St} {v : V} {H : Hp} {Q : L2.St → Hp → Prop} (q : Q (a0::a1::a2::a3::a4::a5::a6::a7::a8::a9::a10::a11::a12::a13::a14::a15::some v::l) H) : gName 16 v (a0::a1::a2::a3::a4::a5::a6::a7::a8::a9::a10::a11::a12::a13::a14::a15::a16::l) H Q := q
theorem r_gn17 {a0 a1 a2 a3 a4 a5 a6 a7 a8 a9 a10 a11 a12 a13 a14 a15 a16 a17 : Option V} {l : L2.St} {v : V} {H : Hp} {Q : L2.St → Hp → Prop} (q : Q (a0::a1::a2::a3::a4::a5::a6::a7::a8::a9::a10::a11::a12::a13::a14::a15::a16::some v::l) H) : gName 17 v (a0::a1::a2::a3::a4::a5::a6::a7::a8::a9::a10::a11::a12::a13::a14::a15::a16::a17::l) H Q := q
theorem r_gn18 {a0 a1 a2 a3 a4 a5 a6 a7 a8 a9 a10 a11 a12 a13 a14 a15 a16 a17 a18 : Option V} {l : L2.St} {v : V} {H : Hp} {Q : L2.St → Hp → Prop} (q : Q (a0::a1::a2::a3::a4::a5::a6::a7::a8::a9::a10::a11::a12::a13::a14::a15::a16::a17::some v::l) H) : gName 18 v (a0::a1::a2::a3::a4::a5::a6::a7::a8::a9::a10::a11::a12::a13::a14::a15::a16::a17::a18::l) H Q := q
theorem r_gn19 {a0 a1 a2 a3 a4 a5 a6 a7 a8 a9 a10 a11 a12 a13 a14 a15 a16 a17 a18 a19 : Option V} {l : L2.St} {v : V} {H : Hp} {Q : L2.St → Hp → Prop} (q : Q (a0::a1::a2::a3::a4::a5::a6::a7::a8::a9::a10::a11::a12::a13::a14::a15::a16::a17::a18::some v::l) H) : gName 19 v (a0::a1::a2::a3::a4::a5::a6::a7::a8::a9::a10::a11::a12::a13::a14::a15::a16::a17::a18::a19::l) H Q := q
theorem r_gn20 {a0 a1 a2 a3 a4 a5 a6 a7 a8 a9 a10 a11 a12 a13 a14 a15 a16 a17 a18 a19 a20 : Option V} {l : L2.St} {v : V} {H : Hp} {Q : L2.St → Hp → Prop} (q : Q (a0::a1::a2::a3::a4::a5::a6::a7::a8::a9::a10::a11::a12::a13::a14::a15::a16::a17::a18::a19::some v::l) H) : gName 20 v (a0::a1::a2::a3::a4::a5::a6::a7::a8::a9::a10::a11::a12::a13::a14::a15::a16::a17::a18::a19::a20::l) H Q := q
theorem r_gn21 {a0 a1 a2 a3 a4 a5 a6 a7 a8 a9 a10 a11 a12 a13 a14 a15 a16 a17 a18 a19 a20 a21 : Option V} {l : L2.St} {v : V} {H : Hp} {Q : L2.St → Hp → Prop} (q : Q (a0::a1::a2::a3::a4::a5::a6::a7::a8::a9::a10::a11::a12::a13::a14::a15::a16::a17::a18::a19::a20::some v::l) H) : gName 21 v (a0::a1::a2::a3::a4::a5::a6::a7::a8::a9::a10::a11::a12::a13::a14::a15::a16::a17::a18::a19::a20::a21::l) H Q := q
theorem r_gn22 {a0 a1 a2 a3 a4 a5 a6 a7 a8 a9 a10 a11 a12 a13 a14 a15 a16 a17 a18 a19 a20 a21 a22 : Option V} {l : L2.St} {v : V} {H : Hp} {Q : L2.St → Hp → Prop} (q : Q (a0::a1::a2::a3::a4::a5::a6::a7::a8::a9::a10::a11::a12::a13::a14::a15::a16::a17::a18::a19::a20::a21::some v::l) H) : gName 22 v (a0::a1::a2::a3::a4::a5::a6::a7::a8::a9::a10::a11::a12::a13::a14::a15::a16::a17::a18::a19::a20::a21::a22::l) H Q := q
theorem r_gn23 {a0 a1 a2 a3 a4 a5 a6 a7 a8 a9 a10 a11 a12 a13 a14 a15 a16 a17 a18 a19 a20 a21 a22 a23 : Option V} {l : L2.St} {v : V} {H : Hp} {Q : L2.St → Hp → Prop} (q : Q (a0::a1::a2::a3::a4::a5::a6::a7::a8::a9::a10::a11::a12::a13::a14::a15::a16::a17::a18::a19::a20::a21::a22::some v::l) H) : gName 23 v (a0::a1::a2::a3::a4::a5::a6::a7::a8::a9::a10::a11::a12::a13::a14::a15::a16::a17::a18::a19::a20::a21::a22::a23::l) H Q := q
theorem r_gn24 {a0 a1 a2 a3 a4 a5 a6 a7 a8 a9 a10 a11 a12 a13 a14 a15 a16 a17 a18 a19 a20 a21 a22 a23 a24 : Option V} {l : L2.St} {v : V} {H : Hp} {Q : L2.St → Hp → Prop} (q : Q (a0::a1::a2::a3::a4::a5::a6::a7::a8::a9::a10::a11::a12::a13::a14::a15::a16::a17::a18::a19::a20::a21::a22::a23::some v::l) H) : gName 24 v (a0::a1::a2::a3::a4::a5::a6::a7::a8::a9::a10::a11::a12::a13::a14::a15::a16::a17::a18::a19::a20::a21::a22::a23::a24::l) H Q := q
theorem r_gn25 {a0 a1 a2 a3 a4 a5 a6 a7 a8 a9 a10 a11 a12 a13 a14 a15 a16 a17 a18 a19 a20 a21 a22 a23 a24 a25 : Option V} {l : L2.St} {v : V} {H : Hp} {Q : L2.St → Hp → Prop} (q : Q (a0::a1::a2::a3::a4::a5::a6::a7::a8::a9::a10::a11::a12::a13::a14::a15::a16::a17::a18::a19::a20::a21::a22::a23::a24::some v::l) H) : gName 25 v (a0::a1::a2::a3::a4::a5::a6::a7::a8::a9::a10::a11::a12::a13::a14::a15::a16::a17::a18::a19::a20::a21::a22::a23::a24::a25::l) H Q := q
end Hr

set_option maxHeartbeats 4000000
/-! HrN: numbers, arms, rows. (src/HrN.txt by expand.py) -/
namespace Hr
open PySem PySem.Spec PyProof.Rows L2 LamX SlX
-- one step of a reading; its repetition
local macro_rules | `(tactic| walk_at "st") => `(tactic| first
    | with_reducible refine r_seq ?_
    | with_reducible refine r_var rfl ?_
    | with_reducible refine r_c ?_
    | with_reducible refine r_cons ?_
    | with_reducible refine r_nil ?_
    | with_reducible refine r_op ?_
    | with_reducible refine r_asg ?_
    | with_reducible refine r_I0 ?_
    | with_reducible refine r_cb ?_
    | with_reducible refine r_call ?_
    | with_reducible refine r_ret ?_
    | with_reducible refine r_ifS ?_
    | with_reducible refine r_test ?_
    | with_reducible refine r_B ?_
    | with_reducible refine r_bl ?_
    | with_reducible refine r_Not ?_
    | with_reducible refine r_And ?_
    | with_reducible refine r_Or ?_
    | with_reducible refine r_AndV ?_
    | with_reducible refine r_OrV ?_
    | with_reducible refine r_NotV ?_
    | with_reducible refine r_If ?_
    | with_reducible refine r_un ?_
    | with_reducible refine r_U ?_
    | with_reducible refine r_drop ?_
    | with_reducible refine r_next ?_
    | with_reducible refine r_retN ?_
    | with_reducible refine r_brk ?_
    | with_reducible refine r_par ?_
    | with_reducible refine r_par3 ?_
    | with_reducible refine r_two ?_
    | with_reducible refine r_three ?_
    | with_reducible refine r_lst ?_
    | with_reducible refine r_tup ?_
    | with_reducible refine r_intc ?_
    | with_reducible refine r_min ?_
    | with_reducible refine r_sl ?_
    | with_reducible refine r_part ?_
    | with_reducible refine r_noPart ?_
    | with_reducible refine r_slice ?_
    | with_reducible refine r_revL ?_
    | with_reducible refine r_bm ?_
    | with_reducible refine r_meth ?_
    | with_reducible refine r_callK ?_
    | with_reducible refine r_sub ?_
    | with_reducible refine r_gcons ?_
    | with_reducible refine r_gnil ?_
    | with_reducible refine r_int1 ?_
    | with_reducible refine r_chain ?_
    | with_reducible refine r_isiI ?_
    | with_reducible refine r_isiB ?_
    | with_reducible refine r_tt ?_
    | with_reducible refine r_ff ?_
    | with_reducible refine r_nt ?_
    | with_reducible refine r_nf ?_
    | with_reducible refine r_iEnum ?_
    | with_reducible refine r_iZipA ?_
    | with_reducible refine r_iZip ?_
    | with_reducible refine r_iRng1 ?_
    | with_reducible refine r_iRng2 ?_
    | with_reducible refine r_iList ?_
    | with_reducible refine r_iTup ?_
    | with_reducible refine r_tupRg ?_
    | with_reducible refine r_lstRg ?_
    | with_reducible refine r_rg1 ?_
    | with_reducible refine r_rg2 ?_
    | with_reducible refine r_int2 ?_
    | with_reducible refine r_ssl ?_
    | with_reducible refine r_aug rfl ?_
    | with_reducible refine r_ipI ?_
    | with_reducible refine r_makeK ?_
    | with_reducible refine r_make ?_
    | with_reducible refine r_methK ?_
    | with_reducible refine r_ktup ?_
    | with_reducible refine r_star ?_
    | with_reducible refine r_gn0 ?_
    | with_reducible refine r_gn1 ?_
    | with_reducible refine r_gn2 ?_
    | with_reducible refine r_gn3 ?_
    | with_reducible refine r_gn4 ?_
    | with_reducible refine r_gn5 ?_
    | with_reducible refine r_gn6 ?_
    | with_reducible refine r_gn7 ?_
    | with_reducible refine r_gn8 ?_
    | with_reducible refine r_gn9 ?_
    | with_reducible refine r_gn10 ?_
    | with_reducible refine r_gn11 ?_
    | with_reducible refine r_gn12 ?_
    | with_reducible refine r_gn13 ?_
    | with_reducible refine r_gn14 ?_
    | with_reducible refine r_gn15 ?_
    | with_reducible refine r_gn16 ?_
    | with_reducible refine r_gn17 ?_
    | with_reducible refine r_gn18 ?_
    | with_reducible refine r_gn19 ?_
    | with_reducible refine r_gn20 ?_
    | with_reducible refine r_gn21 ?_
    | with_reducible refine r_gn22 ?_
    | with_reducible refine r_gn23 ?_
    | with_reducible refine r_gn24 ?_
    | with_reducible refine r_gn25 ?_)
local macro_rules | `(tactic| walk_at "go") => `(tactic| repeat walk_at "st")
-- growth, by the chain of what is known
local macro_rules | `(tactic| walk_at "ex") => `(tactic| first
    | exact Ex.refl _ | assumption | (refine Ex.trans ?_ (by assumption); walk_at "ex"))
local macro_rules | `(tactic| walk_at "f1") => `(tactic| first
    | assumption | exact Or.inl (by assumption) | exact Or.inr (by assumption)
    | (refine Ex.ra ?_ (by assumption); walk_at "ex") | (refine Ex.lst ?_ (by assumption); walk_at "ex") | (refine Ex.tup ?_ (by assumption); walk_at "ex") | (refine Ex.slt ?_ (by assumption); walk_at "ex")
    | (refine Or.inl (Ex.lst ?_ (by assumption)); walk_at "ex") | (refine Or.inr (Ex.tup ?_ (by assumption)); walk_at "ex")
    | (refine sqL_of (Ex.lst ?_ (by assumption)); walk_at "ex") | (refine sqT_of (Ex.tup ?_ (by assumption)); walk_at "ex") | (refine Ex.seqL ?_ (by assumption); walk_at "ex")
    | (refine Ex.t ?_ (by assumption); walk_at "ex"))

abbrev TK (K : PySem.W.Frag) : List (Addr × Str) := [((He.cT K ("first_least", none)).2, "first_least.<locals>.<lambda>")]
section
variable {X : Cx} {x : Str} {z : Int} {pos : Pos}
theorem c_glint (h : ∃ t, X.mg x = some (.int z t)) (hg : Gl X x := by rfl) (hd : (x == ("__debug__" : Str)) = false := by decide) : PE X (.Name x pos) (tC (.int z)) := by
  obtain ⟨t, h⟩ := h
  exact pe_glob (v := .int z) hg h ⟨t, rfl⟩ hd
theorem r_isi {K : PySem.W.Frag} {H : Hp} {Q : VK} {x c : V} {t u : Value} {b : Bool} (k : ClsV c u) (ty : TyX K H x t) (e : PySem.W.kitOne K t u = some b) (q : Q (.bl b) H) : rIsi K [x, c] H Q := ⟨x, c, t, u, b, rfl, k, ty, e, q⟩
end
section
variable {J : It} {N : Nat} {G : Hp → Prop} {Y : Nat → Hp → V → Hp → Prop} {g : TG} {tb : TS} {n : L2.St → Hp → Prop} {r : VK} {b c : L2.St → Hp → Prop} {σ : L2.St} {H : Hp} {K : PySem.W.Frag} {T : List (Addr × Str)} {a a2 : Addr} {xs ys : List V}
/-- what a loop over J is to show -/
def FB (J : It) (g : TG) (tb : TS) (D : Ends) (σ : L2.St) (H1 : Hp) : Prop := tFor (fun _ H R => R J H) g tb D σ H1
theorem r_for {wi : TI} (h : wi σ H fun J H1 => FB J g tb ⟨n, r, b, c⟩ σ H1) : tFor wi g tb ⟨n, r, b, c⟩ σ H := h
theorem fb_it (w : Walk J N G Y) (Pv : Nat → L2.St → Hp → Prop) (h0 : Pv 0 σ H) (hG : ∀ i σ H, i ≤ N → Pv i σ H → G H)
    (hs : ∀ i x σ H H', i < N → Pv i σ H → Y i H x H' → g x σ H' fun σ2 H2 => tb ⟨Pv (i + 1), r, n, Pv (i + 1)⟩ σ2 H2) (hd : ∀ σ H, Pv N σ H → n σ H) : FB J g tb ⟨n, r, b, c⟩ σ H := for_it w Pv h0 hG hs hd
theorem fb_rng {lo : Int} (Pv : Nat → L2.St → Hp → Prop) (h0 : Pv 0 σ H) (hs : ∀ i σ H, i < N → Pv i σ H → g (.int (lo + i)) σ H fun σ2 H2 => tb ⟨Pv (i + 1), r, n, Pv (i + 1)⟩ σ2 H2) (hd : ∀ σ H, Pv N σ H → n σ H) : FB (Itr lo N) g tb ⟨n, r, b, c⟩ σ H :=
  for_range Pv h0 hs hd
theorem fb_list (Pv : Nat → L2.St → Hp → Prop) (h0 : Pv 0 σ H) (hl : ∀ i σ H, i ≤ xs.length → Pv i σ H → SqL K H a xs) (hs : ∀ i x σ H, xs[i]? = some x → Pv i σ H → g x σ H fun σ2 H2 => tb ⟨Pv (i + 1), r, n, Pv (i + 1)⟩ σ2 H2)
    (hd : ∀ σ H, Pv xs.length σ H → n σ H) : FB (Itl K a) g tb ⟨n, r, b, c⟩ σ H := for_list Pv h0 hl hs hd
theorem fb_tup (Pv : Nat → L2.St → Hp → Prop) (h0 : Pv 0 σ H) (hl : ∀ i σ H, i ≤ xs.length → Pv i σ H → SqT K H a xs) (hs : ∀ i x σ H, xs[i]? = some x → Pv i σ H → g x σ H fun σ2 H2 => tb ⟨Pv (i + 1), r, n, Pv (i + 1)⟩ σ2 H2)
    (hd : ∀ σ H, Pv xs.length σ H → n σ H) : FB (Itt K a) g tb ⟨n, r, b, c⟩ σ H := for_tup Pv h0 hl hs hd
theorem yp_ex {xs ys : Nat → Option V} {i : Nat} {v : V} {H' : Hp} (y : YPair xs ys i H v H') : ∃ p x z, v = .ref p ∧ H p = none ∧ Ex T H H' ∧ H' p = some (.tup [x, z]) ∧ xs i = some x ∧ ys i = some z := by
  obtain ⟨p, x, z, rfl, hn, rfl, h1, h2⟩ := y
  exact ⟨p, x, z, rfl, hn, Ex.new hn, upd_same, h1, h2⟩
theorem walk_enumT : Walk (IteT K a) xs.length (fun H => SqT K H a xs) (YPair (fun i => some (.int (i : Nat))) (fun i => xs[i]?)) := by
  refine ⟨fun i _ hi q => ⟨xs, xs[i], q, by simp [hi]⟩, fun _ q => ⟨xs, q, rfl⟩, fun i H v H' _ q y => ?_⟩
  obtain ⟨T, x, h1, h2, h3, h4⟩ := y
  exact ⟨T, .int (i : Nat), x, h1, h2, h3, rfl, h4 xs q⟩
theorem walk_zipT {n : Nat} (hn : n = min xs.length ys.length) : Walk (RZ.ItzT K a a2) n (fun H => SqT K H a xs ∧ SqT K H a2 ys) (YPair (fun i => xs[i]?) (fun i => ys[i]?)) := by
  subst hn
  refine ⟨fun i _ hi q => ?_, fun _ q => ⟨xs, ys, q.1, q.2, by omega⟩, fun i H v H' _ q y => ?_⟩
  · have h1 : i < xs.length := by omega
    have h2 : i < ys.length := by omega
    exact ⟨xs, ys, xs[i], ys[i], q.1, q.2, by simp [h1], by simp [h2]⟩
  · obtain ⟨T, x, z, h1, h2, h3, h4, h5⟩ := y
    exact ⟨T, x, z, h1, h2, h3, h4 xs q.1, h5 ys q.2⟩
/-- enumerate(a list | a tuple) -/
theorem fb_enum (h : RA H a xs) (Pv : Nat → L2.St → Hp → Prop) (h0 : Pv 0 σ H) (hG : ∀ H1, Ex T H H1 → True) (hK : ∀ i σ1 H1, Pv i σ1 H1 → Ex T H H1)
    (hs : ∀ i x p σ1 H1 H2, xs[i]? = some x → Pv i σ1 H1 → H1 p = none → Ex T H1 H2 → H2 p = some (.tup [.int (i : Nat), x]) → g (.ref p) σ1 H2 fun σ2 H3 => tb ⟨Pv (i + 1), r, n, Pv (i + 1)⟩ σ2 H3) (hd : ∀ σ H, Pv xs.length σ H → n σ H) :
    ∃ a' xs', [V.ref a] = [V.ref a'] ∧ ((SqL K H a' xs' ∧ FB (Ite K a') g tb ⟨n, r, b, c⟩ σ H) ∨ (SqT K H a' xs' ∧ FB (IteT K a') g tb ⟨n, r, b, c⟩ σ H)) := by
  refine ⟨a, xs, rfl, ?_⟩
  rcases h with h | h
  · refine .inl ⟨sqL_of h, fb_it walk_enum Pv h0 (fun i σ1 H1 _ p => sqL_of ((hK i σ1 H1 p).lst h)) (fun i v σ1 H1 H2 hi p y => ?_) hd⟩
    obtain ⟨q, x, z, rfl, hn, e, hq, h1, h2⟩ := yp_ex (T := T) y
    cases h1
    exact hs i z q σ1 H1 H2 h2 p hn e hq
  · refine .inr ⟨sqT_of h, fb_it walk_enumT Pv h0 (fun i σ1 H1 _ p => sqT_of ((hK i σ1 H1 p).tup h)) (fun i v σ1 H1 H2 hi p y => ?_) hd⟩
    obtain ⟨q, x, z, rfl, hn, e, hq, h1, h2⟩ := yp_ex (T := T) y
    cases h1
    exact hs i z q σ1 H1 H2 h2 p hn e hq
/-- what a comprehension over J is to show -/
def LB (J : It) (g : TG) (tt : TT) (te : TE) (vs : List Nat) (σ : L2.St) (H1 : Hp) (Q : VK) : Prop := tLc (fun _ H R => R J H) g tt te vs σ H1 Q
theorem r_lc {wi : TI} {tt : TT} {te : TE} {vs : List Nat} {Q : VK} (h : wi σ H fun J H1 => LB J g tt te vs σ H1 Q) : tLc wi g tt te vs σ H Q := h
/-- the list so far, at a turn -/
def LP (T : List (Addr × Str)) (H1 : Hp) (D : Addr) (R : Nat → List V → Prop) (i : Nat) (H : Hp) : Prop := ∃ acc, H D = some (.lst acc) ∧ Ex T H1 H ∧ R i acc ∧ acc.length ≤ i
def LN (T : List (Addr × Str)) (H1 : Hp) (D : Addr) (R : Nat → List V → Prop) (i : Nat) : VK := fun y H4 => ∃ acc, H4 D = some (.lst acc) ∧ acc.length < sizeLine ∧ LP T H1 D R (i + 1) (upd H4 D (.lst (acc ++ [y])))
theorem ln_of {H1 H4 : Hp} {D : Addr} {R : Nat → List V → Prop} {i : Nat} {y : V} {acc : List V} (hD : H1 D = none) (h : H4 D = some (.lst acc)) (e : Ex T H1 H4) (hr : R (i + 1) (acc ++ [y])) (hl : acc.length ≤ i) (hi : i < 1000) : LN T H1 D R i y H4 :=
  ⟨acc, h, small1000 (by omega), acc ++ [y], upd_same, e.mut (Fre.of hD) h, hr, by rw [List.length_append, List.length_singleton]; omega⟩
theorem lp_of {H1 H4 : Hp} {D : Addr} {R : Nat → List V → Prop} {i : Nat} {acc : List V} (h : H4 D = some (.lst acc)) (e : Ex T H1 H4) (hr : R (i + 1) acc) (hl : acc.length ≤ i) : LP T H1 D R (i + 1) H4 := ⟨acc, h, e, hr, by omega⟩
theorem lb_by {tt : TT} {te : TE} {vs : List Nat} {Q : VK} {σw : L2.St} (w : Walk J N G Y) (hw : wipe σ vs = σw) (R : Nat → List V → Prop) (r0 : R 0 []) (hG : ∀ H2, Ex T H H2 → G H2)
    (hs : ∀ D i x acc H2 H3, H D = none → i < N → R i acc → acc.length ≤ i → Ex T H H2 → H2 D = some (.lst acc) → Y i H2 x H3 → g x σw H3 fun σ2 H4 => wipe σ2 vs = σw ∧ tt σ2 H4 fun k H5 => if k = true then te σ2 H5 (LN T H D R i) else LP T H D R (i + 1) H5)
    (hd : ∀ D H2 acc, H D = none → Ex T H H2 → H2 D = some (.lst acc) → R N acc → Q (.ref D) H2) : LB J g tt te vs σ H Q := fun D hD => by
  subst hw
  refine lc_it w (LP T H D R) ⟨[], upd_same, Ex.new hD, r0, Nat.le_refl _⟩ (fun i H2 _ ⟨acc, h1, h2, h3, _⟩ => hG H2 h2) (fun i x H2 H3 hi ⟨acc, h1, h2, h3, h4⟩ y => hs D i x acc H2 H3 hD hi h3 h4 h2 h1 y) fun H2 ⟨acc, h1, h2, h3, _⟩ => hd D H2 acc hD h2 h1 h3
theorem r_iOwn {j : Nat} {C : Addr} {te : TE} {Rr : It → Hp → Prop} (h : te σ H fun x H1 => ∃ a dx vs p xs, x = .ref a ∧ Slt H1 a C dx vs ∧ vs[j]? = some (some (.ref p)) ∧ SqT K H1 p xs ∧ Rr (Itt K p) H1) : iOwn K C j te σ H Rr := h
theorem r_yes {F : Bool → Hp → Prop} (q : F true H) : tYes σ H F := q
theorem r_isiLT {p : Addr} {Q : VK} (h : H p = some (.tup [.ty "list", .ty "tuple"])) (hR : RA H a xs) (q : Q (.bl true) H) : rIsiT K [.ref a, .ref p] H Q := by
  have c : Paired ClsV [.ty "list", .ty "tuple"] [.type "list", .type "tuple"] := .cons (.ty _) (.cons (.ty _) .nil)
  rcases hR with h1 | h1
  · exact ⟨_, p, _, _, _, true, rfl, h, c, .base (.lst h1), kitAny_cons (b := true) (kit_ty (by decide +kernel)) (fun z => by cases z) (fun _ => rfl), q⟩
  · exact ⟨_, p, _, _, _, true, rfl, h, c, .base (.tup h1), kitAny_cons (b := false) (kit_ty (by decide +kernel)) (fun _ => kitAny_cons (b := true) (kit_ty (by decide +kernel)) (fun z => by cases z) (fun _ => rfl)) (fun z => by cases z), q⟩
end
theorem ty_lst {K : PySem.W.Frag} {H : Hp} {l : Addr} {xs : List V} (h : H l = some (.lst xs)) : tyV K "list" (.ref l) H := .inl ⟨rfl, xs, sqL_of h⟩
theorem geti {ns : List Int} {i : Nat} {x : V} (h : (ns.map V.int)[i]? = some x) : ∃ z, x = .int z ∧ ns[i]? = some z := by
  rw [List.getElem?_map] at h
  cases e : ns[i]? with
  | none =>
    rw [e] at h
    cases h
  | some z =>
    rw [e] at h
    exact ⟨z, (Option.some.inj h).symm, rfl⟩
theorem at_int {ns : List Int} {i : Nat} {z : Int} (h : ns[i]? = some z) : atI (ns.map V.int) ((i : Nat) : Int) = some (.int z) := atI_nat (by rw [List.getElem?_map, h]; rfl)
theorem at_last {ns : List Int} {z : Int} (h : ns.getLast? = some z) : atI (ns.map V.int) (-1) = some (.int z) := by
  obtain ⟨ys, rfl⟩ := List.getLast?_eq_some_iff.mp h
  rw [List.map_append]
  exact atI_last _ _
section
variable {P : Program} {w : World} {K : PySem.W.Frag} {mg : Str → Option Value} {base : Heap}
def sp_is_number (K : PySem.W.Frag) : Sp := fun vs H Q _ => ∃ i lo hi : Int, vs = [.int i, .int lo, .int hi] ∧ Q (.bl (decide (lo ≤ i ∧ i ≤ hi))) H
theorem ok_is_number (W : Wd K mg base) : OkD P w K mg base d_is_number ["thing", "low", "high"] 1 (sp_is_number K) := by
  have S : FnScope ["thing", "low", "high"] ["thing", "low", "high"] d_is_number.scope := ⟨rfl, rfl, rfl, by decide +kernel, rfl, by decide +kernel, by decide +kernel⟩
  refine ok_of W.d_is_number S (fun vs H Q E h => ?_) (fun _ _ _ _ _ _ us hl => match us, hl with | [_, _, _], _ => rfl) (fun cdv A outer s H vs Q E hr h => ⟨_, (pss_one (ps_ret ((pe_and (pe_callB call_isi (by rfl) (by exact W.f_isinstance) PyProof.Rows.boot_isinstance (pa_cons (pv 0) (pa_cons (pe_bltn (v := .ty "int") (by rfl) (by exact W.f_int) PyProof.Rows.boot_int rfl) pa_nil))) (pe_and (pe_not (pe_callB call_isi (by rfl) (by exact W.f_isinstance) PyProof.Rows.boot_isinstance (pa_cons (pv 0) (pa_cons (pe_bltn (v := .ty "bool") (by rfl) (by exact W.f_bool) PyProof.Rows.boot_bool rfl) pa_nil)))) (pe_one (pe_chain op_le op_le (pv 1) (pv 0) (pv 2)))))))), ?_⟩)
  · obtain ⟨_, _, _, rfl, _⟩ := h
    rfl
  · obtain ⟨i, lo, hi, rfl, hQ⟩ := h
    refine r_entry (σ' := [_, _, _]) rfl ?_
    walk_at "go"
    refine r_ite (fun h1 => ?_) fun h1 => ?_
    · walk_at "go"
      have e : decide (i ≤ hi) = decide (lo ≤ i ∧ i ≤ hi) := by simp only [decide_eq_true_eq] at h1; simp [h1]
      rw [e]
      exact hQ
    · have e : false = decide (lo ≤ i ∧ i ≤ hi) := by simp only [decide_eq_false_iff_not] at h1; simp [h1]
      rw [e]
      exact hQ
def sp_is_key (K : PySem.W.Frag) : Sp := fun vs H Q _ => ∃ i : Int, vs = [.int i] ∧ Q (.bl (decide (-1000000000 ≤ i ∧ i ≤ 1000000000))) H
theorem ok_is_key (W : Wd K mg base) : OkD P w K mg base d_is_key ["thing"] 2 (sp_is_key K) := by
  have S : FnScope ["thing"] ["thing"] d_is_key.scope := ⟨rfl, rfl, rfl, by decide +kernel, rfl, by decide +kernel, by decide +kernel⟩
  refine ok_of W.d_is_key S (fun vs H Q E h => ?_) (fun _ _ _ _ _ _ us hl => match us, hl with | [_], _ => rfl) (fun cdv A outer s H vs Q E hr h => ⟨_, (pss_one (ps_ret (c_call (ok_is_number W) hr (by exact W.g_is_number) (pa_cons (pv 0) (pa_cons (pe_un un_neg (c_glint (by exact W.i_MOST_KEY))) (pa_cons (c_glint (by exact W.i_MOST_KEY)) pa_nil)))))), ?_⟩)
  · obtain ⟨_, rfl, _⟩ := h
    rfl
  · obtain ⟨i, rfl, hQ⟩ := h
    refine r_entry (σ' := [_]) rfl ?_
    walk_at "go"
    exact ⟨i, _, _, rfl, hQ⟩
def sp_check_arms (K : PySem.W.Frag) : Sp := fun vs H Q _ => ∃ i : Int, vs = [.int i] ∧ 1 ≤ i ∧ i ≤ 4 ∧ Q .non H
theorem ok_check_arms (W : Wd K mg base) : OkD P w K mg base d_check_arms ["arms"] 2 (sp_check_arms K) := by
  have S : FnScope ["arms"] ["arms"] d_check_arms.scope := ⟨rfl, rfl, rfl, by decide +kernel, rfl, by decide +kernel, by decide +kernel⟩
  refine ok_of W.d_check_arms S (fun vs H Q E h => ?_) (fun _ _ _ _ _ _ us hl => match us, hl with | [_], _ => rfl) (fun cdv A outer s H vs Q E hr h => ⟨_, (pss_one (ps_if (pt_not (pt_val (c_call (ok_is_number W) hr (by exact W.g_is_number) (pa_cons (pv 0) (pa_cons (pe_int) (pa_cons (c_glint (by exact W.i_MOST_ARMS)) pa_nil)))))) pss_never pss_nil)), ?_⟩)
  · obtain ⟨_, rfl, _⟩ := h
    rfl
  · obtain ⟨i, rfl, h1, h4, hQ⟩ := h
    refine r_entry (σ' := [_]) rfl ?_
    walk_at "go"
    refine ⟨i, _, _, rfl, ?_⟩
    walk_at "go"
    rw [decide_eq_true (show (1 : Int) ≤ i ∧ i ≤ 4 from ⟨h1, h4⟩)]
    walk_at "go"
    exact hQ
def Small (ns : List Int) : Prop := ∀ z ∈ ns, -1000000000 ≤ z ∧ z ≤ 1000000000
def sp_check_row (K : PySem.W.Frag) : Sp := fun vs H Q _ => ∃ (a : Addr) (ns : List Int), vs = [.ref a] ∧ RA H a (ns.map V.int) ∧ ns.length ≤ 12 ∧ Small ns ∧ ∀ H', Ex (TK K) H H' → Q .non H'
theorem ok_check_row (W : Wd K mg base) : OkD P w K mg base d_check_row ["row"] 3 (sp_check_row K) := by
  have S : FnScope ["row", "index", "key"] ["row"] d_check_row.scope := ⟨rfl, rfl, rfl, by decide +kernel, rfl, by decide +kernel, by decide +kernel⟩
  refine ok_of W.d_check_row S (fun vs H Q E h => ?_) (fun _ _ _ _ _ _ us hl => match us, hl with | [_], _ => rfl) (fun cdv A outer s H vs Q E hr h => ⟨_, (pss_cons (ps_if (PW.pt (pw_or (pt_not (pt_val (pe_callB call_isiT (by rfl) (by exact W.f_isinstance) PyProof.Rows.boot_isinstance (pa_cons (pv 0) (pa_cons (c_tup (T := TK K) (pa_cons (pe_bltn (v := .ty "list") (by rfl) (by exact W.f_list) PyProof.Rows.boot_list rfl) (pa_cons (pe_bltn (v := .ty "tuple") (by rfl) (by exact W.f_tuple) PyProof.Rows.boot_tuple rfl) pa_nil))) pa_nil))))) (pw_or1 (pt_cmpR op_gt (pe_callB l_len (by rfl) (by exact W.f_len) boot_len (pa_cons (pv 0) pa_nil)) (c_glint (by exact W.i_MOST_PLACES)) (nomark _))))) pss_never pss_nil)
      (pss_one (ps_for PassesOwn.never rfl (pi_enumA (by rfl) (by exact W.f_enumerate) (pa_cons (pv 0) pa_nil)) (pg_tup rfl (pgs_cons (pg_name (i := 1) S.nd rfl (Or.inl rfl)) (pgs_cons (pg_name (i := 2) S.nd rfl (Or.inl rfl)) pgs_nil))) (pss_one (ps_if (pt_not (pt_val (c_call (ok_is_key W) hr (by exact W.g_is_key) (pa_cons (pv 2) pa_nil)))) pss_never pss_nil))))), ?_⟩)
  · obtain ⟨_, _, rfl, _⟩ := h
    rfl
  · obtain ⟨a, ns, rfl, hR, hl, hs, hQ⟩ := h
    refine r_entry (σ' := [_, _, _]) rfl ?_
    walk_at "go"
    refine ⟨by decide, fun p1 H1 hp1 e1 h1 => ?_⟩
    walk_at "go"
    refine r_isiLT h1 (e1.ra hR) ?_
    walk_at "go"
    refine r_len (e1.ra hR) ?_
    walk_at "go"
    rw [List.length_map]
    refine r_else (by rw [decide_eq_false_iff_not]; omega) ?_
    walk_at "go"
    refine r_for ?_
    walk_at "go"
    refine fb_enum (T := TK K) (e1.ra hR) (fun i σ H' => Ex (TK K) H1 H' ∧ ∃ x y, σ = [some (.ref a), x, y]) ⟨Ex.refl _, _, _, rfl⟩ (fun _ _ => trivial) (fun i σ H' p => p.1) (fun i x p σ H2 H3 hx hp hn e2 h2 => ?_) (fun σ H' p => hQ H' (e1.trans p.1))
    obtain ⟨e3, x1, y1, rfl⟩ := hp
    obtain ⟨z, rfl, hz⟩ := geti hx
    refine r_tupg (sqT_of h2) rfl ?_
    walk_at "go"
    have hs2 := hs z (List.mem_of_getElem? hz)
    refine ⟨z, rfl, ?_⟩
    walk_at "go"
    rw [decide_eq_true hs2]
    walk_at "go"
    exact ⟨e3.trans e2, _, _, rfl⟩
end
end Hr

set_option maxHeartbeats 4000000
/-! HrO: trees. (src/HrO.txt by expand.py) -/
namespace Hr
open PySem PySem.Spec PyProof.Rows L2 LamX SlX
-- one step of a reading; its repetition
local macro_rules | `(tactic| walk_at "st") => `(tactic| first
    | with_reducible refine r_seq ?_
    | with_reducible refine r_var rfl ?_
    | with_reducible refine r_c ?_
    | with_reducible refine r_cons ?_
    | with_reducible refine r_nil ?_
    | with_reducible refine r_op ?_
    | with_reducible refine r_asg ?_
    | with_reducible refine r_I0 ?_
    | with_reducible refine r_cb ?_
    | with_reducible refine r_call ?_
    | with_reducible refine r_ret ?_
    | with_reducible refine r_ifS ?_
    | with_reducible refine r_test ?_
    | with_reducible refine r_B ?_
    | with_reducible refine r_bl ?_
    | with_reducible refine r_Not ?_
    | with_reducible refine r_And ?_
    | with_reducible refine r_Or ?_
    | with_reducible refine r_AndV ?_
    | with_reducible refine r_OrV ?_
    | with_reducible refine r_NotV ?_
    | with_reducible refine r_If ?_
    | with_reducible refine r_un ?_
    | with_reducible refine r_U ?_
    | with_reducible refine r_drop ?_
    | with_reducible refine r_next ?_
    | with_reducible refine r_retN ?_
    | with_reducible refine r_brk ?_
    | with_reducible refine r_par ?_
    | with_reducible refine r_par3 ?_
    | with_reducible refine r_two ?_
    | with_reducible refine r_three ?_
    | with_reducible refine r_lst ?_
    | with_reducible refine r_tup ?_
    | with_reducible refine r_intc ?_
    | with_reducible refine r_min ?_
    | with_reducible refine r_sl ?_
    | with_reducible refine r_part ?_
    | with_reducible refine r_noPart ?_
    | with_reducible refine r_slice ?_
    | with_reducible refine r_revL ?_
    | with_reducible refine r_bm ?_
    | with_reducible refine r_meth ?_
    | with_reducible refine r_callK ?_
    | with_reducible refine r_sub ?_
    | with_reducible refine r_gcons ?_
    | with_reducible refine r_gnil ?_
    | with_reducible refine r_int1 ?_
    | with_reducible refine r_chain ?_
    | with_reducible refine r_isiI ?_
    | with_reducible refine r_isiB ?_
    | with_reducible refine r_tt ?_
    | with_reducible refine r_ff ?_
    | with_reducible refine r_nt ?_
    | with_reducible refine r_nf ?_
    | with_reducible refine r_iEnum ?_
    | with_reducible refine r_iZipA ?_
    | with_reducible refine r_iZip ?_
    | with_reducible refine r_iRng1 ?_
    | with_reducible refine r_iRng2 ?_
    | with_reducible refine r_iList ?_
    | with_reducible refine r_iTup ?_
    | with_reducible refine r_tupRg ?_
    | with_reducible refine r_lstRg ?_
    | with_reducible refine r_rg1 ?_
    | with_reducible refine r_rg2 ?_
    | with_reducible refine r_int2 ?_
    | with_reducible refine r_ssl ?_
    | with_reducible refine r_aug rfl ?_
    | with_reducible refine r_ipI ?_
    | with_reducible refine r_makeK ?_
    | with_reducible refine r_make ?_
    | with_reducible refine r_methK ?_
    | with_reducible refine r_ktup ?_
    | with_reducible refine r_star ?_
    | with_reducible refine r_for ?_
    | with_reducible refine r_lc ?_
    | with_reducible refine r_iOwn ?_
    | with_reducible refine r_yes ?_
    | with_reducible refine r_gn0 ?_
    | with_reducible refine r_gn1 ?_
    | with_reducible refine r_gn2 ?_
    | with_reducible refine r_gn3 ?_
    | with_reducible refine r_gn4 ?_
    | with_reducible refine r_gn5 ?_
    | with_reducible refine r_gn6 ?_
    | with_reducible refine r_gn7 ?_
    | with_reducible refine r_gn8 ?_
    | with_reducible refine r_gn9 ?_
    | with_reducible refine r_gn10 ?_
    | with_reducible refine r_gn11 ?_
    | with_reducible refine r_gn12 ?_
    | with_reducible refine r_gn13 ?_
    | with_reducible refine r_gn14 ?_
    | with_reducible refine r_gn15 ?_
    | with_reducible refine r_gn16 ?_
    | with_reducible refine r_gn17 ?_
    | with_reducible refine r_gn18 ?_
    | with_reducible refine r_gn19 ?_
    | with_reducible refine r_gn20 ?_
    | with_reducible refine r_gn21 ?_
    | with_reducible refine r_gn22 ?_
    | with_reducible refine r_gn23 ?_
    | with_reducible refine r_gn24 ?_
    | with_reducible refine r_gn25 ?_)
local macro_rules | `(tactic| walk_at "go") => `(tactic| repeat walk_at "st")
-- growth, by the chain of what is known
local macro_rules | `(tactic| walk_at "ex") => `(tactic| first
    | exact Ex.refl _ | assumption | (refine Ex.trans ?_ (by assumption); walk_at "ex"))
local macro_rules | `(tactic| walk_at "f1") => `(tactic| first
    | assumption | exact Or.inl (by assumption) | exact Or.inr (by assumption)
    | (refine Ex.ra ?_ (by assumption); walk_at "ex") | (refine Ex.lst ?_ (by assumption); walk_at "ex") | (refine Ex.tup ?_ (by assumption); walk_at "ex") | (refine Ex.slt ?_ (by assumption); walk_at "ex")
    | (refine Or.inl (Ex.lst ?_ (by assumption)); walk_at "ex") | (refine Or.inr (Ex.tup ?_ (by assumption)); walk_at "ex")
    | (refine sqL_of (Ex.lst ?_ (by assumption)); walk_at "ex") | (refine sqT_of (Ex.tup ?_ (by assumption)); walk_at "ex") | (refine Ex.seqL ?_ (by assumption); walk_at "ex")
    | (refine Ex.t ?_ (by assumption); walk_at "ex"))

section
/-- one run of a def of one parameter, its body told at that run alone -/
theorem fn_at {P : Program} {w : World} {K : PySem.W.Frag} {mg : Str → Option Value} {base : Heap} {k : Nat} {f x : Addr} {nm ql y : Str} {ar : Arguments} {bd : List Stmt} {sc : Scope} {v1 v2 v3 v4 cdv v6 v7 : Value} {o1 o2 : Option Addr}
    {sl : Array (Option Value)} {N : List Str} {A : Around} {outer : List Env} {s : Shared} {H : Hp} {Q : VK} {E : XK} (lk : K.lookup f = some ⟨v7, o2, .func (PySem.W.fnOf nm ql ar bd sc v1 v2 v3 v4 o1 cdv v6), sl⟩) (hcd : PySem.W.codeIn K cdv ql = true) (S : FnScope N [y] sc)
    (hr : Room (k + 1) A) (e0 : Env0 P w K mg base A outer s H) (hb : BindsTo s (PySem.W.fnOf nm ql ar bd sc v1 v2 v3 v4 o1 cdv v6) ⟨[.ref x], []⟩ ([y].zip [.ref x]))
    (hbody : Room k (A.deeper (envOfC ql sc s.heap.objs.size f cdv)) → ∃ t, PSs (cxOf CX0 P w K mg base N ql sc f cdv A outer s H E) bd t ∧ t ⟨fun _ H' => Q .non H', Q, fun _ _ => False, fun _ _ => False⟩ (start N [.ref x]) H) :
    codeAny (model P w) A (.call (.ref f) ⟨[.ref x], []⟩) (CR CX0 outer P w H s Q E) s := by
  have up : ∀ b u, base.get? b = some u → s.heap.get? b = some u := fun b u q => (e0.bs b u q).1
  have inK : K.In s.heap := e0.mod.kin.keeps up
  have nl : s.heap.NoLimit := e0.mod.nolimit.keeps up
  have kinds : ∀ z ∈ [y].zip [Value.ref x], sc.names.lookup z.1 = some .local ∨ (sc.names.lookup z.1 = some .cell ∧ ((cellsFrom (s.heap.objs.size + 1) sc.names []).lookup z.1).isSome = true) := by
    intro z hz
    obtain ⟨z1, z2⟩ := z
    exact (S.par z1 (List.of_mem_zip hz).1).imp id fun q => ⟨q, PySem.W.cellsFrom_some _ _ _ (.inl q)⟩
  have cr := PySem.W.codeRec_of inK hcd
  refine codeAny_call_function hr.depth (inK f _ lk) rfl S.co S.gen rfl cr ?_
  refine hb _ _ _ _ (wpAny_newFunctionEnv_cells S.kind kinds ?_)
  rintro env rfl s1 fr
  refine ⟨nl.keeps fr.toInCall.keep, codeAny_func ?_⟩
  obtain ⟨t, ht, q⟩ := hbody (hr.deeper _)
  have I := inv_start (CX := CX0) (N := N) (E := E) S hr.hd e0 rfl (.cons (show RelV (.ref x) (.ref x) from rfl) .nil) fr
  refine wpAny_mono (ht.run [] s1 (start N [.ref x]) H _ I q) ?_ fun _ _ z => z
  intro fl s2 z
  cases fl with
  | ret u => exact let ⟨v, _, H', J, r, q2⟩ := z; ⟨v, H', J.os, J.bare, J.base, J.hok, r, q2⟩
  | next => exact let ⟨_, H', J, q2⟩ := z; ⟨.non, H', J.os, J.bare, J.base, J.hok, rfl, q2⟩
  | brk => exact let ⟨_, _, _, q2⟩ := z; q2.elim
  | cont => exact let ⟨_, _, _, q2⟩ := z; q2.elim
end
/-! ### places -/
def nI (l : List Nat) : List Int := l.map fun (c : Nat) => (c : Int)
/-- the place above -/
def par (m p : Nat) : Nat := (p - 1) / m
/-- the places below p in a tree of n places -/
def kids (m n p : Nat) : List Nat := (List.range (min (m * p + 1 + m) n - (m * p + 1))).map fun i => m * p + 1 + i
theorem par_lt {m p : Nat} (hp : 0 < p) : par m p < p := Nat.lt_of_le_of_lt (Nat.div_le_self _ _) (by omega)
/-- the way from the root -/
def wayTo (m p : Nat) : List Nat := if h : 0 < p then wayTo m (par m p) ++ [p] else [p]
termination_by p
decreasing_by exact par_lt h
theorem wayTo_pos {m p : Nat} (h : 0 < p) : wayTo m p = wayTo m (par m p) ++ [p] := by rw [wayTo, dif_pos h]
theorem wayTo_zero {m : Nat} : wayTo m 0 = [0] := by rw [wayTo, dif_neg (Nat.lt_irrefl 0)]
theorem nI_length (l : List Nat) : (nI l).length = l.length := by unfold nI; rw [List.length_map]
theorem nI_append (a b : List Nat) : nI (a ++ b) = nI a ++ nI b := by unfold nI; rw [List.map_append]
theorem par_int {m p : Nat} (hp : 0 < p) : ((p : Int) - 1) / (m : Int) = ((par m p : Nat) : Int) := by
  have e : (p : Int) - 1 = ((p - 1 : Nat) : Int) := by omega
  rw [e]
  exact (Int.natCast_ediv _ _).symm
theorem rgV0 (n : Nat) : rgV 0 ((n : Nat) : Int) = (nI (List.range n)).map V.int := by
  unfold rgV nI
  rw [show ((n : Int) - 0).toNat = n by omega, List.map_map]
  refine List.map_congr_left fun i _ => ?_
  show V.int _ = V.int _
  rw [Int.zero_add]
theorem rgV_kids (m n p : Nat) : rgV ((m : Int) * (p : Int) + 1) (min ((m : Int) * (p : Int) + 1 + (m : Int)) (n : Int)) = (nI (kids m n p)).map V.int := by
  have e : (m : Int) * (p : Int) = ((m * p : Nat) : Int) := (Int.natCast_mul m p).symm
  rw [e]
  generalize hq : m * p = q
  unfold rgV nI kids
  rw [hq, List.map_map, List.map_map, show (min ((q : Int) + 1 + (m : Int)) (n : Int) - ((q : Int) + 1)).toNat = min (q + 1 + m) n - (q + 1) by omega]
  refine List.map_congr_left fun i _ => ?_
  show V.int _ = V.int _
  congr 1
/-- the tree of n places with m arms -/
def TreeAt (K : PySem.W.Frag) (H : Hp) (o : Addr) (m n : Nat) : Prop := ∃ dx p, Slt H o (He.ga K "Tree") dx [some (.int (m : Nat)), some (.int (n : Nat)), some (.ref p)] ∧ H p = some (.tup ((nI (List.range n)).map V.int))
theorem Ex.tree {T : List (Addr × Str)} {K : PySem.W.Frag} {H H' : Hp} {o : Addr} {m n : Nat} (e : Ex T H H') (h : TreeAt K H o m n) : TreeAt K H' o m n := let ⟨dx, p, h1, h2⟩ := h; ⟨dx, p, e.slt h1, e.tup h2⟩
section
variable {P : Program} {w : World} {K : PySem.W.Frag} {mg : Str → Option Value} {base : Heap}
def sp_Tree_init (K : PySem.W.Frag) : Sp := fun vs H Q _ => ∃ (o dx : Addr) (n m : Nat) (H0 : Hp), vs = [.ref o, .int (n : Nat), .int (m : Nat)] ∧ 1 ≤ m ∧ m ≤ 4 ∧ n ≤ 12 ∧ Ex (TK K) H0 H ∧ Fre H0 o ∧ Fre H0 dx ∧ Ini H o (He.ga K "Tree") dx [] ∧
  ∀ H', Ex (TK K) H0 H' → TreeAt K H' o m n → Q .non H'
theorem ok_Tree_init (W : Wd K mg base) : OkK P w K mg base d_Tree_init ["self", "many", "arms"] 2 3 (sp_Tree_init K) := by
  have S : FnScope ["self", "many", "arms"] ["self", "many", "arms"] d_Tree_init.scope := ⟨rfl, rfl, rfl, by decide +kernel, rfl, by decide +kernel, by decide +kernel⟩
  refine okK_of W.d_Tree_init (List.cons_ne_nil _ _) S (fun vs H Q E h => ?_) (fun _ _ _ _ _ _ us ws hl hw => match us, ws, hl, hw with | [_, _], [_], _, _ => rfl) (fun cdv A outer s H vs Q E hr h => ⟨_, (pss_cons (ps_expr (c_call (ok_check_arms W) hr (by exact W.g_check_arms) (pa_cons (pv 2) pa_nil)))
      (pss_cons (ps_if (pt_not (pt_val (c_call (ok_is_number W) hr (by exact W.g_is_number) (pa_cons (pv 1) (pa_cons (pe_int) (pa_cons (c_glint (by exact W.i_MOST_PLACES)) pa_nil)))))) pss_never pss_nil)
      (pss_cons (ps_sl (pv 0) (pv 1))
      (pss_cons (ps_sl (pv 0) (pv 2))
      (pss_one (ps_sl (pv 0) (c_tupRg (T := TK K) rfl (by rfl) (by exact W.f_tuple) (prg_1 (by rfl) (by exact W.f_range) (pv 1))))))))), ?_⟩)
  · obtain ⟨_, _, _, _, _, rfl, _⟩ := h
    rfl
  · obtain ⟨o, dx, n, m, H0, rfl, m1, m4, n12, e0, fo, fd, hI, hQ⟩ := h
    refine r_entry (σ' := [_, _, _]) rfl ?_
    walk_at "go"
    refine ⟨_, rfl, by omega, by omega, ?_⟩
    walk_at "go"
    refine ⟨_, _, _, rfl, ?_⟩
    walk_at "go"
    rw [decide_eq_true (show (0 : Int) ≤ (n : Int) ∧ (n : Int) ≤ 12 by omega)]
    walk_at "go"
    refine ⟨_, _, _, _, _, _, rfl, hI.slt, W.s_Tree, W.l_Tree_many, ?_⟩
    obtain ⟨H1, hH1, e1, i1⟩ : ∃ H1, slH H o (He.ga K "Tree") dx (putS 1 (V.int (n : Nat)) []) = H1 ∧ Ex (TK K) H0 H1 ∧ Ini H1 o (He.ga K "Tree") dx [none, some (.int (n : Nat))] := ⟨_, rfl, Ini.put e0 fo fd hI⟩
    rw [hH1]
    walk_at "go"
    refine ⟨_, _, _, _, _, _, rfl, i1.slt, W.s_Tree, W.l_Tree_arms, ?_⟩
    obtain ⟨H2, hH2, e2, i2⟩ : ∃ H2, slH H1 o (He.ga K "Tree") dx (putS 0 (V.int (m : Nat)) [none, some (.int (n : Nat))]) = H2 ∧ Ex (TK K) H0 H2 ∧ Ini H2 o (He.ga K "Tree") dx [some (.int (m : Nat)), some (.int (n : Nat))] := ⟨_, rfl, Ini.put e1 fo fd i1⟩
    rw [hH2]
    walk_at "go"
    refine ⟨.of_le (by omega) (by omega) (by omega) (by omega), fun p H3 hp e3 h3 => ?_⟩
    walk_at "go"
    rw [rgV0] at h3
    have i3 := i2.ex e3
    refine ⟨_, _, _, _, _, _, rfl, i3.slt, W.s_Tree, W.l_Tree_places, ?_⟩
    have hpo : p ≠ o := fun z => by
      rw [z] at hp
      rcases i2.2 with ⟨w1, _⟩ | ⟨w1, _⟩ <;> (rw [hp] at w1; cases w1)
    have hpd : p ≠ dx := fun z => by
      rw [z] at hp
      rcases i2.2 with ⟨_, w1, _⟩ | ⟨_, w1⟩ <;> (rw [hp] at w1; cases w1)
    obtain ⟨e4, i4⟩ := Ini.put (ws := [some (V.int (m : Nat)), some (V.int (n : Nat)), some (.ref p)]) (e2.trans e3) fo fd i3
    exact hQ _ e4 ⟨dx, p, i4.slt, (slH_ne hpo hpd).trans h3⟩
def sp_Tree_contains (K : PySem.W.Frag) : Sp := fun vs H Q _ => ∃ (o : Addr) (i : Int) (m n : Nat), vs = [.ref o, .int i] ∧ TreeAt K H o m n ∧ Q (.bl (decide (0 ≤ i ∧ i < (n : Int)))) H
theorem ok_Tree_contains (W : Wd K mg base) : OkD P w K mg base d_Tree_contains ["self", "thing"] 2 (sp_Tree_contains K) := by
  have S : FnScope ["self", "thing"] ["self", "thing"] d_Tree_contains.scope := ⟨rfl, rfl, rfl, by decide +kernel, rfl, by decide +kernel, by decide +kernel⟩
  refine ok_of W.d_Tree_contains S (fun vs H Q E h => ?_) (fun _ _ _ _ _ _ us hl => match us, hl with | [_, _], _ => rfl) (fun cdv A outer s H vs Q E hr h => ⟨_, (pss_one (ps_ret (c_call (ok_is_number W) hr (by exact W.g_is_number) (pa_cons (pv 1) (pa_cons (pe_int) (pa_cons (pe_op op_sub (pe_sl (pv 0)) (pe_int)) pa_nil)))))), ?_⟩)
  · obtain ⟨_, _, _, _, rfl, _⟩ := h
    rfl
  · obtain ⟨o, i, m, n, rfl, ⟨dx, p, hS, hP⟩, hQ⟩ := h
    refine r_entry (σ' := [_, _]) rfl ?_
    walk_at "go"
    refine r_slv hS W.s_Tree W.l_Tree_many rfl ?_
    walk_at "go"
    refine ⟨_, _, _, rfl, ?_⟩
    have e : decide (0 ≤ i ∧ i ≤ (n : Int) - 1) = decide (0 ≤ i ∧ i < (n : Int)) := decide_eq_decide.mpr (by omega)
    rw [e]
    exact hQ
def sp_Tree_check_place (K : PySem.W.Frag) : Sp := fun vs H Q _ => ∃ (o : Addr) (p m n : Nat), vs = [.ref o, .int (p : Nat)] ∧ TreeAt K H o m n ∧ p < n ∧ Q .non H
theorem ok_Tree_check_place (W : Wd K mg base) : OkD P w K mg base d_Tree_check_place ["self", "place"] 3 (sp_Tree_check_place K) := by
  have S : FnScope ["self", "place"] ["self", "place"] d_Tree_check_place.scope := ⟨rfl, rfl, rfl, by decide +kernel, rfl, by decide +kernel, by decide +kernel⟩
  refine ok_of W.d_Tree_check_place S (fun vs H Q E h => ?_) (fun _ _ _ _ _ _ us hl => match us, hl with | [_, _], _ => rfl) (fun cdv A outer s H vs Q E hr h => ⟨_, (pss_one (ps_if (pt_cmpR (op_notInOwn W.o_Tree_contains.1 W.o_Tree_contains.2.1 (ok_Tree_contains W).fnR (hr.mono (by decide)) pass0) (pv 1) (pv 0) (by with_unfolding_all rfl)) pss_never pss_nil)), ?_⟩)
  · obtain ⟨_, _, _, _, rfl, _⟩ := h
    rfl
  · obtain ⟨o, p, m, n, rfl, hT, hp, hQ⟩ := h
    refine r_entry (σ' := [_, _]) rfl ?_
    have hT2 := hT
    obtain ⟨dx, q, hS, hP⟩ := hT2
    walk_at "go"
    refine ⟨_, _, _, rfl, hS, o, _, m, n, rfl, hT, true, by rw [decide_eq_true (show (0 : Int) ≤ (p : Int) ∧ (p : Int) < (n : Int) by omega)], ?_⟩
    walk_at "go"
    exact hQ
def sp_Tree_getitem (K : PySem.W.Frag) : Sp := fun vs H Q _ => ∃ (o : Addr) (p m n : Nat), vs = [.ref o, .int (p : Nat)] ∧ TreeAt K H o m n ∧ p < n ∧ m ≤ 4 ∧ n ≤ 12 ∧ ∀ q H', Ex (TK K) H H' → H' q = some (.tup ((nI (kids m n p)).map V.int)) → Q (.ref q) H'
theorem ok_Tree_getitem (W : Wd K mg base) : OkD P w K mg base d_Tree_getitem ["self", "place"] 4 (sp_Tree_getitem K) := by
  have S : FnScope ["self", "place", "first"] ["self", "place"] d_Tree_getitem.scope := ⟨rfl, rfl, rfl, by decide +kernel, rfl, by decide +kernel, by decide +kernel⟩
  refine ok_of W.d_Tree_getitem S (fun vs H Q E h => ?_) (fun _ _ _ _ _ _ us hl => match us, hl with | [_, _], _ => rfl) (fun cdv A outer s H vs Q E hr h => ⟨_, (pss_cons (ps_expr (c_meth (pv 0) W.s_Tree (ok_Tree_check_place W) (by exact W.m_Tree_check_place) hr (pa_cons (pv 1) pa_nil)))
      (pss_cons (ps_set (i := 2) S.nd rfl (Or.inl rfl) (pe_op op_add (pe_op op_mul (pe_sl (pv 0)) (pv 1)) (pe_int)))
      (pss_one (ps_ret (c_tupRg (T := TK K) rfl (by rfl) (by exact W.f_tuple) (prg_2 (by rfl) (by exact W.f_range) (pv 2) (pe_callB (l_min rfl) (by rfl) (by exact W.f_min) PyProof.Rows.boot_min (pa_cons (pe_op op_add (pv 2) (pe_sl (pv 0))) (pa_cons (pe_sl (pv 0)) pa_nil))))))))), ?_⟩)
  · obtain ⟨_, _, _, _, rfl, _⟩ := h
    rfl
  · obtain ⟨o, p, m, n, rfl, hT, hp, m4, n12, hQ⟩ := h
    refine r_entry (σ' := [_, _, _]) rfl ?_
    have hT2 := hT
    obtain ⟨dx, q, hS, hP⟩ := hT2
    walk_at "go"
    refine r_methv hS ?_
    walk_at "go"
    refine ⟨o, p, m, n, rfl, hT, hp, ?_⟩
    walk_at "go"
    refine r_slv hS W.s_Tree W.l_Tree_arms rfl ?_
    walk_at "go"
    refine r_I (.inl ⟨by omega, by omega⟩) ?_
    walk_at "go"
    refine r_slv hS W.s_Tree W.l_Tree_arms rfl ?_
    walk_at "go"
    refine r_slv hS W.s_Tree W.l_Tree_many rfl ?_
    walk_at "go"
    have hmp : (m : Int) * (p : Int) ≤ 48 := by
      have h1 : m * p ≤ 4 * 12 := Nat.mul_le_mul m4 (by omega)
      have h2 : ((m * p : Nat) : Int) ≤ 48 := by omega
      rw [Int.natCast_mul] at h2
      exact h2
    have hmp0 : 0 ≤ (m : Int) * (p : Int) := Int.mul_nonneg (by omega) (by omega)
    refine ⟨.of_le (by omega) (by omega) (by omega) (by omega), ?_⟩
    rw [rgV_kids]
    exact fun q H' _ e h => hQ q H' e h
def sp_Tree_parent (K : PySem.W.Frag) : Sp := fun vs H Q _ => ∃ (o : Addr) (p m n : Nat), vs = [.ref o, .int (p : Nat)] ∧ TreeAt K H o m n ∧ p < n ∧ 0 < p ∧ 1 ≤ m ∧ m ≤ 4 ∧ Q (.int (par m p : Nat)) H
theorem ok_Tree_parent (W : Wd K mg base) : OkD P w K mg base d_Tree_parent ["self", "place"] 4 (sp_Tree_parent K) := by
  have S : FnScope ["self", "place"] ["self", "place"] d_Tree_parent.scope := ⟨rfl, rfl, rfl, by decide +kernel, rfl, by decide +kernel, by decide +kernel⟩
  refine ok_of W.d_Tree_parent S (fun vs H Q E h => ?_) (fun _ _ _ _ _ _ us hl => match us, hl with | [_, _], _ => rfl) (fun cdv A outer s H vs Q E hr h => ⟨_, (pss_cons (ps_expr (c_meth (pv 0) W.s_Tree (ok_Tree_check_place W) (by exact W.m_Tree_check_place) hr (pa_cons (pv 1) pa_nil)))
      (pss_one (ps_ret (pe_ifExp (pt_cmpR op_gt (pv 1) (pe_int) (nomark _)) (pe_op op_fdiv (pe_op op_sub (pv 1) (pe_int)) (pe_sl (pv 0))) (pe_non))))), ?_⟩)
  · obtain ⟨_, _, _, _, rfl, _⟩ := h
    rfl
  · obtain ⟨o, p, m, n, rfl, hT, hp, p0, m1, m4, hQ⟩ := h
    refine r_entry (σ' := [_, _]) rfl ?_
    have hT2 := hT
    obtain ⟨dx, q, hS, hP⟩ := hT2
    walk_at "go"
    refine r_methv hS ?_
    walk_at "go"
    refine ⟨o, p, m, n, rfl, hT, hp, ?_⟩
    walk_at "go"
    refine r_then (decide_eq_true (by omega)) ?_
    walk_at "go"
    refine r_slv hS W.s_Tree W.l_Tree_arms rfl ?_
    walk_at "go"
    refine r_I ⟨by omega, by omega⟩ ?_
    rw [par_int p0]
    exact hQ
def sp_Tree_way_to (K : PySem.W.Frag) : Sp := fun vs H Q _ => ∃ (o : Addr) (p m n : Nat), vs = [.ref o, .int (p : Nat)] ∧ TreeAt K H o m n ∧ p < n ∧ 1 ≤ m ∧ m ≤ 4 ∧ n ≤ 12 ∧ ∀ q H', Ex (TK K) H H' → H' q = some (.tup ((nI (wayTo m p)).map V.int)) → Q (.ref q) H'
theorem ok_Tree_way_to (W : Wd K mg base) : OkD P w K mg base d_Tree_way_to ["self", "place"] 4 (sp_Tree_way_to K) := by
  have S : FnScope ["self", "place", "found"] ["self", "place"] d_Tree_way_to.scope := ⟨rfl, rfl, rfl, by decide +kernel, rfl, by decide +kernel, by decide +kernel⟩
  refine ok_of W.d_Tree_way_to S (fun vs H Q E h => ?_) (fun _ _ _ _ _ _ us hl => match us, hl with | [_, _], _ => rfl) (fun cdv A outer s H vs Q E hr h => ⟨_, (pss_cons (ps_expr (c_meth (pv 0) W.s_Tree (ok_Tree_check_place W) (by exact W.m_Tree_check_place) hr (pa_cons (pv 1) pa_nil)))
      (pss_cons (ps_set (i := 2) S.nd rfl (Or.inl rfl) (c_lst (T := TK K) (pa_cons (pv 1) pa_nil)))
      (pss_cons (ps_while PassesOwn.never (ptM (pt_cmpR op_gt (pe_ix l_ix (pv 2) (pe_un un_neg (pe_int)) (fun _ _ => rfl)) (pe_int) (nomark _))) (pss_one (ps_expr (pe_bm PySem.F.plainAttrs_list PySem.F.slot_list_append PySem.F.type_list_append mt_append (pv 2) (pa_cons (pe_op op_fdiv (pe_op op_sub (pe_ix l_ix (pv 2) (pe_un un_neg (pe_int)) (fun _ _ => rfl)) (pe_int)) (pe_sl (pv 0))) pa_nil)))))
      (pss_one (ps_ret (pe_callTy (l_tuple (T := TK K)) (by rfl) (by exact W.f_tuple) PyProof.Rows.boot_tuple (pa_cons (c_revL (T := TK K) (pv 2)) pa_nil))))))), ?_⟩)
  · obtain ⟨_, _, _, _, rfl, _⟩ := h
    rfl
  · obtain ⟨o, p, m, n, rfl, hT, hp, m1, m4, n12, hQ⟩ := h
    refine r_entry (σ' := [_, _, _]) rfl ?_
    have hT2 := hT
    obtain ⟨dx, q, hS, hP⟩ := hT2
    walk_at "go"
    refine r_methv hS ?_
    walk_at "go"
    refine ⟨o, p, m, n, rfl, hT, hp, ?_⟩
    walk_at "go"
    refine ⟨by simp, fun l H1 hl e1 h1 => ?_⟩
    walk_at "go"
    refine r_while (fun k σ H' => ∃ us : List Nat, σ = [some (.ref o), some (.int (p : Nat)), some (.ref l)] ∧ Ex (TK K) H H' ∧ H' l = some (.lst ((nI (us ++ [k])).map V.int)) ∧ wayTo m p = wayTo m k ++ us.reverse ∧ us.length + k ≤ p) p ⟨[], rfl, e1, h1, by simp, by simp⟩ (fun k σ H2 hi => ?_)
    obtain ⟨us, rfl, e2, h2, hw, hu⟩ := hi
    have hlast : atI ((nI (us ++ [k])).map V.int) (-1) = some (.int (k : Nat)) := at_last (by rw [nI_append]; simp [nI])
    walk_at "go"
    refine r_ix (.inl h2) hlast ?_
    walk_at "go"
    refine r_ite (fun hb => ?_) fun hb => ?_
    · have k0 : 0 < k := by simpa using hb
      walk_at "go"
      refine ⟨ty_lst h2, ?_⟩
      walk_at "go"
      refine r_ix (.inl h2) hlast ?_
      walk_at "go"
      refine r_slv (e2.slt hS) W.s_Tree W.l_Tree_arms rfl ?_
      walk_at "go"
      refine r_I ⟨by omega, by omega⟩ ?_
      walk_at "go"
      rw [par_int k0]
      refine r_app h2 (by rw [List.length_map, nI_length, List.length_append]; simp; omega) ?_
      have hk := par_lt (m := m) k0
      refine ⟨par m k, hk, us ++ [k], rfl, e2.mut (Fre.of hl) h2, ?_, ?_, ?_⟩
      · rw [upd_same, nI_append (us ++ [k]), List.map_append]
        rfl
      · rw [hw, wayTo_pos k0, List.reverse_append, List.append_assoc]
        rfl
      · rw [List.length_append, List.length_singleton]
        omega
    · have k0 : k = 0 := by
        have := hb
        simp at this
        omega
      subst k0
      walk_at "go"
      refine ⟨l, _, rfl, h2, fun l2 H3 hl2 e3 h3 => ?_⟩
      walk_at "go"
      refine ⟨l2, _, rfl, .inl h3, fun q H4 e4 h4 => hQ q H4 (e2.trans (e3.trans e4)) ?_⟩
      rw [h4, hw, wayTo_zero, ← List.map_reverse]
      unfold nI
      rw [← List.map_reverse, List.reverse_append]
      rfl
theorem ok_Tree_iter (W : Wd K mg base) : IterDef P w K mg base 2 (He.ma K (He.ga K "Tree") "__iter__") (He.ga K "Tree") 2 := by
  intro A outer s H x dx vs Q E hr e0 hS h
  obtain ⟨p, xs, hv, hq, hQ⟩ := h
  obtain ⟨fd, F⟩ := W.d_Tree_iter
  obtain ⟨oc, od, dV, kV, doc, pm, an, cdv, ct, osl, efd, lk, hcd, hD, _⟩ := F.ex
  have S : FnScope ["self"] ["self"] d_Tree_iter.scope := ⟨rfl, rfl, rfl, by decide +kernel, rfl, by decide +kernel, by decide +kernel⟩
  have b := F.bindsA (ps := ["self"]) (fun _ _ _ _ _ _ us hl => match us, hl with | [_], _ => rfl) s [.ref x] rfl
  subst efd
  refine fn_at (k := 1) lk hcd S hr e0 b fun hr2 => ⟨_, PSs.nox (pss_one (ps_ret (pe_callB call_iterT (by rfl) (by exact W.f_iter) PyProof.Rows.boot_iter (pa_cons (pe_sl (pv 0)) pa_nil)))), ?_⟩
  refine r_entry (σ' := [_]) rfl ?_
  walk_at "go"
  refine r_slv hS W.s_Tree W.l_Tree_places hv ?_
  walk_at "go"
  exact ⟨p, xs, rfl, hq, fun it h1 h2 => hQ it h1 h2⟩
end
end Hr

set_option maxHeartbeats 4000000
/-! HrP: rows, sifts. (src/HrP.txt by expand.py) -/
namespace Hr
open PySem PySem.Spec PyProof.Rows L2 LamX SlX
-- one step of a reading; its repetition
local macro_rules | `(tactic| walk_at "st") => `(tactic| first
    | with_reducible refine r_seq ?_
    | with_reducible refine r_var rfl ?_
    | with_reducible refine r_c ?_
    | with_reducible refine r_cons ?_
    | with_reducible refine r_nil ?_
    | with_reducible refine r_op ?_
    | with_reducible refine r_asg ?_
    | with_reducible refine r_I0 ?_
    | with_reducible refine r_cb ?_
    | with_reducible refine r_call ?_
    | with_reducible refine r_ret ?_
    | with_reducible refine r_ifS ?_
    | with_reducible refine r_test ?_
    | with_reducible refine r_B ?_
    | with_reducible refine r_bl ?_
    | with_reducible refine r_Not ?_
    | with_reducible refine r_And ?_
    | with_reducible refine r_Or ?_
    | with_reducible refine r_AndV ?_
    | with_reducible refine r_OrV ?_
    | with_reducible refine r_NotV ?_
    | with_reducible refine r_If ?_
    | with_reducible refine r_un ?_
    | with_reducible refine r_U ?_
    | with_reducible refine r_drop ?_
    | with_reducible refine r_next ?_
    | with_reducible refine r_retN ?_
    | with_reducible refine r_brk ?_
    | with_reducible refine r_par ?_
    | with_reducible refine r_par3 ?_
    | with_reducible refine r_two ?_
    | with_reducible refine r_three ?_
    | with_reducible refine r_lst ?_
    | with_reducible refine r_tup ?_
    | with_reducible refine r_intc ?_
    | with_reducible refine r_min ?_
    | with_reducible refine r_sl ?_
    | with_reducible refine r_part ?_
    | with_reducible refine r_noPart ?_
    | with_reducible refine r_slice ?_
    | with_reducible refine r_revL ?_
    | with_reducible refine r_bm ?_
    | with_reducible refine r_meth ?_
    | with_reducible refine r_callK ?_
    | with_reducible refine r_sub ?_
    | with_reducible refine r_gcons ?_
    | with_reducible refine r_gnil ?_
    | with_reducible refine r_int1 ?_
    | with_reducible refine r_chain ?_
    | with_reducible refine r_isiI ?_
    | with_reducible refine r_isiB ?_
    | with_reducible refine r_tt ?_
    | with_reducible refine r_ff ?_
    | with_reducible refine r_nt ?_
    | with_reducible refine r_nf ?_
    | with_reducible refine r_iEnum ?_
    | with_reducible refine r_iZipA ?_
    | with_reducible refine r_iZip ?_
    | with_reducible refine r_iRng1 ?_
    | with_reducible refine r_iRng2 ?_
    | with_reducible refine r_iList ?_
    | with_reducible refine r_iTup ?_
    | with_reducible refine r_tupRg ?_
    | with_reducible refine r_lstRg ?_
    | with_reducible refine r_rg1 ?_
    | with_reducible refine r_rg2 ?_
    | with_reducible refine r_int2 ?_
    | with_reducible refine r_ssl ?_
    | with_reducible refine r_aug rfl ?_
    | with_reducible refine r_ipI ?_
    | with_reducible refine r_makeK ?_
    | with_reducible refine r_make ?_
    | with_reducible refine r_methK ?_
    | with_reducible refine r_ktup ?_
    | with_reducible refine r_star ?_
    | with_reducible refine r_for ?_
    | with_reducible refine r_lc ?_
    | with_reducible refine r_iOwn ?_
    | with_reducible refine r_yes ?_
    | with_reducible refine r_gn0 ?_
    | with_reducible refine r_gn1 ?_
    | with_reducible refine r_gn2 ?_
    | with_reducible refine r_gn3 ?_
    | with_reducible refine r_gn4 ?_
    | with_reducible refine r_gn5 ?_
    | with_reducible refine r_gn6 ?_
    | with_reducible refine r_gn7 ?_
    | with_reducible refine r_gn8 ?_
    | with_reducible refine r_gn9 ?_
    | with_reducible refine r_gn10 ?_
    | with_reducible refine r_gn11 ?_
    | with_reducible refine r_gn12 ?_
    | with_reducible refine r_gn13 ?_
    | with_reducible refine r_gn14 ?_
    | with_reducible refine r_gn15 ?_
    | with_reducible refine r_gn16 ?_
    | with_reducible refine r_gn17 ?_
    | with_reducible refine r_gn18 ?_
    | with_reducible refine r_gn19 ?_
    | with_reducible refine r_gn20 ?_
    | with_reducible refine r_gn21 ?_
    | with_reducible refine r_gn22 ?_
    | with_reducible refine r_gn23 ?_
    | with_reducible refine r_gn24 ?_
    | with_reducible refine r_gn25 ?_)
local macro_rules | `(tactic| walk_at "go") => `(tactic| repeat walk_at "st")
-- growth, by the chain of what is known
local macro_rules | `(tactic| walk_at "ex") => `(tactic| first
    | exact Ex.refl _ | assumption | (refine Ex.trans ?_ (by assumption); walk_at "ex"))
local macro_rules | `(tactic| walk_at "f1") => `(tactic| first
    | assumption | exact Or.inl (by assumption) | exact Or.inr (by assumption)
    | (refine Ex.ra ?_ (by assumption); walk_at "ex") | (refine Ex.lst ?_ (by assumption); walk_at "ex") | (refine Ex.tup ?_ (by assumption); walk_at "ex") | (refine Ex.slt ?_ (by assumption); walk_at "ex")
    | (refine Or.inl (Ex.lst ?_ (by assumption)); walk_at "ex") | (refine Or.inr (Ex.tup ?_ (by assumption)); walk_at "ex")
    | (refine sqL_of (Ex.lst ?_ (by assumption)); walk_at "ex") | (refine sqT_of (Ex.tup ?_ (by assumption)); walk_at "ex") | (refine Ex.seqL ?_ (by assumption); walk_at "ex")
    | (refine Ex.t ?_ (by assumption); walk_at "ex"))

/-! ### heaps -/
def key (ns : List Int) (p : Nat) : Int := ns.getD p 0
/-- no key is less than the key above it -/
def IsHeap (m : Nat) (ns : List Int) : Prop := ∀ p, 0 < p → p < ns.length → key ns (par m p) ≤ key ns p
theorem key_at {ns : List Int} {p : Nat} (h : p < ns.length) : ns[p]? = some (key ns p) := by
  unfold key
  rw [List.getElem?_eq_getElem h, List.getD_eq_getElem?_getD, List.getElem?_eq_getElem h]
  rfl
theorem at_key {ns : List Int} {p : Nat} (h : p < ns.length) : atI (ns.map V.int) ((p : Nat) : Int) = some (.int (key ns p)) := at_int (key_at h)
section
variable {P : Program} {w : World} {K : PySem.W.Frag} {mg : Str → Option Value} {base : Heap}
def sp_faults_in (K : PySem.W.Frag) : Sp := fun vs H Q _ => ∃ (a o : Addr) (ns : List Int) (m : Nat), vs = [.ref a, .ref o] ∧ RA H a (ns.map V.int) ∧ TreeAt K H o m ns.length ∧ 1 ≤ m ∧ m ≤ 4 ∧ ns.length ≤ 12 ∧
  ∀ l fs H', H l = none → Ex (TK K) H H' → H' l = some (.lst ((nI fs).map V.int)) → (fs = [] ↔ IsHeap m ns) → Q (.ref l) H'
theorem ok_faults_in (W : Wd K mg base) : OkD P w K mg base d_faults_in ["row", "tree"] 5 (sp_faults_in K) := by
  have S : FnScope ["row", "tree", "place"] ["row", "tree"] d_faults_in.scope := ⟨rfl, rfl, rfl, by decide +kernel, rfl, by decide +kernel, by decide +kernel⟩
  refine ok_of W.d_faults_in S (fun vs H Q E h => ?_) (fun _ _ _ _ _ _ us hl => match us, hl with | [_, _], _ => rfl) (fun cdv A outer s H vs Q E hr h => ⟨_, (pss_one (ps_ret (pe_lc (own := [("place", 2)]) rfl S.nd (pi_own (pv 1) W.o_Tree_iter.1 W.o_Tree_iter.2.1 (ok_Tree_iter W) (hr.mono (by decide))) (blkOk_by (by rfl)) (fun _ _ _ _ _ => pg_name (i := 2) S.nd rfl (Or.inl rfl)) (fun _ _ _ _ _ => (pts_one (PW.pt (pw_and (pt_cmpR op_gt (pv 2) (pe_int) (nomark _)) (pw_and1 (pt_cmpR op_lt (pe_ix l_ix (pv 0) (pv 2) (fun _ _ => rfl)) (pe_ix l_ix (pv 0) (c_meth (pv 1) W.s_Tree (ok_Tree_parent W) (by exact W.m_Tree_parent) hr (pa_cons (pv 2) pa_nil)) (fun _ _ => rfl)) (nomark _))))))) (fun _ _ _ _ _ => (pv 2))))), ?_⟩)
  · obtain ⟨_, _, _, _, rfl, _⟩ := h
    rfl
  · obtain ⟨a, o, ns, m, rfl, hR, hT, m1, m4, n12, hQ⟩ := h
    refine r_entry (σ' := [_, _, _]) rfl ?_
    walk_at "go"
    have hT2 := hT
    obtain ⟨dx, q, hS, hP⟩ := hT2
    refine ⟨o, dx, _, q, _, rfl, hS, rfl, sqT_of hP, ?_⟩
    refine lb_by (T := TK K) (σw := [some (.ref a), some (.ref o), none]) walk_tup rfl (fun i acc => ∃ fs : List Nat, acc = (nI fs).map V.int ∧ (fs = [] ↔ ∀ p, 0 < p → p < i → key ns (par m p) ≤ key ns p)) ⟨[], rfl, by simp⟩ (fun H2 e => sqT_of (e.tup hP))
      (fun D i x acc H2 H3 hD hi hr hl e2 h2 y => ?_) fun D H2 acc hD e2 h2 hr => ?_
    · obtain ⟨rfl, hx⟩ := y
      rw [List.length_map, nI_length, List.length_range] at hi
      have ex : x = .int (i : Nat) := by
        unfold nI at hx
        rw [List.getElem?_map, List.getElem?_map, List.getElem?_range hi] at hx
        exact (Option.some.inj hx).symm
      subst ex
      obtain ⟨fs, rfl, hfs⟩ := hr
      walk_at "go"
      refine ⟨rfl, ?_⟩
      walk_at "go"
      refine r_ite (fun hb => ?_) fun hb => ?_
      · have i0 : 0 < i := by simpa using hb
        have hp := Nat.lt_trans (par_lt (m := m) i0) hi
        walk_at "go"
        refine r_ix (e2.ra hR) (at_key hi) ?_
        walk_at "go"
        refine r_methv (e2.slt hS) ?_
        walk_at "go"
        refine ⟨o, i, m, _, rfl, e2.tree hT, hi, i0, m1, m4, ?_⟩
        refine r_ix (e2.ra hR) (at_key hp) ?_
        walk_at "go"
        refine r_ite (fun hc => ?_) fun hc => ?_
        · have hc2 : key ns i < key ns (par m i) := by simpa using hc
          walk_at "go"
          refine ln_of hD h2 e2 ⟨fs ++ [i], by rw [nI_append, List.map_append]; rfl, ?_⟩ hl (by omega)
          refine ⟨fun z => absurd z (by simp), fun z => ?_⟩
          have := z i i0 (Nat.lt_succ_self i)
          omega
        · have hc2 : ¬ key ns i < key ns (par m i) := by simpa using hc
          refine lp_of h2 e2 ⟨fs, rfl, hfs.trans ⟨fun z p p0 hp => ?_, fun z p p0 hp => z p p0 (by omega)⟩⟩ hl
          by_cases e : p = i
          · rw [e]
            omega
          · exact z p p0 (by omega)
      · have i0 : i = 0 := by
          have := hb
          simp at this
          omega
        walk_at "go"
        refine lp_of h2 e2 ⟨fs, rfl, hfs.trans ⟨fun z p p0 hp => ?_, fun z p p0 hp => z p p0 (by omega)⟩⟩ hl
        omega
    · obtain ⟨fs, rfl, hfs⟩ := hr
      rw [List.length_map, nI_length, List.length_range] at hfs
      exact hQ D fs H2 hD e2 h2 hfs
/-- Tree(n, arms=m) -/
theorem r_mkTree {H : Hp} {m n : Nat} {F : Addr → Hp → Prop} (m1 : 1 ≤ m) (m4 : m ≤ 4) (n12 : n ≤ 12) (q : ∀ o H', Ex (TK K) H H' → TreeAt K H' o m n → F o H') :
    [V.int (n : Nat)].length = 1 ∧ [V.int (m : Nat)].length = 1 ∧ ∀ x dx, H x = none → H dx = none → dx ≠ x → sp_Tree_init K (gApp (.ref x :: [V.int (n : Nat)]) [V.int (m : Nat)]) (upd (upd H dx (.own x)) x (.ins (He.ga K "Tree") dx [])) (fun v H3 => v = .non ∧ F x H3) E0 := by
  refine ⟨rfl, rfl, fun x dx h1 h2 h3 => ⟨x, dx, n, m, H, rfl, m1, m4, n12, (Ex.new h2).trans (Ex.new ?_), Fre.of h1, Fre.of h2, Ini.new h3, fun H' e t => ⟨rfl, q x H' e t⟩⟩⟩
  rw [upd_ne (Ne.symm h3)]
  exact h1
theorem nI_nil : nI [] = [] := rfl
theorem nI_inj : ∀ {a b : List Nat}, nI a = nI b → a = b := fun {a b} h => by
  unfold nI at h
  exact List.map_inj_right (fun x y => Int.ofNat.inj) |>.mp h
theorem eqb_nil {H : Hp} {l p : Addr} {fs : List Nat} (h1 : H l = some (.lst ((nI fs).map V.int))) (h2 : H p = some (.lst [])) : Eqb K H (.ref l) (.ref p) (decide (fs = [])) :=
  ⟨l, p, nI fs, [], rfl, rfl, .inl ⟨sqL_of h1, sqL_of h2⟩, decide_eq_decide.mpr ⟨fun z => by rw [z]; rfl, fun z => nI_inj z⟩⟩
def sp_check_heap (K : PySem.W.Frag) : Sp := fun vs H Q _ => ∃ (a : Addr) (ns : List Int) (m : Nat), vs = [.ref a, .int (m : Nat)] ∧ RA H a (ns.map V.int) ∧ 1 ≤ m ∧ m ≤ 4 ∧ ns.length ≤ 12 ∧ Small ns ∧ IsHeap m ns ∧ ∀ H', Ex (TK K) H H' → Q .non H'
theorem ok_check_heap (W : Wd K mg base) : OkD P w K mg base d_check_heap ["row", "arms"] 6 (sp_check_heap K) := by
  have S : FnScope ["row", "arms", "found"] ["row", "arms"] d_check_heap.scope := ⟨rfl, rfl, rfl, by decide +kernel, rfl, by decide +kernel, by decide +kernel⟩
  refine ok_of W.d_check_heap S (fun vs H Q E h => ?_) (fun _ _ _ _ _ _ us hl => match us, hl with | [_, _], _ => rfl) (fun cdv A outer s H vs Q E hr h => ⟨_, (pss_cons (ps_expr (c_call (ok_check_arms W) hr (by exact W.g_check_arms) (pa_cons (pv 1) pa_nil)))
      (pss_cons (ps_expr (c_call (ok_check_row W) hr (by exact W.g_check_row) (pa_cons (pv 0) pa_nil)))
      (pss_cons (ps_set (i := 2) S.nd rfl (Or.inl rfl) (c_call (ok_faults_in W) hr (by exact W.g_faults_in) (pa_cons (pv 0) (pa_cons (c_makeK (ok_Tree_init W) (by exact W.k_Tree) hr (by exact W.g_Tree) (pa_cons (pe_callB l_len (by rfl) (by exact W.f_len) boot_len (pa_cons (pv 0) pa_nil)) pa_nil) (pk_cons (pv 1) pk_nil)) pa_nil))))
      (pss_one (ps_if (pt_cmpR (l_ne hr.units) (pv 2) (c_lst (T := TK K) pa_nil) (nomark _)) pss_never pss_nil))))), ?_⟩)
  · obtain ⟨_, _, _, rfl, _⟩ := h
    rfl
  · obtain ⟨a, ns, m, rfl, hR, m1, m4, n12, hs, hh, hQ⟩ := h
    refine r_entry (σ' := [_, _, _]) rfl ?_
    walk_at "go"
    refine ⟨_, rfl, by omega, by omega, ?_⟩
    walk_at "go"
    refine ⟨a, ns, rfl, hR, n12, hs, fun H1 e1 => ?_⟩
    walk_at "go"
    refine r_len (e1.ra hR) ?_
    walk_at "go"
    rw [List.length_map]
    refine r_mkTree m1 m4 n12 fun o H2 e2 hT => ?_
    walk_at "go"
    refine ⟨a, o, ns, m, rfl, (e1.trans e2).ra hR, hT, m1, m4, n12, fun l fs H3 hl e3 h3 hf => ?_⟩
    walk_at "go"
    refine ⟨by simp, fun p H4 hp e4 h4 => ?_⟩
    refine ⟨_, eqb_nil (e4.lst h3) h4, ?_⟩
    rw [decide_eq_true (hf.mpr hh)]
    walk_at "go"
    exact hQ H4 (e1.trans (e2.trans (e3.trans e4)))
def sp_check_different (K : PySem.W.Frag) : Sp := fun vs H Q _ => ∃ (a : Addr) (ns : List Int), vs = [.ref a] ∧ RA H a (ns.map V.int) ∧ ns.length ≤ 12 ∧ ns.Nodup ∧ ∀ H', Ex (TK K) H H' → Q .non H'
theorem ok_check_different (W : Wd K mg base) : OkD P w K mg base d_check_different ["row"] 1 (sp_check_different K) := by
  have S : FnScope ["row", "place", "key"] ["row"] d_check_different.scope := ⟨rfl, rfl, rfl, by decide +kernel, rfl, by decide +kernel, by decide +kernel⟩
  refine ok_of W.d_check_different S (fun vs H Q E h => ?_) (fun _ _ _ _ _ _ us hl => match us, hl with | [_], _ => rfl) (fun cdv A outer s H vs Q E hr h => ⟨_, (pss_one (ps_for PassesOwn.never rfl (pi_enumA (by rfl) (by exact W.f_enumerate) (pa_cons (pv 0) pa_nil)) (pg_tup rfl (pgs_cons (pg_name (i := 1) S.nd rfl (Or.inl rfl)) (pgs_cons (pg_name (i := 2) S.nd rfl (Or.inl rfl)) pgs_nil))) (pss_one (ps_if (pt_cmpR l_in (pv 2) (pe_slice (l_sl (T := TK K)) (pv 0) po_none (po_some (pv 1))) (by with_unfolding_all rfl)) pss_never pss_nil)))), ?_⟩)
  · obtain ⟨_, _, rfl, _⟩ := h
    rfl
  · obtain ⟨a, ns, rfl, hR, n12, hnd, hQ⟩ := h
    refine r_entry (σ' := [_, _, _]) rfl ?_
    walk_at "go"
    refine fb_enum (T := TK K) hR (fun i σ H' => Ex (TK K) H H' ∧ ∃ x y, σ = [some (.ref a), x, y]) ⟨Ex.refl _, _, _, rfl⟩ (fun _ _ => trivial) (fun i σ H' p => p.1) (fun i x p σ H2 H3 hx hp hn e2 h2 => ?_) (fun σ H' p => hQ H' p.1)
    obtain ⟨e1, x1, y1, rfl⟩ := hp
    obtain ⟨z, rfl, hz⟩ := geti hx
    refine r_tupg (sqT_of h2) rfl ?_
    walk_at "go"
    refine r_slA ((e1.trans e2).ra hR) fun q H4 e4 h4 => ?_
    rw [cut_to, ← List.map_take] at h4
    walk_at "go"
    refine r_in h4 ?_
    have hne : ¬ z ∈ ns.take i := fun hm => by
      obtain ⟨j, hj⟩ := List.mem_iff_getElem?.mp hm
      have hji : j < i := by
        have := (List.getElem?_eq_some_iff.mp hj).1
        rw [List.length_take] at this
        omega
      rw [List.getElem?_take_of_lt hji] at hj
      exact absurd (nd_ix hnd hj hz) (by omega)
    rw [decide_eq_false hne]
    walk_at "go"
    exact ⟨e1.trans (e2.trans e4), _, _, rfl⟩
/-! ### sifts -/
def SiftAt (K : PySem.W.Frag) (H : Hp) (o : Addr) (xs ys : List V) : Prop := ∃ dx p q k, Slt H o (He.ga K "Sift") dx [some (.int k), some (.ref p), some (.ref q)] ∧ H p = some (.tup xs) ∧ H q = some (.tup ys)
theorem Ex.sift {T : List (Addr × Str)} {K : PySem.W.Frag} {H H' : Hp} {o : Addr} {xs ys : List V} (e : Ex T H H') (h : SiftAt K H o xs ys) : SiftAt K H' o xs ys := let ⟨dx, p, q, k, h1, h2, h3⟩ := h; ⟨dx, p, q, k, e.slt h1, e.tup h2, e.tup h3⟩
theorem Ini.ne {H : Hp} {a C dx p : Addr} {vs : List (Option V)} {xs : List V} (h : Ini H a C dx vs) (hp : H p = some (.tup xs)) : p ≠ a ∧ p ≠ dx := by
  rcases h.2 with ⟨h1, h2, _⟩ | ⟨h1, h2⟩
  · exact ⟨fun z => (by rw [z, h1] at hp; cases hp), fun z => (by rw [z, h2] at hp; cases hp)⟩
  · exact ⟨fun z => (by rw [z, h1] at hp; unfold SlO at hp; cases hp), fun z => (by rw [z, h2] at hp; cases hp)⟩
theorem Ini.keep {H : Hp} {a C dx p : Addr} {vs ws : List (Option V)} {xs : List V} (h : Ini H a C dx vs) (hp : H p = some (.tup xs)) : slH H a C dx ws p = some (.tup xs) := (slH_ne (h.ne hp).1 (h.ne hp).2).trans hp
def sp_Sift_init (K : PySem.W.Frag) : Sp := fun vs H Q _ => ∃ (o dx a b : Addr) (k : Int) (xs ys : List V) (H0 : Hp), vs = [.ref o, .ref a, .ref b, .int k] ∧ RA H a xs ∧ RA H b ys ∧ RA H0 b ys ∧ Ex (TK K) H0 H ∧ Fre H0 o ∧ Fre H0 dx ∧ Ini H o (He.ga K "Sift") dx [] ∧
  ∀ H', Ex (TK K) H0 H' → SiftAt K H' o xs ys → Q .non H'
theorem ok_Sift_init (W : Wd K mg base) : OkD P w K mg base d_Sift_init ["self", "row", "way", "looks"] 1 (sp_Sift_init K) := by
  have S : FnScope ["self", "row", "way", "looks"] ["self", "row", "way", "looks"] d_Sift_init.scope := ⟨rfl, rfl, rfl, by decide +kernel, rfl, by decide +kernel, by decide +kernel⟩
  refine ok_of W.d_Sift_init S (fun vs H Q E h => ?_) (fun _ _ _ _ _ _ us hl => match us, hl with | [_, _, _, _], _ => rfl) (fun cdv A outer s H vs Q E hr h => ⟨_, (pss_cons (ps_sl (pv 0) (pe_callTy (l_tuple (T := TK K)) (by rfl) (by exact W.f_tuple) PyProof.Rows.boot_tuple (pa_cons (pv 1) pa_nil)))
      (pss_cons (ps_sl (pv 0) (pe_callTy (l_tuple (T := TK K)) (by rfl) (by exact W.f_tuple) PyProof.Rows.boot_tuple (pa_cons (pv 2) pa_nil)))
      (pss_one (ps_sl (pv 0) (pv 3))))), ?_⟩)
  · obtain ⟨_, _, _, _, _, _, _, _, rfl, _⟩ := h
    rfl
  · obtain ⟨o, dx, a, b, k, xs, ys, H0, rfl, ha, hb, hb0, e0, fo, fd, hI, hQ⟩ := h
    refine r_entry (σ' := [_, _, _, _]) rfl ?_
    walk_at "go"
    refine ⟨a, _, rfl, ha, fun p H1 e1 h1 => ?_⟩
    walk_at "go"
    have i1 := hI.ex e1
    refine ⟨_, _, _, _, _, _, rfl, i1.slt, W.s_Sift, W.l_Sift_row, ?_⟩
    obtain ⟨H2, hH2, e2, i2, p2⟩ : ∃ H2, slH H1 o (He.ga K "Sift") dx (putS 1 (V.ref p) []) = H2 ∧ Ex (TK K) H0 H2 ∧ Ini H2 o (He.ga K "Sift") dx [none, some (.ref p)] ∧ H2 p = some (.tup xs) :=
      ⟨_, rfl, (Ini.put (e0.trans e1) fo fd i1).1, (Ini.put (e0.trans e1) fo fd i1).2, i1.keep h1⟩
    rw [hH2]
    walk_at "go"
    refine ⟨b, _, rfl, e2.ra hb0, fun q H3 e3 h3 => ?_⟩
    walk_at "go"
    have i3 := i2.ex e3
    refine ⟨_, _, _, _, _, _, rfl, i3.slt, W.s_Sift, W.l_Sift_way, ?_⟩
    obtain ⟨H4, hH4, e4, i4, p4, q4⟩ : ∃ H4, slH H3 o (He.ga K "Sift") dx (putS 2 (V.ref q) [none, some (.ref p)]) = H4 ∧ Ex (TK K) H0 H4 ∧ Ini H4 o (He.ga K "Sift") dx [none, some (.ref p), some (.ref q)] ∧ H4 p = some (.tup xs) ∧ H4 q = some (.tup ys) :=
      ⟨_, rfl, (Ini.put (e2.trans e3) fo fd i3).1, (Ini.put (e2.trans e3) fo fd i3).2, i3.keep (e3.tup p2), i3.keep h3⟩
    rw [hH4]
    walk_at "go"
    refine ⟨_, _, _, _, _, _, rfl, i4.slt, W.s_Sift, W.l_Sift_looks, ?_⟩
    obtain ⟨e5, i5⟩ := Ini.put (ws := putS 0 (V.int k) [none, some (.ref p), some (.ref q)]) e4 fo fd i4
    exact hQ _ e5 ⟨dx, p, q, k, i5.slt, i4.keep p4, i4.keep q4⟩
/-- Sift(row, way, looks) -/
theorem r_mkSift {H : Hp} {a b : Addr} {k : Int} {xs ys : List V} {F : Addr → Hp → Prop} (ha : RA H a xs) (hb : RA H b ys) (q : ∀ o H', Ex (TK K) H H' → SiftAt K H' o xs ys → F o H') :
    ∀ x dx, H x = none → H dx = none → dx ≠ x → sp_Sift_init K (.ref x :: [V.ref a, V.ref b, V.int k]) (upd (upd H dx (.own x)) x (.ins (He.ga K "Sift") dx [])) (fun v H3 => v = .non ∧ F x H3) E0 := by
  intro x dx h1 h2 h3
  have e : Ex (TK K) H (upd (upd H dx (.own x)) x (.ins (He.ga K "Sift") dx [])) := (Ex.new h2).trans (Ex.new (by rw [upd_ne (Ne.symm h3)]; exact h1))
  exact ⟨x, dx, a, b, k, xs, ys, H, rfl, e.ra ha, e.ra hb, hb, e, Fre.of h1, Fre.of h2, Ini.new h3, fun H' e t => ⟨rfl, q x H' e t⟩⟩
/-- row with the first i keys of the way drawn up -/
def mvI (ns : List Int) (us : List Nat) : Nat → List Int
  | 0 => ns
  | i + 1 => (mvI ns us i).set (us.getD i 0) (key ns (us.getD (i + 1) 0))
def movedL (ns : List Int) (us : List Nat) : List Int := (mvI ns us (us.length - 1)).set (us.getD (us.length - 1) 0) (key ns (us.getD 0 0))
theorem mvI_length (ns : List Int) (us : List Nat) (i : Nat) : (mvI ns us i).length = ns.length := by
  induction i with
  | zero => rfl
  | succ i ih => unfold mvI; rw [List.length_set, ih]
theorem nI_at {us : List Nat} {i : Nat} (h : i < us.length) : ((nI us).map V.int)[i]? = some (.int (us.getD i 0 : Nat)) := by
  unfold nI
  rw [List.getElem?_map, List.getElem?_map, List.getElem?_eq_getElem h, List.getD_eq_getElem?_getD, List.getElem?_eq_getElem h]
  rfl
theorem getD_mem {us : List Nat} {i : Nat} (h : i < us.length) : us.getD i 0 ∈ us := by
  rw [List.getD_eq_getElem?_getD, List.getElem?_eq_getElem h]
  exact List.getElem_mem h
theorem nI_last {us : List Nat} (h : us ≠ []) : atI ((nI us).map V.int) (-1) = some (.int (us.getD (us.length - 1) 0 : Nat)) := by
  refine at_last ?_
  have hl := List.length_pos_iff.mpr h
  rw [List.getLast?_eq_getElem?, nI_length]
  unfold nI
  rw [List.getElem?_map, List.getD_eq_getElem?_getD, List.getElem?_eq_getElem (show us.length - 1 < us.length by omega)]
  rfl
theorem ixN_nat {n j : Nat} (h : j < n) : ixN n ((j : Nat) : Int) = some j := by
  unfold ixN
  rw [if_pos (by omega), if_pos (by omega), Int.toNat_natCast]
theorem set_int (ns : List Int) (j : Nat) (z : Int) : (ns.map V.int).set j (.int z) = (ns.set j z).map V.int := by rw [List.map_set]
def sp_moved (K : PySem.W.Frag) : Sp := fun vs H Q _ => ∃ (a b : Addr) (ns : List Int) (us : List Nat), vs = [.ref a, .ref b] ∧ H a = some (.lst (ns.map V.int)) ∧ H b = some (.lst ((nI us).map V.int)) ∧ us ≠ [] ∧ (∀ p ∈ us, p < ns.length) ∧ ns.length ≤ 12 ∧ us.length ≤ 12 ∧
  ∀ l H', H l = none → Ex (TK K) H H' → H' l = some (.lst ((movedL ns us).map V.int)) → Q (.ref l) H'
theorem ok_moved (W : Wd K mg base) : OkD P w K mg base d_moved ["row", "way"] 1 (sp_moved K) := by
  have S : FnScope ["row", "way", "found", "key", "here", "there"] ["row", "way"] d_moved.scope := ⟨rfl, rfl, rfl, by decide +kernel, rfl, by decide +kernel, by decide +kernel⟩
  refine ok_of W.d_moved S (fun vs H Q E h => ?_) (fun _ _ _ _ _ _ us hl => match us, hl with | [_, _], _ => rfl) (fun cdv A outer s H vs Q E hr h => ⟨_, (pss_cons (ps_par (i := 2) (j := 3) rfl S.nd rfl rfl (by decide) rfl rfl (pa_cons (pe_callTy (l_list (T := TK K)) (by rfl) (by exact W.f_list) PyProof.Rows.boot_list (pa_cons (pv 0) pa_nil)) (pa_cons (pe_ix l_ix (pv 0) (pe_ix l_ix (pv 1) (pe_int) (fun _ _ => rfl)) (fun _ _ => rfl)) pa_nil)) (by rfl))
      (pss_cons (ps_for PassesOwn.never rfl (pi_zip (by rfl) (by exact W.f_zip) (pa_cons (pv 1) (pa_cons (pe_slice (l_sl (T := TK K)) (pv 1) (po_some (pe_int)) po_none) pa_nil))) (pg_tup rfl (pgs_cons (pg_name (i := 4) S.nd rfl (Or.inl rfl)) (pgs_cons (pg_name (i := 5) S.nd rfl (Or.inl rfl)) pgs_nil))) (pss_one (ps_asg (pe_ix l_ix (pv 0) (pv 5) (fun _ _ => rfl)) (pg_sub (pv 2) (pv 4) set_list (fun _ => rfl)))))
      (pss_cons (ps_asg (pv 3) (pg_sub (pv 2) (pe_ix l_ix (pv 1) (pe_un un_neg (pe_int)) (fun _ _ => rfl)) set_list (fun _ => rfl)))
      (pss_one (ps_ret (pv 2)))))), ?_⟩)
  · obtain ⟨_, _, _, _, rfl, _⟩ := h
    rfl
  · obtain ⟨a, b, ns, us, rfl, ha, hb, hu, hlt, n12, u12, hQ⟩ := h
    refine r_entry (σ' := [_, _, _, _, _, _]) rfl ?_
    have hul := List.length_pos_iff.mpr hu
    walk_at "go"
    refine ⟨a, _, rfl, .inl ha, fun l H1 hl e1 h1 => ?_⟩
    walk_at "go"
    refine r_ix (.inl (e1.lst hb)) (atI_nat (j := 0) (nI_at hul)) ?_
    have h0lt : us.getD 0 0 < ns.length := hlt _ (getD_mem hul)
    refine r_ix (.inl (e1.lst ha)) (at_key h0lt) ?_
    walk_at "go"
    refine r_slL (e1.lst hb) fun t H2 ht e2 h2 => ?_
    walk_at "go"
    rw [cut_one] at h2
    have e12 := e1.trans e2
    refine ⟨b, t, _, _, rfl, sqL_of (e12.lst hb), sqL_of h2, ?_⟩
    have hwk := walk_zip (K := K) (a := b) (b := t) (xs := (nI us).map V.int) (ys := ((nI us).map V.int).drop 1) (n := us.length - 1) (by rw [List.length_drop, List.length_map, nI_length]; omega)
    refine fb_it hwk (fun i σ H' => ∃ x y, σ = [some (.ref a), some (.ref b), some (.ref l), some (.int (key ns (us.getD 0 0))), x, y] ∧ Ex (TK K) H H' ∧ H' l = some (.lst ((mvI ns us i).map V.int)) ∧ H' t = some (.lst (((nI us).map V.int).drop 1)))
      ⟨_, _, rfl, e12, e2.lst h1, h2⟩ (fun i σ H' _ p => ?_) (fun i v σ H3 H4 hi p y => ?_) fun σ H3 p => ?_
    · obtain ⟨_, _, _, e3, _, h3⟩ := p
      exact ⟨sqL_of (e3.lst hb), sqL_of h3⟩
    · obtain ⟨x1, y1, rfl, e3, h3, h4⟩ := p
      obtain ⟨q, x, z, rfl, hq, e4, h5, hx, hz⟩ := yp_ex (T := TK K) y
      have hi1 : i < us.length := by omega
      have hi2 : i + 1 < us.length := by omega
      rw [nI_at hi1] at hx
      rw [List.getElem?_drop, Nat.add_comm, nI_at hi2] at hz
      cases hx
      cases hz
      have hlt1 := hlt _ (getD_mem hi1)
      have hlt2 := hlt _ (getD_mem hi2)
      refine r_tupg (sqT_of h5) rfl ?_
      walk_at "go"
      refine r_ix (.inl ((e3.trans e4).lst ha)) (at_key hlt2) ?_
      walk_at "go"
      refine r_setL (e4.lst h3) (ixN_nat (by rw [List.length_map, mvI_length]; exact hlt1)) ?_
      have htl : t ≠ l := fun z => by
        rw [z] at ht
        rw [h1] at ht
        cases ht
      refine ⟨_, _, rfl, (e3.trans e4).mut (Fre.of hl) (e4.lst h3), ?_, ?_⟩
      · rw [upd_same, set_int]
        rfl
      · rw [upd_ne htl]
        exact e4.lst h4
    · obtain ⟨x1, y1, rfl, e3, h3, h4⟩ := p
      walk_at "go"
      refine r_ix (.inl (e3.lst hb)) (nI_last hu) ?_
      walk_at "go"
      have hlt1 := hlt _ (getD_mem (show us.length - 1 < us.length by omega))
      refine r_setL h3 (ixN_nat (by rw [List.length_map, mvI_length]; exact hlt1)) ?_
      walk_at "go"
      refine hQ l _ hl (e3.mut (Fre.of hl) h3) ?_
      rw [upd_same, set_int]
      rfl
/-- c has the least key of cs, the first such place -/
def Least (ns : List Int) (cs : List Nat) (c : Nat) : Prop := c ∈ cs ∧ ∀ d ∈ cs, key ns c < key ns d ∨ (key ns c = key ns d ∧ c ≤ d)
def sp_first_least (K : PySem.W.Frag) : Sp := fun vs H Q _ => ∃ (a p : Addr) (ns : List Int) (cs : List Nat), vs = [.ref a, .ref p] ∧ H a = some (.lst (ns.map V.int)) ∧ H p = some (.tup ((nI cs).map V.int)) ∧ cs ≠ [] ∧ (∀ c ∈ cs, c < ns.length) ∧ Tabs (TK K) H ∧
  ∀ c H', Ex (TK K) H H' → Least ns cs c → Q (.int (c : Nat)) H'
end
end Hr

set_option maxHeartbeats 4000000
/-! HrQ: the first least place, the way down, sifts, takings. (src/HrQ.txt by expand.py) -/
namespace Hr
open PySem PySem.Spec PyProof.Rows L2 LamX SlX NdefX
-- one step of a reading; its repetition
local macro_rules | `(tactic| walk_at "st") => `(tactic| first
    | with_reducible refine r_seq ?_
    | with_reducible refine r_var rfl ?_
    | with_reducible refine r_c ?_
    | with_reducible refine r_cons ?_
    | with_reducible refine r_nil ?_
    | with_reducible refine r_op ?_
    | with_reducible refine r_asg ?_
    | with_reducible refine r_I0 ?_
    | with_reducible refine r_cb ?_
    | with_reducible refine r_call ?_
    | with_reducible refine r_ret ?_
    | with_reducible refine r_ifS ?_
    | with_reducible refine r_test ?_
    | with_reducible refine r_B ?_
    | with_reducible refine r_bl ?_
    | with_reducible refine r_Not ?_
    | with_reducible refine r_And ?_
    | with_reducible refine r_Or ?_
    | with_reducible refine r_AndV ?_
    | with_reducible refine r_OrV ?_
    | with_reducible refine r_NotV ?_
    | with_reducible refine r_If ?_
    | with_reducible refine r_un ?_
    | with_reducible refine r_U ?_
    | with_reducible refine r_drop ?_
    | with_reducible refine r_next ?_
    | with_reducible refine r_retN ?_
    | with_reducible refine r_brk ?_
    | with_reducible refine r_par ?_
    | with_reducible refine r_par3 ?_
    | with_reducible refine r_two ?_
    | with_reducible refine r_three ?_
    | with_reducible refine r_lst ?_
    | with_reducible refine r_tup ?_
    | with_reducible refine r_intc ?_
    | with_reducible refine r_min ?_
    | with_reducible refine r_sl ?_
    | with_reducible refine r_part ?_
    | with_reducible refine r_noPart ?_
    | with_reducible refine r_slice ?_
    | with_reducible refine r_revL ?_
    | with_reducible refine r_bm ?_
    | with_reducible refine r_meth ?_
    | with_reducible refine r_callK ?_
    | with_reducible refine r_sub ?_
    | with_reducible refine r_gcons ?_
    | with_reducible refine r_gnil ?_
    | with_reducible refine r_int1 ?_
    | with_reducible refine r_chain ?_
    | with_reducible refine r_isiI ?_
    | with_reducible refine r_isiB ?_
    | with_reducible refine r_tt ?_
    | with_reducible refine r_ff ?_
    | with_reducible refine r_nt ?_
    | with_reducible refine r_nf ?_
    | with_reducible refine r_iEnum ?_
    | with_reducible refine r_iZipA ?_
    | with_reducible refine r_iZip ?_
    | with_reducible refine r_iRng1 ?_
    | with_reducible refine r_iRng2 ?_
    | with_reducible refine r_iList ?_
    | with_reducible refine r_iTup ?_
    | with_reducible refine r_tupRg ?_
    | with_reducible refine r_lstRg ?_
    | with_reducible refine r_rg1 ?_
    | with_reducible refine r_rg2 ?_
    | with_reducible refine r_int2 ?_
    | with_reducible refine r_ssl ?_
    | with_reducible refine r_aug rfl ?_
    | with_reducible refine r_ipI ?_
    | with_reducible refine r_makeK ?_
    | with_reducible refine r_make ?_
    | with_reducible refine r_methK ?_
    | with_reducible refine r_ktup ?_
    | with_reducible refine r_star ?_
    | with_reducible refine r_for ?_
    | with_reducible refine r_lc ?_
    | with_reducible refine r_iOwn ?_
    | with_reducible refine r_yes ?_
    | with_reducible refine r_gn0 ?_
    | with_reducible refine r_gn1 ?_
    | with_reducible refine r_gn2 ?_
    | with_reducible refine r_gn3 ?_
    | with_reducible refine r_gn4 ?_
    | with_reducible refine r_gn5 ?_
    | with_reducible refine r_gn6 ?_
    | with_reducible refine r_gn7 ?_
    | with_reducible refine r_gn8 ?_
    | with_reducible refine r_gn9 ?_
    | with_reducible refine r_gn10 ?_
    | with_reducible refine r_gn11 ?_
    | with_reducible refine r_gn12 ?_
    | with_reducible refine r_gn13 ?_
    | with_reducible refine r_gn14 ?_
    | with_reducible refine r_gn15 ?_
    | with_reducible refine r_gn16 ?_
    | with_reducible refine r_gn17 ?_
    | with_reducible refine r_gn18 ?_
    | with_reducible refine r_gn19 ?_
    | with_reducible refine r_gn20 ?_
    | with_reducible refine r_gn21 ?_
    | with_reducible refine r_gn22 ?_
    | with_reducible refine r_gn23 ?_
    | with_reducible refine r_gn24 ?_
    | with_reducible refine r_gn25 ?_)
local macro_rules | `(tactic| walk_at "go") => `(tactic| repeat walk_at "st")
-- growth, by the chain of what is known
local macro_rules | `(tactic| walk_at "ex") => `(tactic| first
    | exact Ex.refl _ | assumption | (refine Ex.trans ?_ (by assumption); walk_at "ex"))
local macro_rules | `(tactic| walk_at "f1") => `(tactic| first
    | assumption | exact Or.inl (by assumption) | exact Or.inr (by assumption)
    | (refine Ex.ra ?_ (by assumption); walk_at "ex") | (refine Ex.lst ?_ (by assumption); walk_at "ex") | (refine Ex.tup ?_ (by assumption); walk_at "ex") | (refine Ex.slt ?_ (by assumption); walk_at "ex")
    | (refine Or.inl (Ex.lst ?_ (by assumption)); walk_at "ex") | (refine Or.inr (Ex.tup ?_ (by assumption)); walk_at "ex")
    | (refine sqL_of (Ex.lst ?_ (by assumption)); walk_at "ex") | (refine sqT_of (Ex.tup ?_ (by assumption)); walk_at "ex") | (refine Ex.seqL ?_ (by assumption); walk_at "ex")
    | (refine Ex.t ?_ (by assumption); walk_at "ex"))

section
variable {P : Program} {w : World} {K : PySem.W.Frag} {mg : Str → Option Value} {base : Heap}
/-! ### the first least -/
theorem lex_two (x y x' y' : Int) : HT.lexLt [x, y] [x', y'] = true ↔ x < x' ∨ (x = x' ∧ y < y') := by
  rw [HT.lexLt_cons, HT.lexLt_cons]
  by_cases h : x = x'
  · rw [if_pos h]
    by_cases h2 : y = y'
    · rw [if_pos h2]
      constructor
      · intro z
        cases z
      · omega
    · rw [if_neg h2, decide_eq_true_iff]
      omega
  · rw [if_neg h, decide_eq_true_iff]
    omega
theorem best_spec (f g : Nat → Int) : ∀ k, argBest (fun i j => HT.lexLt [f i, g i] [f j, g j]) k ≤ k ∧ ∀ j, j ≤ k → ¬ (f j < f (argBest (fun i j => HT.lexLt [f i, g i] [f j, g j]) k) ∨ (f j = f (argBest (fun i j => HT.lexLt [f i, g i] [f j, g j]) k) ∧ g j < g (argBest (fun i j => HT.lexLt [f i, g i] [f j, g j]) k)))
  | 0 => ⟨Nat.le_refl _, fun j hj => by
    have e : j = 0 := by omega
    subst e
    show ¬ (f 0 < f 0 ∨ (f 0 = f 0 ∧ g 0 < g 0))
    omega⟩
  | k + 1 => by
    obtain ⟨h1, h2⟩ := best_spec f g k
    unfold argBest
    cases hb : HT.lexLt [f (k + 1), g (k + 1)] [f (argBest (fun i j => HT.lexLt [f i, g i] [f j, g j]) k), g (argBest (fun i j => HT.lexLt [f i, g i] [f j, g j]) k)] with
    | true =>
      rw [if_pos rfl]
      have hb2 := (lex_two _ _ _ _).mp hb
      refine ⟨Nat.le_refl _, fun j hj => ?_⟩
      by_cases e : j = k + 1
      · subst e
        omega
      · have := h2 j (by omega)
        omega
    | false =>
      rw [if_neg Bool.false_ne_true]
      refine ⟨by omega, fun j hj => ?_⟩
      by_cases e : j = k + 1
      · subst e
        intro z
        rw [(lex_two _ _ _ _).mpr z] at hb
        cases hb
      · exact h2 j (by omega)
theorem least_min {ns : List Int} {cs : List Nat} (hc : cs ≠ []) : Least ns cs (cs.getD (minAt (fun i => [key ns (cs.getD i 0), ((cs.getD i 0 : Nat) : Int)]) cs.length) 0) := by
  have hl := List.length_pos_iff.mpr hc
  obtain ⟨h1, h2⟩ := best_spec (fun i => key ns (cs.getD i 0)) (fun i => ((cs.getD i 0 : Nat) : Int)) (cs.length - 1)
  show Least ns cs (cs.getD (argBest (fun i j => HT.lexLt [key ns (cs.getD i 0), ((cs.getD i 0 : Nat) : Int)] [key ns (cs.getD j 0), ((cs.getD j 0 : Nat) : Int)]) (cs.length - 1)) 0)
  refine ⟨getD_mem (by omega), fun d hd => ?_⟩
  obtain ⟨j, hj⟩ := List.mem_iff_getElem?.mp hd
  have hjl := (List.getElem?_eq_some_iff.mp hj).1
  have ed : cs.getD j 0 = d := by rw [List.getD_eq_getElem?_getD, hj]; rfl
  have := h2 j (by omega)
  rw [ed] at this
  omega
theorem ok_first_least (W : Wd K mg base) : OkD P w K mg base d_first_least ["row", "places"] 4 (sp_first_least K) := by
  have S : FnScope ["row", "places"] ["row", "places"] d_first_least.scope := ⟨rfl, rfl, rfl, by decide +kernel, rfl, by decide +kernel, by decide +kernel⟩
  obtain ⟨fd, F⟩ := W.d_first_least
  have F' := F
  obtain ⟨oc, od, dV, kV, doc, pm, an, cdv, ct, osl, efd, lk, hcd, hD, _⟩ := F'.ex
  subst efd
  obtain ⟨c, rfl⟩ := He.codeIn_ref hcd
  have ec : He.codeOf K ("first_least", none) = c := He.codeOf_eq lk rfl
  have len : ∀ vs H Q E, sp_first_least K vs H Q E → vs.length = (["row", "places"] : List Str).length := fun vs H Q E h => by
    obtain ⟨_, _, _, _, rfl, _⟩ := h
    rfl
  refine ⟨_, F, ?_, F.bindsN fun _ _ _ _ _ _ us hl => match us, hl with | [_, _], _ => rfl⟩
  refine fn_of lk hcd S len fun A outer s H vs Q E hr h => ⟨_, PSs.nox (pss_one (ps_ret (pe_minKey (T := TK K) (N := ["place", "row"]) (js := [0]) (fr := ["row"]) (tb := tTup (tCons (tOp lIx (tVar 1) (tVar 0)) (tCons (tVar 0) tNil))) (y := "place") (k := 1) rfl (by rfl) W.f_min (pv 1) W.tb (by rw [← ec]; rfl) (by exact List.mem_cons_self) (fun p hp _ => ?_) rfl ⟨rfl, rfl, rfl, by decide +kernel, rfl, by decide +kernel, by decide +kernel, by decide +kernel, by decide +kernel⟩ (fun z hz e => ?_) (fun z hz => ?_) rfl hr (fun _ _ _ _ _ _ => rfl) (fun A s H f c' hr => pe_tup (pa_cons (pe_ix l_ix (pv 1) (pv 0) (fun _ _ => rfl)) (pa_cons (pv 0) pa_nil)))))), ?_⟩
  · rcases List.mem_singleton.mp hp with rfl
    rfl
  · rcases List.mem_cons.mp hz with rfl | hz
    · cases e
    · rcases List.mem_singleton.mp hz with rfl
      exact .inl rfl
  · rcases List.mem_singleton.mp hz with rfl
    exact List.mem_cons_of_mem _ List.mem_cons_self
  · obtain ⟨a, p, ns, cs, rfl, ha, hp, hc, hlt, hT, hQ⟩ := h
    refine r_entry (σ' := [_, _]) rfl ?_
    refine r_ret ?_
    show tVar 1 _ _ _
    refine r_var rfl ?_
    have hl := List.length_pos_iff.mpr hc
    have hat : ∀ (i : Nat) (c : Int), (nI cs)[i]? = some c → i < cs.length ∧ c = ((cs.getD i 0 : Nat) : Int) := fun i c hi => by
      unfold nI at hi
      rw [List.getElem?_map] at hi
      cases e : cs[i]? with
      | none =>
        rw [e] at hi
        cases hi
      | some d =>
        rw [e] at hi
        refine ⟨(List.getElem?_eq_some_iff.mp e).1, ?_⟩
        rw [List.getD_eq_getElem?_getD, e]
        exact (Option.some.inj hi).symm
    refine ⟨p, nI cs, fun i => [key ns (cs.getD i 0), ((cs.getD i 0 : Nat) : Int)], rfl, sqT_of hp, by rw [nI_length]; exact hl, hT, fun i c H' hi e => ?_, fun c H2 hi e => ?_⟩
    · obtain ⟨hil, rfl⟩ := hat i c hi
      have hlt1 := hlt _ (getD_mem hil)
      refine r_entryE (σ' := [some (.int (cs.getD i 0 : Nat)), some (.ref a)]) rfl ?_
      walk_at "go"
      refine r_ix (.inl (e.lst ha)) (at_key hlt1) ?_
      walk_at "go"
      exact ⟨Nat.le_of_lt (small1000 (by simp)), fun q hq => ⟨q, rfl, hq, rfl⟩⟩
    · rw [nI_length] at hi
      obtain ⟨hil, rfl⟩ := hat _ c hi
      exact hQ _ H2 e (least_min hc)
/-! ### the way down -/
theorem kids_mem {m n p c : Nat} : c ∈ kids m n p ↔ m * p + 1 ≤ c ∧ c < m * p + 1 + m ∧ c < n := by
  unfold kids
  rw [List.mem_map]
  constructor
  · rintro ⟨i, hi, rfl⟩
    rw [List.mem_range] at hi
    omega
  · rintro ⟨h1, h2, h3⟩
    exact ⟨c - (m * p + 1), by rw [List.mem_range]; omega, by omega⟩
theorem kids_gt {m n p c : Nat} (m1 : 1 ≤ m) (h : c ∈ kids m n p) : p < c ∧ c < n := by
  obtain ⟨h1, h2, h3⟩ := kids_mem.mp h
  have : 1 * p ≤ m * p := Nat.mul_le_mul_right p m1
  omega
/-- the places that a key k goes through from p on -/
inductive Down (m : Nat) (ns : List Int) (k : Int) : Nat → List Nat → Prop
  | stop {p : Nat} : kids m ns.length p = [] → Down m ns k p [p]
  | stay {p c : Nat} : Least ns (kids m ns.length p) c → k ≤ key ns c → Down m ns k p [p]
  | go {p c : Nat} {us : List Nat} : Least ns (kids m ns.length p) c → ¬ k ≤ key ns c → Down m ns k c us → Down m ns k p (p :: us)
theorem Down.ne {m : Nat} {ns : List Int} {k : Int} {p : Nat} {us : List Nat} (h : Down m ns k p us) : us ≠ [] := by
  cases h <;> exact List.cons_ne_nil _ _
theorem Down.lt {m : Nat} {ns : List Int} {k : Int} {p : Nat} {us : List Nat} (m1 : 1 ≤ m) (h : Down m ns k p us) : p < ns.length → (∀ q ∈ us, q < ns.length) ∧ us.length + p ≤ ns.length := by
  induction h with
  | stop _ => exact fun hp => ⟨fun q hq => by rw [List.mem_singleton.mp hq]; exact hp, by rw [List.length_singleton]; omega⟩
  | stay _ _ => exact fun hp => ⟨fun q hq => by rw [List.mem_singleton.mp hq]; exact hp, by rw [List.length_singleton]; omega⟩
  | go hl _ _ ih =>
    intro hp
    obtain ⟨h1, h2⟩ := kids_gt m1 hl.1
    obtain ⟨h3, h4⟩ := ih h2
    refine ⟨fun q hq => ?_, by rw [List.length_cons]; omega⟩
    rcases List.mem_cons.mp hq with e | e
    · rw [e]
      exact hp
    · exact h3 q e
theorem eqbT_nil {H : Hp} {l p : Addr} {fs : List Nat} (h1 : H l = some (.tup ((nI fs).map V.int))) (h2 : H p = some (.tup [])) : Eqb K H (.ref l) (.ref p) (decide (fs = [])) :=
  ⟨l, p, nI fs, [], rfl, rfl, .inr ⟨sqT_of h1, sqT_of h2⟩, decide_eq_decide.mpr ⟨fun z => by rw [z]; rfl, fun z => nI_inj z⟩⟩
def sp_way_down (K : PySem.W.Frag) : Sp := fun vs H Q _ => ∃ (a o : Addr) (p m : Nat) (ns : List Int), vs = [.ref a, .ref o, .int (p : Nat)] ∧ H a = some (.lst (ns.map V.int)) ∧ TreeAt K H o m ns.length ∧ p < ns.length ∧ 1 ≤ m ∧ m ≤ 4 ∧ ns.length ≤ 12 ∧ Tabs (TK K) H ∧
  ∀ t l k us H', Ex (TK K) H H' → H' t = some (.tup [.ref l, .int k]) → H' l = some (.lst ((nI us).map V.int)) → Down m ns (key ns p) p us → Q (.ref t) H'
theorem ok_way_down (W : Wd K mg base) : OkD P w K mg base d_way_down ["row", "tree", "place"] 6 (sp_way_down K) := by
  have S : FnScope ["row", "tree", "place", "key", "way", "looks", "children", "least"] ["row", "tree", "place"] d_way_down.scope := ⟨rfl, rfl, rfl, by decide +kernel, rfl, by decide +kernel, by decide +kernel⟩
  refine ok_of W.d_way_down S (fun vs H Q E h => ?_) (fun _ _ _ _ _ _ us hl => match us, hl with | [_, _, _], _ => rfl) (fun cdv A outer s H vs Q E hr h => ⟨_, (pss_cons (ps_par3 (i := 3) (j := 4) (l := 5) rfl S.nd rfl rfl rfl (by decide) (by decide) (by decide) rfl rfl rfl (pa_cons (pe_ix l_ix (pv 0) (pv 2) (fun _ _ => rfl)) (pa_cons (c_lst (T := TK K) (pa_cons (pv 2) pa_nil)) (pa_cons (pe_int) pa_nil))) (by rfl))
      (pss_cons (ps_while PassesOwn.never (ptM (pt_cmpR (l_ne hr.units) (pe_ixOwn W.o_Tree_getitem.1 W.o_Tree_getitem.2.1 W.o_Tree_getitem.2.2 (ok_Tree_getitem W).fnR (hr.mono (by decide)) pass0 (pv 1) (pe_ix l_ix (pv 4) (pe_un un_neg (pe_int)) (fun _ _ => rfl)) (fun _ _ => by with_unfolding_all rfl)) (c_tup (T := TK K) pa_nil) (nomark _))) (pss_cons (ps_set (i := 6) S.nd rfl (Or.inl rfl) (pe_ixOwn W.o_Tree_getitem.1 W.o_Tree_getitem.2.1 W.o_Tree_getitem.2.2 (ok_Tree_getitem W).fnR (hr.mono (by decide)) pass0 (pv 1) (pe_ix l_ix (pv 4) (pe_un un_neg (pe_int)) (fun _ _ => rfl)) (fun _ _ => by with_unfolding_all rfl)))
      (pss_cons (ps_aug (i := 5) S.nd rfl (Or.inl rfl) (pe_callB l_len (by rfl) (by exact W.f_len) boot_len (pa_cons (pv 6) pa_nil)) ip_add)
      (pss_cons (ps_set (i := 7) S.nd rfl (Or.inl rfl) (c_call (ok_first_least W) hr (by exact W.g_first_least) (pa_cons (pv 0) (pa_cons (pv 6) pa_nil))))
      (pss_cons (ps_if (pt_cmpR op_le (pv 3) (pe_ix l_ix (pv 0) (pv 7) (fun _ _ => rfl)) (nomark _)) (pss_one (ps_break)) pss_nil)
      (pss_one (ps_expr (pe_bm PySem.F.plainAttrs_list PySem.F.slot_list_append PySem.F.type_list_append mt_append (pv 4) (pa_cons (pv 7) pa_nil)))))))))
      (pss_one (ps_ret (c_tup (T := TK K) (pa_cons (pv 4) (pa_cons (pv 5) pa_nil))))))), ?_⟩)
  · obtain ⟨_, _, _, _, _, rfl, _⟩ := h
    rfl
  · obtain ⟨a, o, p, m, ns, rfl, ha, hT, hp, m1, m4, n12, hTb, hQ⟩ := h
    refine r_entry (σ' := [_, _, _, _, _, _, _, _]) rfl ?_
    have hT2 := hT
    obtain ⟨dx, q, hS, hP⟩ := hT2
    walk_at "go"
    refine r_ix (.inl ha) (at_key hp) ?_
    walk_at "go"
    refine ⟨by simp, fun l H1 hl e1 h1 => ?_⟩
    walk_at "go"
    refine r_while (fun j σ H' => ∃ (pre : List Nat) (q : Nat) (lk : Int) (x y : Option V), j + q = ns.length ∧ q < ns.length ∧ σ = [some (.ref a), some (.ref o), some (.int (p : Nat)), some (.int (key ns p)), some (.ref l), some (.int lk), x, y] ∧ Ex (TK K) H H' ∧ H' l = some (.lst ((nI (pre ++ [q])).map V.int)) ∧
      (∀ us, Down m ns (key ns p) q us → Down m ns (key ns p) p (pre ++ us)) ∧ pre.length ≤ q) (ns.length - p) ⟨[], p, 0, _, _, by omega, hp, rfl, e1, h1, fun us h => h, by simp⟩ (fun j σ H2 hi => ?_)
    obtain ⟨pre, q, lk, x, y, hj, hq, rfl, e2, h2, hd, hpl⟩ := hi
    have hlast : atI ((nI (pre ++ [q])).map V.int) (-1) = some (.int (q : Nat)) := at_last (by rw [nI_append]; simp [nI])
    walk_at "go"
    refine r_ix (.inl h2) hlast ?_
    refine ⟨o, dx, _, rfl, e2.slt hS, o, q, m, _, rfl, e2.tree hT, hq, m4, n12, fun t1 H3 e3 h3 => ?_⟩
    walk_at "go"
    refine ⟨by simp, fun t2 H4 ht2 e4 h4 => ?_⟩
    refine ⟨_, eqbT_nil (e4.tup h3) h4, ?_⟩
    walk_at "go"
    have e24 := e2.trans (e3.trans e4)
    have h24 := e4.lst (e3.lst h2)
    have fin : ∀ (H5 : Hp) (lk2 : Int), Ex (TK K) H H5 → H5 l = some (.lst ((nI (pre ++ [q])).map V.int)) → Down m ns (key ns p) q [q] → New (TK K) (.tup [V.ref l, V.int lk2]) H5 Q := fun H5 lk2 e5 h5 hdn t3 H6 _ e6 h6 => hQ t3 l lk2 (pre ++ [q]) H6 (e5.trans e6) h6 (e6.lst h5) (hd _ hdn)
    refine r_ite (fun hb => ?_) fun hb => ?_
    · have hk : kids m ns.length q ≠ [] := by simpa using hb
      walk_at "go"
      refine r_ix (.inl h24) hlast ?_
      refine ⟨o, dx, _, rfl, e24.slt hS, o, q, m, _, rfl, e24.tree hT, hq, m4, n12, fun t5 H5 e5 h5 => ?_⟩
      walk_at "go"
      refine r_len (.inr h5) ?_
      walk_at "go"
      have e25 := e24.trans e5
      refine ⟨a, t5, ns, _, rfl, e25.lst ha, h5, hk, fun c hc => (kids_gt m1 hc).2, e25.t hTb, fun c H6 e6 hc => ?_⟩
      walk_at "go"
      have e26 := e25.trans e6
      have h26 := e6.lst (e5.lst h24)
      obtain ⟨hcq, hcn⟩ := kids_gt m1 hc.1
      refine r_ix (.inl (e26.lst ha)) (at_key hcn) ?_
      walk_at "go"
      refine r_ite (fun hle => ?_) fun hle => ?_
      · have hle2 : key ns p ≤ key ns c := by simpa using hle
        walk_at "go"
        exact ⟨by simp, fin _ _ e26 h26 (.stay hc hle2)⟩
      · have hle2 : ¬ key ns p ≤ key ns c := by simpa using hle
        walk_at "go"
        refine ⟨ty_lst h26, ?_⟩
        walk_at "go"
        refine r_app h26 (by rw [List.length_map, nI_length, List.length_append]; simp; omega) ?_
        refine ⟨ns.length - c, by omega, pre ++ [q], c, _, _, _, by omega, hcn, rfl, e26.mut (Fre.of hl) h26, ?_, fun us h => ?_, by rw [List.length_append, List.length_singleton]; omega⟩
        · rw [upd_same, nI_append (pre ++ [q]), List.map_append]
          rfl
        · rw [List.append_assoc]
          exact hd _ (.go hc hle2 h)
    · have hk : kids m ns.length q = [] := by simpa using hb
      walk_at "go"
      exact ⟨by simp, fin _ _ e24 h24 (.stop hk)⟩
def sp_sunk (K : PySem.W.Frag) : Sp := fun vs H Q _ => ∃ (a o : Addr) (p m : Nat) (ns : List Int), vs = [.ref a, .ref o, .int (p : Nat)] ∧ H a = some (.lst (ns.map V.int)) ∧ TreeAt K H o m ns.length ∧ p < ns.length ∧ 1 ≤ m ∧ m ≤ 4 ∧ ns.length ≤ 12 ∧ Tabs (TK K) H ∧
  ∀ o' us H', Ex (TK K) H H' → Down m ns (key ns p) p us → SiftAt K H' o' ((movedL ns us).map V.int) ((nI us).map V.int) → Q (.ref o') H'
theorem ok_sunk (W : Wd K mg base) : OkD P w K mg base d_sunk ["row", "tree", "place"] 7 (sp_sunk K) := by
  have S : FnScope ["row", "tree", "place", "way", "looks"] ["row", "tree", "place"] d_sunk.scope := ⟨rfl, rfl, rfl, by decide +kernel, rfl, by decide +kernel, by decide +kernel⟩
  refine ok_of W.d_sunk S (fun vs H Q E h => ?_) (fun _ _ _ _ _ _ us hl => match us, hl with | [_, _, _], _ => rfl) (fun cdv A outer s H vs Q E hr h => ⟨_, (pss_cons (ps_asg (c_call (ok_way_down W) hr (by exact W.g_way_down) (pa_cons (pv 0) (pa_cons (pv 1) (pa_cons (pv 2) pa_nil)))) (pg_tup rfl (pgs_cons (pg_name (i := 3) S.nd rfl (Or.inl rfl)) (pgs_cons (pg_name (i := 4) S.nd rfl (Or.inl rfl)) pgs_nil))))
      (pss_one (ps_ret (c_make (ok_Sift_init W) (by exact W.k_Sift) hr (by exact W.g_Sift) (pa_cons (c_call (ok_moved W) hr (by exact W.g_moved) (pa_cons (pv 0) (pa_cons (pv 3) pa_nil))) (pa_cons (pv 3) (pa_cons (pv 4) pa_nil))))))), ?_⟩)
  · obtain ⟨_, _, _, _, _, rfl, _⟩ := h
    rfl
  · obtain ⟨a, o, p, m, ns, rfl, ha, hT, hp, m1, m4, n12, hTb, hQ⟩ := h
    refine r_entry (σ' := [_, _, _, _, _]) rfl ?_
    walk_at "go"
    refine ⟨a, o, p, m, ns, rfl, ha, hT, hp, m1, m4, n12, hTb, fun t l k us H1 e1 h1 h2 hd => ?_⟩
    refine r_tupg (sqT_of h1) rfl ?_
    walk_at "go"
    obtain ⟨hlt, hlen⟩ := hd.lt m1 hp
    refine ⟨a, l, ns, us, rfl, e1.lst ha, h2, hd.ne, hlt, n12, by omega, fun l2 H2 hl2 e2 h3 => ?_⟩
    walk_at "go"
    exact r_mkSift (.inl h3) (.inl (e2.lst h2)) fun o' H3 e3 hS => hQ o' us H3 (e1.trans (e2.trans e3)) hd hS
/-! ### taking out -/
/-- the row without its first key, the last in its stead -/
def restL (ns : List Int) : List Int := key ns (ns.length - 1) :: (ns.drop 1).take (ns.length - 2)
theorem restL_length {ns : List Int} (h : 2 ≤ ns.length) : (restL ns).length = ns.length - 1 := by
  unfold restL
  rw [List.length_cons, List.length_take, List.length_drop]
  omega
theorem key_last {ns : List Int} (h : 0 < ns.length) : atI (ns.map V.int) (-1) = some (.int (key ns (ns.length - 1))) := at_last (by rw [List.getLast?_eq_getElem?]; exact key_at (by omega))
def sp_without_last (K : PySem.W.Frag) : Sp := fun vs H Q _ => ∃ (a : Addr) (ns : List Int), vs = [.ref a] ∧ RA H a (ns.map V.int) ∧ 2 ≤ ns.length ∧ ns.length ≤ 12 ∧ ∀ l H', Ex (TK K) H H' → H' l = some (.lst ((restL ns).map V.int)) → Q (.ref l) H'
theorem ok_without_last (W : Wd K mg base) : OkD P w K mg base d_without_last ["row"] 1 (sp_without_last K) := by
  have S : FnScope ["row"] ["row"] d_without_last.scope := ⟨rfl, rfl, rfl, by decide +kernel, rfl, by decide +kernel, by decide +kernel⟩
  refine ok_of W.d_without_last S (fun vs H Q E h => ?_) (fun _ _ _ _ _ _ us hl => match us, hl with | [_], _ => rfl) (fun cdv A outer s H vs Q E hr h => ⟨_, (pss_one (ps_ret (pe_ifExp (pt_cmpR op_gt (pe_callB l_len (by rfl) (by exact W.f_len) boot_len (pa_cons (pv 0) pa_nil)) (pe_int) (nomark _)) (c_lst (T := TK K) (pa_cons (pe_ix l_ix (pv 0) (pe_un un_neg (pe_int)) (fun _ _ => rfl)) (StX.pa_star (pe_slice (l_sl (T := TK K)) (pv 0) (po_some (pe_int)) (po_some (pe_un un_neg (pe_int)))) pa_nil))) (c_lst (T := TK K) pa_nil)))), ?_⟩)
  · obtain ⟨_, _, rfl, _⟩ := h
    rfl
  · obtain ⟨a, ns, rfl, hR, n2, n12, hQ⟩ := h
    refine r_entry (σ' := [_]) rfl ?_
    walk_at "go"
    refine r_len hR ?_
    walk_at "go"
    rw [List.length_map]
    refine r_then (decide_eq_true (by omega)) ?_
    walk_at "go"
    refine r_ix hR (key_last (by omega)) ?_
    refine r_star ?_
    walk_at "go"
    have cut : cutV (ns.map V.int) (some 1) (some (-1)) = ((ns.drop 1).take (ns.length - 2)).map V.int := by rw [cut_mid, List.length_map, ← List.map_drop, ← List.map_take]
    refine r_slA hR fun q H1 e1 h1 => ?_
    rw [cut] at h1
    refine ⟨q, _, rfl, h1.elim (fun z => .inr (sqL_of z)) (fun z => .inl (sqT_of z)), ?_⟩
    walk_at "go"
    rw [List.append_nil]
    have hl := restL_length n2
    refine ⟨by show (((restL ns).map V.int).length ≤ 1000); rw [List.length_map]; omega, fun l H2 hl2 e2 h2 => hQ l H2 (e1.trans e2) h2⟩
def sp_taken (K : PySem.W.Frag) : Sp := fun vs H Q _ => ∃ (a : Addr) (m : Nat) (ns : List Int), vs = [.ref a, .int (m : Nat)] ∧ RA H a (ns.map V.int) ∧ 2 ≤ ns.length ∧ ns.length ≤ 12 ∧ 1 ≤ m ∧ m ≤ 4 ∧ Tabs (TK K) H ∧
  ∀ o us H', Ex (TK K) H H' → Down m (restL ns) (key (restL ns) 0) 0 us → SiftAt K H' o ((movedL (restL ns) us).map V.int) ((nI us).map V.int) → Q (.ref o) H'
theorem ok_taken (W : Wd K mg base) : OkD P w K mg base d_taken ["row", "arms"] 8 (sp_taken K) := by
  have S : FnScope ["row", "arms", "rest"] ["row", "arms"] d_taken.scope := ⟨rfl, rfl, rfl, by decide +kernel, rfl, by decide +kernel, by decide +kernel⟩
  refine ok_of W.d_taken S (fun vs H Q E h => ?_) (fun _ _ _ _ _ _ us hl => match us, hl with | [_, _], _ => rfl) (fun cdv A outer s H vs Q E hr h => ⟨_, (pss_cons (ps_set (i := 2) S.nd rfl (Or.inl rfl) (c_call (ok_without_last W) hr (by exact W.g_without_last) (pa_cons (pv 0) pa_nil)))
      (pss_one (ps_ret (pe_ifExp (pt_cmpR (l_ne hr.units) (pv 2) (c_lst (T := TK K) pa_nil) (nomark _)) (c_call (ok_sunk W) hr (by exact W.g_sunk) (pa_cons (pv 2) (pa_cons (c_makeK (ok_Tree_init W) (by exact W.k_Tree) hr (by exact W.g_Tree) (pa_cons (pe_callB l_len (by rfl) (by exact W.f_len) boot_len (pa_cons (pv 2) pa_nil)) pa_nil) (pk_cons (pv 1) pk_nil)) (pa_cons (pe_int) pa_nil)))) (c_make (ok_Sift_init W) (by exact W.k_Sift) hr (by exact W.g_Sift) (pa_cons (c_tup (T := TK K) pa_nil) (pa_cons (c_tup (T := TK K) pa_nil) (pa_cons (pe_int) pa_nil)))))))), ?_⟩)
  · obtain ⟨_, _, _, rfl, _⟩ := h
    rfl
  · obtain ⟨a, m, ns, rfl, hR, n2, n12, m1, m4, hTb, hQ⟩ := h
    refine r_entry (σ' := [_, _, _]) rfl ?_
    walk_at "go"
    refine ⟨a, ns, rfl, hR, n2, n12, fun l H1 e1 h1 => ?_⟩
    walk_at "go"
    refine ⟨by simp, fun l2 H2 hl2 e2 h2 => ?_⟩
    have hlen := restL_length n2
    have hne : restL ns ≠ [] := List.cons_ne_nil _ _
    have eb : Eqb K H2 (.ref l) (.ref l2) false := ⟨l, l2, restL ns, [], rfl, rfl, .inl ⟨sqL_of (e2.lst h1), sqL_of h2⟩, (decide_eq_false hne).symm⟩
    refine ⟨_, eb, ?_⟩
    walk_at "go"
    refine r_len (.inl (e2.lst h1)) ?_
    walk_at "go"
    rw [List.length_map]
    refine r_mkTree m1 m4 (by omega) fun o H3 e3 hT => ?_
    walk_at "go"
    exact ⟨l, o, 0, m, restL ns, rfl, e3.lst (e2.lst h1), hT, by omega, m1, m4, by omega, (e1.trans (e2.trans e3)).t hTb, fun o' us H4 e4 hd hS => hQ o' us H4 (e1.trans (e2.trans (e3.trans e4))) hd hS⟩
end
end Hr

set_option maxHeartbeats 4000000
/-! HrR: takings undone: Before, Over. (src/HrR.txt by expand.py) -/
namespace Hr
open PySem PySem.Spec PyProof.Rows L2 LamX SlX
-- one step of a reading; its repetition
local macro_rules | `(tactic| walk_at "st") => `(tactic| first
    | with_reducible refine r_seq ?_
    | with_reducible refine r_var rfl ?_
    | with_reducible refine r_c ?_
    | with_reducible refine r_cons ?_
    | with_reducible refine r_nil ?_
    | with_reducible refine r_op ?_
    | with_reducible refine r_asg ?_
    | with_reducible refine r_I0 ?_
    | with_reducible refine r_cb ?_
    | with_reducible refine r_call ?_
    | with_reducible refine r_ret ?_
    | with_reducible refine r_ifS ?_
    | with_reducible refine r_test ?_
    | with_reducible refine r_B ?_
    | with_reducible refine r_bl ?_
    | with_reducible refine r_Not ?_
    | with_reducible refine r_And ?_
    | with_reducible refine r_Or ?_
    | with_reducible refine r_AndV ?_
    | with_reducible refine r_OrV ?_
    | with_reducible refine r_NotV ?_
    | with_reducible refine r_If ?_
    | with_reducible refine r_un ?_
    | with_reducible refine r_U ?_
    | with_reducible refine r_drop ?_
    | with_reducible refine r_next ?_
    | with_reducible refine r_retN ?_
    | with_reducible refine r_brk ?_
    | with_reducible refine r_par ?_
    | with_reducible refine r_par3 ?_
    | with_reducible refine r_two ?_
    | with_reducible refine r_three ?_
    | with_reducible refine r_lst ?_
    | with_reducible refine r_tup ?_
    | with_reducible refine r_intc ?_
    | with_reducible refine r_min ?_
    | with_reducible refine r_sl ?_
    | with_reducible refine r_part ?_
    | with_reducible refine r_noPart ?_
    | with_reducible refine r_slice ?_
    | with_reducible refine r_revL ?_
    | with_reducible refine r_bm ?_
    | with_reducible refine r_meth ?_
    | with_reducible refine r_callK ?_
    | with_reducible refine r_sub ?_
    | with_reducible refine r_gcons ?_
    | with_reducible refine r_gnil ?_
    | with_reducible refine r_int1 ?_
    | with_reducible refine r_chain ?_
    | with_reducible refine r_isiI ?_
    | with_reducible refine r_isiB ?_
    | with_reducible refine r_tt ?_
    | with_reducible refine r_ff ?_
    | with_reducible refine r_nt ?_
    | with_reducible refine r_nf ?_
    | with_reducible refine r_iEnum ?_
    | with_reducible refine r_iZipA ?_
    | with_reducible refine r_iZip ?_
    | with_reducible refine r_iRng1 ?_
    | with_reducible refine r_iRng2 ?_
    | with_reducible refine r_iList ?_
    | with_reducible refine r_iTup ?_
    | with_reducible refine r_tupRg ?_
    | with_reducible refine r_lstRg ?_
    | with_reducible refine r_rg1 ?_
    | with_reducible refine r_rg2 ?_
    | with_reducible refine r_int2 ?_
    | with_reducible refine r_ssl ?_
    | with_reducible refine r_aug rfl ?_
    | with_reducible refine r_ipI ?_
    | with_reducible refine r_makeK ?_
    | with_reducible refine r_make ?_
    | with_reducible refine r_methK ?_
    | with_reducible refine r_ktup ?_
    | with_reducible refine r_star ?_
    | with_reducible refine r_for ?_
    | with_reducible refine r_lc ?_
    | with_reducible refine r_iOwn ?_
    | with_reducible refine r_yes ?_
    | with_reducible refine r_gn0 ?_
    | with_reducible refine r_gn1 ?_
    | with_reducible refine r_gn2 ?_
    | with_reducible refine r_gn3 ?_
    | with_reducible refine r_gn4 ?_
    | with_reducible refine r_gn5 ?_
    | with_reducible refine r_gn6 ?_
    | with_reducible refine r_gn7 ?_
    | with_reducible refine r_gn8 ?_
    | with_reducible refine r_gn9 ?_
    | with_reducible refine r_gn10 ?_
    | with_reducible refine r_gn11 ?_
    | with_reducible refine r_gn12 ?_
    | with_reducible refine r_gn13 ?_
    | with_reducible refine r_gn14 ?_
    | with_reducible refine r_gn15 ?_
    | with_reducible refine r_gn16 ?_
    | with_reducible refine r_gn17 ?_
    | with_reducible refine r_gn18 ?_
    | with_reducible refine r_gn19 ?_
    | with_reducible refine r_gn20 ?_
    | with_reducible refine r_gn21 ?_
    | with_reducible refine r_gn22 ?_
    | with_reducible refine r_gn23 ?_
    | with_reducible refine r_gn24 ?_
    | with_reducible refine r_gn25 ?_)
local macro_rules | `(tactic| walk_at "go") => `(tactic| repeat walk_at "st")
-- growth, by the chain of what is known
local macro_rules | `(tactic| walk_at "ex") => `(tactic| first
    | exact Ex.refl _ | assumption | (refine Ex.trans ?_ (by assumption); walk_at "ex"))
local macro_rules | `(tactic| walk_at "f1") => `(tactic| first
    | assumption | exact Or.inl (by assumption) | exact Or.inr (by assumption)
    | (refine Ex.ra ?_ (by assumption); walk_at "ex") | (refine Ex.lst ?_ (by assumption); walk_at "ex") | (refine Ex.tup ?_ (by assumption); walk_at "ex") | (refine Ex.slt ?_ (by assumption); walk_at "ex")
    | (refine Or.inl (Ex.lst ?_ (by assumption)); walk_at "ex") | (refine Or.inr (Ex.tup ?_ (by assumption)); walk_at "ex")
    | (refine sqL_of (Ex.lst ?_ (by assumption)); walk_at "ex") | (refine sqT_of (Ex.tup ?_ (by assumption)); walk_at "ex") | (refine Ex.seqL ?_ (by assumption); walk_at "ex")
    | (refine Ex.t ?_ (by assumption); walk_at "ex"))

section
variable {X : Cx}
theorem crOr {f : Value} {r r' : List V → Hp → VK → Prop} (h : CallR X f r) (h' : CallR X f r') : CallR X f (fun xs H Q => r xs H Q ∨ r' xs H Q) := fun pins s σ H xs us Q I v q => q.elim (h pins s σ H xs us Q I v) (h' pins s σ H xs us Q I v)
theorem peOr {e : Expr} {t t' : TE} (h : PE X e t) (h' : PE X e t') : PE X e (fun σ H Q => t σ H Q ∨ t' σ H Q) := ⟨fun pins s σ H Q I q => q.elim (h.run pins s σ H Q I) (h'.run pins s σ H Q I)⟩
theorem r_isiSl {K : PySem.W.Frag} {H : Hp} {Q : VK} {a C dx c : Addr} {vs : List (Option V)} {k : Bool} (h : Slt H a C dx vs) (hc : SCls K C) (hi : SIsi K C) (hk : PySem.W.kitOne K (.ref C) (.ref c) = some k) (q : Q (.bl k) H) : rIsiSl K (.ref c) [.ref a, .ref c] H Q :=
  ⟨a, C, dx, vs, .ref c, k, rfl, rfl, fun _ z => z, h, hc, hi, hk, q⟩
end
/-! ### what a taking to be undone asks -/
structure Ahd (m : Nat) (ns : List Int) (least : Int) (p : Nat) : Prop where
  m1 : 1 ≤ m
  m4 : m ≤ 4
  n1 : 1 ≤ ns.length
  n11 : ns.length ≤ 11
  sm : Small ns
  hp : IsHeap m ns
  nd : ns.Nodup
  l1 : -1000000000 ≤ least
  l2 : least < key ns 0
  pn : p < ns.length
theorem Ahd.lk {m : Nat} {ns : List Int} {least : Int} {p : Nat} (h : Ahd m ns least p) : least ≤ 1000000000 := by
  have h1 := h.sm _ (List.mem_of_getElem? (key_at (show 0 < ns.length by have := h.n1; omega)))
  have := h.l2
  omega
section
variable {P : Program} {w : World} {K : PySem.W.Frag} {mg : Str → Option Value} {base : Heap}
theorem dec_i {i j : Int} : decide (V.int i = V.int j) = decide (i = j) := decide_eq_decide.mpr ⟨fun z => by injection z, fun z => by rw [z]⟩
theorem dec_b {i j : Bool} : decide (V.bl i = V.bl j) = decide (i = j) := decide_eq_decide.mpr ⟨fun z => by injection z, fun z => by rw [z]⟩
def sp_check_room (K : PySem.W.Frag) : Sp := fun vs H Q _ => ∃ (a : Addr) (ns : List Int), vs = [.ref a] ∧ RA H a (ns.map V.int) ∧ ns.length ≤ 11 ∧ Q .non H
theorem ok_check_room (W : Wd K mg base) : OkD P w K mg base d_check_room ["row"] 1 (sp_check_room K) := by
  have S : FnScope ["row"] ["row"] d_check_room.scope := ⟨rfl, rfl, rfl, by decide +kernel, rfl, by decide +kernel, by decide +kernel⟩
  refine ok_of W.d_check_room S (fun vs H Q E h => ?_) (fun _ _ _ _ _ _ us hl => match us, hl with | [_], _ => rfl) (fun cdv A outer s H vs Q E hr h => ⟨_, (pss_one (ps_if (pt_cmpR op_eq (pe_callB l_len (by rfl) (by exact W.f_len) boot_len (pa_cons (pv 0) pa_nil)) (c_glint (by exact W.i_MOST_PLACES)) (nomark _)) pss_never pss_nil)), ?_⟩)
  · obtain ⟨_, _, rfl, _⟩ := h
    rfl
  · obtain ⟨a, ns, rfl, hR, n11, hQ⟩ := h
    refine r_entry (σ' := [_]) rfl ?_
    walk_at "go"
    refine r_len hR ?_
    walk_at "go"
    rw [List.length_map]
    refine ⟨rfl, ?_⟩
    rw [dec_i]
    walk_at "go"
    refine r_else (decide_eq_false (by omega)) ?_
    walk_at "go"
    exact hQ
def sp_check_ahead (K : PySem.W.Frag) : Sp := fun vs H Q _ => ∃ (a : Addr) (ns : List Int) (least : Int) (p m : Nat), vs = [.ref a, .int least, .int (p : Nat), .int (m : Nat)] ∧ RA H a (ns.map V.int) ∧ Ahd m ns least p ∧ ∀ H', Ex (TK K) H H' → Q .non H'
theorem ok_check_ahead (W : Wd K mg base) : OkD P w K mg base d_check_ahead ["row", "least", "place", "arms"] 7 (sp_check_ahead K) := by
  have S : FnScope ["row", "least", "place", "arms"] ["row", "least", "place", "arms"] d_check_ahead.scope := ⟨rfl, rfl, rfl, by decide +kernel, rfl, by decide +kernel, by decide +kernel⟩
  refine ok_of W.d_check_ahead S (fun vs H Q E h => ?_) (fun _ _ _ _ _ _ us hl => match us, hl with | [_, _, _, _], _ => rfl) (fun cdv A outer s H vs Q E hr h => ⟨_, (pss_cons (ps_expr (c_call (ok_check_heap W) hr (by exact W.g_check_heap) (pa_cons (pv 0) (pa_cons (pv 3) pa_nil))))
      (pss_cons (ps_expr (c_call (ok_check_different W) hr (by exact W.g_check_different) (pa_cons (pv 0) pa_nil)))
      (pss_cons (ps_if (pt_cmpR op_eq (pe_callB l_len (by rfl) (by exact W.f_len) boot_len (pa_cons (pv 0) pa_nil)) (pe_int) (nomark _)) pss_never pss_nil)
      (pss_cons (ps_expr (c_call (ok_check_room W) hr (by exact W.g_check_room) (pa_cons (pv 0) pa_nil)))
      (pss_cons (ps_if (PW.pt (pw_or (pt_not (pt_val (c_call (ok_is_key W) hr (by exact W.g_is_key) (pa_cons (pv 1) pa_nil)))) (pw_or1 (pt_cmpR op_ge (pv 1) (pe_ix l_ix (pv 0) (pe_int) (fun _ _ => rfl)) (nomark _))))) pss_never pss_nil)
      (pss_one (ps_if (pt_not (pt_val (c_call (ok_is_number W) hr (by exact W.g_is_number) (pa_cons (pv 2) (pa_cons (pe_int) (pa_cons (pe_op op_sub (pe_callB l_len (by rfl) (by exact W.f_len) boot_len (pa_cons (pv 0) pa_nil)) (pe_int)) pa_nil)))))) pss_never pss_nil))))))), ?_⟩)
  · obtain ⟨_, _, _, _, _, rfl, _⟩ := h
    rfl
  · obtain ⟨a, ns, least, p, m, rfl, hR, hA, hQ⟩ := h
    refine r_entry (σ' := [_, _, _, _]) rfl ?_
    have n1 := hA.n1
    have n11 := hA.n11
    walk_at "go"
    refine ⟨a, ns, m, rfl, hR, hA.m1, hA.m4, by omega, hA.sm, hA.hp, fun H1 e1 => ?_⟩
    walk_at "go"
    refine ⟨a, ns, rfl, e1.ra hR, by omega, hA.nd, fun H2 e2 => ?_⟩
    walk_at "go"
    have e12 := e1.trans e2
    refine r_len (e12.ra hR) ?_
    walk_at "go"
    rw [List.length_map]
    refine ⟨rfl, ?_⟩
    rw [dec_i]
    walk_at "go"
    refine r_else (decide_eq_false (by omega)) ?_
    walk_at "go"
    refine ⟨a, ns, rfl, e12.ra hR, n11, ?_⟩
    walk_at "go"
    refine ⟨least, rfl, ?_⟩
    walk_at "go"
    rw [decide_eq_true (show -1000000000 ≤ least ∧ least ≤ 1000000000 from ⟨hA.l1, hA.lk⟩)]
    walk_at "go"
    refine r_ix (e12.ra hR) (at_key (p := 0) (by omega)) ?_
    walk_at "go"
    have := hA.l2
    refine r_else (decide_eq_false (by omega)) ?_
    walk_at "go"
    refine r_len (e12.ra hR) ?_
    walk_at "go"
    rw [List.length_map]
    refine ⟨_, _, _, rfl, ?_⟩
    walk_at "go"
    have := hA.pn
    rw [decide_eq_true (show (0 : Int) ≤ (p : Int) ∧ (p : Int) ≤ (ns.length : Int) - 1 by omega)]
    walk_at "go"
    exact hQ H2 e12
def shI (ns : List Int) (us : List Nat) : Nat → List Int
  | 0 => ns
  | i + 1 => (shI ns us i).set (us.getD (i + 1) 0) (key ns (us.getD i 0))
theorem shI_length (ns : List Int) (us : List Nat) (i : Nat) : (shI ns us i).length = ns.length := by
  induction i with
  | zero => rfl
  | succ i ih => unfold shI; rw [List.length_set, ih]
/-- the row ahead of the taking -/
def aheadL (m : Nat) (ns : List Int) (least : Int) (p : Nat) : List Int := (shI ns (wayTo m p) ((wayTo m p).length - 1)).set 0 least ++ [key ns p]
theorem aheadL_length (m : Nat) (ns : List Int) (least : Int) (p : Nat) : (aheadL m ns least p).length = ns.length + 1 := by
  unfold aheadL
  rw [List.length_append, List.length_set, shI_length, List.length_singleton]
theorem wayTo_spec (m : Nat) : ∀ p, wayTo m p ≠ [] ∧ (∀ q ∈ wayTo m p, q ≤ p) ∧ (wayTo m p).length ≤ p + 1 := by
  intro p
  induction p using Nat.strongRecOn with
  | _ p ih =>
    by_cases h : 0 < p
    · obtain ⟨h1, h2, h3⟩ := ih _ (par_lt (m := m) h)
      have hp := par_lt (m := m) h
      rw [wayTo_pos h]
      refine ⟨by simp, fun q hq => ?_, by rw [List.length_append, List.length_singleton]; omega⟩
      rcases List.mem_append.mp hq with z | z
      · have := h2 q z
        omega
      · rw [List.mem_singleton.mp z]
        exact Nat.le_refl _
    · have e : p = 0 := by omega
      subst e
      rw [wayTo_zero]
      exact ⟨by simp, fun q hq => by rw [List.mem_singleton.mp hq]; exact Nat.le_refl _, by simp⟩
def sp_row_ahead (K : PySem.W.Frag) : Sp := fun vs H Q _ => ∃ (a o : Addr) (ns : List Int) (least : Int) (p m : Nat), vs = [.ref a, .ref o, .int least, .int (p : Nat)] ∧ RA H a (ns.map V.int) ∧ TreeAt K H o m ns.length ∧ p < ns.length ∧ 1 ≤ m ∧ m ≤ 4 ∧ ns.length ≤ 11 ∧
  ∀ l H', Ex (TK K) H H' → H' l = some (.lst ((aheadL m ns least p).map V.int)) → Q (.ref l) H'
theorem ok_row_ahead (W : Wd K mg base) : OkD P w K mg base d_row_ahead ["row", "tree", "least", "place"] 5 (sp_row_ahead K) := by
  have S : FnScope ["row", "tree", "least", "place", "found", "way", "here", "there"] ["row", "tree", "least", "place"] d_row_ahead.scope := ⟨rfl, rfl, rfl, by decide +kernel, rfl, by decide +kernel, by decide +kernel⟩
  refine ok_of W.d_row_ahead S (fun vs H Q E h => ?_) (fun _ _ _ _ _ _ us hl => match us, hl with | [_, _, _, _], _ => rfl) (fun cdv A outer s H vs Q E hr h => ⟨_, (pss_cons (ps_par (i := 4) (j := 5) rfl S.nd rfl rfl (by decide) rfl rfl (pa_cons (pe_callTy (l_list (T := TK K)) (by rfl) (by exact W.f_list) PyProof.Rows.boot_list (pa_cons (pv 0) pa_nil)) (pa_cons (c_meth (pv 1) W.s_Tree (ok_Tree_way_to W) (by exact W.m_Tree_way_to) hr (pa_cons (pv 3) pa_nil)) pa_nil)) (by rfl))
      (pss_cons (ps_for PassesOwn.never rfl (RZ.pi_zipA (by rfl) (by exact W.f_zip) (pa_cons (pv 5) (pa_cons (pe_slice (l_sl (T := TK K)) (pv 5) (po_some (pe_int)) po_none) pa_nil))) (pg_tup rfl (pgs_cons (pg_name (i := 6) S.nd rfl (Or.inl rfl)) (pgs_cons (pg_name (i := 7) S.nd rfl (Or.inl rfl)) pgs_nil))) (pss_one (ps_asg (pe_ix l_ix (pv 0) (pv 6) (fun _ _ => rfl)) (pg_sub (pv 4) (pv 7) set_list (fun _ => rfl)))))
      (pss_cons (ps_asg (pv 2) (pg_sub (pv 4) (pe_int) set_list (fun _ => rfl)))
      (pss_one (ps_ret (c_lst (T := TK K) (StX.pa_star (pv 4) (pa_cons (pe_ix l_ix (pv 0) (pv 3) (fun _ _ => rfl)) pa_nil)))))))), ?_⟩)
  · obtain ⟨_, _, _, _, _, _, rfl, _⟩ := h
    rfl
  · obtain ⟨a, o, ns, least, p, m, rfl, hR, hT, hp, m1, m4, n11, hQ⟩ := h
    refine r_entry (σ' := [_, _, _, _, _, _, _, _]) rfl ?_
    have hT2 := hT
    obtain ⟨dx, q, hS, hP⟩ := hT2
    obtain ⟨hu, hle, hul⟩ := wayTo_spec m p
    have hlt : ∀ q ∈ wayTo m p, q < ns.length := fun q hq => by have := hle q hq; omega
    have hul0 := List.length_pos_iff.mpr hu
    walk_at "go"
    refine ⟨a, _, rfl, hR, fun l H1 hl e1 h1 => ?_⟩
    walk_at "go"
    refine r_methv (e1.slt hS) ?_
    walk_at "go"
    refine ⟨o, p, m, _, rfl, e1.tree hT, hp, m1, m4, by omega, fun b H2 e2 h2 => ?_⟩
    walk_at "go"
    refine r_slT h2 fun t H3 e3 h3 => ?_
    walk_at "go"
    rw [cut_one] at h3
    have e13 := e1.trans (e2.trans e3)
    generalize hus : wayTo m p = us at *
    have hwk := walk_zipT (K := K) (a := b) (a2 := t) (xs := (nI us).map V.int) (ys := ((nI us).map V.int).drop 1) (n := us.length - 1) (by rw [List.length_drop, List.length_map, nI_length]; omega)
    refine ⟨b, t, _, _, rfl, .inr ⟨sqT_of (e3.tup h2), sqT_of h3, ?_⟩⟩
    refine fb_it hwk (fun i σ H' => ∃ x y, σ = [some (.ref a), some (.ref o), some (.int least), some (.int (p : Nat)), some (.ref l), some (.ref b), x, y] ∧ Ex (TK K) H H' ∧ H' l = some (.lst ((shI ns us i).map V.int)) ∧ H' b = some (.tup ((nI us).map V.int)) ∧ H' t = some (.tup (((nI us).map V.int).drop 1)))
      ⟨_, _, rfl, e13, e3.lst (e2.lst h1), e3.tup h2, h3⟩ (fun i σ H' _ p => ?_) (fun i v σ H4 H5 hi p y => ?_) fun σ H4 p => ?_
    · obtain ⟨_, _, _, _, _, h5, h6⟩ := p
      exact ⟨sqT_of h5, sqT_of h6⟩
    · obtain ⟨x1, y1, rfl, e4, h4, h5, h6⟩ := p
      obtain ⟨q, x, z, rfl, hq, e5, h7, hx, hz⟩ := yp_ex (T := TK K) y
      have hi1 : i < us.length := by omega
      have hi2 : i + 1 < us.length := by omega
      rw [nI_at hi1] at hx
      rw [List.getElem?_drop, Nat.add_comm, nI_at hi2] at hz
      cases hx
      cases hz
      have hlt1 := hlt _ (getD_mem hi1)
      have hlt2 := hlt _ (getD_mem hi2)
      refine r_tupg (sqT_of h7) rfl ?_
      walk_at "go"
      have e6 := e4.trans e5
      refine r_ix (e6.ra hR) (at_key hlt1) ?_
      walk_at "go"
      refine r_setL (e5.lst h4) (ixN_nat (by rw [List.length_map, shI_length]; exact hlt2)) ?_
      have hnb : b ≠ l := fun z => by rw [z, h4] at h5; cases h5
      have hnt : t ≠ l := fun z => by rw [z, h4] at h6; cases h6
      refine ⟨_, _, rfl, e6.mut (Fre.of hl) (e5.lst h4), ?_, ?_, ?_⟩
      · rw [upd_same, set_int]
        rfl
      · rw [upd_ne hnb]
        exact e5.tup h5
      · rw [upd_ne hnt]
        exact e5.tup h6
    · obtain ⟨x1, y1, rfl, e4, h4, h5, h6⟩ := p
      walk_at "go"
      refine r_setL h4 (ixN_nat (j := 0) (by rw [List.length_map, shI_length]; omega)) ?_
      have e5 := e4.mut (ys := (((shI ns us (us.length - 1)).map V.int).set 0 (V.int least))) (Fre.of hl) h4
      obtain ⟨H6, hH6, e6, h7⟩ : ∃ H6, upd H4 l (.lst (((shI ns us (us.length - 1)).map V.int).set 0 (V.int least))) = H6 ∧ Ex (TK K) H H6 ∧ H6 l = some (.lst (((shI ns us (us.length - 1)).set 0 least).map V.int)) := ⟨_, rfl, e5, by rw [upd_same, set_int]⟩
      rw [hH6]
      walk_at "go"
      refine ⟨l, _, rfl, .inr (sqL_of h7), ?_⟩
      walk_at "go"
      refine r_ix (e6.ra hR) (at_key hp) ?_
      walk_at "go"
      refine ⟨?_, fun l2 H7 hl2 e7 h8 => hQ l2 H7 (e6.trans e7) ?_⟩
      · rw [List.length_append, List.length_map, List.length_set, shI_length]
        simp
        omega
      · rw [h8]
        unfold aheadL
        rw [hus, List.map_append]
        rfl
def sp_place_above (K : PySem.W.Frag) : Sp := fun vs H Q _ => ∃ (a : Addr) (ns : List Int) (m n : Nat), vs = [.ref a, .int (m : Nat)] ∧ H a = some (.lst (ns.map V.int)) ∧ ns.length = n + 1 ∧ 1 ≤ n ∧ 1 ≤ m ∧ m ≤ 4 ∧ Q (.int (par m n : Nat)) H
theorem ok_place_above (W : Wd K mg base) : OkD P w K mg base d_place_above ["row", "arms"] 1 (sp_place_above K) := by
  have S : FnScope ["row", "arms"] ["row", "arms"] d_place_above.scope := ⟨rfl, rfl, rfl, by decide +kernel, rfl, by decide +kernel, by decide +kernel⟩
  refine ok_of W.d_place_above S (fun vs H Q E h => ?_) (fun _ _ _ _ _ _ us hl => match us, hl with | [_, _], _ => rfl) (fun cdv A outer s H vs Q E hr h => ⟨_, (pss_one (ps_ret (pe_op op_fdiv (pe_op op_sub (pe_callB l_len (by rfl) (by exact W.f_len) boot_len (pa_cons (pv 0) pa_nil)) (pe_int)) (pv 1)))), ?_⟩)
  · obtain ⟨_, _, _, _, rfl, _⟩ := h
    rfl
  · obtain ⟨a, ns, m, n, rfl, ha, hn, n1, m1, m4, hQ⟩ := h
    refine r_entry (σ' := [_, _]) rfl ?_
    walk_at "go"
    refine r_len (.inl ha) ?_
    walk_at "go"
    refine r_I ⟨by omega, by omega⟩ ?_
    rw [List.length_map, hn]
    have e : (((n + 1 : Nat) : Int) - 2) / (m : Int) = ((par m n : Nat) : Int) := by
      rw [← par_int (by omega : 0 < n)]
      congr 1
      omega
    rw [e]
    exact hQ
/-! ### Before -/
def BeforeAt (K : PySem.W.Frag) (H : Hp) (o : Addr) (ns : List Int) : Prop := ∃ dx p, Slt H o (He.ga K "Before") dx [some (.ref p)] ∧ H p = some (.tup (ns.map V.int))
theorem Ex.before {T : List (Addr × Str)} {K : PySem.W.Frag} {H H' : Hp} {o : Addr} {ns : List Int} (e : Ex T H H') (h : BeforeAt K H o ns) : BeforeAt K H' o ns := let ⟨dx, p, h1, h2⟩ := h; ⟨dx, p, e.slt h1, e.tup h2⟩
def OverAt (K : PySem.W.Frag) (H : Hp) (o : Addr) (i k : Int) : Prop := ∃ dx, Slt H o (He.ga K "Over") dx [some (.int k), some (.int i)]
theorem Ex.over {T : List (Addr × Str)} {K : PySem.W.Frag} {H H' : Hp} {o : Addr} {i k : Int} (e : Ex T H H') (h : OverAt K H o i k) : OverAt K H' o i k := let ⟨dx, h1⟩ := h; ⟨dx, e.slt h1⟩
def sp_Before_init (K : PySem.W.Frag) : Sp := fun vs H Q _ => ∃ (o dx a : Addr) (ns : List Int) (H0 : Hp), vs = [.ref o, .ref a] ∧ RA H a (ns.map V.int) ∧ Ex (TK K) H0 H ∧ Fre H0 o ∧ Fre H0 dx ∧ Ini H o (He.ga K "Before") dx [] ∧
  ∀ H', Ex (TK K) H0 H' → BeforeAt K H' o ns → Q .non H'
theorem ok_Before_init (W : Wd K mg base) : OkD P w K mg base d_Before_init ["self", "row"] 1 (sp_Before_init K) := by
  have S : FnScope ["self", "row"] ["self", "row"] d_Before_init.scope := ⟨rfl, rfl, rfl, by decide +kernel, rfl, by decide +kernel, by decide +kernel⟩
  refine ok_of W.d_Before_init S (fun vs H Q E h => ?_) (fun _ _ _ _ _ _ us hl => match us, hl with | [_, _], _ => rfl) (fun cdv A outer s H vs Q E hr h => ⟨_, (pss_one (ps_sl (pv 0) (pe_callTy (l_tuple (T := TK K)) (by rfl) (by exact W.f_tuple) PyProof.Rows.boot_tuple (pa_cons (pv 1) pa_nil)))), ?_⟩)
  · obtain ⟨_, _, _, _, _, rfl, _⟩ := h
    rfl
  · obtain ⟨o, dx, a, ns, H0, rfl, ha, e0, fo, fd, hI, hQ⟩ := h
    refine r_entry (σ' := [_, _]) rfl ?_
    walk_at "go"
    refine ⟨a, _, rfl, ha, fun p H1 e1 h1 => ?_⟩
    walk_at "go"
    have i1 := hI.ex e1
    refine ⟨_, _, _, _, _, _, rfl, i1.slt, W.s_Before, W.l_Before_row, ?_⟩
    obtain ⟨e2, i2⟩ := Ini.put (ws := putS 0 (V.ref p) []) (e0.trans e1) fo fd i1
    exact hQ _ e2 ⟨dx, p, i2.slt, i1.keep h1⟩
theorem r_mkBefore {H : Hp} {a : Addr} {ns : List Int} {F : Addr → Hp → Prop} (ha : RA H a (ns.map V.int)) (q : ∀ o H', Ex (TK K) H H' → BeforeAt K H' o ns → F o H') :
    ∀ x dx, H x = none → H dx = none → dx ≠ x → sp_Before_init K (.ref x :: [V.ref a]) (upd (upd H dx (.own x)) x (.ins (He.ga K "Before") dx [])) (fun v H3 => v = .non ∧ F x H3) E0 := by
  intro x dx h1 h2 h3
  have e : Ex (TK K) H (upd (upd H dx (.own x)) x (.ins (He.ga K "Before") dx [])) := (Ex.new h2).trans (Ex.new (by rw [upd_ne (Ne.symm h3)]; exact h1))
  exact ⟨x, dx, a, ns, H, rfl, e.ra ha, e, Fre.of h1, Fre.of h2, Ini.new h3, fun H' e t => ⟨rfl, q x H' e t⟩⟩
def sp_Over_init (K : PySem.W.Frag) : Sp := fun vs H Q _ => ∃ (o dx : Addr) (i k : Int) (H0 : Hp), vs = [.ref o, .int i, .int k] ∧ Ex (TK K) H0 H ∧ Fre H0 o ∧ Fre H0 dx ∧ Ini H o (He.ga K "Over") dx [] ∧
  ∀ H', Ex (TK K) H0 H' → OverAt K H' o i k → Q .non H'
theorem ok_Over_init (W : Wd K mg base) : OkD P w K mg base d_Over_init ["self", "place", "key"] 1 (sp_Over_init K) := by
  have S : FnScope ["self", "place", "key"] ["self", "place", "key"] d_Over_init.scope := ⟨rfl, rfl, rfl, by decide +kernel, rfl, by decide +kernel, by decide +kernel⟩
  refine ok_of W.d_Over_init S (fun vs H Q E h => ?_) (fun _ _ _ _ _ _ us hl => match us, hl with | [_, _, _], _ => rfl) (fun cdv A outer s H vs Q E hr h => ⟨_, (pss_cons (ps_sl (pv 0) (pv 1))
      (pss_one (ps_sl (pv 0) (pv 2)))), ?_⟩)
  · obtain ⟨_, _, _, _, _, rfl, _⟩ := h
    rfl
  · obtain ⟨o, dx, i, k, H0, rfl, e0, fo, fd, hI, hQ⟩ := h
    refine r_entry (σ' := [_, _, _]) rfl ?_
    walk_at "go"
    refine ⟨_, _, _, _, _, _, rfl, hI.slt, W.s_Over, W.l_Over_place, ?_⟩
    obtain ⟨H1, hH1, e1, i1⟩ : ∃ H1, slH H o (He.ga K "Over") dx (putS 1 (V.int i) []) = H1 ∧ Ex (TK K) H0 H1 ∧ Ini H1 o (He.ga K "Over") dx [none, some (.int i)] := ⟨_, rfl, Ini.put e0 fo fd hI⟩
    rw [hH1]
    walk_at "go"
    refine ⟨_, _, _, _, _, _, rfl, i1.slt, W.s_Over, W.l_Over_key, ?_⟩
    obtain ⟨e2, i2⟩ := Ini.put (ws := putS 0 (V.int k) [none, some (.int i)]) e1 fo fd i1
    exact hQ _ e2 ⟨dx, i2.slt⟩
theorem r_mkOver {H : Hp} {i k : Int} {F : Addr → Hp → Prop} (q : ∀ o H', Ex (TK K) H H' → OverAt K H' o i k → F o H') :
    ∀ x dx, H x = none → H dx = none → dx ≠ x → sp_Over_init K (.ref x :: [V.int i, V.int k]) (upd (upd H dx (.own x)) x (.ins (He.ga K "Over") dx [])) (fun v H3 => v = .non ∧ F x H3) E0 := by
  intro x dx h1 h2 h3
  have e : Ex (TK K) H (upd (upd H dx (.own x)) x (.ins (He.ga K "Over") dx [])) := (Ex.new h2).trans (Ex.new (by rw [upd_ne (Ne.symm h3)]; exact h1))
  exact ⟨x, dx, i, k, H, rfl, e, Fre.of h1, Fre.of h2, Ini.new h3, fun H' e t => ⟨rfl, q x H' e t⟩⟩
def sp_Before_eq (K : PySem.W.Frag) : Sp := fun vs H Q _ => ∃ (o q : Addr) (ns : List Int), vs = [.ref o, .ref q] ∧ BeforeAt K H o ns ∧ ((∃ ms, BeforeAt K H q ms ∧ Q (.bl (decide (ns = ms))) H) ∨ (∃ i k, OverAt K H q i k ∧ Q (.bl false) H) ∨ (∃ xs, H q = some (.tup xs) ∧ Q (.bl false) H))
theorem ok_Before_eq (W : Wd K mg base) : OkD P w K mg base d_Before_eq ["self", "other"] 1 (sp_Before_eq K) := by
  have S : FnScope ["self", "other"] ["self", "other"] d_Before_eq.scope := ⟨rfl, rfl, rfl, by decide +kernel, rfl, by decide +kernel, by decide +kernel⟩
  refine ok_of W.d_Before_eq S (fun vs H Q E h => ?_) (fun _ _ _ _ _ _ us hl => match us, hl with | [_, _], _ => rfl) (fun cdv A outer s H vs Q E hr h => ⟨_, (pss_one (ps_ret ((pe_and (pe_callB (crOr (call_isiSl (.ref (He.ga K "Before"))) call_isi) (by rfl) (by exact W.f_isinstance) PyProof.Rows.boot_isinstance (pa_cons (pv 1) (pa_cons (pe_glob (v := .ref (He.ga K "Before")) (by rfl) (by exact W.g_Before) rfl) pa_nil))) (pe_one (pe_cmpR (l_eq hr.units) (pe_sl (pv 0)) (pe_sl (pv 1)) (nomark _))))))), ?_⟩)
  · obtain ⟨_, _, _, rfl, _⟩ := h
    rfl
  · obtain ⟨o, q, ns, rfl, hB, hq⟩ := h
    refine r_entry (σ' := [_, _]) rfl ?_
    obtain ⟨dx, p, hS, hP⟩ := hB
    walk_at "go"
    rcases hq with ⟨ms, ⟨dy, p2, hS2, hP2⟩, hQ⟩ | ⟨i, k, ⟨dy, hS2⟩, hQ⟩ | ⟨xs, hx, hQ⟩
    · refine .inl (r_isiSl hS2 W.s_Before W.x_Before W.last.2.2.1 ?_)
      walk_at "go"
      refine r_slv hS W.s_Before W.l_Before_row rfl ?_
      walk_at "go"
      refine r_slv hS2 W.s_Before W.l_Before_row rfl ?_
      exact ⟨_, ⟨p, p2, ns, ms, rfl, rfl, .inr ⟨sqT_of hP, sqT_of hP2⟩, rfl⟩, hQ⟩
    · refine .inl (r_isiSl hS2 W.s_Over W.x_Over W.last.2.2.2.1 ?_)
      walk_at "go"
      exact hQ
    · refine .inr (r_isi (.own _) (.base (.tup hx)) W.last.2.2.2.2.2 ?_)
      walk_at "go"
      exact hQ
def sp_Over_eq (K : PySem.W.Frag) : Sp := fun vs H Q _ => ∃ (o q : Addr) (i k j l : Int), vs = [.ref o, .ref q] ∧ OverAt K H o i k ∧ OverAt K H q j l ∧ ∀ H', Ex (TK K) H H' → Q (.bl (decide (i = j ∧ k = l))) H'
theorem ok_Over_eq (W : Wd K mg base) : OkD P w K mg base d_Over_eq ["self", "other"] 1 (sp_Over_eq K) := by
  have S : FnScope ["self", "other"] ["self", "other"] d_Over_eq.scope := ⟨rfl, rfl, rfl, by decide +kernel, rfl, by decide +kernel, by decide +kernel⟩
  refine ok_of W.d_Over_eq S (fun vs H Q E h => ?_) (fun _ _ _ _ _ _ us hl => match us, hl with | [_, _], _ => rfl) (fun cdv A outer s H vs Q E hr h => ⟨_, (pss_one (ps_ret ((pe_and (pe_callB (call_isiSl (.ref (He.ga K "Over"))) (by rfl) (by exact W.f_isinstance) PyProof.Rows.boot_isinstance (pa_cons (pv 1) (pa_cons (pe_glob (v := .ref (He.ga K "Over")) (by rfl) (by exact W.g_Over) rfl) pa_nil))) (pe_one (pe_cmpR (l_eq hr.units) (c_tup (T := TK K) (pa_cons (pe_sl (pv 0)) (pa_cons (pe_sl (pv 0)) pa_nil))) (c_tup (T := TK K) (pa_cons (pe_sl (pv 1)) (pa_cons (pe_sl (pv 1)) pa_nil))) (nomark _))))))), ?_⟩)
  · obtain ⟨_, _, _, _, _, _, rfl, _⟩ := h
    rfl
  · obtain ⟨o, q, i, k, j, l, rfl, ⟨dx, hS⟩, ⟨dy, hS2⟩, hQ⟩ := h
    refine r_entry (σ' := [_, _]) rfl ?_
    walk_at "go"
    refine r_isiSl hS2 W.s_Over W.x_Over W.last.2.2.2.2.1 ?_
    walk_at "go"
    refine r_slv hS W.s_Over W.l_Over_place rfl ?_
    walk_at "go"
    refine r_slv hS W.s_Over W.l_Over_key rfl ?_
    walk_at "go"
    refine ⟨by simp, fun t1 H1 ht1 e1 h1 => ?_⟩
    walk_at "go"
    refine r_slv (e1.slt hS2) W.s_Over W.l_Over_place rfl ?_
    walk_at "go"
    refine r_slv (e1.slt hS2) W.s_Over W.l_Over_key rfl ?_
    walk_at "go"
    refine ⟨by simp, fun t2 H2 ht2 e2 h2 => ?_⟩
    refine ⟨_, ⟨t1, t2, [i, k], [j, l], rfl, rfl, .inr ⟨sqT_of (e2.tup h1), sqT_of h2⟩, rfl⟩, ?_⟩
    have e : decide ([i, k] = [j, l]) = decide (i = j ∧ k = l) := decide_eq_decide.mpr (by simp)
    rw [e]
    exact hQ H2 (e1.trans e2)
end
end Hr

set_option maxHeartbeats 4000000
/-! HrS: shows, undo_take. (src/HrS.txt by expand.py) -/
namespace Hr
open PySem PySem.Spec PyProof.Rows L2 LamX SlX
-- one step of a reading; its repetition
local macro_rules | `(tactic| walk_at "st") => `(tactic| first
    | with_reducible refine r_seq ?_
    | with_reducible refine r_var rfl ?_
    | with_reducible refine r_c ?_
    | with_reducible refine r_cons ?_
    | with_reducible refine r_nil ?_
    | with_reducible refine r_op ?_
    | with_reducible refine r_asg ?_
    | with_reducible refine r_I0 ?_
    | with_reducible refine r_cb ?_
    | with_reducible refine r_call ?_
    | with_reducible refine r_ret ?_
    | with_reducible refine r_ifS ?_
    | with_reducible refine r_test ?_
    | with_reducible refine r_B ?_
    | with_reducible refine r_bl ?_
    | with_reducible refine r_Not ?_
    | with_reducible refine r_And ?_
    | with_reducible refine r_Or ?_
    | with_reducible refine r_AndV ?_
    | with_reducible refine r_OrV ?_
    | with_reducible refine r_NotV ?_
    | with_reducible refine r_If ?_
    | with_reducible refine r_un ?_
    | with_reducible refine r_U ?_
    | with_reducible refine r_drop ?_
    | with_reducible refine r_next ?_
    | with_reducible refine r_retN ?_
    | with_reducible refine r_brk ?_
    | with_reducible refine r_par ?_
    | with_reducible refine r_par3 ?_
    | with_reducible refine r_two ?_
    | with_reducible refine r_three ?_
    | with_reducible refine r_lst ?_
    | with_reducible refine r_tup ?_
    | with_reducible refine r_intc ?_
    | with_reducible refine r_min ?_
    | with_reducible refine r_sl ?_
    | with_reducible refine r_part ?_
    | with_reducible refine r_noPart ?_
    | with_reducible refine r_slice ?_
    | with_reducible refine r_revL ?_
    | with_reducible refine r_bm ?_
    | with_reducible refine r_meth ?_
    | with_reducible refine r_callK ?_
    | with_reducible refine r_sub ?_
    | with_reducible refine r_gcons ?_
    | with_reducible refine r_gnil ?_
    | with_reducible refine r_int1 ?_
    | with_reducible refine r_chain ?_
    | with_reducible refine r_isiI ?_
    | with_reducible refine r_isiB ?_
    | with_reducible refine r_tt ?_
    | with_reducible refine r_ff ?_
    | with_reducible refine r_nt ?_
    | with_reducible refine r_nf ?_
    | with_reducible refine r_iEnum ?_
    | with_reducible refine r_iZipA ?_
    | with_reducible refine r_iZip ?_
    | with_reducible refine r_iRng1 ?_
    | with_reducible refine r_iRng2 ?_
    | with_reducible refine r_iList ?_
    | with_reducible refine r_iTup ?_
    | with_reducible refine r_tupRg ?_
    | with_reducible refine r_lstRg ?_
    | with_reducible refine r_rg1 ?_
    | with_reducible refine r_rg2 ?_
    | with_reducible refine r_int2 ?_
    | with_reducible refine r_ssl ?_
    | with_reducible refine r_aug rfl ?_
    | with_reducible refine r_ipI ?_
    | with_reducible refine r_makeK ?_
    | with_reducible refine r_make ?_
    | with_reducible refine r_methK ?_
    | with_reducible refine r_ktup ?_
    | with_reducible refine r_star ?_
    | with_reducible refine r_for ?_
    | with_reducible refine r_lc ?_
    | with_reducible refine r_iOwn ?_
    | with_reducible refine r_yes ?_
    | with_reducible refine r_gn0 ?_
    | with_reducible refine r_gn1 ?_
    | with_reducible refine r_gn2 ?_
    | with_reducible refine r_gn3 ?_
    | with_reducible refine r_gn4 ?_
    | with_reducible refine r_gn5 ?_
    | with_reducible refine r_gn6 ?_
    | with_reducible refine r_gn7 ?_
    | with_reducible refine r_gn8 ?_
    | with_reducible refine r_gn9 ?_
    | with_reducible refine r_gn10 ?_
    | with_reducible refine r_gn11 ?_
    | with_reducible refine r_gn12 ?_
    | with_reducible refine r_gn13 ?_
    | with_reducible refine r_gn14 ?_
    | with_reducible refine r_gn15 ?_
    | with_reducible refine r_gn16 ?_
    | with_reducible refine r_gn17 ?_
    | with_reducible refine r_gn18 ?_
    | with_reducible refine r_gn19 ?_
    | with_reducible refine r_gn20 ?_
    | with_reducible refine r_gn21 ?_
    | with_reducible refine r_gn22 ?_
    | with_reducible refine r_gn23 ?_
    | with_reducible refine r_gn24 ?_
    | with_reducible refine r_gn25 ?_)
local macro_rules | `(tactic| walk_at "go") => `(tactic| repeat walk_at "st")
-- growth, by the chain of what is known
local macro_rules | `(tactic| walk_at "ex") => `(tactic| first
    | exact Ex.refl _ | assumption | (refine Ex.trans ?_ (by assumption); walk_at "ex"))
local macro_rules | `(tactic| walk_at "f1") => `(tactic| first
    | assumption | exact Or.inl (by assumption) | exact Or.inr (by assumption)
    | (refine Ex.ra ?_ (by assumption); walk_at "ex") | (refine Ex.lst ?_ (by assumption); walk_at "ex") | (refine Ex.tup ?_ (by assumption); walk_at "ex") | (refine Ex.slt ?_ (by assumption); walk_at "ex")
    | (refine Or.inl (Ex.lst ?_ (by assumption)); walk_at "ex") | (refine Or.inr (Ex.tup ?_ (by assumption)); walk_at "ex")
    | (refine sqL_of (Ex.lst ?_ (by assumption)); walk_at "ex") | (refine sqT_of (Ex.tup ?_ (by assumption)); walk_at "ex") | (refine Ex.seqL ?_ (by assumption); walk_at "ex")
    | (refine Ex.t ?_ (by assumption); walk_at "ex"))

/-- by determinism -/
theorem Least.det {ns : List Int} {cs : List Nat} {c d : Nat} (h1 : Least ns cs c) (h2 : Least ns cs d) : c = d := by
  have a := h1.2 d h2.1
  have b := h2.2 c h1.1
  omega
theorem Down.det {m : Nat} {ns : List Int} {k : Int} {p : Nat} {us vs : List Nat} (h1 : Down m ns k p us) : Down m ns k p vs → us = vs := by
  induction h1 generalizing vs with
  | stop h =>
    intro h2
    cases h2 with
    | stop _ => rfl
    | stay hl _ => exact absurd hl.1 (by rw [h]; simp)
    | go hl _ _ => exact absurd hl.1 (by rw [h]; simp)
  | stay hl hk =>
    intro h2
    cases h2 with
    | stop h => exact absurd hl.1 (by rw [h]; simp)
    | stay _ _ => rfl
    | go hl2 hk2 _ =>
      rw [hl.det hl2] at hk
      exact absurd hk hk2
  | go hl hk _ ih =>
    intro h2
    cases h2 with
    | stop h => exact absurd hl.1 (by rw [h]; simp)
    | stay hl2 hk2 =>
      rw [hl.det hl2] at hk
      exact absurd hk2 hk
    | go hl2 _ h3 =>
      have e := hl.det hl2
      subst e
      rw [ih h3]
/-- what Before(bs) is to say of a row, a least key and a place -/
def ShowsB (m : Nat) (ns : List Int) (least : Int) (p : Nat) (bs : List Int) : Prop :=
  bs.length = ns.length + 1 ∧ IsHeap m bs ∧ key bs 0 = least ∧ ∃ us, Down m (restL bs) (key (restL bs) 0) 0 us ∧ movedL (restL bs) us = ns ∧ us.getD (us.length - 1) 0 = p
/-- what Over(q, k) is to say -/
def ShowsO (m : Nat) (ns : List Int) (least : Int) (p q : Nat) (k : Int) : Prop :=
  q < ns.length ∧ key ns q = k ∧ key (aheadL m ns least p) (par m ns.length) = k ∧ key ns p < k
section
variable {P : Program} {w : World} {K : PySem.W.Frag} {mg : Str → Option Value} {base : Heap}
def sp_Before_shows (K : PySem.W.Frag) : Sp := fun vs H Q _ => ∃ (o a : Addr) (ns bs : List Int) (least : Int) (p m : Nat), vs = [.ref o, .ref a, .int least, .int (p : Nat), .int (m : Nat)] ∧ BeforeAt K H o bs ∧ RA H a (ns.map V.int) ∧ Ahd m ns least p ∧ bs.length ≤ 12 ∧ Tabs (TK K) H ∧
  ∀ b H', Ex (TK K) H H' → (b = true ↔ ShowsB m ns least p bs) → Q (.bl b) H'
theorem ok_Before_shows (W : Wd K mg base) : OkK P w K mg base d_Before_shows ["self", "row", "least", "place", "arms"] 4 9 (sp_Before_shows K) := by
  have S : FnScope ["self", "row", "least", "place", "arms", "found"] ["self", "row", "least", "place", "arms"] d_Before_shows.scope := ⟨rfl, rfl, rfl, by decide +kernel, rfl, by decide +kernel, by decide +kernel⟩
  refine okK_of W.d_Before_shows (List.cons_ne_nil _ _) S (fun vs H Q E h => ?_) (fun _ _ _ _ _ _ us ws hl hw => match us, ws, hl, hw with | [_, _, _, _], [_], _, _ => rfl) (fun cdv A outer s H vs Q E hr h => ⟨_, (pss_cons (ps_expr (c_call (ok_check_ahead W) hr (by exact W.g_check_ahead) (pa_cons (pv 1) (pa_cons (pv 2) (pa_cons (pv 3) (pa_cons (pv 4) pa_nil))))))
      (pss_cons (ps_if (PW.pt (pw_or (pt_cmpR op_ne (pe_callB l_len (by rfl) (by exact W.f_len) boot_len (pa_cons (pe_sl (pv 0)) pa_nil)) (pe_op op_add (pe_callB l_len (by rfl) (by exact W.f_len) boot_len (pa_cons (pv 1) pa_nil)) (pe_int)) (nomark _)) (pw_or1 (pt_cmpR (l_ne hr.units) (c_call (ok_faults_in W) hr (by exact W.g_faults_in) (pa_cons (pe_sl (pv 0)) (pa_cons (c_makeK (ok_Tree_init W) (by exact W.k_Tree) hr (by exact W.g_Tree) (pa_cons (pe_callB l_len (by rfl) (by exact W.f_len) boot_len (pa_cons (pe_sl (pv 0)) pa_nil)) pa_nil) (pk_cons (pv 4) pk_nil)) pa_nil))) (c_lst (T := TK K) pa_nil) (nomark _))))) (pss_one (ps_ret (pe_bl))) pss_nil)
      (pss_cons (ps_set (i := 5) S.nd rfl (Or.inl rfl) (c_call (ok_taken W) hr (by exact W.g_taken) (pa_cons (pe_sl (pv 0)) (pa_cons (pv 4) pa_nil))))
      (pss_one (ps_ret ((pe_and (pe_cmpR op_eq (pe_ix l_ix (pe_sl (pv 0)) (pe_int) (fun _ _ => rfl)) (pv 2) (nomark _)) (pe_and (pe_cmpR (l_eq hr.units) (pe_sl (pv 5)) (pe_callTy (l_tuple (T := TK K)) (by rfl) (by exact W.f_tuple) PyProof.Rows.boot_tuple (pa_cons (pv 1) pa_nil)) (nomark _)) (pe_one (pe_cmpR op_eq (pe_ix l_ix (pe_sl (pv 5)) (pe_un un_neg (pe_int)) (fun _ _ => rfl)) (pv 3) (nomark _))))))))))), ?_⟩)
  · obtain ⟨_, _, _, _, _, _, _, rfl, _⟩ := h
    rfl
  · obtain ⟨o, a, ns, bs, least, p, m, rfl, hB, hR, hA, b12, hTb, hQ⟩ := h
    refine r_entry (σ' := [_, _, _, _, _, _]) rfl ?_
    have m1 := hA.m1
    have m4 := hA.m4
    have n1 := hA.n1
    obtain ⟨dx, q, hS, hP⟩ := hB
    walk_at "go"
    refine ⟨a, ns, least, p, m, rfl, hR, hA, fun H1 e1 => ?_⟩
    walk_at "go"
    refine r_slv (e1.slt hS) W.s_Before W.l_Before_row rfl ?_
    walk_at "go"
    refine r_len (.inr (e1.tup hP)) ?_
    walk_at "go"
    refine r_len (e1.ra hR) ?_
    walk_at "go"
    refine ⟨rfl, ?_⟩
    rw [dec_i, List.length_map, List.length_map]
    walk_at "go"
    refine r_ite (fun hb => ?_) fun hb => ?_
    · have hne : ¬ (bs.length : Int) = (ns.length : Int) + 1 := by simpa using hb
      walk_at "go"
      exact hQ false H1 e1 ⟨fun z => (by cases z), fun z => absurd z.1 (by omega)⟩
    · have hbl : (bs.length : Int) = (ns.length : Int) + 1 := by simpa using hb
      have hbl2 : bs.length = ns.length + 1 := by omega
      walk_at "go"
      refine r_slv (e1.slt hS) W.s_Before W.l_Before_row rfl ?_
      walk_at "go"
      refine r_slv (e1.slt hS) W.s_Before W.l_Before_row rfl ?_
      walk_at "go"
      refine r_len (.inr (e1.tup hP)) ?_
      walk_at "go"
      rw [List.length_map]
      refine r_mkTree m1 m4 b12 fun ot H2 e2 hT => ?_
      walk_at "go"
      have e12 := e1.trans e2
      refine ⟨q, ot, bs, m, rfl, .inr (e12.tup hP), hT, m1, m4, b12, fun l fs H3 hl e3 h3 hf => ?_⟩
      walk_at "go"
      refine ⟨by simp, fun l2 H4 hl2 e4 h4 => ?_⟩
      refine ⟨_, eqb_nil (e4.lst h3) h4, ?_⟩
      walk_at "go"
      have e14 := e12.trans (e3.trans e4)
      refine r_ite (fun hc => ?_) fun hc => ?_
      · have hnf : fs ≠ [] := by simpa using hc
        walk_at "go"
        exact hQ false H4 e14 ⟨fun z => (by cases z), fun z => absurd (hf.mpr z.2.1) hnf⟩
      · have hh : IsHeap m bs := hf.mp (by simpa using hc)
        walk_at "go"
        refine r_slv (e14.slt hS) W.s_Before W.l_Before_row rfl ?_
        walk_at "go"
        refine ⟨q, m, bs, rfl, .inr (e14.tup hP), by omega, b12, m1, m4, e14.t hTb, fun os us H5 e5 hd hSi => ?_⟩
        walk_at "go"
        have e15 := e14.trans e5
        have hu0 := List.length_pos_iff.mpr hd.ne
        have key2 : ∀ us', Down m (restL bs) (key (restL bs) 0) 0 us' → us' = us := fun us' h => h.det hd
        refine r_slv (e15.slt hS) W.s_Before W.l_Before_row rfl ?_
        walk_at "go"
        refine r_ix (.inr (e15.tup hP)) (at_key (p := 0) (by omega)) ?_
        walk_at "go"
        refine ⟨rfl, ?_⟩
        rw [dec_i]
        walk_at "go"
        refine r_ite (fun h0 => ?_) fun h0 => ?_
        · have h0' : key bs 0 = least := of_decide_eq_true h0
          obtain ⟨dy, pr, pw, kk, hS5, h51, h52⟩ := hSi
          walk_at "go"
          refine r_slv hS5 W.s_Sift W.l_Sift_row rfl ?_
          walk_at "go"
          refine ⟨a, _, rfl, e15.ra hR, fun t H6 e6 h6 => ?_⟩
          walk_at "go"
          refine ⟨_, ⟨pr, t, movedL (restL bs) us, ns, rfl, rfl, .inr ⟨sqT_of (e6.tup h51), sqT_of h6⟩, rfl⟩, ?_⟩
          walk_at "go"
          refine r_ite (fun hm => ?_) fun hm => ?_
          · have hm' : movedL (restL bs) us = ns := of_decide_eq_true hm
            walk_at "go"
            refine r_slv (e6.slt hS5) W.s_Sift W.l_Sift_way rfl ?_
            walk_at "go"
            refine r_ix (.inr (e6.tup h52)) (nI_last hd.ne) ?_
            walk_at "go"
            refine ⟨rfl, ?_⟩
            rw [dec_i]
            refine hQ _ H6 (e15.trans e6) ⟨fun z => ?_, fun ⟨_, _, _, us', z1, _, z3⟩ => ?_⟩
            · have z2 := of_decide_eq_true z
              exact ⟨hbl2, hh, h0', us, hd, hm', by omega⟩
            · rw [key2 us' z1] at z3
              exact decide_eq_true (by rw [z3])
          · have hm' : ¬ movedL (restL bs) us = ns := of_decide_eq_false hm
            exact hQ _ H6 (e15.trans e6) ⟨fun z => (by cases z), fun ⟨_, _, _, us', z1, z2, _⟩ => absurd (by rw [← key2 us' z1]; exact z2) hm'⟩
        · have h0' : ¬ key bs 0 = least := of_decide_eq_false h0
          exact hQ _ H5 e15 ⟨fun z => (by cases z), fun z => absurd z.2.2.1 h0'⟩
def sp_Over_shows (K : PySem.W.Frag) : Sp := fun vs H Q _ => ∃ (o a : Addr) (ns : List Int) (least : Int) (p m q : Nat) (k : Int), vs = [.ref o, .ref a, .int least, .int (p : Nat), .int (m : Nat)] ∧ OverAt K H o (q : Nat) k ∧ RA H a (ns.map V.int) ∧ Ahd m ns least p ∧
  ∀ b H', Ex (TK K) H H' → (b = true ↔ ShowsO m ns least p q k) → Q (.bl b) H'
theorem ok_Over_shows (W : Wd K mg base) : OkK P w K mg base d_Over_shows ["self", "row", "least", "place", "arms"] 4 8 (sp_Over_shows K) := by
  have S : FnScope ["self", "row", "least", "place", "arms", "found"] ["self", "row", "least", "place", "arms"] d_Over_shows.scope := ⟨rfl, rfl, rfl, by decide +kernel, rfl, by decide +kernel, by decide +kernel⟩
  refine okK_of W.d_Over_shows (List.cons_ne_nil _ _) S (fun vs H Q E h => ?_) (fun _ _ _ _ _ _ us ws hl hw => match us, ws, hl, hw with | [_, _, _, _], [_], _, _ => rfl) (fun cdv A outer s H vs Q E hr h => ⟨_, (pss_cons (ps_expr (c_call (ok_check_ahead W) hr (by exact W.g_check_ahead) (pa_cons (pv 1) (pa_cons (pv 2) (pa_cons (pv 3) (pa_cons (pv 4) pa_nil))))))
      (pss_cons (ps_set (i := 5) S.nd rfl (Or.inl rfl) (c_call (ok_row_ahead W) hr (by exact W.g_row_ahead) (pa_cons (pv 1) (pa_cons (c_makeK (ok_Tree_init W) (by exact W.k_Tree) hr (by exact W.g_Tree) (pa_cons (pe_callB l_len (by rfl) (by exact W.f_len) boot_len (pa_cons (pv 1) pa_nil)) pa_nil) (pk_cons (pv 4) pk_nil)) (pa_cons (pv 2) (pa_cons (pv 3) pa_nil))))))
      (pss_cons (ps_if (PW.pt (pw_or (pt_not (pt_val (c_call (ok_is_number W) hr (by exact W.g_is_number) (pa_cons (pe_sl (pv 0)) (pa_cons (pe_int) (pa_cons (pe_op op_sub (pe_callB l_len (by rfl) (by exact W.f_len) boot_len (pa_cons (pv 1) pa_nil)) (pe_int)) pa_nil)))))) (pw_or1 (pt_cmpR op_ne (pe_ix l_ix (pv 1) (pe_sl (pv 0)) (fun _ _ => rfl)) (pe_sl (pv 0)) (nomark _))))) (pss_one (ps_ret (pe_bl))) pss_nil)
      (pss_one (ps_ret ((pe_and (pe_cmpR op_eq (pe_ix l_ix (pv 5) (c_call (ok_place_above W) hr (by exact W.g_place_above) (pa_cons (pv 5) (pa_cons (pv 4) pa_nil))) (fun _ _ => rfl)) (pe_sl (pv 0)) (nomark _)) (pe_one (pe_cmpR op_gt (pe_sl (pv 0)) (pe_ix l_ix (pv 1) (pv 3) (fun _ _ => rfl)) (nomark _)))))))))), ?_⟩)
  · obtain ⟨_, _, _, _, _, _, _, _, rfl, _⟩ := h
    rfl
  · obtain ⟨o, a, ns, least, p, m, q, k, rfl, ⟨dx, hS⟩, hR, hA, hQ⟩ := h
    refine r_entry (σ' := [_, _, _, _, _, _]) rfl ?_
    have m1 := hA.m1
    have m4 := hA.m4
    have n1 := hA.n1
    have n11 := hA.n11
    have hpn := hA.pn
    walk_at "go"
    refine ⟨a, ns, least, p, m, rfl, hR, hA, fun H1 e1 => ?_⟩
    walk_at "go"
    refine r_len (e1.ra hR) ?_
    walk_at "go"
    rw [List.length_map]
    refine r_mkTree m1 m4 (by omega) fun ot H2 e2 hT => ?_
    walk_at "go"
    have e12 := e1.trans e2
    refine ⟨a, ot, ns, least, p, m, rfl, e12.ra hR, hT, hpn, m1, m4, n11, fun l H3 e3 h3 => ?_⟩
    walk_at "go"
    have e13 := e12.trans e3
    refine r_slv (e13.slt hS) W.s_Over W.l_Over_place rfl ?_
    walk_at "go"
    refine r_len (e13.ra hR) ?_
    walk_at "go"
    rw [List.length_map]
    refine ⟨_, _, _, rfl, ?_⟩
    walk_at "go"
    have hpar := Nat.lt_of_le_of_lt (Nat.div_le_self (ns.length - 1) m) (show ns.length - 1 < ns.length + 1 by omega)
    refine r_ite (fun hc => ?_) fun hc => ?_
    · have hq : ¬ q < ns.length := by
        have := hc
        simp at this
        omega
      walk_at "go"
      exact hQ _ H3 e13 ⟨fun z => (by cases z), fun z => absurd z.1 hq⟩
    · have hq : q < ns.length := by
        have := hc
        simp at this
        omega
      walk_at "go"
      refine r_slv (e13.slt hS) W.s_Over W.l_Over_place rfl ?_
      refine r_ix (e13.ra hR) (at_key hq) ?_
      walk_at "go"
      refine r_slv (e13.slt hS) W.s_Over W.l_Over_key rfl ?_
      refine ⟨rfl, ?_⟩
      rw [dec_i]
      walk_at "go"
      refine r_ite (fun hk => ?_) fun hk => ?_
      · have hk2 : ¬ key ns q = k := by simpa using hk
        walk_at "go"
        exact hQ _ H3 e13 ⟨fun z => (by cases z), fun z => absurd z.2.1 hk2⟩
      · have hk2 : key ns q = k := by simpa using hk
        walk_at "go"
        refine ⟨l, _, m, ns.length, rfl, h3, aheadL_length _ _ _ _, n1, m1, m4, ?_⟩
        refine r_ix (.inl h3) (at_key (by rw [aheadL_length]; exact hpar)) ?_
        walk_at "go"
        refine r_slv (e13.slt hS) W.s_Over W.l_Over_key rfl ?_
        refine ⟨rfl, ?_⟩
        rw [dec_i]
        walk_at "go"
        refine r_ite (fun ha => ?_) fun ha => ?_
        · have ha2 := of_decide_eq_true ha
          walk_at "go"
          refine r_slv (e13.slt hS) W.s_Over W.l_Over_key rfl ?_
          walk_at "go"
          refine r_ix (e13.ra hR) (at_key hpn) ?_
          walk_at "go"
          exact hQ _ H3 e13 ⟨fun z => ⟨hq, hk2, ha2, of_decide_eq_true z⟩, fun z => decide_eq_true z.2.2.2⟩
        · have ha2 := of_decide_eq_false ha
          exact hQ _ H3 e13 ⟨fun z => (by cases z), fun z => absurd z.2.2.1 ha2⟩
def sp_undo_take (K : PySem.W.Frag) : Sp := fun vs H Q _ => ∃ (a : Addr) (ns : List Int) (least : Int) (p m : Nat), vs = [.ref a, .int least, .int (p : Nat), .int (m : Nat)] ∧ H a = some (.lst (ns.map V.int)) ∧ Ahd m ns least p ∧
  (key ns p < key (aheadL m ns least p) (par m ns.length) → key (aheadL m ns least p) (par m ns.length) ∈ ns) ∧
  ∀ o H', Ex (TK K) H H' → ((key ns p < key (aheadL m ns least p) (par m ns.length) ∧ ∃ q : Nat, ns[q]? = some (key (aheadL m ns least p) (par m ns.length)) ∧ OverAt K H' o (q : Nat) (key (aheadL m ns least p) (par m ns.length))) ∨
    (¬ key ns p < key (aheadL m ns least p) (par m ns.length) ∧ BeforeAt K H' o (aheadL m ns least p))) → Q (.ref o) H'
theorem ok_undo_take (W : Wd K mg base) : OkK P w K mg base d_undo_take ["row", "least", "place", "arms"] 3 8 (sp_undo_take K) := by
  have S : FnScope ["row", "least", "place", "arms", "found", "key"] ["row", "least", "place", "arms"] d_undo_take.scope := ⟨rfl, rfl, rfl, by decide +kernel, rfl, by decide +kernel, by decide +kernel⟩
  refine okK_of W.d_undo_take (List.cons_ne_nil _ _) S (fun vs H Q E h => ?_) (fun _ _ _ _ _ _ us ws hl hw => match us, ws, hl, hw with | [_, _, _], [_], _, _ => rfl) (fun cdv A outer s H vs Q E hr h => ⟨_, (pss_cons (ps_expr (c_call (ok_check_ahead W) hr (by exact W.g_check_ahead) (pa_cons (pv 0) (pa_cons (pv 1) (pa_cons (pv 2) (pa_cons (pv 3) pa_nil))))))
      (pss_cons (ps_set (i := 4) S.nd rfl (Or.inl rfl) (c_call (ok_row_ahead W) hr (by exact W.g_row_ahead) (pa_cons (pv 0) (pa_cons (c_makeK (ok_Tree_init W) (by exact W.k_Tree) hr (by exact W.g_Tree) (pa_cons (pe_callB l_len (by rfl) (by exact W.f_len) boot_len (pa_cons (pv 0) pa_nil)) pa_nil) (pk_cons (pv 3) pk_nil)) (pa_cons (pv 1) (pa_cons (pv 2) pa_nil))))))
      (pss_cons (ps_set (i := 5) S.nd rfl (Or.inl rfl) (pe_ix l_ix (pv 4) (c_call (ok_place_above W) hr (by exact W.g_place_above) (pa_cons (pv 4) (pa_cons (pv 3) pa_nil))) (fun _ _ => rfl)))
      (pss_one (ps_ret (pe_ifExp (pt_cmpR op_gt (pv 5) (pe_ix l_ix (pv 4) (pe_un un_neg (pe_int)) (fun _ _ => rfl)) (nomark _)) (c_make (ok_Over_init W) (by exact W.k_Over) hr (by exact W.g_Over) (pa_cons (pe_bm PySem.F.plainAttrs_list PySem.F.slot_list_index PySem.F.type_list_index l_index (pe_callTy (l_list (T := TK K)) (by rfl) (by exact W.f_list) PyProof.Rows.boot_list (pa_cons (pv 0) pa_nil)) (pa_cons (pv 5) pa_nil)) (pa_cons (pv 5) pa_nil))) (c_make (ok_Before_init W) (by exact W.k_Before) hr (by exact W.g_Before) (pa_cons (pv 4) pa_nil)))))))), ?_⟩)
  · obtain ⟨_, _, _, _, _, rfl, _⟩ := h
    rfl
  · obtain ⟨a, ns, least, p, m, rfl, ha, hA, hin, hQ⟩ := h
    refine r_entry (σ' := [_, _, _, _, _, _]) rfl ?_
    have m1 := hA.m1
    have m4 := hA.m4
    have n1 := hA.n1
    have n11 := hA.n11
    have hpn := hA.pn
    have hpar := Nat.lt_of_le_of_lt (Nat.div_le_self (ns.length - 1) m) (show ns.length - 1 < ns.length + 1 by omega)
    walk_at "go"
    refine ⟨a, ns, least, p, m, rfl, .inl ha, hA, fun H1 e1 => ?_⟩
    walk_at "go"
    refine r_len (.inl (e1.lst ha)) ?_
    walk_at "go"
    rw [List.length_map]
    refine r_mkTree m1 m4 (by omega) fun ot H2 e2 hT => ?_
    walk_at "go"
    have e12 := e1.trans e2
    refine ⟨a, ot, ns, least, p, m, rfl, .inl (e12.lst ha), hT, hpn, m1, m4, n11, fun l H3 e3 h3 => ?_⟩
    walk_at "go"
    have e13 := e12.trans e3
    refine ⟨l, _, m, ns.length, rfl, h3, aheadL_length _ _ _ _, n1, m1, m4, ?_⟩
    refine r_ix (.inl h3) (at_key (by rw [aheadL_length]; exact hpar)) ?_
    walk_at "go"
    have hlast : atI ((aheadL m ns least p).map V.int) (-1) = some (.int (key ns p)) := at_last (by unfold aheadL; simp)
    refine r_ix (.inl h3) hlast ?_
    walk_at "go"
    refine r_ite (fun hc => ?_) fun hc => ?_
    · have hc2 := of_decide_eq_true hc
      walk_at "go"
      refine ⟨a, _, rfl, .inl (e13.lst ha), fun l2 H4 hl2 e4 h4 => ?_⟩
      walk_at "go"
      refine ⟨ty_lst h4, ?_⟩
      walk_at "go"
      refine ⟨l2, ns, _, rfl, rfl, h4, hin hc2, fun q hq => ?_⟩
      walk_at "go"
      exact r_mkOver fun o H5 e5 hO => hQ o H5 (e13.trans (e4.trans e5)) (.inl ⟨hc2, q, hq, hO⟩)
    · have hc2 := of_decide_eq_false hc
      walk_at "go"
      exact r_mkBefore (.inl h3) fun o H5 e5 hB => hQ o H5 (e13.trans e5) (.inr ⟨hc2, hB⟩)
end
end Hr

set_option maxHeartbeats 4000000
/-! HrT: the law's draws. (src/HrT.txt by expand.py) -/
namespace Hr
open PySem PySem.Spec PyProof.Rows L2 LamX SlX
-- one step of a reading; its repetition
local macro_rules | `(tactic| walk_at "st") => `(tactic| first
    | with_reducible refine r_seq ?_
    | with_reducible refine r_var rfl ?_
    | with_reducible refine r_c ?_
    | with_reducible refine r_cons ?_
    | with_reducible refine r_nil ?_
    | with_reducible refine r_op ?_
    | with_reducible refine r_asg ?_
    | with_reducible refine r_I0 ?_
    | with_reducible refine r_cb ?_
    | with_reducible refine r_call ?_
    | with_reducible refine r_ret ?_
    | with_reducible refine r_ifS ?_
    | with_reducible refine r_test ?_
    | with_reducible refine r_B ?_
    | with_reducible refine r_bl ?_
    | with_reducible refine r_Not ?_
    | with_reducible refine r_And ?_
    | with_reducible refine r_Or ?_
    | with_reducible refine r_AndV ?_
    | with_reducible refine r_OrV ?_
    | with_reducible refine r_NotV ?_
    | with_reducible refine r_If ?_
    | with_reducible refine r_un ?_
    | with_reducible refine r_U ?_
    | with_reducible refine r_drop ?_
    | with_reducible refine r_next ?_
    | with_reducible refine r_retN ?_
    | with_reducible refine r_brk ?_
    | with_reducible refine r_par ?_
    | with_reducible refine r_par3 ?_
    | with_reducible refine r_two ?_
    | with_reducible refine r_three ?_
    | with_reducible refine r_lst ?_
    | with_reducible refine r_tup ?_
    | with_reducible refine r_intc ?_
    | with_reducible refine r_min ?_
    | with_reducible refine r_sl ?_
    | with_reducible refine r_part ?_
    | with_reducible refine r_noPart ?_
    | with_reducible refine r_slice ?_
    | with_reducible refine r_revL ?_
    | with_reducible refine r_bm ?_
    | with_reducible refine r_meth ?_
    | with_reducible refine r_callK ?_
    | with_reducible refine r_sub ?_
    | with_reducible refine r_gcons ?_
    | with_reducible refine r_gnil ?_
    | with_reducible refine r_int1 ?_
    | with_reducible refine r_chain ?_
    | with_reducible refine r_isiI ?_
    | with_reducible refine r_isiB ?_
    | with_reducible refine r_tt ?_
    | with_reducible refine r_ff ?_
    | with_reducible refine r_nt ?_
    | with_reducible refine r_nf ?_
    | with_reducible refine r_iEnum ?_
    | with_reducible refine r_iZipA ?_
    | with_reducible refine r_iZip ?_
    | with_reducible refine r_iRng1 ?_
    | with_reducible refine r_iRng2 ?_
    | with_reducible refine r_iList ?_
    | with_reducible refine r_iTup ?_
    | with_reducible refine r_tupRg ?_
    | with_reducible refine r_lstRg ?_
    | with_reducible refine r_rg1 ?_
    | with_reducible refine r_rg2 ?_
    | with_reducible refine r_int2 ?_
    | with_reducible refine r_ssl ?_
    | with_reducible refine r_aug rfl ?_
    | with_reducible refine r_ipI ?_
    | with_reducible refine r_makeK ?_
    | with_reducible refine r_make ?_
    | with_reducible refine r_methK ?_
    | with_reducible refine r_ktup ?_
    | with_reducible refine r_star ?_
    | with_reducible refine r_for ?_
    | with_reducible refine r_lc ?_
    | with_reducible refine r_iOwn ?_
    | with_reducible refine r_yes ?_
    | with_reducible refine r_gn0 ?_
    | with_reducible refine r_gn1 ?_
    | with_reducible refine r_gn2 ?_
    | with_reducible refine r_gn3 ?_
    | with_reducible refine r_gn4 ?_
    | with_reducible refine r_gn5 ?_
    | with_reducible refine r_gn6 ?_
    | with_reducible refine r_gn7 ?_
    | with_reducible refine r_gn8 ?_
    | with_reducible refine r_gn9 ?_
    | with_reducible refine r_gn10 ?_
    | with_reducible refine r_gn11 ?_
    | with_reducible refine r_gn12 ?_
    | with_reducible refine r_gn13 ?_
    | with_reducible refine r_gn14 ?_
    | with_reducible refine r_gn15 ?_
    | with_reducible refine r_gn16 ?_
    | with_reducible refine r_gn17 ?_
    | with_reducible refine r_gn18 ?_
    | with_reducible refine r_gn19 ?_
    | with_reducible refine r_gn20 ?_
    | with_reducible refine r_gn21 ?_
    | with_reducible refine r_gn22 ?_
    | with_reducible refine r_gn23 ?_
    | with_reducible refine r_gn24 ?_
    | with_reducible refine r_gn25 ?_)
local macro_rules | `(tactic| walk_at "go") => `(tactic| repeat walk_at "st")
-- growth, by the chain of what is known
local macro_rules | `(tactic| walk_at "ex") => `(tactic| first
    | exact Ex.refl _ | assumption | (refine Ex.trans ?_ (by assumption); walk_at "ex"))
local macro_rules | `(tactic| walk_at "f1") => `(tactic| first
    | assumption | exact Or.inl (by assumption) | exact Or.inr (by assumption)
    | (refine Ex.ra ?_ (by assumption); walk_at "ex") | (refine Ex.lst ?_ (by assumption); walk_at "ex") | (refine Ex.tup ?_ (by assumption); walk_at "ex") | (refine Ex.slt ?_ (by assumption); walk_at "ex")
    | (refine Or.inl (Ex.lst ?_ (by assumption)); walk_at "ex") | (refine Or.inr (Ex.tup ?_ (by assumption)); walk_at "ex")
    | (refine sqL_of (Ex.lst ?_ (by assumption)); walk_at "ex") | (refine sqT_of (Ex.tup ?_ (by assumption)); walk_at "ex") | (refine Ex.seqL ?_ (by assumption); walk_at "ex")
    | (refine Ex.t ?_ (by assumption); walk_at "ex"))

/-! ### the draw: a list that changes -/
def hide (H : Hp) (d : Addr) : Hp := fun b => if b = d then none else H b
theorem hide_ne {H : Hp} {b d : Addr} (h : b ≠ d) : hide H d b = H b := if_neg h
theorem hide_same {H : Hp} {d : Addr} : hide H d d = none := if_pos rfl
/-- the draw at d: the script at a, the count k -/
def Drw (K : PySem.W.Frag) (H : Hp) (d a : Addr) (ns : List Int) (k : Nat) : Prop := H d = some (.lst [.ref a, .int (k : Nat)]) ∧ SqL K H a (ns.map V.int)
theorem ints_ne_draw {zs : List Int} {a : Addr} {x : V} : zs.map V.int ≠ [V.ref a, x] := fun h => by
  cases zs with
  | nil => cases h
  | cons z r =>
    rw [List.map_cons] at h
    injection h with h _
    cases h
section
variable {T : List (Addr × Str)} {K : PySem.W.Frag} {H H' H1 G : Hp} {d a b : Addr} {ns zs : List Int} {k : Nat} {xs : List V}
theorem Drw.ne (h : Drw K H d a ns k) (hb : H b = some (.lst (zs.map V.int))) : b ≠ d := fun z => by
  rw [z, h.1] at hb
  injection hb with hb
  injection hb with hb
  exact ints_ne_draw hb.symm
theorem Drw.neT (h : Drw K H d a ns k) (hb : H b = some (.tup xs)) : b ≠ d := fun z => by
  rw [z, h.1] at hb
  cases hb
theorem Drw.scr (h : Drw K H d a ns k) : SqL K (hide H d) a (ns.map V.int) := by
  rcases h.2 with (z | ⟨o, z⟩) | z
  · exact .inl (.inl (by rw [hide_ne (h.ne z)]; exact z))
  · refine .inl (.inr ⟨o, ?_⟩)
    rw [hide_ne]
    · exact z
    · intro w
      rw [w, h.1] at z
      cases z
  · exact .inr z
theorem Drw.ex (h : Drw K H d a ns k) (e : Ex T H H') : Drw K H' d a ns k := ⟨e.lst h.1, e.seqL h.2⟩
theorem Drw.of (h : Drw K H d a ns k) (e : Ex T (hide H d) H') {j : Nat} (hd : H' d = some (.lst [.ref a, .int (j : Nat)])) : Drw K H' d a ns j := ⟨hd, e.seqL h.scr⟩
theorem hide_tabs (h : H d = some (.lst xs)) (t : Tabs T H) : Tabs T (hide H d) := fun p hp => by
  obtain ⟨ps, a1, a2, a3⟩ := t p hp
  have ne : ∀ {b u}, H b = some u → u ≠ .lst xs → hide H d b = some u := fun {b u} e z => by
    rw [hide_ne (fun w => z (by rw [w, h] at e; exact (Option.some.inj e).symm))]
    exact e
  refine ⟨ps, ne a1 fun z => (by cases z), a2, fun pos cv hc => ?_⟩
  obtain ⟨c, e1, e2⟩ := a3 pos cv hc
  exact ⟨c, e1, ne e2 fun z => lst_ne_code c _ z.symm⟩
/-- from what is known but for d on -/
theorem hide_ex (h : H d = some (.lst xs)) : Ex T (hide H d) H := ⟨fun b o e n => by
  by_cases z : b = d
  · rw [z, hide_same] at e
    cases e
  · rw [hide_ne z] at e
    exact e, fun t p hp => by
  obtain ⟨ps, a1, a2, a3⟩ := t p hp
  have up : ∀ {b u}, hide H d b = some u → H b = some u := fun {b u} e => by
    by_cases z : b = d
    · rw [z, hide_same] at e
      cases e
    · rw [hide_ne z] at e
      exact e
  exact ⟨ps, up a1, a2, fun pos cv hc => (a3 pos cv hc).imp fun c w => ⟨w.1, up w.2⟩⟩⟩
/-- growth, read without d -/
theorem ex_hide (e : Ex T H H') (h : H d = some (.lst xs)) : Ex T (hide H d) (hide H' d) := ⟨fun b o q n => by
  by_cases z : b = d
  · rw [z, hide_same] at q
    cases q
  · rw [hide_ne z] at q ⊢
    exact e.k b o q n, fun t => hide_tabs (e.lst h) (e.t ((hide_ex h).t t))⟩
theorem hide_mut (e : Ex T H H1) (h : H d = some (.lst xs)) {ys zs : List V} (h1 : H1 d = some (.lst zs)) : Ex T (hide H d) (upd H1 d (.lst ys)) := ((hide_ex h).trans e).mut (Fre.of hide_same) h1
/-- two draws, one behind another -/
theorem hide_trans (e : Ex T (hide H d) H1) (h1 : H1 d = some (.lst xs)) (e2 : Ex T (hide H1 d) H') : Ex T (hide H d) H' := Ex.trans ⟨fun b o q n => by
  by_cases z : b = d
  · rw [z, hide_same] at q
    cases q
  · rw [hide_ne z]
    exact e.k b o q n, fun t => hide_tabs h1 (e.t t)⟩ e2
end
/-- two ways that join -/
theorem join {A : Prop} {F R : Addr → Hp → Prop} (h1 : (∀ l H2, R l H2 → F l H2) → A) (h2 : ∀ l H2, R l H2 → F l H2) : A := h1 h2
section
variable {P : Program} {w : World} {K : PySem.W.Frag} {mg : Str → Option Value} {base : Heap}
def sp_law_number (K : PySem.W.Frag) : Sp := fun vs H Q _ => ∃ (a : Addr) (ns : List Int) (k : Nat), vs = [.ref a, .int (k : Nat)] ∧ SqL K H a (ns.map V.int) ∧ k ≤ 1000000 ∧ ∀ i H', Ex (TK K) H H' → Q (.int i) H'
theorem ok_law_number (W : Wd K mg base) : OkD P w K mg base d_law_number ["script", "index"] 1 (sp_law_number K) := by
  have S : FnScope ["script", "index", "cells", "cell", "low", "high", "total", "blend"] ["script", "index"] d_law_number.scope := ⟨rfl, rfl, rfl, by decide +kernel, rfl, by decide +kernel, by decide +kernel⟩
  refine ok_of W.d_law_number S (fun vs H Q E h => ?_) (fun _ _ _ _ _ _ us hl => match us, hl with | [_, _], _ => rfl) (fun cdv A outer s H vs Q E hr h => ⟨_, (pss_cons (ps_set (i := 2) S.nd rfl (Or.inl rfl) (pe_ifExp (pt_cmpR (l_ne hr.units) (pv 0) (c_lst (T := TK K) pa_nil) (nomark _)) (pe_slice (l_slL (T := TK K)) (pv 0) po_none (po_some (pe_int))) (c_lst (T := TK K) (pa_cons (pe_int) pa_nil))))
      (pss_cons (ps_set (i := 3) S.nd rfl (Or.inl rfl) (pe_op op_add (pe_ix l_ix (pv 2) (pe_op op_mod (pe_callTy l_int (by rfl) (by exact W.f_int) PyProof.Rows.boot_int (pa_cons (pv 1) pa_nil)) (pe_callB l_len (by rfl) (by exact W.f_len) boot_len (pa_cons (pv 2) pa_nil))) (fun _ _ => rfl)) (pe_op op_mul (pe_int) (pe_op op_fdiv (pv 1) (pe_callB l_len (by rfl) (by exact W.f_len) boot_len (pa_cons (pv 2) pa_nil))))))
      (pss_cons (ps_par (i := 4) (j := 5) rfl S.nd rfl rfl (by decide) rfl rfl (pa_cons (pe_op op_mod (pe_callTy l_int (by rfl) (by exact W.f_int) PyProof.Rows.boot_int (pa_cons (pv 3) pa_nil)) (pe_int)) (pa_cons (pe_op op_mod (pe_callTy l_int (by rfl) (by exact W.f_int) PyProof.Rows.boot_int (pa_cons (pe_op op_fdiv (pv 3) (pe_int)) pa_nil)) (pe_int)) pa_nil)) (by rfl))
      (pss_cons (ps_set (i := 6) S.nd rfl (Or.inl rfl) (pe_op op_mod (pe_callTy l_int (by rfl) (by exact W.f_int) PyProof.Rows.boot_int (pa_cons (pe_callB (l_sum rfl) (by rfl) (by exact W.f_sum) PyProof.Rows.boot_sum (pa_cons (pv 2) pa_nil)) pa_nil)) (pe_int)))
      (pss_cons (ps_set (i := 7) S.nd rfl (Or.inl rfl) (pe_op op_mod (pe_callTy l_int (by rfl) (by exact W.f_int) PyProof.Rows.boot_int (pa_cons (pe_op op_add (pe_op op_add (pe_op op_mul (pe_op op_add (pv 4) (pe_op op_mul (pe_int) (pv 1))) (pe_int)) (pe_op op_mul (pe_int) (pv 5))) (pv 6)) pa_nil)) (pe_int)))
      (pss_one (ps_ret (pe_op op_add (pe_op op_mul (pe_op op_mod (pe_callTy l_int (by rfl) (by exact W.f_int) PyProof.Rows.boot_int (pa_cons (pe_op op_mul (pv 7) (pe_op op_add (pe_op op_add (pv 7) (pe_op op_mul (pe_int) (pv 1))) (pe_int))) pa_nil)) (pe_int)) (pe_int)) (pv 5))))))))), ?_⟩)
  · obtain ⟨_, _, _, rfl, _⟩ := h
    rfl
  · obtain ⟨a, ns, k, rfl, hS, hk, hQ⟩ := h
    refine r_entry (σ' := [_, _, _, _, _, _, _, _]) rfl ?_
    walk_at "go"
    refine ⟨by simp, fun t0 H1 ht0 e1 h1 => ?_⟩
    refine ⟨_, ⟨a, t0, ns, [], rfl, rfl, .inl ⟨e1.seqL hS, sqL_of h1⟩, rfl⟩, ?_⟩
    walk_at "go"
    refine join (F := ?F) (R := fun l H2 => ∃ cs : List Int, Ex (TK K) H H2 ∧ H2 l = some (.lst (cs.map V.int)) ∧ 0 < cs.length ∧ cs.length ≤ 63) ?h1 ?h2
    case h1 =>
      intro key
      refine r_ite (fun hb => ?_) fun hb => ?_
      · have hne : ns ≠ [] := by simpa using hb
        walk_at "go"
        refine ⟨a, _, rfl, e1.seqL hS, fun l H2 hl e2 h2 => ?_⟩
        refine key l H2 ⟨ns.take 63, e1.trans e2, ?_, by rw [List.length_take]; have := List.length_pos_iff.mpr hne; omega, by rw [List.length_take]; omega⟩
        rw [h2, List.map_take]
        exact congrArg (fun z => some (HO.lst z)) (cut_to _ 63)
      · walk_at "go"
        refine ⟨by simp, fun l H2 hl e2 h2 => key l H2 ⟨[5], e1.trans e2, h2, by decide, by decide⟩⟩
    case h2 =>
      rintro l H2 ⟨cs, e2, h2, hc, hc63⟩
      walk_at "go"
      refine r_len (.inl h2) ?_
      walk_at "go"
      rw [List.length_map]
      refine r_I (show (0 : Int) < (cs.length : Int) by omega) ?_
      have hm : (k : Int) % (cs.length : Int) = ((k % cs.length : Nat) : Int) := (Int.natCast_emod _ _).symm
      rw [hm]
      refine r_ix (.inl h2) (at_key (Nat.mod_lt _ hc)) ?_
      walk_at "go"
      refine r_len (.inl h2) ?_
      walk_at "go"
      rw [List.length_map]
      refine r_I ⟨by omega, by omega⟩ ?_
      refine r_I (.inl ⟨by omega, by omega⟩) ?_
      walk_at "go"
      refine r_I (show (0 : Int) < 1000003 by decide) ?_
      walk_at "go"
      refine r_I ⟨by omega, by omega⟩ ?_
      walk_at "go"
      refine r_I (show (0 : Int) < 999983 by decide) ?_
      walk_at "go"
      refine ⟨l, cs, rfl, h2, ?_⟩
      walk_at "go"
      refine r_I (show (0 : Int) < 65521 by decide) ?_
      walk_at "go"
      refine r_I (.inl ⟨by omega, by omega⟩) ?_
      walk_at "go"
      refine r_I (.inr ⟨by omega, by omega⟩) ?_
      walk_at "go"
      refine r_I (.inl ⟨by omega, by omega⟩) ?_
      walk_at "go"
      refine r_I (show (0 : Int) < 2147483647 by decide) ?_
      walk_at "go"
      refine r_I (.inl ⟨by omega, by omega⟩) ?_
      walk_at "go"
      refine r_I (.inl ⟨?_, ?_⟩) ?_
      · exact Int.lt_of_lt_of_le (by omega) (Int.emod_nonneg _ (by decide))
      · exact Int.lt_trans (Int.emod_lt_of_pos _ (by decide)) (by omega)
      walk_at "go"
      refine r_I (show (0 : Int) < 2147483629 by decide) ?_
      walk_at "go"
      refine r_I (.inr ⟨by omega, by omega⟩) ?_
      walk_at "go"
      exact hQ _ H2 e2
def sp_law_take (K : PySem.W.Frag) : Sp := fun vs H Q _ => ∃ (d a : Addr) (ns : List Int) (k n : Nat), vs = [.ref d, .int (n : Nat)] ∧ Drw K H d a ns k ∧ k < 1000000 ∧ 0 < n ∧ n ≤ 1000 ∧
  ∀ (i : Nat) H', i < n → Ex (TK K) (hide H d) H' → Drw K H' d a ns (k + 1) → Q (.int (i : Nat)) H'
theorem ok_law_take (W : Wd K mg base) : OkD P w K mg base d_law_take ["draw", "many"] 2 (sp_law_take K) := by
  have S : FnScope ["draw", "many"] ["draw", "many"] d_law_take.scope := ⟨rfl, rfl, rfl, by decide +kernel, rfl, by decide +kernel, by decide +kernel⟩
  refine ok_of W.d_law_take S (fun vs H Q E h => ?_) (fun _ _ _ _ _ _ us hl => match us, hl with | [_, _], _ => rfl) (fun cdv A outer s H vs Q E hr h => ⟨_, (pss_cons (ps_asg (pe_op op_add (pe_ix l_ix (pv 0) (pe_int) (fun _ _ => rfl)) (pe_int)) (pg_sub (pv 0) (pe_int) set_list (fun _ => rfl)))
      (pss_one (ps_ret (pe_op op_mod (pe_callTy l_int (by rfl) (by exact W.f_int) PyProof.Rows.boot_int (pa_cons (c_call (ok_law_number W) hr (by exact W.g_law_number) (pa_cons (pe_ix l_ix (pv 0) (pe_int) (fun _ _ => rfl)) (pa_cons (pe_callTy l_int (by rfl) (by exact W.f_int) PyProof.Rows.boot_int (pa_cons (pe_ix l_ix (pv 0) (pe_int) (fun _ _ => rfl)) pa_nil)) pa_nil))) pa_nil)) (pv 1))))), ?_⟩)
  · obtain ⟨_, _, _, _, _, rfl, _⟩ := h
    rfl
  · obtain ⟨d, a, ns, k, n, rfl, hD, hk, hn, hn2, hQ⟩ := h
    refine r_entry (σ' := [_, _]) rfl ?_
    walk_at "go"
    refine r_ix (.inl hD.1) (atI_nat (j := 1) rfl) ?_
    walk_at "go"
    refine r_setL hD.1 (ixN_nat (j := 1) (by show 1 < 2; decide)) ?_
    obtain ⟨H1, hH1, e1, h1⟩ : ∃ H1, upd H d (.lst ([V.ref a, V.int (k : Nat)].set 1 (V.int ((k : Int) + 1)))) = H1 ∧ Ex (TK K) (hide H d) H1 ∧ H1 d = some (.lst [.ref a, .int ((k + 1 : Nat) : Int)]) :=
      ⟨_, rfl, hide_mut (Ex.refl H) hD.1 hD.1, upd_same⟩
    rw [hH1]
    walk_at "go"
    refine r_ix (.inl h1) (atI_nat (j := 0) rfl) ?_
    walk_at "go"
    refine r_ix (.inl h1) (atI_nat (j := 1) rfl) ?_
    walk_at "go"
    refine ⟨a, ns, k + 1, rfl, e1.seqL hD.scr, by omega, fun i H2 e2 => ?_⟩
    walk_at "go"
    refine r_I (show (0 : Int) < (n : Int) by omega) ?_
    have hi0 := Int.emod_nonneg i (show (n : Int) ≠ 0 by omega)
    have hi1 := Int.emod_lt_of_pos i (show (0 : Int) < (n : Int) by omega)
    have e : i % (n : Int) = ((i % (n : Int)).toNat : Nat) := (Int.toNat_of_nonneg hi0).symm
    rw [e]
    exact hQ _ H2 (by omega) (e1.trans e2) ⟨e2.lst h1, e2.seqL (e1.seqL hD.scr)⟩
def sp_law_pick (K : PySem.W.Frag) : Sp := fun vs H Q _ => ∃ (d a t : Addr) (ns zs : List Int) (k : Nat), vs = [.ref d, .ref t] ∧ Drw K H d a ns k ∧ k < 1000000 ∧ H t = some (.lst (zs.map V.int)) ∧ 0 < zs.length ∧ zs.length ≤ 1000 ∧
  ∀ z H', z ∈ zs → Ex (TK K) (hide H d) H' → Drw K H' d a ns (k + 1) → Q (.int z) H'
theorem ok_law_pick (W : Wd K mg base) : OkD P w K mg base d_law_pick ["draw", "things"] 3 (sp_law_pick K) := by
  have S : FnScope ["draw", "things"] ["draw", "things"] d_law_pick.scope := ⟨rfl, rfl, rfl, by decide +kernel, rfl, by decide +kernel, by decide +kernel⟩
  refine ok_of W.d_law_pick S (fun vs H Q E h => ?_) (fun _ _ _ _ _ _ us hl => match us, hl with | [_, _], _ => rfl) (fun cdv A outer s H vs Q E hr h => ⟨_, (pss_one (ps_ret (pe_ix l_ix (pv 1) (c_call (ok_law_take W) hr (by exact W.g_law_take) (pa_cons (pv 0) (pa_cons (pe_callB l_len (by rfl) (by exact W.f_len) boot_len (pa_cons (pv 1) pa_nil)) pa_nil))) (fun _ _ => rfl)))), ?_⟩)
  · obtain ⟨_, _, _, _, _, _, rfl, _⟩ := h
    rfl
  · obtain ⟨d, a, t, ns, zs, k, rfl, hD, hk, ht, hz0, hz, hQ⟩ := h
    refine r_entry (σ' := [_, _]) rfl ?_
    walk_at "go"
    refine r_len (.inl ht) ?_
    walk_at "go"
    rw [List.length_map]
    refine ⟨d, a, ns, k, zs.length, rfl, hD, hk, hz0, hz, fun i H1 hi e1 hD1 => ?_⟩
    have ht1 : H1 t = some (.lst (zs.map V.int)) := e1.lst (by rw [hide_ne (hD.ne ht)]; exact ht)
    refine r_ix (.inl ht1) (at_key hi) ?_
    exact hQ _ H1 (List.mem_of_getElem? (key_at hi)) e1 hD1
def sp_law_parent (K : PySem.W.Frag) : Sp := fun vs H Q _ => ∃ (m p : Nat), vs = [.int (m : Nat), .int (p : Nat)] ∧ 1 ≤ m ∧ m ≤ 4 ∧ 0 < p ∧ Q (.int (par m p : Nat)) H
theorem ok_law_parent (W : Wd K mg base) : OkD P w K mg base d_law_parent ["wide", "place"] 1 (sp_law_parent K) := by
  have S : FnScope ["wide", "place"] ["wide", "place"] d_law_parent.scope := ⟨rfl, rfl, rfl, by decide +kernel, rfl, by decide +kernel, by decide +kernel⟩
  refine ok_of W.d_law_parent S (fun vs H Q E h => ?_) (fun _ _ _ _ _ _ us hl => match us, hl with | [_, _], _ => rfl) (fun cdv A outer s H vs Q E hr h => ⟨_, (pss_one (ps_ret (pe_op op_fdiv (pe_callTy l_int (by rfl) (by exact W.f_int) PyProof.Rows.boot_int (pa_cons (pe_op op_sub (pv 1) (pe_int)) pa_nil)) (pv 0)))), ?_⟩)
  · obtain ⟨_, _, rfl, _⟩ := h
    rfl
  · obtain ⟨m, p, rfl, m1, m4, p0, hQ⟩ := h
    refine r_entry (σ' := [_, _]) rfl ?_
    walk_at "go"
    refine r_I ⟨by omega, by omega⟩ ?_
    rw [par_int p0]
    exact hQ
/-- the places below p, as the law finds them -/
def lkids (m n p : Nat) : List Nat := ((List.range (n - 1)).map (· + 1)).filter fun c => decide (par m c = p)
def sp_law_children (K : PySem.W.Frag) : Sp := fun vs H Q _ => ∃ (m n p : Nat), vs = [.int (m : Nat), .int (n : Nat), .int (p : Nat)] ∧ 1 ≤ m ∧ m ≤ 4 ∧ 1 ≤ n ∧ n ≤ 100 ∧ ∀ l H', Ex (TK K) H H' → H' l = some (.lst ((nI (lkids m n p)).map V.int)) → Q (.ref l) H'
theorem ok_law_children (W : Wd K mg base) : OkD P w K mg base d_law_children ["wide", "many", "place"] 2 (sp_law_children K) := by
  have S : FnScope ["wide", "many", "place", "other"] ["wide", "many", "place"] d_law_children.scope := ⟨rfl, rfl, rfl, by decide +kernel, rfl, by decide +kernel, by decide +kernel⟩
  refine ok_of W.d_law_children S (fun vs H Q E h => ?_) (fun _ _ _ _ _ _ us hl => match us, hl with | [_, _, _], _ => rfl) (fun cdv A outer s H vs Q E hr h => ⟨_, (pss_one (ps_ret (pe_lc (own := [("other", 3)]) rfl S.nd (pi_range2 (by rfl) (by exact W.f_range) (pa_cons (pe_int) (pa_cons (pv 1) pa_nil))) (blkOk_by (by rfl)) (fun _ _ _ _ _ => pg_name (i := 3) S.nd rfl (Or.inl rfl)) (fun _ _ _ _ _ => (pts_one (pt_cmpR op_eq (c_call (ok_law_parent W) hr (by exact W.g_law_parent) (pa_cons (pv 0) (pa_cons (pv 3) pa_nil))) (pv 2) (nomark _)))) (fun _ _ _ _ _ => (pv 3))))), ?_⟩)
  · obtain ⟨_, _, _, rfl, _⟩ := h
    rfl
  · obtain ⟨m, n, p, rfl, m1, m4, n1, n100, hQ⟩ := h
    refine r_entry (σ' := [_, _, _, _]) rfl ?_
    walk_at "go"
    refine ⟨_, _, rfl, by omega, ?_⟩
    rw [show ((n : Int) - 1).toNat = n - 1 by omega]
    refine lb_by (T := TK K) (σw := [some (.int (m : Nat)), some (.int (n : Nat)), some (.int (p : Nat)), none]) (walk_range (n := n - 1)) rfl (fun i acc => acc = (nI (((List.range i).map (· + 1)).filter fun c => decide (par m c = p))).map V.int) rfl (fun _ _ => trivial)
      (fun D i x acc H2 H3 hD hi hr hl e2 h2 y => ?_) fun D H2 acc hD e2 h2 hr => ?_
    · obtain ⟨rfl, rfl⟩ := y
      subst hr
      show gName 3 (V.int ((1 : Int) + (i : Int))) _ _ _
      rw [show (1 : Int) + (i : Int) = ((i + 1 : Nat) : Int) by omega]
      walk_at "go"
      refine ⟨rfl, ?_⟩
      walk_at "go"
      refine ⟨m, i + 1, rfl, m1, m4, by omega, ?_⟩
      walk_at "go"
      refine ⟨rfl, ?_⟩
      rw [dec_i]
      walk_at "go"
      refine r_ite (fun hc => ?_) fun hc => ?_
      · have hc2 : par m (i + 1) = p := Int.ofNat.inj (of_decide_eq_true hc)
        walk_at "go"
        refine ln_of hD h2 e2 ?_ hl (by omega)
        rw [List.range_succ, List.map_append, List.filter_append, nI_append, List.map_append]
        simp [hc2, nI]
      · have hc2 : ¬ par m (i + 1) = p := fun z => of_decide_eq_false hc (by rw [z])
        refine lp_of h2 e2 ?_ hl
        rw [List.range_succ, List.map_append, List.filter_append, nI_append, List.map_append]
        simp [hc2, nI]
    · subst hr
      exact hQ D H2 e2 h2
def sp_law_way (K : PySem.W.Frag) : Sp := fun vs H Q _ => ∃ (m p : Nat), vs = [.int (m : Nat), .int (p : Nat)] ∧ 1 ≤ m ∧ m ≤ 4 ∧ p ≤ 12 ∧ ∀ l H', Ex (TK K) H H' → H' l = some (.lst ((nI (wayTo m p)).map V.int)) → Q (.ref l) H'
theorem ok_law_way (W : Wd K mg base) : OkD P w K mg base d_law_way ["wide", "place"] 2 (sp_law_way K) := by
  have S : FnScope ["wide", "place", "way", "lap"] ["wide", "place"] d_law_way.scope := ⟨rfl, rfl, rfl, by decide +kernel, rfl, by decide +kernel, by decide +kernel⟩
  refine ok_of W.d_law_way S (fun vs H Q E h => ?_) (fun _ _ _ _ _ _ us hl => match us, hl with | [_, _], _ => rfl) (fun cdv A outer s H vs Q E hr h => ⟨_, (pss_cons (ps_set (i := 2) S.nd rfl (Or.inl rfl) (c_lst (T := TK K) (pa_cons (pv 1) pa_nil)))
      (pss_cons (ps_for PassesOwn.never rfl (pi_range1 (by rfl) (by exact W.f_range) (pa_cons (pe_int) pa_nil)) (pg_name (i := 3) S.nd rfl (Or.inl rfl)) (pss_cons (ps_if (pt_cmpR op_eq (pe_ix l_ix (pv 2) (pe_int) (fun _ _ => rfl)) (pe_int) (nomark _)) (pss_one (ps_ret (pv 2))) pss_nil)
      (pss_one (ps_set (i := 2) S.nd rfl (Or.inl rfl) (pe_op (l_cat (T := TK K)) (c_lst (T := TK K) (pa_cons (c_call (ok_law_parent W) hr (by exact W.g_law_parent) (pa_cons (pv 0) (pa_cons (pe_ix l_ix (pv 2) (pe_int) (fun _ _ => rfl)) pa_nil))) pa_nil)) (pv 2))))))
      (pss_one (ps_ret (pv 2))))), ?_⟩)
  · obtain ⟨_, _, rfl, _⟩ := h
    rfl
  · obtain ⟨m, p, rfl, m1, m4, p12, hQ⟩ := h
    refine r_entry (σ' := [_, _, _, _]) rfl ?_
    walk_at "go"
    refine ⟨by simp, fun l H1 hl e1 h1 => ?_⟩
    walk_at "go"
    refine ⟨20, rfl, by omega, by omega, ?_⟩
    refine fb_rng (fun i σ H' => ∃ (q : Nat) (us : List Nat) (l2 : Addr) (x : Option V), σ = [some (.int (m : Nat)), some (.int (p : Nat)), some (.ref l2), x] ∧ Ex (TK K) H H' ∧ H' l2 = some (.lst ((nI (q :: us)).map V.int)) ∧ wayTo m p = wayTo m q ++ us ∧ q + i ≤ p ∧ us.length + q ≤ p) ⟨p, [], l, _, rfl, e1, h1, by simp, by omega, by simp⟩ (fun i σ H2 hi hp => ?_) fun σ H2 hp => ?_
    · obtain ⟨q, us, l2, x, rfl, e2, h2, hw, hq, hu⟩ := hp
      have hfst : atI ((nI (q :: us)).map V.int) 0 = some (.int (q : Nat)) := atI_nat (j := 0) rfl
      walk_at "go"
      refine r_ix (.inl h2) hfst ?_
      walk_at "go"
      refine ⟨rfl, ?_⟩
      rw [dec_i]
      walk_at "go"
      refine r_ite (fun hc => ?_) fun hc => ?_
      · have hc2 : q = 0 := Int.ofNat.inj (of_decide_eq_true hc)
        subst hc2
        walk_at "go"
        refine hQ l2 H2 e2 ?_
        rw [h2, hw, wayTo_zero]
        rfl
      · have hc2 : 0 < q := by
          have := of_decide_eq_false hc
          omega
        have hlt := par_lt (m := m) hc2
        walk_at "go"
        refine r_ix (.inl h2) hfst ?_
        walk_at "go"
        refine ⟨m, q, rfl, m1, m4, hc2, ?_⟩
        walk_at "go"
        refine ⟨by simp, fun l3 H3 hl3 e3 h3 => ?_⟩
        walk_at "go"
        refine ⟨l3, l2, _, _, rfl, rfl, h3, e3.lst h2, by rw [List.length_map, nI_length, List.length_cons]; simp; omega, fun l4 H4 hl4 e4 h4 => ?_⟩
        walk_at "go"
        refine ⟨par m q, q :: us, l4, _, rfl, e2.trans (e3.trans e4), h4, ?_, by omega, by rw [List.length_cons]; omega⟩
        rw [hw, wayTo_pos hc2, List.append_assoc]
        rfl
    · obtain ⟨q, us, l2, x, rfl, e2, h2, hw, hq, hu⟩ := hp
      omega
def sp_law_arms (K : PySem.W.Frag) : Sp := fun vs H Q _ => ∃ (d a : Addr) (ns : List Int) (k : Nat), vs = [.ref d] ∧ Drw K H d a ns k ∧ k < 1000000 ∧ ∀ (m : Nat) H', 1 ≤ m → m ≤ 4 → Ex (TK K) (hide H d) H' → Drw K H' d a ns (k + 1) → Q (.int (m : Nat)) H'
theorem ok_law_arms (W : Wd K mg base) : OkD P w K mg base d_law_arms ["draw"] 4 (sp_law_arms K) := by
  have S : FnScope ["draw"] ["draw"] d_law_arms.scope := ⟨rfl, rfl, rfl, by decide +kernel, rfl, by decide +kernel, by decide +kernel⟩
  refine ok_of W.d_law_arms S (fun vs H Q E h => ?_) (fun _ _ _ _ _ _ us hl => match us, hl with | [_], _ => rfl) (fun cdv A outer s H vs Q E hr h => ⟨_, (pss_one (ps_ret (c_call (ok_law_pick W) hr (by exact W.g_law_pick) (pa_cons (pv 0) (pa_cons (c_lst (T := TK K) (pa_cons (pe_int) (pa_cons (pe_int) (pa_cons (pe_int) (pa_cons (pe_int) (pa_cons (pe_int) (pa_cons (pe_int) pa_nil))))))) pa_nil))))), ?_⟩)
  · obtain ⟨_, _, _, _, rfl, _⟩ := h
    rfl
  · obtain ⟨d, a, ns, k, rfl, hD, hk, hQ⟩ := h
    refine r_entry (σ' := [_]) rfl ?_
    walk_at "go"
    refine ⟨by simp, fun t H1 ht e1 h1 => ?_⟩
    walk_at "go"
    refine ⟨d, a, t, ns, [2, 2, 2, 3, 1, 4], k, rfl, hD.ex e1, hk, h1, by decide, by decide, fun z H2 hz e2 hD2 => ?_⟩
    have e12 : Ex (TK K) (hide H d) H2 := (ex_hide e1 hD.1).trans e2
    have hz2 : ∃ m : Nat, z = (m : Int) ∧ 1 ≤ m ∧ m ≤ 4 := by
      simp only [List.mem_cons, List.not_mem_nil, or_false] at hz
      exact ⟨z.toNat, by omega, by omega, by omega⟩
    obtain ⟨m, rfl, m1, m4⟩ := hz2
    exact hQ m H2 m1 m4 e12 hD2
theorem map_erase {α β : Type} (f : α → β) : ∀ (l : List α) (j : Nat), (l.map f).eraseIdx j = (l.eraseIdx j).map f
  | [], _ => rfl
  | _ :: _, 0 => rfl
  | a :: r, j + 1 => by
    show f a :: (r.map f).eraseIdx j = f a :: (r.eraseIdx j).map f
    rw [map_erase f r j]
theorem erase_perm : ∀ (l : List Nat) (j : Nat), j < l.length → (l.getD j 0 :: l.eraseIdx j).Perm l
  | [], _, h => absurd h (Nat.not_lt_zero _)
  | _ :: _, 0, _ => List.Perm.refl _
  | a :: r, j + 1, h => by
    have ih := erase_perm r j (Nat.lt_of_succ_lt_succ h)
    show (r.getD j 0 :: a :: r.eraseIdx j).Perm (a :: r)
    exact (List.Perm.swap _ _ _).trans (ih.cons a)
def sp_law_order (K : PySem.W.Frag) : Sp := fun vs H Q _ => ∃ (d a : Addr) (ns : List Int) (k n : Nat), vs = [.ref d, .int (n : Nat)] ∧ Drw K H d a ns k ∧ k < 900000 ∧ n ≤ 100 ∧
  ∀ l (os : List Nat) H' k', Ex (TK K) (hide H d) H' → Drw K H' d a ns k' → k' ≤ k + n → H' l = some (.lst ((nI os).map V.int)) → os.Perm (List.range n) → Q (.ref l) H'
theorem ok_law_order (W : Wd K mg base) : OkD P w K mg base d_law_order ["draw", "many"] 3 (sp_law_order K) := by
  have S : FnScope ["draw", "many", "left", "order", "turn"] ["draw", "many"] d_law_order.scope := ⟨rfl, rfl, rfl, by decide +kernel, rfl, by decide +kernel, by decide +kernel⟩
  refine ok_of W.d_law_order S (fun vs H Q E h => ?_) (fun _ _ _ _ _ _ us hl => match us, hl with | [_, _], _ => rfl) (fun cdv A outer s H vs Q E hr h => ⟨_, (pss_cons (ps_par (i := 2) (j := 3) rfl S.nd rfl rfl (by decide) rfl rfl (pa_cons (c_listRg (T := TK K) rfl (by rfl) (by exact W.f_list) (prg_1 (by rfl) (by exact W.f_range) (pv 1))) (pa_cons (c_lst (T := TK K) pa_nil) pa_nil)) (by rfl))
      (pss_cons (ps_for PassesOwn.never rfl (pi_range1 (by rfl) (by exact W.f_range) (pa_cons (pv 1) pa_nil)) (pg_name (i := 4) S.nd rfl (Or.inl rfl)) (pss_one (ps_expr (pe_bm PySem.F.plainAttrs_list PySem.F.slot_list_append PySem.F.type_list_append mt_append (pv 3) (pa_cons (pe_bm PySem.F.plainAttrs_list PySem.F.slot_list_pop PySem.F.type_list_pop mt_popAt (pv 2) (pa_cons (c_call (ok_law_take W) hr (by exact W.g_law_take) (pa_cons (pv 0) (pa_cons (pe_callB l_len (by rfl) (by exact W.f_len) boot_len (pa_cons (pv 2) pa_nil)) pa_nil))) pa_nil)) pa_nil)))))
      (pss_one (ps_ret (pv 3))))), ?_⟩)
  · obtain ⟨_, _, _, _, _, rfl, _⟩ := h
    rfl
  · obtain ⟨d, a, ns, k, n, rfl, hD, hk, hn, hQ⟩ := h
    refine r_entry (σ' := [_, _, _, _, _]) rfl ?_
    walk_at "go"
    refine ⟨.of_le (by omega) (by omega) (by omega) (by omega), fun l1 H1 hl1 e1 h1 => ?_⟩
    rw [rgV0] at h1
    walk_at "go"
    refine ⟨by simp, fun l2 H2 hl2 e2 h2 => ?_⟩
    walk_at "go"
    have hne : l1 ≠ l2 := fun z => by
      rw [z, hl2] at h1
      cases h1
    refine ⟨_, rfl, by omega, by omega, ?_⟩
    rw [Int.toNat_natCast]
    have f1 : Fre (hide H d) l1 := Fre.of (by
      by_cases z : l1 = d
      · rw [z]
        exact hide_same
      · rw [hide_ne z]
        exact hl1)
    have f2 : Fre (hide H d) l2 := (ex_hide e1 hD.1).fre (by
      by_cases z : l2 = d
      · rw [z]
        exact hide_same
      · rw [hide_ne z]
        exact hl2)
    refine fb_rng (fun i σ H' => ∃ (L O : List Nat) (x : Option V), σ = [some (.ref d), some (.int (n : Nat)), some (.ref l1), some (.ref l2), x] ∧ Ex (TK K) (hide H d) H' ∧ Drw K H' d a ns (k + i) ∧ H' l1 = some (.lst ((nI L).map V.int)) ∧ H' l2 = some (.lst ((nI O).map V.int)) ∧ (L ++ O).Perm (List.range n) ∧ O.length = i)
      ⟨List.range n, [], _, rfl, (hide_ex hD.1).trans (e1.trans e2), (hD.ex e1).ex e2, e2.lst h1, h2, by simp, rfl⟩ (fun i σ H3 hi hp => ?_) fun σ H3 hp => ?_
    · obtain ⟨L, O, x, rfl, e3, hD3, h3, h4, hP, hO⟩ := hp
      have hlen : L.length + i = n := by
        have := hP.length_eq
        rw [List.length_append, List.length_range] at this
        omega
      walk_at "go"
      refine ⟨ty_lst h4, ?_⟩
      walk_at "go"
      refine ⟨ty_lst h3, ?_⟩
      walk_at "go"
      refine r_len (.inl h3) ?_
      walk_at "go"
      rw [List.length_map, nI_length]
      refine ⟨d, a, ns, k + i, L.length, rfl, hD3, by omega, by omega, by omega, fun j H4 hj e4 hD4 => ?_⟩
      walk_at "go"
      have h3' : H4 l1 = some (.lst ((nI L).map V.int)) := e4.lst (by rw [hide_ne (hD3.ne h3)]; exact h3)
      have h4' : H4 l2 = some (.lst ((nI O).map V.int)) := e4.lst (by rw [hide_ne (hD3.ne h4)]; exact h4)
      have e34 : Ex (TK K) (hide H d) H4 := hide_trans e3 hD3.1 e4
      have hld1 : l1 ≠ d := hD3.ne h3
      have hld2 : l2 ≠ d := hD3.ne h4
      refine ⟨l1, _, (j : Nat), j, _, rfl, rfl, h3', by omega, by omega, (ixN_seq (ixN_nat (by rw [List.length_map, nI_length]; exact hj))).1, nI_at hj, ?_⟩
      have e5 := e34.mut (ys := (((nI L).map V.int).eraseIdx j)) f1 h3'
      obtain ⟨H5, hH5, e5', h35, h45, hd5⟩ : ∃ H5, upd H4 l1 (.lst (((nI L).map V.int).eraseIdx j)) = H5 ∧ Ex (TK K) (hide H d) H5 ∧ H5 l1 = some (.lst ((nI (L.eraseIdx j)).map V.int)) ∧ H5 l2 = some (.lst ((nI O).map V.int)) ∧ H5 d = some (.lst [.ref a, .int ((k + i + 1 : Nat) : Int)]) := by
        refine ⟨_, rfl, e5, ?_, ?_, ?_⟩
        · rw [upd_same]
          unfold nI
          rw [map_erase, map_erase]
        · rw [upd_ne (Ne.symm hne)]
          exact h4'
        · rw [upd_ne (Ne.symm hld1)]
          exact hD4.1
      rw [hH5]
      walk_at "go"
      refine r_app h45 (by rw [List.length_map, nI_length]; omega) ?_
      refine ⟨L.eraseIdx j, O ++ [L.getD j 0], _, rfl, e5'.mut f2 h45, ?_, ?_, ?_, ?_, by rw [List.length_append, List.length_singleton, hO]⟩
      · exact hD.of (e5'.mut f2 h45) (by rw [upd_ne (Ne.symm hld2)]; exact hd5)
      · rw [upd_ne hne]
        exact h35
      · rw [upd_same, nI_append, List.map_append]
        rfl
      · have p1 := erase_perm L j hj
        rw [← List.append_assoc]
        refine List.Perm.trans (List.perm_append_singleton _ _) ?_
        exact List.Perm.trans (p1.append_right O) hP
    · obtain ⟨L, O, x, rfl, e3, hD3, h3, h4, hP, hO⟩ := hp
      walk_at "go"
      have hL : L = [] := by
        have := hP.length_eq
        rw [List.length_append, List.length_range] at this
        exact List.length_eq_zero_iff.mp (by omega)
      subst hL
      exact hQ l2 O H3 (k + n) e3 hD3 (Nat.le_refl _) h4 hP
end
end Hr

set_option maxHeartbeats 4000000
/-! HrU: the law's heaps. (src/HrU.txt by expand.py) -/
namespace Hr
open PySem PySem.Spec PyProof.Rows L2 LamX SlX
-- one step of a reading; its repetition
local macro_rules | `(tactic| walk_at "st") => `(tactic| first
    | with_reducible refine r_seq ?_
    | with_reducible refine r_var rfl ?_
    | with_reducible refine r_c ?_
    | with_reducible refine r_cons ?_
    | with_reducible refine r_nil ?_
    | with_reducible refine r_op ?_
    | with_reducible refine r_asg ?_
    | with_reducible refine r_I0 ?_
    | with_reducible refine r_cb ?_
    | with_reducible refine r_call ?_
    | with_reducible refine r_ret ?_
    | with_reducible refine r_ifS ?_
    | with_reducible refine r_test ?_
    | with_reducible refine r_B ?_
    | with_reducible refine r_bl ?_
    | with_reducible refine r_Not ?_
    | with_reducible refine r_And ?_
    | with_reducible refine r_Or ?_
    | with_reducible refine r_AndV ?_
    | with_reducible refine r_OrV ?_
    | with_reducible refine r_NotV ?_
    | with_reducible refine r_If ?_
    | with_reducible refine r_un ?_
    | with_reducible refine r_U ?_
    | with_reducible refine r_drop ?_
    | with_reducible refine r_next ?_
    | with_reducible refine r_retN ?_
    | with_reducible refine r_brk ?_
    | with_reducible refine r_par ?_
    | with_reducible refine r_par3 ?_
    | with_reducible refine r_two ?_
    | with_reducible refine r_three ?_
    | with_reducible refine r_lst ?_
    | with_reducible refine r_tup ?_
    | with_reducible refine r_intc ?_
    | with_reducible refine r_min ?_
    | with_reducible refine r_sl ?_
    | with_reducible refine r_part ?_
    | with_reducible refine r_noPart ?_
    | with_reducible refine r_slice ?_
    | with_reducible refine r_revL ?_
    | with_reducible refine r_bm ?_
    | with_reducible refine r_meth ?_
    | with_reducible refine r_callK ?_
    | with_reducible refine r_sub ?_
    | with_reducible refine r_gcons ?_
    | with_reducible refine r_gnil ?_
    | with_reducible refine r_int1 ?_
    | with_reducible refine r_chain ?_
    | with_reducible refine r_isiI ?_
    | with_reducible refine r_isiB ?_
    | with_reducible refine r_tt ?_
    | with_reducible refine r_ff ?_
    | with_reducible refine r_nt ?_
    | with_reducible refine r_nf ?_
    | with_reducible refine r_iEnum ?_
    | with_reducible refine r_iZipA ?_
    | with_reducible refine r_iZip ?_
    | with_reducible refine r_iRng1 ?_
    | with_reducible refine r_iRng2 ?_
    | with_reducible refine r_iList ?_
    | with_reducible refine r_iTup ?_
    | with_reducible refine r_tupRg ?_
    | with_reducible refine r_lstRg ?_
    | with_reducible refine r_rg1 ?_
    | with_reducible refine r_rg2 ?_
    | with_reducible refine r_int2 ?_
    | with_reducible refine r_ssl ?_
    | with_reducible refine r_aug rfl ?_
    | with_reducible refine r_ipI ?_
    | with_reducible refine r_makeK ?_
    | with_reducible refine r_make ?_
    | with_reducible refine r_methK ?_
    | with_reducible refine r_ktup ?_
    | with_reducible refine r_star ?_
    | with_reducible refine r_for ?_
    | with_reducible refine r_lc ?_
    | with_reducible refine r_iOwn ?_
    | with_reducible refine r_yes ?_
    | with_reducible refine r_gn0 ?_
    | with_reducible refine r_gn1 ?_
    | with_reducible refine r_gn2 ?_
    | with_reducible refine r_gn3 ?_
    | with_reducible refine r_gn4 ?_
    | with_reducible refine r_gn5 ?_
    | with_reducible refine r_gn6 ?_
    | with_reducible refine r_gn7 ?_
    | with_reducible refine r_gn8 ?_
    | with_reducible refine r_gn9 ?_
    | with_reducible refine r_gn10 ?_
    | with_reducible refine r_gn11 ?_
    | with_reducible refine r_gn12 ?_
    | with_reducible refine r_gn13 ?_
    | with_reducible refine r_gn14 ?_
    | with_reducible refine r_gn15 ?_
    | with_reducible refine r_gn16 ?_
    | with_reducible refine r_gn17 ?_
    | with_reducible refine r_gn18 ?_
    | with_reducible refine r_gn19 ?_
    | with_reducible refine r_gn20 ?_
    | with_reducible refine r_gn21 ?_
    | with_reducible refine r_gn22 ?_
    | with_reducible refine r_gn23 ?_
    | with_reducible refine r_gn24 ?_
    | with_reducible refine r_gn25 ?_)
local macro_rules | `(tactic| walk_at "go") => `(tactic| repeat walk_at "st")
-- growth, by the chain of what is known
local macro_rules | `(tactic| walk_at "ex") => `(tactic| first
    | exact Ex.refl _ | assumption | (refine Ex.trans ?_ (by assumption); walk_at "ex"))
local macro_rules | `(tactic| walk_at "f1") => `(tactic| first
    | assumption | exact Or.inl (by assumption) | exact Or.inr (by assumption)
    | (refine Ex.ra ?_ (by assumption); walk_at "ex") | (refine Ex.lst ?_ (by assumption); walk_at "ex") | (refine Ex.tup ?_ (by assumption); walk_at "ex") | (refine Ex.slt ?_ (by assumption); walk_at "ex")
    | (refine Or.inl (Ex.lst ?_ (by assumption)); walk_at "ex") | (refine Or.inr (Ex.tup ?_ (by assumption)); walk_at "ex")
    | (refine sqL_of (Ex.lst ?_ (by assumption)); walk_at "ex") | (refine sqT_of (Ex.tup ?_ (by assumption)); walk_at "ex") | (refine Ex.seqL ?_ (by assumption); walk_at "ex")
    | (refine Ex.t ?_ (by assumption); walk_at "ex"))

theorem self_way (m p : Nat) : p ∈ wayTo m p := by
  by_cases h : 0 < p
  · rw [wayTo_pos h]
    exact List.mem_append_right _ List.mem_cons_self
  · have e : p = 0 := by omega
    rw [e, wayTo_zero]
    exact List.mem_cons_self
theorem heap_way {m : Nat} {ns : List Int} (h : IsHeap m ns) : ∀ p, p < ns.length → ∀ a ∈ wayTo m p, key ns a ≤ key ns p := by
  intro p
  induction p using Nat.strongRecOn with
  | _ p ih =>
    intro hp a ha
    by_cases h0 : 0 < p
    · have hlt := par_lt (m := m) h0
      rw [wayTo_pos h0] at ha
      rcases List.mem_append.mp ha with z | z
      · have h1 := ih _ hlt (by omega) a z
        have h2 := h p h0 hp
        omega
      · rw [List.mem_singleton.mp z]
        exact Int.le_refl _
    · have e : p = 0 := by omega
      rw [e, wayTo_zero] at ha
      rw [List.mem_singleton.mp ha, e]
      exact Int.le_refl _
theorem heap_iff {m : Nat} {ns : List Int} : (∀ p, p < ns.length → ∀ a ∈ wayTo m p, ¬ key ns p < key ns a) ↔ IsHeap m ns := by
  constructor
  · intro h p h0 hp
    have := h p hp (par m p) (by rw [wayTo_pos h0]; exact List.mem_append_left _ (self_way m _))
    omega
  · intro h p hp a ha
    have := heap_way h p hp a ha
    omega
section
variable {P : Program} {w : World} {K : PySem.W.Frag} {mg : Str → Option Value} {base : Heap}
def sp_law_is_heap (K : PySem.W.Frag) : Sp := fun vs H Q _ => ∃ (a : Addr) (ns : List Int) (m : Nat), vs = [.ref a, .int (m : Nat)] ∧ H a = some (.lst (ns.map V.int)) ∧ 1 ≤ m ∧ m ≤ 4 ∧ ns.length ≤ 13 ∧ ∀ b H', Ex (TK K) H H' → (b = true ↔ IsHeap m ns) → Q (.bl b) H'
theorem ok_law_is_heap (W : Wd K mg base) : OkD P w K mg base d_law_is_heap ["row", "wide"] 3 (sp_law_is_heap K) := by
  have S : FnScope ["row", "wide", "place", "above"] ["row", "wide"] d_law_is_heap.scope := ⟨rfl, rfl, rfl, by decide +kernel, rfl, by decide +kernel, by decide +kernel⟩
  refine ok_of W.d_law_is_heap S (fun vs H Q E h => ?_) (fun _ _ _ _ _ _ us hl => match us, hl with | [_, _], _ => rfl) (fun cdv A outer s H vs Q E hr h => ⟨_, (pss_cons (ps_for PassesOwn.never rfl (pi_range1 (by rfl) (by exact W.f_range) (pa_cons (pe_callB l_len (by rfl) (by exact W.f_len) boot_len (pa_cons (pv 0) pa_nil)) pa_nil)) (pg_name (i := 2) S.nd rfl (Or.inr rfl)) (pss_one (ps_if (pt_val (pe_callB (l_any rfl) (by rfl) (by exact W.f_any) PyProof.Rows.boot_any (pa_cons (pe_lc (own := [("above", 3)]) rfl S.nd (pi_list (c_call (ok_law_way W) hr (by exact W.g_law_way) (pa_cons (pv 1) (pa_cons (pv 2) pa_nil)))) (blkOk_by (by rfl)) (fun _ _ _ _ _ => pg_name (i := 3) S.nd rfl (Or.inl rfl)) (fun _ _ _ _ _ => pts_nil) (fun _ _ _ _ _ => (pe_cmpR op_lt (pe_ix l_ix (pv 0) (pv 2) (fun _ _ => rfl)) (pe_ix l_ix (pv 0) (pv 3) (fun _ _ => rfl)) (nomark _)))) pa_nil))) (pss_one (ps_ret (pe_bl))) pss_nil)))
      (pss_one (ps_ret (pe_bl)))), ?_⟩)
  · obtain ⟨_, _, _, rfl, _⟩ := h
    rfl
  · obtain ⟨a, ns, m, rfl, ha, m1, m4, n13, hQ⟩ := h
    refine r_entry (σ' := [_, _, _, _]) rfl ?_
    walk_at "go"
    refine r_len (.inl ha) ?_
    walk_at "go"
    rw [List.length_map]
    refine ⟨_, rfl, by omega, by omega, ?_⟩
    rw [Int.toNat_natCast]
    refine fb_rng (fun i σ H' => ∃ (x : Option V), σ = [some (.ref a), some (.int (m : Nat)), x, none] ∧ Ex (TK K) H H' ∧ ∀ p, p < i → ∀ c ∈ wayTo m p, ¬ key ns p < key ns c) ⟨_, rfl, Ex.refl H, fun p hp => absurd hp (Nat.not_lt_zero _)⟩ (fun i σ H2 hi hp => ?_) fun σ H2 hp => ?_
    · obtain ⟨x, rfl, e2, hpre⟩ := hp
      have ei : (0 : Int) + (i : Int) = ((i : Nat) : Int) := by omega
      show gName 2 (V.int ((0 : Int) + (i : Int))) _ _ _
      rw [ei]
      walk_at "go"
      refine ⟨m, i, rfl, m1, m4, by omega, fun l H3 e3 h3 => ?_⟩
      walk_at "go"
      refine ⟨l, rfl, ⟨_, sqL_of h3⟩, ?_⟩
      have hway : ∀ c ∈ wayTo m i, c < ns.length := fun c hc => by
        have := (wayTo_spec m i).2.1 c hc
        omega
      have e23 := e2.trans e3
      refine lb_by (T := TK K) (σw := [some (.ref a), some (.int (m : Nat)), some (.int (i : Nat)), none]) walk_list rfl (fun j acc => acc = ((wayTo m i).take j).map fun c => V.bl (decide (key ns i < key ns c))) rfl (fun H4 e4 => sqL_of (e4.lst h3))
        (fun D j x acc H4 H5 hD hj hr hl e4 h4 y => ?_) fun D H4 acc hD e4 h4 hr => ?_
      · obtain ⟨rfl, hx⟩ := y
        rw [List.length_map, nI_length] at hj
        rw [nI_at hj] at hx
        cases hx
        subst hr
        have hlt := hway _ (getD_mem hj)
        walk_at "go"
        refine ⟨rfl, ?_⟩
        walk_at "go"
        refine r_ix (.inl ((e23.trans e4).lst ha)) (at_key hi) ?_
        walk_at "go"
        refine r_ix (.inl ((e23.trans e4).lst ha)) (at_key hlt) ?_
        walk_at "go"
        refine ln_of hD h4 e4 ?_ hl (by have := (wayTo_spec m i).2.2; omega)
        rw [List.take_succ, List.map_append, List.getElem?_eq_getElem hj, List.getD_eq_getElem?_getD, List.getElem?_eq_getElem hj]
        rfl
      · subst hr
        rw [List.length_map, nI_length, List.take_length] at h4
        walk_at "go"
        refine ⟨D, (wayTo m i).map fun c => decide (key ns i < key ns c), rfl, by rw [h4, List.map_map]; rfl, ?_⟩
        walk_at "go"
        have e24 := e23.trans e4
        refine r_ite (fun hc => ?_) fun hc => ?_
        · rw [List.any_map, List.any_eq_true] at hc
          obtain ⟨c, hc1, hc2⟩ := hc
          walk_at "go"
          refine hQ false H4 e24 ⟨fun z => (by cases z), fun z => ?_⟩
          exact absurd (of_decide_eq_true hc2) (heap_iff.mpr z i hi c hc1)
        · rw [List.any_map, List.any_eq_false] at hc
          walk_at "go"
          refine ⟨_, rfl, e24, fun p hp c hcm => ?_⟩
          by_cases e : p = i
          · subst e
            intro z
            exact hc c hcm (decide_eq_true z)
          · exact hpre p (by omega) c hcm
    · obtain ⟨x, rfl, e2, hpre⟩ := hp
      walk_at "go"
      exact hQ true H2 e2 ⟨fun _ => heap_iff.mp hpre, fun _ => rfl⟩
/-! ### pushes -/
theorem key_set {xs : List Int} {i p : Nat} {v : Int} (h : i < xs.length) : key (xs.set i v) p = if p = i then v else key xs p := by
  unfold key
  rw [List.getD_eq_getElem?_getD, List.getD_eq_getElem?_getD]
  by_cases e : p = i
  · rw [if_pos e, e, List.getElem?_set_self h]
    rfl
  · rw [if_neg e, List.getElem?_set_ne (Ne.symm e)]
theorem key_snoc {xs : List Int} {p : Nat} {z : Int} (h : p < xs.length) : key (xs ++ [z]) p = key xs p := by
  unfold key
  rw [List.getD_eq_getElem?_getD, List.getD_eq_getElem?_getD, List.getElem?_append_left h]
/-- a heap but perhaps at q -/
def Hb (m : Nat) (rs : List Int) (q : Nat) : Prop := (∀ p, 0 < p → p < rs.length → p ≠ q → key rs (par m p) ≤ key rs p) ∧ (0 < q → ∀ p, 0 < p → p < rs.length → par m p = q → key rs (par m q) ≤ key rs p)
theorem hb_new {m : Nat} {rs : List Int} {z : Int} (h : IsHeap m rs) : Hb m (rs ++ [z]) rs.length := by
  refine ⟨fun p p0 hp ne => ?_, fun _ p p0 hp e => ?_⟩
  · rw [List.length_append, List.length_singleton] at hp
    have hp2 : p < rs.length := by omega
    rw [key_snoc hp2, key_snoc (Nat.lt_trans (par_lt p0) hp2)]
    exact h p p0 hp2
  · rw [List.length_append, List.length_singleton] at hp
    have := par_lt (m := m) p0
    omega
theorem hb_done {m : Nat} {rs : List Int} {q : Nat} (h : Hb m rs q) (hq : q = 0 ∨ key rs (par m q) ≤ key rs q) : IsHeap m rs := fun p p0 hp => by
  by_cases e : p = q
  · rcases hq with z | z
    · omega
    · rw [e]
      exact z
  · exact h.1 p p0 hp e
theorem hb_step {m : Nat} {rs : List Int} {q : Nat} (h : Hb m rs q) (q0 : 0 < q) (hq : q < rs.length) (hk : key rs q < key rs (par m q)) : Hb m ((rs.set q (key rs (par m q))).set (par m q) (key rs q)) (par m q) := by
  have hlt := par_lt (m := m) q0
  have kk : ∀ p, key ((rs.set q (key rs (par m q))).set (par m q) (key rs q)) p = if p = par m q then key rs q else if p = q then key rs (par m q) else key rs p := fun p => by
    rw [key_set (by rw [List.length_set]; omega), key_set hq]
  obtain ⟨h1, h2⟩ := h
  have hlen : ((rs.set q (key rs (par m q))).set (par m q) (key rs q)).length = rs.length := by rw [List.length_set, List.length_set]
  refine ⟨fun p p0 hp ne => ?_, fun p0' p p0 hp e => ?_⟩
  · rw [hlen] at hp
    have hpp := par_lt (m := m) p0
    rw [kk, kk, if_neg ne]
    by_cases e1 : p = q
    · subst e1
      rw [if_pos rfl, if_pos rfl]
      omega
    · rw [if_neg e1]
      have a1 := h1 p p0 hp e1
      by_cases e2 : par m p = par m q
      · rw [if_pos e2]
        rw [e2] at a1
        omega
      · rw [if_neg e2]
        by_cases e3 : par m p = q
        · rw [if_pos e3]
          exact h2 q0 p p0 hp e3
        · rw [if_neg e3]
          exact a1
  · rw [hlen] at hp
    have hlt2 := par_lt (m := m) p0'
    rw [kk, kk, if_neg (by omega : ¬ par m (par m q) = par m q), if_neg (by omega : ¬ par m (par m q) = q)]
    have hpp := par_lt (m := m) p0
    have a1 := h1 (par m q) p0' (by omega) (by omega)
    rw [if_neg (by omega : ¬ p = par m q)]
    by_cases e1 : p = q
    · rw [if_pos e1]
      exact a1
    · rw [if_neg e1]
      have a2 := h1 p p0 hp e1
      rw [e] at a2
      omega
theorem swap_perm {rs : List Int} {i j : Nat} (hi : i < rs.length) (hj : j < rs.length) : ((rs.set i (key rs j)).set j (key rs i)).Perm rs := by
  have e1 : key rs j = rs[j] := by
    have := key_at hj
    rw [List.getElem?_eq_getElem hj] at this
    exact (Option.some.inj this).symm
  have e2 : key rs i = rs[i] := by
    have := key_at hi
    rw [List.getElem?_eq_getElem hi] at this
    exact (Option.some.inj this).symm
  rw [e1, e2]
  exact List.set_set_perm hi hj
def sp_law_heap (K : PySem.W.Frag) : Sp := fun vs H Q _ => ∃ (t : Addr) (zs : List Int) (m : Nat), vs = [.ref t, .int (m : Nat)] ∧ H t = some (.lst (zs.map V.int)) ∧ 1 ≤ m ∧ m ≤ 4 ∧ zs.length ≤ 11 ∧ ∀ l rs H', Ex (TK K) H H' → H' l = some (.lst (rs.map V.int)) → rs.Perm zs → IsHeap m rs → Q (.ref l) H'
theorem ok_law_heap (W : Wd K mg base) : OkD P w K mg base d_law_heap ["keys", "wide"] 2 (sp_law_heap K) := by
  have S : FnScope ["keys", "wide", "row", "key", "place", "lap", "above"] ["keys", "wide"] d_law_heap.scope := ⟨rfl, rfl, rfl, by decide +kernel, rfl, by decide +kernel, by decide +kernel⟩
  refine ok_of W.d_law_heap S (fun vs H Q E h => ?_) (fun _ _ _ _ _ _ us hl => match us, hl with | [_, _], _ => rfl) (fun cdv A outer s H vs Q E hr h => ⟨_, (pss_cons (ps_set (i := 2) S.nd rfl (Or.inl rfl) (c_lst (T := TK K) pa_nil))
      (pss_cons (ps_for PassesOwn.never rfl (pi_list (pv 0)) (pg_name (i := 3) S.nd rfl (Or.inl rfl)) (pss_cons (ps_expr (pe_bm PySem.F.plainAttrs_list PySem.F.slot_list_append PySem.F.type_list_append mt_append (pv 2) (pa_cons (pv 3) pa_nil)))
      (pss_cons (ps_set (i := 4) S.nd rfl (Or.inl rfl) (pe_op op_sub (pe_callB l_len (by rfl) (by exact W.f_len) boot_len (pa_cons (pv 2) pa_nil)) (pe_int)))
      (pss_one (ps_for PassesOwn.never rfl (pi_range1 (by rfl) (by exact W.f_range) (pa_cons (pe_int) pa_nil)) (pg_name (i := 5) S.nd rfl (Or.inl rfl)) (pss_cons (ps_if (PW.pt (pw_or (pt_cmpR op_eq (pv 4) (pe_int) (nomark _)) (pw_or1 (pt_cmpR op_le (pe_ix l_ix (pv 2) (c_call (ok_law_parent W) hr (by exact W.g_law_parent) (pa_cons (pv 1) (pa_cons (pv 4) pa_nil))) (fun _ _ => rfl)) (pe_ix l_ix (pv 2) (pv 4) (fun _ _ => rfl)) (nomark _))))) (pss_one (ps_break)) pss_nil)
      (pss_cons (ps_set (i := 6) S.nd rfl (Or.inl rfl) (c_call (ok_law_parent W) hr (by exact W.g_law_parent) (pa_cons (pv 1) (pa_cons (pv 4) pa_nil))))
      (pss_cons (ps_asg (c_tup (T := TK K) (pa_cons (pe_ix l_ix (pv 2) (pv 6) (fun _ _ => rfl)) (pa_cons (pe_ix l_ix (pv 2) (pv 4) (fun _ _ => rfl)) pa_nil))) (pg_tup rfl (pgs_cons (pg_sub (pv 2) (pv 4) set_list (fun _ => rfl)) (pgs_cons (pg_sub (pv 2) (pv 6) set_list (fun _ => rfl)) pgs_nil))))
      (pss_one (ps_set (i := 4) S.nd rfl (Or.inl rfl) (pv 6)))))))))))
      (pss_one (ps_ret (pv 2))))), ?_⟩)
  · obtain ⟨_, _, _, rfl, _⟩ := h
    rfl
  · obtain ⟨t, zs, m, rfl, ht, m1, m4, z11, hQ⟩ := h
    refine r_entry (σ' := [_, _, _, _, _, _, _]) rfl ?_
    walk_at "go"
    refine ⟨by simp, fun l H1 hl e1 h1 => ?_⟩
    walk_at "go"
    refine ⟨t, rfl, ⟨_, sqL_of (e1.lst ht)⟩, ?_⟩
    refine fb_list (xs := zs.map V.int) (fun i σ H' => ∃ (rs : List Int) (x y z u : Option V), σ = [some (.ref t), some (.int (m : Nat)), some (.ref l), x, y, z, u] ∧ Ex (TK K) H H' ∧ H' l = some (.lst (rs.map V.int)) ∧ rs.Perm (zs.take i) ∧ IsHeap m rs ∧ i ≤ zs.length)
      ⟨[], _, _, _, _, rfl, e1, h1, List.Perm.refl _, fun p _ hp => absurd hp (Nat.not_lt_zero _), Nat.zero_le _⟩ (fun i σ H' _ hp => ?_) (fun i v σ H2 hv hp => ?_) fun σ H2 hp => ?_
    · obtain ⟨rs, x, y, z, u, _, e2, _⟩ := hp
      exact sqL_of (e2.lst ht)
    · obtain ⟨rs, x, y, z, u, rfl, e2, h2, hP, hh, hi⟩ := hp
      obtain ⟨zi, rfl, hzi⟩ := geti hv
      have hi2 := (List.getElem?_eq_some_iff.mp hzi).1
      have hlen : rs.length = i := by rw [hP.length_eq, List.length_take]; omega
      walk_at "go"
      refine ⟨ty_lst h2, ?_⟩
      walk_at "go"
      refine r_app h2 (by rw [List.length_map]; omega) ?_
      obtain ⟨H3, hH3, e3, h3⟩ : ∃ H3, upd H2 l (.lst (rs.map V.int ++ [V.int zi])) = H3 ∧ Ex (TK K) H H3 ∧ H3 l = some (.lst ((rs ++ [zi]).map V.int)) := ⟨_, rfl, e2.mut (Fre.of hl) h2, by rw [upd_same, List.map_append]; rfl⟩
      rw [hH3]
      walk_at "go"
      refine r_len (.inl h3) ?_
      walk_at "go"
      refine ⟨20, rfl, by omega, by omega, ?_⟩
      have hpl : (((rs ++ [zi]).map V.int).length : Int) - 1 = ((i : Nat) : Int) := by
        rw [List.length_map, List.length_append, List.length_singleton, hlen]
        omega
      rw [hpl]
      have hP2 : (rs ++ [zi]).Perm (zs.take (i + 1)) := by
        rw [List.take_succ, hzi]
        exact hP.append_right _
      refine fb_rng (fun j σ H' => ∃ (r2 : List Int) (q : Nat) (z2 u2 : Option V), σ = [some (.ref t), some (.int (m : Nat)), some (.ref l), some (.int zi), some (.int (q : Nat)), z2, u2] ∧ Ex (TK K) H H' ∧ H' l = some (.lst (r2.map V.int)) ∧ r2.Perm (zs.take (i + 1)) ∧ Hb m r2 q ∧ q + j ≤ i)
        ⟨_, i, _, _, rfl, e3, h3, hP2, by rw [← hlen]; exact hb_new hh, by omega⟩ (fun j σ H4 hj hp => ?_) fun σ H4 hp => ?_
      · obtain ⟨r2, q, z2, u2, rfl, e4, h4, hP4, hb4, hq⟩ := hp
        have hl2 : r2.length = i + 1 := by rw [hP4.length_eq, List.length_take]; omega
        have stop : (q = 0 ∨ key r2 (par m q) ≤ key r2 q) → ∀ (a b : Option V), ∃ rs x y z u, [some (V.ref t), some (V.int (m : Nat)), some (.ref l), some (.int zi), some (.int (q : Nat)), a, b] = [some (V.ref t), some (V.int (m : Nat)), some (V.ref l), x, y, z, u] ∧ Ex (TK K) H H4 ∧ H4 l = some (.lst (rs.map V.int)) ∧ rs.Perm (zs.take (i + 1)) ∧ IsHeap m rs ∧ i + 1 ≤ zs.length :=
          fun hs a b => ⟨r2, _, _, _, _, rfl, e4, h4, hP4, hb_done hb4 hs, hi2⟩
        walk_at "go"
        refine ⟨rfl, ?_⟩
        rw [dec_i]
        walk_at "go"
        refine r_ite (fun hc => ?_) fun hc => ?_
        · have hc2 : q = 0 := Int.ofNat.inj (of_decide_eq_true hc)
          walk_at "go"
          exact stop (.inl hc2) _ _
        · have q0 : 0 < q := by
            have := of_decide_eq_false hc
            omega
          have hlt := par_lt (m := m) q0
          walk_at "go"
          refine ⟨m, q, rfl, m1, m4, q0, ?_⟩
          refine r_ix (.inl h4) (at_key (by omega)) ?_
          walk_at "go"
          refine r_ix (.inl h4) (at_key (by omega)) ?_
          walk_at "go"
          refine r_ite (fun hd => ?_) fun hd => ?_
          · walk_at "go"
            exact stop (.inr (of_decide_eq_true hd)) _ _
          · have hd2 := of_decide_eq_false hd
            walk_at "go"
            refine ⟨m, q, rfl, m1, m4, q0, ?_⟩
            walk_at "go"
            have hq2 : q < r2.length := by omega
            have hpq2 : par m q < r2.length := by omega
            refine r_ix (.inl h4) (at_key hpq2) ?_
            walk_at "go"
            refine r_ix (.inl h4) (at_key hq2) ?_
            walk_at "go"
            refine ⟨by simp, fun t5 H5 ht5 e5 h5 => ?_⟩
            refine r_tupg (sqT_of h5) rfl ?_
            walk_at "go"
            refine r_setL (e5.lst h4) (ixN_nat (by rw [List.length_map]; exact hq2)) ?_
            obtain ⟨H6, hH6, e6, h6⟩ : ∃ H6, upd H5 l (.lst ((r2.map V.int).set q (V.int (key r2 (par m q))))) = H6 ∧ Ex (TK K) H H6 ∧ H6 l = some (.lst ((r2.set q (key r2 (par m q))).map V.int)) := ⟨_, rfl, (e4.trans e5).mut (Fre.of hl) (e5.lst h4), by rw [upd_same, set_int]⟩
            rw [hH6]
            walk_at "go"
            refine r_setL h6 (ixN_nat (by rw [List.length_map, List.length_set]; exact hpq2)) ?_
            obtain ⟨H7, hH7, e7, h7⟩ : ∃ H7, upd H6 l (.lst (((r2.set q (key r2 (par m q))).map V.int).set (par m q) (V.int (key r2 q)))) = H7 ∧ Ex (TK K) H H7 ∧ H7 l = some (.lst (((r2.set q (key r2 (par m q))).set (par m q) (key r2 q)).map V.int)) := ⟨_, rfl, e6.mut (Fre.of hl) h6, by rw [upd_same, set_int]⟩
            rw [hH7]
            walk_at "go"
            exact ⟨_, par m q, _, _, rfl, e7, h7, (swap_perm hq2 hpq2).trans hP4, hb_step hb4 q0 hq2 (by omega), by omega⟩
      · obtain ⟨r2, q, z2, u2, rfl, e4, h4, hP4, hb4, hq⟩ := hp
        omega
    · obtain ⟨rs, x, y, z, u, rfl, e2, h2, hP, hh, hi⟩ := hp
      walk_at "go"
      rw [List.length_map, List.take_length] at hP
      exact hQ l rs H2 e2 h2 hP hh
/-! ### the law's way down -/
theorem lkids_mem {m n p c : Nat} (m1 : 1 ≤ m) : c ∈ lkids m n p ↔ c ∈ kids m n p := by
  rw [kids_mem]
  unfold lkids
  rw [List.mem_filter, List.mem_map]
  constructor
  · rintro ⟨⟨i, hi, rfl⟩, h⟩
    have h2 := of_decide_eq_true h
    rw [List.mem_range] at hi
    unfold par at h2
    rw [Nat.add_sub_cancel] at h2
    have h3 := Nat.div_add_mod i m
    have h4 := Nat.mod_lt i (show 0 < m by omega)
    rw [h2] at h3
    omega
  · rintro ⟨h1, h2, h3⟩
    refine ⟨⟨c - 1, by rw [List.mem_range]; omega, by omega⟩, ?_⟩
    refine decide_eq_true ?_
    unfold par
    have e : c - 1 = m * p + (c - 1 - m * p) := by omega
    rw [e, Nat.mul_add_div (by omega), Nat.div_eq_of_lt (by omega), Nat.add_zero]
theorem lkids_sorted (m n p : Nat) : (lkids m n p).Pairwise (· < ·) := by
  unfold lkids
  refine List.Pairwise.filter _ ?_
  rw [List.pairwise_map]
  exact List.pairwise_lt_range.imp fun h => by omega
theorem lkids_nil {m n p : Nat} (m1 : 1 ≤ m) : lkids m n p = [] ↔ kids m n p = [] := by
  rw [List.eq_nil_iff_forall_not_mem, List.eq_nil_iff_forall_not_mem]
  exact ⟨fun h c hc => h c ((lkids_mem m1).mpr hc), fun h c hc => h c ((lkids_mem m1).mp hc)⟩
/-- the least of the first places so far -/
def LeastI (ns : List Int) (cs : List Nat) (i : Nat) (c : Nat) : Prop := ∃ j, j ≤ i - 1 ∧ cs[j]? = some c ∧ ∀ k d, k < i → cs[k]? = some d → key ns c < key ns d ∨ (key ns c = key ns d ∧ c ≤ d)
theorem leastI_all {ns : List Int} {cs : List Nat} {c : Nat} (h : LeastI ns cs cs.length c) : Least ns cs c := by
  obtain ⟨j, _, hj, h2⟩ := h
  refine ⟨List.mem_of_getElem? hj, fun d hd => ?_⟩
  obtain ⟨k, hk⟩ := List.mem_iff_getElem?.mp hd
  exact h2 k d (List.getElem?_eq_some_iff.mp hk).1 hk
theorem sorted_le {cs : List Nat} (h : cs.Pairwise (· < ·)) {j i c d : Nat} (hji : j ≤ i) (hj : cs[j]? = some c) (hi : cs[i]? = some d) : c ≤ d := by
  by_cases e : j = i
  · rw [e, hi] at hj
    rw [Option.some.inj hj]
    exact Nat.le_refl _
  · obtain ⟨h1, rfl⟩ := List.getElem?_eq_some_iff.mp hj
    obtain ⟨h2, rfl⟩ := List.getElem?_eq_some_iff.mp hi
    exact Nat.le_of_lt (List.pairwise_iff_getElem.mp h j i h1 h2 (by omega))
theorem leastI_keep {ns : List Int} {cs : List Nat} {i c d : Nat} (hs : cs.Pairwise (· < ·)) (h : LeastI ns cs i c) (hd : cs[i]? = some d) (hk : ¬ key ns d < key ns c) : LeastI ns cs (i + 1) c := by
  obtain ⟨j, hj1, hj, h2⟩ := h
  refine ⟨j, by omega, hj, fun k e hk1 he => ?_⟩
  by_cases z : k = i
  · subst z
    rw [hd] at he
    have := Option.some.inj he
    subst this
    have := sorted_le hs (show j ≤ k by omega) hj hd
    omega
  · exact h2 k e (by omega) he
theorem leastI_new {ns : List Int} {cs : List Nat} {i c d : Nat} (h : LeastI ns cs i c) (hd : cs[i]? = some d) (hk : key ns d < key ns c) : LeastI ns cs (i + 1) d := by
  obtain ⟨j, hj1, hj, h2⟩ := h
  refine ⟨i, by omega, hd, fun k e hk1 he => ?_⟩
  by_cases z : k = i
  · subst z
    rw [hd] at he
    have := Option.some.inj he
    subst this
    omega
  · have := h2 k e (by omega) he
    omega
/-! ### keys of a row drawn up -/
theorem mvI_pre (ns : List Int) (us vs : List Nat) : ∀ i, i < us.length → mvI ns (us ++ vs) i = mvI ns us i
  | 0, _ => rfl
  | i + 1, h => by
    unfold mvI
    rw [mvI_pre ns us vs i (by omega), List.getD_eq_getElem?_getD, List.getD_eq_getElem?_getD, List.getD_eq_getElem?_getD, List.getD_eq_getElem?_getD, List.getElem?_append_left (by omega), List.getElem?_append_left h]
theorem key_mvI {ns : List Int} {us : List Nat} (hlt : ∀ q ∈ us, q < ns.length) {c : Nat} (hc : c ∉ us) : ∀ i, i < us.length → key (mvI ns us i) c = key ns c
  | 0, _ => rfl
  | i + 1, h => by
    unfold mvI
    have h1 : us.getD i 0 ∈ us := getD_mem (by omega)
    rw [key_set (by rw [mvI_length]; exact hlt _ h1), if_neg (fun e => hc (by rw [e]; exact h1))]
    exact key_mvI hlt hc i (by omega)
theorem key_moved {ns : List Int} {us : List Nat} (hlt : ∀ q ∈ us, q < ns.length) (hu : us ≠ []) {c : Nat} (hc : c ∉ us) : key (movedL ns us) c = key ns c := by
  have hl := List.length_pos_iff.mpr hu
  have h1 : us.getD (us.length - 1) 0 ∈ us := getD_mem (by omega)
  unfold movedL
  rw [key_set (by rw [mvI_length]; exact hlt _ h1), if_neg (fun e => hc (by rw [e]; exact h1))]
  exact key_mvI hlt hc _ (by omega)
theorem getD_snoc (pre : List Nat) (q : Nat) : (pre ++ [q]).getD pre.length 0 = q := by
  rw [List.getD_eq_getElem?_getD, List.getElem?_append_right (Nat.le_refl _), Nat.sub_self]
  rfl
theorem moved_snoc {ns : List Int} {pre : List Nat} {q : Nat} : movedL ns (pre ++ [q]) = (mvI ns (pre ++ [q]) pre.length).set q (key ns ((pre ++ [q]).getD 0 0)) := by
  unfold movedL
  rw [List.length_append, List.length_singleton, Nat.add_sub_cancel, getD_snoc]
theorem key_moved_last {ns : List Int} {pre : List Nat} {q : Nat} (hq : q < ns.length) : key (movedL ns (pre ++ [q])) q = key ns ((pre ++ [q]).getD 0 0) := by
  rw [moved_snoc, key_set (by rw [mvI_length]; exact hq), if_pos rfl]
theorem getD_zero (pre : List Nat) (q c : Nat) : (pre ++ [q] ++ [c]).getD 0 0 = (pre ++ [q]).getD 0 0 := by
  cases pre <;> rfl
theorem moved_step {ns : List Int} {pre : List Nat} {q c : Nat} : ((movedL ns (pre ++ [q])).set q (key ns c)).set c (key ns ((pre ++ [q]).getD 0 0)) = movedL ns (pre ++ [q] ++ [c]) := by
  rw [moved_snoc, List.set_set, moved_snoc (pre := pre ++ [q]) (q := c), getD_zero]
  have e1 : (pre ++ [q]).length = pre.length + 1 := by rw [List.length_append, List.length_singleton]
  rw [e1]
  conv => rhs; unfold mvI
  rw [mvI_pre ns (pre ++ [q]) [c] pre.length (by rw [e1]; omega)]
  have e2 : (pre ++ [q] ++ [c]).getD pre.length 0 = q := by
    rw [List.getD_eq_getElem?_getD, List.getElem?_append_left (by rw [e1]; omega), ← List.getD_eq_getElem?_getD, getD_snoc]
  have e3 : (pre ++ [q] ++ [c]).getD (pre.length + 1) 0 = c := by
    rw [← e1]
    exact getD_snoc _ _
  rw [e2, e3]
section
variable {P : Program} {w : World} {K : PySem.W.Frag} {mg : Str → Option Value} {base : Heap}
def sp_law_down (K : PySem.W.Frag) : Sp := fun vs H Q _ => ∃ (a : Addr) (ns : List Int) (m : Nat), vs = [.ref a, .int (m : Nat), .int 0] ∧ H a = some (.lst (ns.map V.int)) ∧ 1 ≤ m ∧ m ≤ 4 ∧ 1 ≤ ns.length ∧ ns.length ≤ 12 ∧
  ∀ t lt wt k us H', Ex (TK K) H H' → H' t = some (.tup [.ref lt, .ref wt, .int k]) → H' lt = some (.tup ((movedL ns us).map V.int)) → H' wt = some (.tup ((nI us).map V.int)) → Down m ns (key ns 0) 0 us → Q (.ref t) H'
theorem ok_law_down (W : Wd K mg base) : OkD P w K mg base d_law_down ["row", "wide", "place"] 3 (sp_law_down K) := by
  have S : FnScope ["row", "wide", "place", "late", "way", "looks", "lap", "below", "least", "other"] ["row", "wide", "place"] d_law_down.scope := ⟨rfl, rfl, rfl, by decide +kernel, rfl, by decide +kernel, by decide +kernel⟩
  refine ok_of W.d_law_down S (fun vs H Q E h => ?_) (fun _ _ _ _ _ _ us hl => match us, hl with | [_, _, _], _ => rfl) (fun cdv A outer s H vs Q E hr h => ⟨_, (pss_cons (ps_par3 (i := 3) (j := 4) (l := 5) rfl S.nd rfl rfl rfl (by decide) (by decide) (by decide) rfl rfl rfl (pa_cons (pe_callTy (l_list (T := TK K)) (by rfl) (by exact W.f_list) PyProof.Rows.boot_list (pa_cons (pv 0) pa_nil)) (pa_cons (c_lst (T := TK K) (pa_cons (pv 2) pa_nil)) (pa_cons (pe_int) pa_nil))) (by rfl))
      (pss_cons (ps_for PassesOwn.never rfl (pi_range1 (by rfl) (by exact W.f_range) (pa_cons (pe_int) pa_nil)) (pg_name (i := 6) S.nd rfl (Or.inl rfl)) (pss_cons (ps_set (i := 7) S.nd rfl (Or.inl rfl) (c_call (ok_law_children W) hr (by exact W.g_law_children) (pa_cons (pv 1) (pa_cons (pe_callB l_len (by rfl) (by exact W.f_len) boot_len (pa_cons (pv 0) pa_nil)) (pa_cons (pe_ix l_ix (pv 4) (pe_un un_neg (pe_int)) (fun _ _ => rfl)) pa_nil)))))
      (pss_cons (ps_if (pt_cmpR (l_eq hr.units) (pv 7) (c_lst (T := TK K) pa_nil) (nomark _)) (pss_one (ps_break)) pss_nil)
      (pss_cons (ps_par (i := 5) (j := 8) rfl S.nd rfl rfl (by decide) rfl rfl (pa_cons (pe_op op_add (pv 5) (pe_callB l_len (by rfl) (by exact W.f_len) boot_len (pa_cons (pv 7) pa_nil))) (pa_cons (pe_ix l_ix (pv 7) (pe_int) (fun _ _ => rfl)) pa_nil)) (by rfl))
      (pss_cons (ps_for PassesOwn.never rfl (pi_list (pv 7)) (pg_name (i := 9) S.nd rfl (Or.inl rfl)) (pss_one (ps_if (pt_cmpR op_lt (pe_ix l_ix (pv 3) (pv 9) (fun _ _ => rfl)) (pe_ix l_ix (pv 3) (pv 8) (fun _ _ => rfl)) (nomark _)) (pss_one (ps_set (i := 8) S.nd rfl (Or.inl rfl) (pv 9))) pss_nil)))
      (pss_cons (ps_if (pt_not (pt_cmpR op_gt (pe_ix l_ix (pv 3) (pe_ix l_ix (pv 4) (pe_un un_neg (pe_int)) (fun _ _ => rfl)) (fun _ _ => rfl)) (pe_ix l_ix (pv 3) (pv 8) (fun _ _ => rfl)) (nomark _))) (pss_one (ps_break)) pss_nil)
      (pss_cons (ps_asg (c_tup (T := TK K) (pa_cons (pe_ix l_ix (pv 3) (pv 8) (fun _ _ => rfl)) (pa_cons (pe_ix l_ix (pv 3) (pe_ix l_ix (pv 4) (pe_un un_neg (pe_int)) (fun _ _ => rfl)) (fun _ _ => rfl)) pa_nil))) (pg_tup rfl (pgs_cons (pg_sub (pv 3) (pe_ix l_ix (pv 4) (pe_un un_neg (pe_int)) (fun _ _ => rfl)) set_list (fun _ => rfl)) (pgs_cons (pg_sub (pv 3) (pv 8) set_list (fun _ => rfl)) pgs_nil))))
      (pss_one (ps_expr (pe_bm PySem.F.plainAttrs_list PySem.F.slot_list_append PySem.F.type_list_append mt_append (pv 4) (pa_cons (pv 8) pa_nil)))))))))))
      (pss_one (ps_ret (c_tup (T := TK K) (pa_cons (pe_callTy (l_tuple (T := TK K)) (by rfl) (by exact W.f_tuple) PyProof.Rows.boot_tuple (pa_cons (pv 3) pa_nil)) (pa_cons (pe_callTy (l_tuple (T := TK K)) (by rfl) (by exact W.f_tuple) PyProof.Rows.boot_tuple (pa_cons (pv 4) pa_nil)) (pa_cons (pv 5) pa_nil)))))))), ?_⟩)
  · obtain ⟨_, _, _, rfl, _⟩ := h
    rfl
  · obtain ⟨a, ns, m, rfl, ha, m1, m4, n1, n12, hQ⟩ := h
    refine r_entry (σ' := [_, _, _, _, _, _, _, _, _, _]) rfl ?_
    walk_at "go"
    refine ⟨a, _, rfl, .inl ha, fun l1 H1 hl1 e1 h1 => ?_⟩
    walk_at "go"
    refine ⟨by simp, fun l2 H2 hl2 e2 h2 => ?_⟩
    walk_at "go"
    refine ⟨20, rfl, by omega, by omega, ?_⟩
    have hm0 : movedL ns ([] ++ [0]) = ns := by
      rw [moved_snoc]
      show ns.set 0 (key ns 0) = ns
      refine List.ext_getElem (by rw [List.length_set]) fun j h1 h2 => ?_
      rw [List.getElem_set]
      by_cases z : 0 = j
      · subst z
        rw [if_pos rfl]
        have := key_at h2
        rw [List.getElem?_eq_getElem h2] at this
        exact (Option.some.inj this).symm
      · rw [if_neg z]
    refine fb_rng (fun i σ H' => ∃ (pre : List Nat) (q : Nat) (k : Int) (x6 x7 x8 x9 : Option V), σ = [some (.ref a), some (.int (m : Nat)), some (.int 0), some (.ref l1), some (.ref l2), some (.int k), x6, x7, x8, x9] ∧ Ex (TK K) H H' ∧ H' l1 = some (.lst ((movedL ns (pre ++ [q])).map V.int)) ∧
      H' l2 = some (.lst ((nI (pre ++ [q])).map V.int)) ∧ q < ns.length ∧ pre.length = i ∧ pre.length ≤ q ∧ (pre ++ [q]).getD 0 0 = 0 ∧ (∀ r ∈ pre, r < q) ∧ ∀ us, Down m ns (key ns 0) q us → Down m ns (key ns 0) 0 (pre ++ us))
      ⟨[], 0, 0, _, _, _, _, rfl, e1.trans e2, by rw [hm0]; exact e2.lst h1, h2, by omega, rfl, Nat.le_refl _, rfl, fun r hr => (by cases hr), fun us h => h⟩ (fun i σ H3 hi hp => ?_) fun σ H3 hp => ?_
    · obtain ⟨pre, q, k, x6, x7, x8, x9, rfl, e3, h13, h23, hq, hpi, hpq, hz, hlt, hd⟩ := hp
      have hall : ∀ r ∈ pre ++ [q], r < ns.length ∧ r ≤ q := fun r hr => by
        rcases List.mem_append.mp hr with z | z
        · have := hlt r z
          omega
        · rw [List.mem_singleton.mp z]
          omega
      have hne : pre ++ [q] ≠ [] := by simp
      have hlast : atI ((nI (pre ++ [q])).map V.int) (-1) = some (.int (q : Nat)) := at_last (by rw [nI_append]; simp [nI])
      have hmlen : (movedL ns (pre ++ [q])).length = ns.length := by unfold movedL; rw [List.length_set, mvI_length]
      have hkq : key (movedL ns (pre ++ [q])) q = key ns 0 := by rw [key_moved_last hq, hz]
      have hkc : ∀ c, q < c → key (movedL ns (pre ++ [q])) c = key ns c := fun c hc => key_moved (fun r hr => (hall r hr).1) hne (fun z => by have := (hall c z).2; omega)
      walk_at "go"
      refine r_len (.inl (e3.lst ha)) ?_
      walk_at "go"
      rw [List.length_map]
      refine r_ix (.inl h23) hlast ?_
      walk_at "go"
      refine ⟨m, ns.length, q, rfl, m1, m4, n1, by omega, fun l3 H4 e4 h4 => ?_⟩
      walk_at "go"
      refine ⟨by simp, fun l5 H5 hl5 e5 h5 => ?_⟩
      refine ⟨_, eqb_nil (e5.lst h4) h5, ?_⟩
      walk_at "go"
      have e45 := e4.trans e5
      have e35 := e3.trans e45
      have h15 := e45.lst h13
      have h25 := e45.lst h23
      have h35 := e5.lst h4
      generalize hcs : lkids m ns.length q = cs at *
      refine r_ite (fun hc => ?_) fun hc => ?_
      · have hnil : cs = [] := of_decide_eq_true hc
        have hstop : Down m ns (key ns 0) q [q] := .stop ((lkids_nil m1).mp (hcs.trans hnil))
        walk_at "go"
        refine ⟨l1, _, rfl, .inl h15, fun p1 H6 e6 h6 => ?_⟩
        walk_at "go"
        refine ⟨l2, _, rfl, .inl (e6.lst h25), fun p2 H7 e7 h7 => ?_⟩
        walk_at "go"
        exact ⟨by simp, fun t H8 ht e8 h8 => hQ t p1 p2 _ (pre ++ [q]) H8 (e35.trans (e6.trans (e7.trans e8))) h8 (e8.tup (e7.tup h6)) (e8.tup h7) (hd _ hstop)⟩
      · have hnil : cs ≠ [] := of_decide_eq_false hc
        have hcl := List.length_pos_iff.mpr hnil
        have hmem : ∀ c ∈ cs, q < c ∧ c < ns.length := fun c hc => kids_gt m1 ((lkids_mem m1).mp (by rw [hcs]; exact hc))
        have hsort : cs.Pairwise (· < ·) := by rw [← hcs]; exact lkids_sorted _ _ _
        walk_at "go"
        refine r_len (.inl h35) ?_
        walk_at "go"
        refine r_ix (.inl h35) (atI_nat (j := 0) (nI_at hcl)) ?_
        walk_at "go"
        refine ⟨l3, rfl, ⟨_, sqL_of h35⟩, ?_⟩
        have hc0 : cs[0]? = some (cs.getD 0 0) := by rw [List.getD_eq_getElem?_getD, List.getElem?_eq_getElem hcl]; rfl
        refine fb_list (xs := (nI cs).map V.int) (fun j σ H' => ∃ (c : Nat) (k2 : Int) (y : Option V), σ = [some (.ref a), some (.int (m : Nat)), some (.int 0), some (.ref l1), some (.ref l2), some (.int k2), some (.int (0 + (i : Nat) : Int)), some (.ref l3), some (.int (c : Nat)), y] ∧ Ex (TK K) H5 H' ∧ LeastI ns cs j c)
          ⟨_, _, _, rfl, Ex.refl _, 0, by omega, hc0, fun k d hk => absurd hk (Nat.not_lt_zero _)⟩ (fun j σ H' _ hp => ?_) (fun j v σ H6 hv hp => ?_) fun σ H6 hp => ?_
        · obtain ⟨c, k2, y, _, e6, _⟩ := hp
          exact sqL_of (e6.lst h35)
        · obtain ⟨c, k2, y, rfl, e6, hL⟩ := hp
          obtain ⟨z, rfl, hz2⟩ := geti hv
          have hd2 : ∃ d, cs[j]? = some d ∧ z = (d : Int) := by
            unfold nI at hz2
            rw [List.getElem?_map] at hz2
            cases e : cs[j]? with
            | none =>
              rw [e] at hz2
              cases hz2
            | some d =>
              rw [e] at hz2
              exact ⟨d, rfl, (Option.some.inj hz2).symm⟩
          obtain ⟨d, hdj, rfl⟩ := hd2
          obtain ⟨jc, _, hjc, _⟩ := id hL
          obtain ⟨hcq, hcn⟩ := hmem c (List.mem_of_getElem? hjc)
          obtain ⟨hdq, hdn⟩ := hmem d (List.mem_of_getElem? hdj)
          have h16 := e6.lst h15
          walk_at "go"
          refine r_ix (.inl h16) (at_key (by rw [hmlen]; exact hdn)) ?_
          walk_at "go"
          refine r_ix (.inl h16) (at_key (by rw [hmlen]; exact hcn)) ?_
          rw [hkc d hdq, hkc c hcq]
          walk_at "go"
          refine r_ite (fun hb => ?_) fun hb => ?_
          · walk_at "go"
            exact ⟨d, _, _, rfl, e6, leastI_new hL hdj (of_decide_eq_true hb)⟩
          · walk_at "go"
            exact ⟨c, _, _, rfl, e6, leastI_keep hsort hL hdj (of_decide_eq_false hb)⟩
        · obtain ⟨c, k2, y, rfl, e6, hL⟩ := hp
          rw [List.length_map, nI_length] at hL
          have hLe := leastI_all hL
          obtain ⟨hcq, hcn⟩ := hmem c hLe.1
          have hLk : Least ns (kids m ns.length q) c := ⟨(lkids_mem m1).mp (by rw [hcs]; exact hLe.1), fun d hd => hLe.2 d (by rw [← hcs]; exact (lkids_mem m1).mpr hd)⟩
          have h16 := e6.lst h15
          have h26 := e6.lst h25
          have e36 := e35.trans e6
          walk_at "go"
          refine r_ix (.inl h26) hlast ?_
          refine r_ix (.inl h16) (at_key (by rw [hmlen]; exact hq)) ?_
          walk_at "go"
          refine r_ix (.inl h16) (at_key (by rw [hmlen]; exact hcn)) ?_
          rw [hkq, hkc c hcq]
          walk_at "go"
          refine r_ite (fun hb => ?_) fun hb => ?_
          · have hb2 : key ns 0 ≤ key ns c := by simpa using hb
            walk_at "go"
            refine ⟨l1, _, rfl, .inl h16, fun p1 H7 e7 h7 => ?_⟩
            walk_at "go"
            refine ⟨l2, _, rfl, .inl (e7.lst h26), fun p2 H8 e8 h8 => ?_⟩
            walk_at "go"
            exact ⟨by simp, fun t H9 ht e9 h9 => hQ t p1 p2 _ (pre ++ [q]) H9 (e36.trans (e7.trans (e8.trans e9))) h9 (e9.tup (e8.tup h7)) (e9.tup h8) (hd _ (.stay hLk hb2))⟩
          · have hb2 : ¬ key ns 0 ≤ key ns c := by simpa using hb
            walk_at "go"
            refine r_ix (.inl h16) (at_key (by rw [hmlen]; exact hcn)) ?_
            walk_at "go"
            refine r_ix (.inl h26) hlast ?_
            refine r_ix (.inl h16) (at_key (by rw [hmlen]; exact hq)) ?_
            rw [hkq, hkc c hcq]
            walk_at "go"
            have h12 : l1 ≠ l2 := fun z => by
              rw [z, hl2] at h1
              cases h1
            have f1 : Fre H l1 := Fre.of hl1
            have f2 : Fre H l2 := e1.fre hl2
            refine ⟨by simp, fun t5 H7 ht5 e7 h7 => ?_⟩
            refine r_tupg (sqT_of h7) rfl ?_
            walk_at "go"
            have h17 := e7.lst h16
            have h27 := e7.lst h26
            have e37 := e36.trans e7
            refine r_ix (.inl h27) hlast ?_
            refine r_setL h17 (ixN_nat (by rw [List.length_map, hmlen]; exact hq)) ?_
            obtain ⟨H8, hH8, e8, h18, h28⟩ : ∃ H8, upd H7 l1 (.lst (((movedL ns (pre ++ [q])).map V.int).set q (V.int (key ns c)))) = H8 ∧ Ex (TK K) H H8 ∧ H8 l1 = some (.lst (((movedL ns (pre ++ [q])).set q (key ns c)).map V.int)) ∧ H8 l2 = some (.lst ((nI (pre ++ [q])).map V.int)) :=
              ⟨_, rfl, e37.mut f1 h17, by rw [upd_same, set_int], by rw [upd_ne (Ne.symm h12)]; exact h27⟩
            rw [hH8]
            walk_at "go"
            refine r_setL h18 (ixN_nat (by rw [List.length_map, List.length_set, hmlen]; exact hcn)) ?_
            obtain ⟨H9, hH9, e9, h19, h29⟩ : ∃ H9, upd H8 l1 (.lst ((((movedL ns (pre ++ [q])).set q (key ns c)).map V.int).set c (V.int (key ns 0)))) = H9 ∧ Ex (TK K) H H9 ∧ H9 l1 = some (.lst ((movedL ns (pre ++ [q] ++ [c])).map V.int)) ∧ H9 l2 = some (.lst ((nI (pre ++ [q])).map V.int)) :=
              ⟨_, rfl, e8.mut f1 h18, by rw [upd_same, set_int, ← moved_step, hz], by rw [upd_ne (Ne.symm h12)]; exact h28⟩
            rw [hH9]
            walk_at "go"
            refine ⟨ty_lst h29, ?_⟩
            walk_at "go"
            refine r_app h29 (by rw [List.length_map, nI_length, List.length_append, List.length_singleton]; omega) ?_
            refine ⟨pre ++ [q], c, _, _, _, _, _, rfl, e9.mut f2 h29, by rw [upd_ne h12]; exact h19, ?_, hcn, by rw [List.length_append, List.length_singleton, hpi], by rw [List.length_append, List.length_singleton]; omega, by rw [getD_zero]; exact hz, fun r hr => by have := (hall r hr).2; omega, fun us h => ?_⟩
            · rw [upd_same, nI_append (pre ++ [q]), List.map_append]
              rfl
            · rw [List.append_assoc]
              exact hd _ (.go hLk hb2 h)
    · obtain ⟨pre, q, k, x6, x7, x8, x9, rfl, e3, h13, h23, hq, hpi, hpq, _⟩ := hp
      omega
end
end
end Hr

set_option maxHeartbeats 4000000
/-! HrV: the law's takings. (src/HrV.txt by expand.py) -/
namespace Hr
open PySem PySem.Spec PyProof.Rows L2 LamX SlX
-- one step of a reading; its repetition
local macro_rules | `(tactic| walk_at "st") => `(tactic| first
    | with_reducible refine r_seq ?_
    | with_reducible refine r_var rfl ?_
    | with_reducible refine r_c ?_
    | with_reducible refine r_cons ?_
    | with_reducible refine r_nil ?_
    | with_reducible refine r_op ?_
    | with_reducible refine r_asg ?_
    | with_reducible refine r_I0 ?_
    | with_reducible refine r_cb ?_
    | with_reducible refine r_call ?_
    | with_reducible refine r_ret ?_
    | with_reducible refine r_ifS ?_
    | with_reducible refine r_test ?_
    | with_reducible refine r_B ?_
    | with_reducible refine r_bl ?_
    | with_reducible refine r_Not ?_
    | with_reducible refine r_And ?_
    | with_reducible refine r_Or ?_
    | with_reducible refine r_AndV ?_
    | with_reducible refine r_OrV ?_
    | with_reducible refine r_NotV ?_
    | with_reducible refine r_If ?_
    | with_reducible refine r_un ?_
    | with_reducible refine r_U ?_
    | with_reducible refine r_drop ?_
    | with_reducible refine r_next ?_
    | with_reducible refine r_retN ?_
    | with_reducible refine r_brk ?_
    | with_reducible refine r_par ?_
    | with_reducible refine r_par3 ?_
    | with_reducible refine r_two ?_
    | with_reducible refine r_three ?_
    | with_reducible refine r_lst ?_
    | with_reducible refine r_tup ?_
    | with_reducible refine r_intc ?_
    | with_reducible refine r_min ?_
    | with_reducible refine r_sl ?_
    | with_reducible refine r_part ?_
    | with_reducible refine r_noPart ?_
    | with_reducible refine r_slice ?_
    | with_reducible refine r_revL ?_
    | with_reducible refine r_bm ?_
    | with_reducible refine r_meth ?_
    | with_reducible refine r_callK ?_
    | with_reducible refine r_sub ?_
    | with_reducible refine r_gcons ?_
    | with_reducible refine r_gnil ?_
    | with_reducible refine r_int1 ?_
    | with_reducible refine r_chain ?_
    | with_reducible refine r_isiI ?_
    | with_reducible refine r_isiB ?_
    | with_reducible refine r_tt ?_
    | with_reducible refine r_ff ?_
    | with_reducible refine r_nt ?_
    | with_reducible refine r_nf ?_
    | with_reducible refine r_iEnum ?_
    | with_reducible refine r_iZipA ?_
    | with_reducible refine r_iZip ?_
    | with_reducible refine r_iRng1 ?_
    | with_reducible refine r_iRng2 ?_
    | with_reducible refine r_iList ?_
    | with_reducible refine r_iTup ?_
    | with_reducible refine r_tupRg ?_
    | with_reducible refine r_lstRg ?_
    | with_reducible refine r_rg1 ?_
    | with_reducible refine r_rg2 ?_
    | with_reducible refine r_int2 ?_
    | with_reducible refine r_ssl ?_
    | with_reducible refine r_aug rfl ?_
    | with_reducible refine r_ipI ?_
    | with_reducible refine r_makeK ?_
    | with_reducible refine r_make ?_
    | with_reducible refine r_methK ?_
    | with_reducible refine r_ktup ?_
    | with_reducible refine r_star ?_
    | with_reducible refine r_for ?_
    | with_reducible refine r_lc ?_
    | with_reducible refine r_iOwn ?_
    | with_reducible refine r_yes ?_
    | with_reducible refine r_gn0 ?_
    | with_reducible refine r_gn1 ?_
    | with_reducible refine r_gn2 ?_
    | with_reducible refine r_gn3 ?_
    | with_reducible refine r_gn4 ?_
    | with_reducible refine r_gn5 ?_
    | with_reducible refine r_gn6 ?_
    | with_reducible refine r_gn7 ?_
    | with_reducible refine r_gn8 ?_
    | with_reducible refine r_gn9 ?_
    | with_reducible refine r_gn10 ?_
    | with_reducible refine r_gn11 ?_
    | with_reducible refine r_gn12 ?_
    | with_reducible refine r_gn13 ?_
    | with_reducible refine r_gn14 ?_
    | with_reducible refine r_gn15 ?_
    | with_reducible refine r_gn16 ?_
    | with_reducible refine r_gn17 ?_
    | with_reducible refine r_gn18 ?_
    | with_reducible refine r_gn19 ?_
    | with_reducible refine r_gn20 ?_
    | with_reducible refine r_gn21 ?_
    | with_reducible refine r_gn22 ?_
    | with_reducible refine r_gn23 ?_
    | with_reducible refine r_gn24 ?_
    | with_reducible refine r_gn25 ?_)
local macro_rules | `(tactic| walk_at "go") => `(tactic| repeat walk_at "st")
-- growth, by the chain of what is known
local macro_rules | `(tactic| walk_at "ex") => `(tactic| first
    | exact Ex.refl _ | assumption | (refine Ex.trans ?_ (by assumption); walk_at "ex"))
local macro_rules | `(tactic| walk_at "f1") => `(tactic| first
    | assumption | exact Or.inl (by assumption) | exact Or.inr (by assumption)
    | (refine Ex.ra ?_ (by assumption); walk_at "ex") | (refine Ex.lst ?_ (by assumption); walk_at "ex") | (refine Ex.tup ?_ (by assumption); walk_at "ex") | (refine Ex.slt ?_ (by assumption); walk_at "ex")
    | (refine Or.inl (Ex.lst ?_ (by assumption)); walk_at "ex") | (refine Or.inr (Ex.tup ?_ (by assumption)); walk_at "ex")
    | (refine sqL_of (Ex.lst ?_ (by assumption)); walk_at "ex") | (refine sqT_of (Ex.tup ?_ (by assumption)); walk_at "ex") | (refine Ex.seqL ?_ (by assumption); walk_at "ex")
    | (refine Ex.t ?_ (by assumption); walk_at "ex"))

section
variable {P : Program} {w : World} {K : PySem.W.Frag} {mg : Str → Option Value} {base : Heap}
def sp_law_out (K : PySem.W.Frag) : Sp := fun vs H Q _ => ∃ (a : Addr) (ns : List Int) (m : Nat), vs = [.ref a, .int (m : Nat)] ∧ H a = some (.lst (ns.map V.int)) ∧ 1 ≤ m ∧ m ≤ 4 ∧ 2 ≤ ns.length ∧ ns.length ≤ 13 ∧
  ∀ t lt wt k us H', Ex (TK K) H H' → H' t = some (.tup [.ref lt, .ref wt, .int k]) → H' lt = some (.tup ((movedL (restL ns) us).map V.int)) → H' wt = some (.tup ((nI us).map V.int)) → Down m (restL ns) (key (restL ns) 0) 0 us → Q (.ref t) H'
theorem ok_law_out (W : Wd K mg base) : OkD P w K mg base d_law_out ["row", "wide"] 4 (sp_law_out K) := by
  have S : FnScope ["row", "wide"] ["row", "wide"] d_law_out.scope := ⟨rfl, rfl, rfl, by decide +kernel, rfl, by decide +kernel, by decide +kernel⟩
  refine ok_of W.d_law_out S (fun vs H Q E h => ?_) (fun _ _ _ _ _ _ us hl => match us, hl with | [_, _], _ => rfl) (fun cdv A outer s H vs Q E hr h => ⟨_, (pss_cons (ps_if (pt_cmpR op_eq (pe_callB l_len (by rfl) (by exact W.f_len) boot_len (pa_cons (pv 0) pa_nil)) (pe_int) (nomark _)) (pss_one (ps_ret (c_tup (T := TK K) (pa_cons (c_tup (T := TK K) pa_nil) (pa_cons (c_tup (T := TK K) pa_nil) (pa_cons (pe_int) pa_nil)))))) pss_nil)
      (pss_one (ps_ret (c_call (ok_law_down W) hr (by exact W.g_law_down) (pa_cons (pe_op (l_cat (T := TK K)) (c_lst (T := TK K) (pa_cons (pe_ix l_ix (pv 0) (pe_un un_neg (pe_int)) (fun _ _ => rfl)) pa_nil)) (pe_callTy (l_list (T := TK K)) (by rfl) (by exact W.f_list) PyProof.Rows.boot_list (pa_cons (pe_slice (l_sl (T := TK K)) (pv 0) (po_some (pe_int)) (po_some (pe_un un_neg (pe_int)))) pa_nil))) (pa_cons (pv 1) (pa_cons (pe_int) pa_nil))))))), ?_⟩)
  · obtain ⟨_, _, _, rfl, _⟩ := h
    rfl
  · obtain ⟨a, ns, m, rfl, ha, m1, m4, n2, n13, hQ⟩ := h
    refine r_entry (σ' := [_, _]) rfl ?_
    walk_at "go"
    refine r_len (.inl ha) ?_
    walk_at "go"
    refine ⟨rfl, ?_⟩
    rw [dec_i, List.length_map]
    walk_at "go"
    refine r_else (decide_eq_false (by omega)) ?_
    walk_at "go"
    refine r_ix (.inl ha) (key_last (by omega)) ?_
    walk_at "go"
    refine ⟨by simp, fun l1 H1 hl1 e1 h1 => ?_⟩
    walk_at "go"
    refine r_slL (e1.lst ha) fun l2 H2 hl2 e2 h2 => ?_
    walk_at "go"
    have cut : cutV (ns.map V.int) (some 1) (some (-1)) = ((ns.drop 1).take (ns.length - 2)).map V.int := by rw [cut_mid, List.length_map, ← List.map_drop, ← List.map_take]
    rw [cut] at h2
    refine ⟨l2, _, rfl, .inl h2, fun l3 H3 hl3 e3 h3 => ?_⟩
    have hrl := restL_length n2
    refine ⟨l1, l3, _, _, rfl, rfl, e3.lst (e2.lst h1), h3, by rw [List.length_map, List.length_take, List.length_drop]; simp; omega, fun l4 H4 hl4 e4 h4 => ?_⟩
    have h4' : H4 l4 = some (.lst ((restL ns).map V.int)) := h4
    walk_at "go"
    exact ⟨l4, restL ns, m, rfl, h4', m1, m4, by omega, by omega, fun t lt wt k us H5 e5 h51 h52 h53 hd => hQ t lt wt k us H5 (e1.trans (e2.trans (e3.trans (e4.trans e5)))) h51 h52 h53 hd⟩
def sp_law_is_before (K : PySem.W.Frag) : Sp := fun vs H Q _ => ∃ (a b : Addr) (ns bs : List Int) (least : Int) (p m : Nat), vs = [.ref a, .int least, .int (p : Nat), .int (m : Nat), .ref b] ∧ H a = some (.lst (ns.map V.int)) ∧ H b = some (.lst (bs.map V.int)) ∧ 1 ≤ m ∧ m ≤ 4 ∧ 1 ≤ ns.length ∧ ns.length ≤ 11 ∧ 
  ∀ c H', Ex (TK K) H H' → (c = true ↔ ShowsB m ns least p bs) → Q (.bl c) H'
theorem ok_law_is_before (W : Wd K mg base) : OkD P w K mg base d_law_is_before ["row", "least", "place", "wide", "ahead"] 5 (sp_law_is_before K) := by
  have S : FnScope ["row", "least", "place", "wide", "ahead", "late", "way", "looks"] ["row", "least", "place", "wide", "ahead"] d_law_is_before.scope := ⟨rfl, rfl, rfl, by decide +kernel, rfl, by decide +kernel, by decide +kernel⟩
  refine ok_of W.d_law_is_before S (fun vs H Q E h => ?_) (fun _ _ _ _ _ _ us hl => match us, hl with | [_, _, _, _, _], _ => rfl) (fun cdv A outer s H vs Q E hr h => ⟨_, (pss_cons (ps_if (PW.pt (pw_or (pt_cmpR op_ne (pe_callB l_len (by rfl) (by exact W.f_len) boot_len (pa_cons (pv 4) pa_nil)) (pe_op op_add (pe_callB l_len (by rfl) (by exact W.f_len) boot_len (pa_cons (pv 0) pa_nil)) (pe_int)) (nomark _)) (pw_or (pt_not (pt_val (c_call (ok_law_is_heap W) hr (by exact W.g_law_is_heap) (pa_cons (pv 4) (pa_cons (pv 3) pa_nil))))) (pw_or1 (pt_cmpR op_ne (pe_ix l_ix (pv 4) (pe_int) (fun _ _ => rfl)) (pv 1) (nomark _)))))) (pss_one (ps_ret (pe_bl))) pss_nil)
      (pss_cons (ps_asg (c_call (ok_law_out W) hr (by exact W.g_law_out) (pa_cons (pv 4) (pa_cons (pv 3) pa_nil))) (pg_tup rfl (pgs_cons (pg_name (i := 5) S.nd rfl (Or.inl rfl)) (pgs_cons (pg_name (i := 6) S.nd rfl (Or.inl rfl)) (pgs_cons (pg_name (i := 7) S.nd rfl (Or.inl rfl)) pgs_nil)))))
      (pss_one (ps_ret ((pe_and (pe_cmpR (l_eq hr.units) (pv 5) (pe_callTy (l_tuple (T := TK K)) (by rfl) (by exact W.f_tuple) PyProof.Rows.boot_tuple (pa_cons (pv 0) pa_nil)) (nomark _)) (pe_one (pe_cmpR op_eq (pe_ix l_ix (pv 6) (pe_un un_neg (pe_int)) (fun _ _ => rfl)) (pv 2) (nomark _))))))))), ?_⟩)
  · obtain ⟨_, _, _, _, _, _, _, rfl, _⟩ := h
    rfl
  · obtain ⟨a, b, ns, bs, least, p, m, rfl, ha, hb, m1, m4, n1, n11, hQ⟩ := h
    refine r_entry (σ' := [_, _, _, _, _, _, _, _]) rfl ?_
    walk_at "go"
    refine r_len (.inl hb) ?_
    walk_at "go"
    refine r_len (.inl ha) ?_
    walk_at "go"
    refine ⟨rfl, ?_⟩
    rw [dec_i, List.length_map, List.length_map]
    walk_at "go"
    refine r_ite (fun hc => ?_) fun hc => ?_
    · have hne : ¬ (bs.length : Int) = (ns.length : Int) + 1 := by simpa using hc
      walk_at "go"
      exact hQ _ H (Ex.refl H) ⟨fun z => (by cases z), fun z => absurd z.1 (by omega)⟩
    · have hbl : (bs.length : Int) = (ns.length : Int) + 1 := by simpa using hc
      have hbl2 : bs.length = ns.length + 1 := by omega
      walk_at "go"
      refine ⟨b, bs, m, rfl, hb, m1, m4, by omega, fun c1 H1 e1 hc1 => ?_⟩
      walk_at "go"
      refine r_ite (fun hd => ?_) fun hd => ?_
      · have hnh : ¬ IsHeap m bs := fun z => by
          rw [hc1.mpr z] at hd
          cases hd
        walk_at "go"
        exact hQ _ H1 e1 ⟨fun z => (by cases z), fun z => absurd z.2.1 hnh⟩
      · have hh : IsHeap m bs := hc1.mp (by cases c1 with | true => rfl | false => cases hd)
        walk_at "go"
        refine r_ix (.inl (e1.lst hb)) (at_key (p := 0) (by omega)) ?_
        walk_at "go"
        refine ⟨rfl, ?_⟩
        rw [dec_i]
        walk_at "go"
        refine r_ite (fun h0 => ?_) fun h0 => ?_
        · have h0' : ¬ key bs 0 = least := by simpa using h0
          walk_at "go"
          exact hQ _ H1 e1 ⟨fun z => (by cases z), fun z => absurd z.2.2.1 h0'⟩
        · have h0' : key bs 0 = least := by simpa using h0
          walk_at "go"
          refine ⟨b, bs, m, rfl, e1.lst hb, m1, m4, by omega, by omega, fun t lt wt k us H2 e2 h1 h2 h3 hdn => ?_⟩
          refine r_tupg (sqT_of h1) rfl ?_
          walk_at "go"
          have e12 := e1.trans e2
          have key2 : ∀ us', Down m (restL bs) (key (restL bs) 0) 0 us' → us' = us := fun us' h => h.det hdn
          refine ⟨a, _, rfl, .inl (e12.lst ha), fun t2 H3 e3 h4 => ?_⟩
          walk_at "go"
          refine ⟨_, ⟨lt, t2, movedL (restL bs) us, ns, rfl, rfl, .inr ⟨sqT_of (e3.tup h2), sqT_of h4⟩, rfl⟩, ?_⟩
          walk_at "go"
          refine r_ite (fun hm => ?_) fun hm => ?_
          · have hm' : movedL (restL bs) us = ns := of_decide_eq_true hm
            walk_at "go"
            refine r_ix (.inr (e3.tup h3)) (nI_last hdn.ne) ?_
            walk_at "go"
            refine ⟨rfl, ?_⟩
            rw [dec_i]
            refine hQ _ H3 (e12.trans e3) ⟨fun z => ?_, fun ⟨_, _, _, us', z1, _, z3⟩ => ?_⟩
            · have z2 := of_decide_eq_true z
              exact ⟨hbl2, hh, h0', us, hdn, hm', by omega⟩
            · rw [key2 us' z1] at z3
              exact decide_eq_true (by rw [z3])
          · have hm' : ¬ movedL (restL bs) us = ns := of_decide_eq_false hm
            exact hQ _ H3 (e12.trans e3) ⟨fun z => (by cases z), fun ⟨_, _, _, us', z1, z2, _⟩ => absurd (by rw [← key2 us' z1]; exact z2) hm'⟩
/-- the first i places of the way, in the longer row -/
theorem shI_snoc (ns : List Int) (us : List Nat) (z : Int) (hlt : ∀ q ∈ us, q < ns.length) : ∀ i, i < us.length → shI (ns ++ [z]) us i = shI ns us i ++ [z]
  | 0, _ => rfl
  | i + 1, h => by
    have h1 : us.getD (i + 1) 0 < ns.length := hlt _ (getD_mem h)
    have h2 : us.getD i 0 < ns.length := hlt _ (getD_mem (by omega))
    unfold shI
    rw [shI_snoc ns us z hlt i (by omega), key_snoc h2, List.set_append_left _ _ (by rw [shI_length]; exact h1)]
def sp_law_shifted (K : PySem.W.Frag) : Sp := fun vs H Q _ => ∃ (a : Addr) (ns : List Int) (least : Int) (p m : Nat), vs = [.ref a, .int least, .int (p : Nat), .int (m : Nat)] ∧ H a = some (.lst (ns.map V.int)) ∧ 1 ≤ m ∧ m ≤ 4 ∧ p < ns.length ∧ ns.length ≤ 11 ∧
  ∀ l H', Ex (TK K) H H' → H' l = some (.lst ((aheadL m ns least p).map V.int)) → Q (.ref l) H'
theorem ok_law_shifted (W : Wd K mg base) : OkD P w K mg base d_law_shifted ["row", "least", "place", "wide"] 3 (sp_law_shifted K) := by
  have S : FnScope ["row", "least", "place", "wide", "ahead", "way", "at"] ["row", "least", "place", "wide"] d_law_shifted.scope := ⟨rfl, rfl, rfl, by decide +kernel, rfl, by decide +kernel, by decide +kernel⟩
  refine ok_of W.d_law_shifted S (fun vs H Q E h => ?_) (fun _ _ _ _ _ _ us hl => match us, hl with | [_, _, _, _], _ => rfl) (fun cdv A outer s H vs Q E hr h => ⟨_, (pss_cons (ps_par (i := 4) (j := 5) rfl S.nd rfl rfl (by decide) rfl rfl (pa_cons (pe_op (l_cat (T := TK K)) (pe_callTy (l_list (T := TK K)) (by rfl) (by exact W.f_list) PyProof.Rows.boot_list (pa_cons (pv 0) pa_nil)) (c_lst (T := TK K) (pa_cons (pe_ix l_ix (pv 0) (pv 2) (fun _ _ => rfl)) pa_nil))) (pa_cons (c_call (ok_law_way W) hr (by exact W.g_law_way) (pa_cons (pv 3) (pa_cons (pv 2) pa_nil))) pa_nil)) (by rfl))
      (pss_cons (ps_for PassesOwn.never rfl (pi_range2 (by rfl) (by exact W.f_range) (pa_cons (pe_int) (pa_cons (pe_callB l_len (by rfl) (by exact W.f_len) boot_len (pa_cons (pv 5) pa_nil)) pa_nil))) (pg_name (i := 6) S.nd rfl (Or.inl rfl)) (pss_one (ps_asg (pe_ix l_ix (pv 0) (pe_ix l_ix (pv 5) (pe_op op_sub (pv 6) (pe_int)) (fun _ _ => rfl)) (fun _ _ => rfl)) (pg_sub (pv 4) (pe_ix l_ix (pv 5) (pv 6) (fun _ _ => rfl)) set_list (fun _ => rfl)))))
      (pss_cons (ps_asg (pv 1) (pg_sub (pv 4) (pe_int) set_list (fun _ => rfl)))
      (pss_one (ps_ret (pv 4)))))), ?_⟩)
  · obtain ⟨_, _, _, _, _, rfl, _⟩ := h
    rfl
  · obtain ⟨a, ns, least, p, m, rfl, ha, m1, m4, hp, n11, hQ⟩ := h
    refine r_entry (σ' := [_, _, _, _, _, _, _]) rfl ?_
    obtain ⟨hu, hle, hul⟩ := wayTo_spec m p
    have hlt : ∀ q ∈ wayTo m p, q < ns.length := fun q hq => by have := hle q hq; omega
    have hul0 := List.length_pos_iff.mpr hu
    walk_at "go"
    refine ⟨a, _, rfl, .inl ha, fun l1 H1 hl1 e1 h1 => ?_⟩
    walk_at "go"
    refine r_ix (.inl (e1.lst ha)) (at_key hp) ?_
    walk_at "go"
    refine ⟨by simp, fun l2 H2 hl2 e2 h2 => ?_⟩
    refine ⟨l1, l2, _, _, rfl, rfl, e2.lst h1, h2, by rw [List.length_map]; simp; omega, fun l H3 hl e3 h3 => ?_⟩
    walk_at "go"
    refine ⟨m, p, rfl, m1, m4, by omega, fun b H4 e4 h4 => ?_⟩
    walk_at "go"
    refine r_len (.inl h4) ?_
    walk_at "go"
    rw [List.length_map, nI_length]
    have ex0 : aheadL m ns least p = (shI (ns ++ [key ns p]) (wayTo m p) ((wayTo m p).length - 1)).set 0 least := by
      unfold aheadL
      rw [shI_snoc ns (wayTo m p) _ hlt _ (by omega), List.set_append_left _ _ (by rw [shI_length]; omega)]
    rw [ex0] at hQ
    generalize hus : wayTo m p = us at *
    refine ⟨1, _, rfl, ⟨by omega, by omega, by omega, by omega⟩, ?_⟩
    rw [show ((us.length : Int) - 1).toNat = us.length - 1 by omega]
    have f : Fre H l := (e1.trans e2).fre hl
    have h3' : H3 l = some (.lst ((ns ++ [key ns p]).map V.int)) := by
      rw [h3, List.map_append]
      rfl
    have e14 := e1.trans (e2.trans (e3.trans e4))
    have nlen : (ns ++ [key ns p]).length = ns.length + 1 := by rw [List.length_append, List.length_singleton]
    refine fb_rng (fun i σ H' => ∃ x, σ = [some (.ref a), some (.int least), some (.int (p : Nat)), some (.int (m : Nat)), some (.ref l), some (.ref b), x] ∧ Ex (TK K) H H' ∧ H' l = some (.lst ((shI (ns ++ [key ns p]) us i).map V.int)) ∧ H' b = some (.lst ((nI us).map V.int)))
      ⟨_, rfl, e14, e4.lst h3', h4⟩ (fun i σ H5 hi hp5 => ?_) fun σ H5 hp5 => ?_
    · obtain ⟨x, rfl, e5, h5, h6⟩ := hp5
      have hi1 : i < us.length := by omega
      have hi2 : i + 1 < us.length := by omega
      have hlt1 := hlt _ (getD_mem hi1)
      have hlt2 := hlt _ (getD_mem hi2)
      show gName 6 (V.int ((1 : Int) + (i : Int))) _ _ _
      rw [show (1 : Int) + (i : Int) = ((i + 1 : Nat) : Int) by omega]
      walk_at "go"
      rw [show ((i + 1 : Nat) : Int) - 1 = ((i : Nat) : Int) by omega]
      refine r_ix (.inl h6) (atI_nat (nI_at hi1)) ?_
      refine r_ix (.inl (e5.lst ha)) (at_key hlt1) ?_
      walk_at "go"
      refine r_ix (.inl h6) (atI_nat (nI_at hi2)) ?_
      refine r_setL h5 (ixN_nat (by rw [List.length_map, shI_length, nlen]; omega)) ?_
      have hbl : b ≠ l := fun z => by
        rw [z] at h4
        have h7 := e4.lst h3'
        rw [h7] at h4
        injection h4 with h4
        injection h4 with h4
        have h8 := congrArg List.length h4
        rw [List.length_map, List.length_map, nI_length, nlen] at h8
        omega
      refine ⟨_, rfl, e5.mut f h5, ?_, ?_⟩
      · rw [upd_same, set_int]
        conv => rhs; unfold shI
        rw [key_snoc hlt1]
      · rw [upd_ne hbl]
        exact h6
    · obtain ⟨x, rfl, e5, h5, h6⟩ := hp5
      walk_at "go"
      refine r_setL h5 (ixN_nat (j := 0) (by rw [List.length_map, shI_length, nlen]; omega)) ?_
      walk_at "go"
      refine hQ l _ (e5.mut f h5) ?_
      rw [upd_same, set_int]
def sp_law_unlike (K : PySem.W.Frag) : Sp := fun vs H Q _ => ∃ (d a : Addr) (ns : List Int) (k n : Nat), vs = [.ref d, .int (n : Nat)] ∧ Drw K H d a ns k ∧ k < 800000 ∧ n ≤ 11 ∧
  ∀ l (zs : List Int) H' k', Ex (TK K) (hide H d) H' → Drw K H' d a ns k' → k' ≤ k + 13 → H' l = some (.lst (zs.map V.int)) → zs.length = n → zs.Nodup → (∀ z ∈ zs, -25 ≤ z ∧ z ≤ 100) → Q (.ref l) H'
theorem ok_law_unlike (W : Wd K mg base) : OkD P w K mg base d_law_unlike ["draw", "many"] 4 (sp_law_unlike K) := by
  have S : FnScope ["draw", "many", "low", "step", "number"] ["draw", "many"] d_law_unlike.scope := ⟨rfl, rfl, rfl, by decide +kernel, rfl, by decide +kernel, by decide +kernel⟩
  refine ok_of W.d_law_unlike S (fun vs H Q E h => ?_) (fun _ _ _ _ _ _ us hl => match us, hl with | [_, _], _ => rfl) (fun cdv A outer s H vs Q E hr h => ⟨_, (pss_cons (ps_asg (c_tup (T := TK K) (pa_cons (pe_op op_sub (c_call (ok_law_take W) hr (by exact W.g_law_take) (pa_cons (pv 0) (pa_cons (pe_int) pa_nil))) (pe_int)) (pa_cons (pe_op op_add (pe_int) (c_call (ok_law_take W) hr (by exact W.g_law_take) (pa_cons (pv 0) (pa_cons (pe_int) pa_nil)))) pa_nil))) (pg_tup rfl (pgs_cons (pg_name (i := 2) S.nd rfl (Or.inr rfl)) (pgs_cons (pg_name (i := 3) S.nd rfl (Or.inr rfl)) pgs_nil))))
      (pss_one (ps_ret (pe_lc (own := [("number", 4)]) rfl S.nd (pi_list (c_call (ok_law_order W) hr (by exact W.g_law_order) (pa_cons (pv 0) (pa_cons (pv 1) pa_nil)))) (blkOk_by (by rfl)) (fun _ _ _ _ _ => pg_name (i := 4) S.nd rfl (Or.inl rfl)) (fun _ _ _ _ _ => pts_nil) (fun _ _ _ _ _ => (pe_op op_add (pv 2) (pe_op op_mul (pv 3) (pv 4)))))))), ?_⟩)
  · obtain ⟨_, _, _, _, _, rfl, _⟩ := h
    rfl
  · obtain ⟨d, a, ns, k, n, rfl, hD, hk, hn, hQ⟩ := h
    refine r_entry (σ' := [_, _, _, _, _]) rfl ?_
    walk_at "go"
    refine ⟨d, a, ns, k, 50, rfl, hD, by omega, by omega, by omega, fun i1 H1 hi1 e1 hD1 => ?_⟩
    walk_at "go"
    refine ⟨d, a, ns, k + 1, 5, rfl, hD1, by omega, by omega, by omega, fun i2 H2 hi2 e2 hD2 => ?_⟩
    walk_at "go"
    have e12 := hide_trans e1 hD1.1 e2
    refine ⟨by simp, fun t H3 ht e3 h3 => ?_⟩
    refine r_tupg (sqT_of h3) rfl ?_
    walk_at "go"
    have hD3 := hD2.ex e3
    refine ⟨d, a, ns, k + 1 + 1, n, rfl, hD3, by omega, by omega, fun l os H4 k4 e4 hD4 hk4 h4 hP => ?_⟩
    walk_at "go"
    have e14 : Ex (TK K) (hide H d) H4 := hide_trans (e12.trans e3) hD3.1 e4
    refine ⟨l, rfl, ⟨_, sqL_of h4⟩, ?_⟩
    refine lb_by (T := TK K) (σw := [some (.ref d), some (.int (n : Nat)), some (.int ((i1 : Int) - 25)), some (.int (1 + (i2 : Int))), none]) walk_list rfl (fun j acc => acc = ((os.take j).map fun c : Nat => ((i1 : Int) - 25) + (1 + (i2 : Int)) * (c : Int)).map V.int) rfl (fun H5 e5 => sqL_of (e5.lst h4))
      (fun D j x acc H5 H6 hDD hj hr hl e5 h5 y => ?_) fun D H5 acc hDD e5 h5 hr => ?_
    · obtain ⟨rfl, hx⟩ := y
      rw [List.length_map, nI_length] at hj
      rw [nI_at hj] at hx
      cases hx
      subst hr
      walk_at "go"
      refine ⟨rfl, ?_⟩
      walk_at "go"
      refine r_I (.inl ⟨by omega, by omega⟩) ?_
      walk_at "go"
      refine ln_of hDD h5 e5 ?_ hl (by have := hP.length_eq; rw [List.length_range] at this; omega)
      rw [List.take_succ, List.map_append, List.map_append, List.getElem?_eq_getElem hj, List.getD_eq_getElem?_getD, List.getElem?_eq_getElem hj]
      rfl
    · subst hr
      rw [List.length_map, nI_length, List.take_length] at h5
      have hlen := hP.length_eq
      rw [List.length_range] at hlen
      refine hQ D _ H5 k4 (e14.trans e5) (hD4.ex e5) (by omega) h5 (by rw [List.length_map]; exact hlen) ?_ fun z hz => ?_
      · unfold List.Nodup
        rw [List.pairwise_map]
        refine (hP.nodup_iff.mpr List.nodup_range).imp fun {x y} hxy z => hxy ?_
        have z2 : (1 + (i2 : Int)) * (x : Int) = (1 + (i2 : Int)) * (y : Int) := by omega
        have := Int.eq_of_mul_eq_mul_left (show (1 + (i2 : Int)) ≠ 0 by omega) z2
        omega
      · obtain ⟨c, hc, rfl⟩ := List.mem_map.mp hz
        have hcr := hP.mem_iff.mp hc
        rw [List.mem_range] at hcr
        have hp1 : (1 + (i2 : Int)) * (c : Int) = (((1 + i2) * c : Nat) : Int) := by rw [Int.natCast_mul]; rfl
        have hp2 : (1 + i2) * c ≤ 5 * 11 := Nat.mul_le_mul (by omega) (by omega)
        rw [hp1]
        omega
end
end Hr

set_option maxHeartbeats 4000000
/-! HrW: the mathematics of a taking undone. -/
namespace Hr
open PySem PySem.Spec PyProof.Rows L2 LamX SlX

theorem kids_par {m n u c : Nat} (m1 : 1 ≤ m) : c ∈ kids m n u ↔ 0 < c ∧ c < n ∧ par m c = u := by
  rw [← lkids_mem m1]
  unfold lkids
  rw [List.mem_filter, List.mem_map]
  constructor
  · rintro ⟨⟨i, hi, rfl⟩, h⟩
    rw [List.mem_range] at hi
    exact ⟨by omega, by omega, of_decide_eq_true h⟩
  · rintro ⟨h1, h2, h3⟩
    exact ⟨⟨c - 1, by rw [List.mem_range]; omega, by omega⟩, decide_eq_true h3⟩
theorem key_inj {ns : List Int} (hn : ns.Nodup) {a b : Nat} (ha : a < ns.length) (hb : b < ns.length) (h : key ns a = key ns b) : a = b := by
  have h1 := key_at ha
  have h2 := key_at hb
  rw [h] at h1
  exact nd_ix hn h1 h2
theorem key_mem {ns : List Int} {a : Nat} (ha : a < ns.length) : key ns a ∈ ns := List.mem_of_getElem? (key_at ha)
theorem getD_app_left {us : List Nat} {q j : Nat} (h : j < us.length) : (us ++ [q]).getD j 0 = us.getD j 0 := by
  rw [List.getD_eq_getElem?_getD, List.getD_eq_getElem?_getD, List.getElem?_append_left h]
/-! ### the way -/
theorem way_last (m p : Nat) : (wayTo m p).getD ((wayTo m p).length - 1) 0 = p := by
  by_cases h : 0 < p
  · rw [wayTo_pos h, List.length_append, List.length_singleton, Nat.add_sub_cancel]
    exact getD_snoc _ _
  · have e : p = 0 := by omega
    rw [e, wayTo_zero]
    rfl
theorem way_first (m p : Nat) : (wayTo m p).getD 0 0 = 0 := by
  induction p using Nat.strongRecOn with
  | _ p ih =>
    by_cases h : 0 < p
    · rw [wayTo_pos h, getD_app_left (List.length_pos_iff.mpr (wayTo_spec m _).1)]
      exact ih _ (par_lt h)
    · have e : p = 0 := by omega
      rw [e, wayTo_zero]
      rfl
theorem way_par (m p : Nat) : ∀ j, j + 1 < (wayTo m p).length → 0 < (wayTo m p).getD (j + 1) 0 ∧ par m ((wayTo m p).getD (j + 1) 0) = (wayTo m p).getD j 0 := by
  induction p using Nat.strongRecOn with
  | _ p ih =>
    intro j hj
    by_cases h : 0 < p
    · have hl := List.length_pos_iff.mpr (wayTo_spec m (par m p)).1
      rw [wayTo_pos h] at hj ⊢
      rw [List.length_append, List.length_singleton] at hj
      by_cases e : j + 1 < (wayTo m (par m p)).length
      · rw [getD_app_left e, getD_app_left (by omega)]
        exact ih _ (par_lt h) j e
      · have e1 : j + 1 = (wayTo m (par m p)).length := by omega
        have e2 : j = (wayTo m (par m p)).length - 1 := by omega
        rw [getD_app_left (show j < (wayTo m (par m p)).length by omega), e1, getD_snoc]
        rw [e2, way_last]
        exact ⟨h, rfl⟩
    · have e : p = 0 := by omega
      rw [e, wayTo_zero] at hj
      simp at hj
theorem way_inc (m p : Nat) {i j : Nat} (hij : i < j) (hj : j < (wayTo m p).length) : (wayTo m p).getD i 0 < (wayTo m p).getD j 0 := by
  induction j with
  | zero => omega
  | succ j ih =>
    obtain ⟨h1, h2⟩ := way_par m p j hj
    have h3 := par_lt (m := m) h1
    rw [h2] at h3
    by_cases e : i = j
    · rw [e]
      exact h3
    · have := ih (by omega) (by omega)
      omega
theorem way_ix {m p q : Nat} (h : q ∈ wayTo m p) : ∃ i, i < (wayTo m p).length ∧ (wayTo m p).getD i 0 = q := by
  obtain ⟨i, hi⟩ := List.mem_iff_getElem?.mp h
  exact ⟨i, (List.getElem?_eq_some_iff.mp hi).1, by rw [List.getD_eq_getElem?_getD, hi]; rfl⟩
theorem way_up {m p q : Nat} (h : q ∈ wayTo m p) (h0 : 0 < q) : par m q ∈ wayTo m p := by
  obtain ⟨i, hi, rfl⟩ := way_ix h
  cases i with
  | zero =>
    rw [way_first] at h0
    omega
  | succ i =>
    rw [(way_par m p i hi).2]
    exact getD_mem (by omega)
/-! ### the row ahead, key by key -/
theorem key_shI {m p : Nat} {ns : List Int} (hlt : ∀ q ∈ wayTo m p, q < ns.length) (q : Nat) : ∀ i, i < (wayTo m p).length → key (shI ns (wayTo m p) i) q = if q ≠ 0 ∧ q ∈ (wayTo m p).take (i + 1) then key ns (par m q) else key ns q
  | 0, h => by
    rw [if_neg]
    · rfl
    · rintro ⟨h0, h1⟩
      obtain ⟨j, hj⟩ := List.mem_iff_getElem?.mp h1
      have hj1 := (List.getElem?_eq_some_iff.mp hj).1
      rw [List.length_take] at hj1
      have ej : j = 0 := by omega
      subst ej
      rw [List.getElem?_take_of_lt (by omega)] at hj
      have := way_first m p
      rw [List.getD_eq_getElem?_getD, hj] at this
      exact h0 this
  | i + 1, h => by
    have ih := key_shI hlt q i (by omega)
    obtain ⟨h1, h2⟩ := way_par m p i h
    have hm : (wayTo m p).getD (i + 1) 0 ∈ wayTo m p := getD_mem h
    have etk : (wayTo m p).take (i + 1 + 1) = (wayTo m p).take (i + 1) ++ [(wayTo m p).getD (i + 1) 0] := by
      rw [List.take_succ, List.getElem?_eq_getElem h, List.getD_eq_getElem?_getD, List.getElem?_eq_getElem h]
      rfl
    unfold shI
    rw [key_set (by rw [shI_length]; exact hlt _ hm), etk]
    by_cases e : q = (wayTo m p).getD (i + 1) 0
    · rw [if_pos e, if_pos ⟨by omega, List.mem_append_right _ (by rw [e]; exact List.mem_cons_self)⟩, e, h2]
    · rw [if_neg e, ih]
      by_cases z : q ≠ 0 ∧ q ∈ (wayTo m p).take (i + 1)
      · rw [if_pos z, if_pos ⟨z.1, List.mem_append_left _ z.2⟩]
      · rw [if_neg z, if_neg]
        rintro ⟨z1, z2⟩
        rcases List.mem_append.mp z2 with z3 | z3
        · exact z ⟨z1, z3⟩
        · exact e (List.mem_singleton.mp z3)
section
variable {m : Nat} {ns : List Int} {least : Int} {p : Nat}
theorem Ahd.lt (h : Ahd m ns least p) : ∀ q ∈ wayTo m p, q < ns.length := fun q hq => by
  have := (wayTo_spec m p).2.1 q hq
  have := h.pn
  omega
theorem key_ahead (h : Ahd m ns least p) {q : Nat} (hq : q < ns.length) : key (aheadL m ns least p) q = if q = 0 then least else if q ∈ wayTo m p then key ns (par m q) else key ns q := by
  have hl := List.length_pos_iff.mpr (wayTo_spec m p).1
  have n1 := h.n1
  unfold aheadL
  rw [key_snoc (by rw [List.length_set, shI_length]; exact hq), key_set (by rw [shI_length]; omega)]
  by_cases e : q = 0
  · rw [if_pos e, if_pos e]
  · rw [if_neg e, if_neg e, key_shI h.lt q _ (by omega), Nat.sub_add_cancel hl, List.take_length]
    by_cases z : q ∈ wayTo m p
    · rw [if_pos ⟨e, z⟩, if_pos z]
    · rw [if_neg (fun w => z w.2), if_neg z]
theorem key_ahead_last (h : Ahd m ns least p) : key (aheadL m ns least p) ns.length = key ns p := by
  unfold aheadL key
  rw [List.getD_eq_getElem?_getD, List.getElem?_append_right (by rw [List.length_set, shI_length]; exact Nat.le_refl _), List.length_set, shI_length, Nat.sub_self]
  rfl
theorem Ahd.root (h : Ahd m ns least p) : least < key ns p := by
  have h1 := heap_way h.hp p h.pn 0 (by
    have := getD_mem (List.length_pos_iff.mpr (wayTo_spec m p).1)
    rw [way_first] at this
    exact this)
  have := h.l2
  omega
/-- the row ahead is a heap, where the key above its last place is not greater than the last -/
theorem ahead_heap (h : Ahd m ns least p) : IsHeap m (aheadL m ns least p) ↔ ¬ key ns p < key (aheadL m ns least p) (par m ns.length) := by
  have n1 := h.n1
  have l2 := h.l2
  constructor
  · intro hh
    have := hh ns.length (by omega) (by rw [aheadL_length]; omega)
    rw [key_ahead_last h] at this
    omega
  · intro hk q q0 hq
    rw [aheadL_length] at hq
    by_cases e : q = ns.length
    · rw [e, key_ahead_last h]
      omega
    · have hq2 : q < ns.length := by omega
      have hpq := par_lt (m := m) q0
      have a1 := h.hp q q0 hq2
      rw [key_ahead h hq2, key_ahead h (show par m q < ns.length by omega), if_neg (show ¬ q = 0 by omega)]
      by_cases z0 : par m q = 0
      · rw [if_pos z0]
        rw [z0] at a1 ⊢
        by_cases z : q ∈ wayTo m p
        · rw [if_pos z]
          omega
        · rw [if_neg z]
          omega
      · rw [if_neg z0]
        have a2 := h.hp (par m q) (by omega) (by omega)
        by_cases z : q ∈ wayTo m p
        · rw [if_pos z, if_pos (way_up z q0)]
          exact a2
        · rw [if_neg z]
          by_cases z2 : par m q ∈ wayTo m p
          · rw [if_pos z2]
            omega
          · rw [if_neg z2]
            exact a1
/-- a key above that is greater stands in the row -/
theorem above_mem (h : Ahd m ns least p) (hk : key ns p < key (aheadL m ns least p) (par m ns.length)) : key (aheadL m ns least p) (par m ns.length) ∈ ns := by
  have n1 := h.n1
  have hr := h.root
  have ha : par m ns.length < ns.length := par_lt (by omega)
  rw [key_ahead h ha] at hk ⊢
  by_cases z0 : par m ns.length = 0
  · rw [if_pos z0] at hk
    omega
  · rw [if_neg z0]
    have := par_lt (m := m) (show 0 < par m ns.length by omega)
    by_cases z : par m ns.length ∈ wayTo m p
    · rw [if_pos z]
      exact key_mem (by omega)
    · rw [if_neg z]
      exact key_mem ha
theorem key_rest {bs : List Int} (h2 : 2 ≤ bs.length) {q : Nat} (hq : q < bs.length - 1) : key (restL bs) q = if q = 0 then key bs (bs.length - 1) else key bs q := by
  cases q with
  | zero => rfl
  | succ q =>
    rw [if_neg (by omega)]
    unfold restL key
    rw [List.getD_eq_getElem?_getD, List.getElem?_cons_succ, List.getElem?_take_of_lt (by omega), List.getElem?_drop, Nat.add_comm, List.getD_eq_getElem?_getD]
theorem least_ex {ns : List Int} {cs : List Nat} (h : cs ≠ []) : ∃ c, Least ns cs c := ⟨_, least_min h⟩
theorem ahead_down (h : Ahd m ns least p) : ∀ r j, j + r + 1 = (wayTo m p).length → Down m (restL (aheadL m ns least p)) (key ns p) ((wayTo m p).getD j 0) ((wayTo m p).drop j) := by
  have n1 := h.n1
  have m1 := h.m1
  have hlen : (restL (aheadL m ns least p)).length = ns.length := by rw [restL_length (by rw [aheadL_length]; omega), aheadL_length, Nat.add_sub_cancel]
  have hR : ∀ q, 0 < q → q < ns.length → key (restL (aheadL m ns least p)) q = if q ∈ wayTo m p then key ns (par m q) else key ns q := fun q q0 hq => by
    rw [key_rest (by rw [aheadL_length]; omega) (by rw [aheadL_length]; omega), if_neg (by omega), key_ahead h hq, if_neg (by omega)]
  intro r
  induction r with
  | zero =>
    intro j hj
    have ej : j = (wayTo m p).length - 1 := by omega
    have e1 : (wayTo m p).getD j 0 = p := by rw [ej]; exact way_last m p
    have e2 : (wayTo m p).drop j = [p] := by
      rw [← List.getElem_cons_drop (show j < (wayTo m p).length by omega), List.drop_eq_nil_of_le (by omega)]
      rw [List.getD_eq_getElem?_getD, List.getElem?_eq_getElem (show j < (wayTo m p).length by omega)] at e1
      exact congrArg (fun z => [z]) e1
    rw [e1, e2]
    by_cases hk : kids m (restL (aheadL m ns least p)).length p = []
    · exact .stop hk
    · obtain ⟨c, hc⟩ := least_ex (ns := restL (aheadL m ns least p)) hk
      have hc1 := hc.1
      rw [hlen] at hc1
      obtain ⟨c0, cn, cp⟩ := (kids_par m1).mp hc1
      have hgt := kids_gt m1 hc1
      refine .stay hc ?_
      rw [hR c c0 cn, if_neg (fun z => by have := (wayTo_spec m p).2.1 c z; omega)]
      have := h.hp c c0 cn
      rw [cp] at this
      exact this
  | succ r ih =>
    intro j hj
    have hj1 : j + 1 < (wayTo m p).length := by omega
    obtain ⟨v0, hpv⟩ := way_par m p j hj1
    have hd := ih (j + 1) (by omega)
    have hvm : (wayTo m p).getD (j + 1) 0 ∈ wayTo m p := getD_mem hj1
    have hum : (wayTo m p).getD j 0 ∈ wayTo m p := getD_mem (by omega)
    have hvn := h.lt _ hvm
    have hun := h.lt _ hum
    have e2 : (wayTo m p).drop j = (wayTo m p).getD j 0 :: (wayTo m p).drop (j + 1) := by
      rw [← List.getElem_cons_drop (show j < (wayTo m p).length by omega), List.getD_eq_getElem?_getD, List.getElem?_eq_getElem (show j < (wayTo m p).length by omega)]
      rfl
    rw [e2]
    have kv : key (restL (aheadL m ns least p)) ((wayTo m p).getD (j + 1) 0) = key ns ((wayTo m p).getD j 0) := by rw [hR _ v0 hvn, if_pos hvm, hpv]
    refine .go (c := (wayTo m p).getD (j + 1) 0) ⟨by rw [hlen]; exact (kids_par m1).mpr ⟨v0, hvn, hpv⟩, fun d hdm => ?_⟩ ?_ hd
    · rw [hlen] at hdm
      obtain ⟨d0, dn, dp⟩ := (kids_par m1).mp hdm
      by_cases e : d = (wayTo m p).getD (j + 1) 0
      · rw [e]
        exact .inr ⟨rfl, Nat.le_refl _⟩
      · have hdw : d ∉ wayTo m p := fun z => by
          obtain ⟨i, hi, ei⟩ := way_ix z
          cases i with
          | zero =>
            rw [way_first] at ei
            omega
          | succ i =>
            have h3 := (way_par m p i hi).2
            rw [ei, dp] at h3
            have hij : i = j := by
              rcases Nat.lt_trichotomy i j with w | w | w
              · have := way_inc m p w (by omega)
                omega
              · exact w
              · have := way_inc m p w (by omega)
                omega
            rw [hij] at ei
            exact e ei.symm
        left
        rw [kv, hR d d0 dn, if_neg hdw]
        have a1 := h.hp d d0 dn
        rw [dp] at a1
        have a2 : key ns ((wayTo m p).getD j 0) ≠ key ns d := fun z => by
          have := key_inj h.nd hun dn z
          have := kids_gt m1 hdm
          omega
        omega
    · rw [kv]
      have a1 := heap_way h.hp p h.pn _ hum
      have a2 : key ns ((wayTo m p).getD j 0) ≠ key ns p := fun z => by
        have e1 := key_inj h.nd hun h.pn z
        have e3 := way_inc m p (show j < (wayTo m p).length - 1 by omega) (by omega)
        rw [way_last] at e3
        omega
      omega
theorem mvI_in {R : List Int} {us : List Nat} (hlt : ∀ q ∈ us, q < R.length) (hinc : ∀ i j, i < j → j < us.length → us.getD i 0 < us.getD j 0) {i : Nat} : ∀ j, j < us.length → i < j → key (mvI R us j) (us.getD i 0) = key R (us.getD (i + 1) 0)
  | 0, _, h => absurd h (Nat.not_lt_zero _)
  | j + 1, hj, h => by
    have hm : us.getD j 0 ∈ us := getD_mem (by omega)
    unfold mvI
    rw [key_set (by rw [mvI_length]; exact hlt _ hm)]
    by_cases e : i = j
    · rw [e, if_pos rfl]
    · have := hinc i j (by omega) (by omega)
      rw [if_neg (by omega)]
      exact mvI_in hlt hinc j (by omega) (by omega)
theorem ext_key {xs ys : List Int} (hl : xs.length = ys.length) (h : ∀ q, q < xs.length → key xs q = key ys q) : xs = ys := by
  refine List.ext_getElem hl fun q h1 h2 => ?_
  have a := key_at h1
  have b := key_at h2
  rw [List.getElem?_eq_getElem h1] at a
  rw [List.getElem?_eq_getElem h2] at b
  rw [Option.some.inj a, Option.some.inj b]
  exact h q h1
theorem ahead_moved (h : Ahd m ns least p) : movedL (restL (aheadL m ns least p)) (wayTo m p) = ns := by
  have n1 := h.n1
  have hlen : (restL (aheadL m ns least p)).length = ns.length := by rw [restL_length (by rw [aheadL_length]; omega), aheadL_length, Nat.add_sub_cancel]
  have hl := List.length_pos_iff.mpr (wayTo_spec m p).1
  have hlt : ∀ q ∈ wayTo m p, q < (restL (aheadL m ns least p)).length := fun q hq => by rw [hlen]; exact h.lt q hq
  have hR : ∀ q, 0 < q → q < ns.length → key (restL (aheadL m ns least p)) q = if q ∈ wayTo m p then key ns (par m q) else key ns q := fun q q0 hq => by
    rw [key_rest (by rw [aheadL_length]; omega) (by rw [aheadL_length]; omega), if_neg (by omega), key_ahead h hq, if_neg (by omega)]
  have hmlen : (movedL (restL (aheadL m ns least p)) (wayTo m p)).length = ns.length := by unfold movedL; rw [List.length_set, mvI_length, hlen]
  refine ext_key hmlen fun q hq => ?_
  rw [hmlen] at hq
  by_cases z : q ∈ wayTo m p
  · obtain ⟨i, hi, rfl⟩ := way_ix z
    unfold movedL
    rw [way_last, key_set (by rw [mvI_length, hlen]; exact h.pn), way_first]
    by_cases e : (wayTo m p).getD i 0 = p
    · rw [if_pos e, e, key_rest (by rw [aheadL_length]; omega) (by rw [aheadL_length]; omega), if_pos rfl, aheadL_length, Nat.add_sub_cancel, key_ahead_last h]
    · rw [if_neg e]
      have hi2 : i < (wayTo m p).length - 1 := by
        refine Nat.lt_of_le_of_ne (by omega) fun w => e ?_
        rw [w]
        exact way_last m p
      rw [mvI_in hlt (fun a b => way_inc m p) _ (by omega) hi2]
      obtain ⟨v0, hpv⟩ := way_par m p i (by omega)
      have hvm : (wayTo m p).getD (i + 1) 0 ∈ wayTo m p := getD_mem (by omega)
      rw [hR _ v0 (h.lt _ hvm), if_pos hvm, hpv]
  · rw [key_moved hlt (wayTo_spec m p).1 z, hR q (Nat.pos_of_ne_zero fun e => z (by
      rw [e, ← way_first m p]
      exact getD_mem hl)) hq, if_neg z]
/-- the row ahead shows itself -/
theorem ahead_shows (h : Ahd m ns least p) (hh : IsHeap m (aheadL m ns least p)) : ShowsB m ns least p (aheadL m ns least p) := by
  have n1 := h.n1
  refine ⟨aheadL_length _ _ _ _, hh, by rw [key_ahead h (by omega), if_pos rfl], wayTo m p, ?_, ahead_moved h, way_last m p⟩
  have hl := List.length_pos_iff.mpr (wayTo_spec m p).1
  have e0 : key (restL (aheadL m ns least p)) 0 = key ns p := by
    rw [key_rest (by rw [aheadL_length]; omega) (by rw [aheadL_length]; omega), if_pos rfl, aheadL_length, Nat.add_sub_cancel, key_ahead_last h]
  have := ahead_down h ((wayTo m p).length - 1) 0 (by omega)
  rw [way_first, List.drop_zero] at this
  rw [e0]
  exact this
end
end Hr

set_option maxHeartbeats 1000000
/-! HrY: the law. (src/HrY.txt by expand.py) -/
namespace Hr
open PySem PySem.Spec PyProof.Rows L2 LamX SlX
-- one step of a reading; its repetition
local macro_rules | `(tactic| walk_at "st") => `(tactic| first
    | with_reducible refine r_seq ?_
    | with_reducible refine r_var rfl ?_
    | with_reducible refine r_c ?_
    | with_reducible refine r_cons ?_
    | with_reducible refine r_nil ?_
    | with_reducible refine r_op ?_
    | with_reducible refine r_asg ?_
    | with_reducible refine r_I0 ?_
    | with_reducible refine r_cb ?_
    | with_reducible refine r_call ?_
    | with_reducible refine r_ret ?_
    | with_reducible refine r_ifS ?_
    | with_reducible refine r_test ?_
    | with_reducible refine r_B ?_
    | with_reducible refine r_bl ?_
    | with_reducible refine r_Not ?_
    | with_reducible refine r_And ?_
    | with_reducible refine r_Or ?_
    | with_reducible refine r_AndV ?_
    | with_reducible refine r_OrV ?_
    | with_reducible refine r_NotV ?_
    | with_reducible refine r_If ?_
    | with_reducible refine r_un ?_
    | with_reducible refine r_U ?_
    | with_reducible refine r_drop ?_
    | with_reducible refine r_next ?_
    | with_reducible refine r_retN ?_
    | with_reducible refine r_brk ?_
    | with_reducible refine r_par ?_
    | with_reducible refine r_par3 ?_
    | with_reducible refine r_two ?_
    | with_reducible refine r_three ?_
    | with_reducible refine r_lst ?_
    | with_reducible refine r_tup ?_
    | with_reducible refine r_intc ?_
    | with_reducible refine r_min ?_
    | with_reducible refine r_sl ?_
    | with_reducible refine r_part ?_
    | with_reducible refine r_noPart ?_
    | with_reducible refine r_slice ?_
    | with_reducible refine r_revL ?_
    | with_reducible refine r_bm ?_
    | with_reducible refine r_meth ?_
    | with_reducible refine r_callK ?_
    | with_reducible refine r_sub ?_
    | with_reducible refine r_gcons ?_
    | with_reducible refine r_gnil ?_
    | with_reducible refine r_int1 ?_
    | with_reducible refine r_chain ?_
    | with_reducible refine r_isiI ?_
    | with_reducible refine r_isiB ?_
    | with_reducible refine r_tt ?_
    | with_reducible refine r_ff ?_
    | with_reducible refine r_nt ?_
    | with_reducible refine r_nf ?_
    | with_reducible refine r_iEnum ?_
    | with_reducible refine r_iZipA ?_
    | with_reducible refine r_iZip ?_
    | with_reducible refine r_iRng1 ?_
    | with_reducible refine r_iRng2 ?_
    | with_reducible refine r_iList ?_
    | with_reducible refine r_iTup ?_
    | with_reducible refine r_tupRg ?_
    | with_reducible refine r_lstRg ?_
    | with_reducible refine r_rg1 ?_
    | with_reducible refine r_rg2 ?_
    | with_reducible refine r_int2 ?_
    | with_reducible refine r_ssl ?_
    | with_reducible refine r_aug rfl ?_
    | with_reducible refine r_ipI ?_
    | with_reducible refine r_makeK ?_
    | with_reducible refine r_make ?_
    | with_reducible refine r_methK ?_
    | with_reducible refine r_ktup ?_
    | with_reducible refine r_star ?_
    | with_reducible refine r_for ?_
    | with_reducible refine r_lc ?_
    | with_reducible refine r_iOwn ?_
    | with_reducible refine r_yes ?_
    | with_reducible refine r_gn0 ?_
    | with_reducible refine r_gn1 ?_
    | with_reducible refine r_gn2 ?_
    | with_reducible refine r_gn3 ?_
    | with_reducible refine r_gn4 ?_
    | with_reducible refine r_gn5 ?_
    | with_reducible refine r_gn6 ?_
    | with_reducible refine r_gn7 ?_
    | with_reducible refine r_gn8 ?_
    | with_reducible refine r_gn9 ?_
    | with_reducible refine r_gn10 ?_
    | with_reducible refine r_gn11 ?_
    | with_reducible refine r_gn12 ?_
    | with_reducible refine r_gn13 ?_
    | with_reducible refine r_gn14 ?_
    | with_reducible refine r_gn15 ?_
    | with_reducible refine r_gn16 ?_
    | with_reducible refine r_gn17 ?_
    | with_reducible refine r_gn18 ?_
    | with_reducible refine r_gn19 ?_
    | with_reducible refine r_gn20 ?_
    | with_reducible refine r_gn21 ?_
    | with_reducible refine r_gn22 ?_
    | with_reducible refine r_gn23 ?_
    | with_reducible refine r_gn24 ?_
    | with_reducible refine r_gn25 ?_)
local macro_rules | `(tactic| walk_at "go") => `(tactic| repeat walk_at "st")
-- growth, by the chain of what is known
local macro_rules | `(tactic| walk_at "ex") => `(tactic| first
    | exact Ex.refl _ | assumption | (refine Ex.trans ?_ (by assumption); walk_at "ex"))
local macro_rules | `(tactic| walk_at "f1") => `(tactic| first
    | assumption | exact Or.inl (by assumption) | exact Or.inr (by assumption)
    | (refine Ex.ra ?_ (by assumption); walk_at "ex") | (refine Ex.lst ?_ (by assumption); walk_at "ex") | (refine Ex.tup ?_ (by assumption); walk_at "ex") | (refine Ex.slt ?_ (by assumption); walk_at "ex")
    | (refine Or.inl (Ex.lst ?_ (by assumption)); walk_at "ex") | (refine Or.inr (Ex.tup ?_ (by assumption)); walk_at "ex")
    | (refine sqL_of (Ex.lst ?_ (by assumption)); walk_at "ex") | (refine sqT_of (Ex.tup ?_ (by assumption)); walk_at "ex") | (refine Ex.seqL ?_ (by assumption); walk_at "ex")
    | (refine Ex.t ?_ (by assumption); walk_at "ex"))

section
variable {P : Program} {w : World} {K : PySem.W.Frag} {mg : Str → Option Value} {base : Heap}
theorem join1 {A : Prop} {F R : Hp → Prop} (h1 : (∀ H2, R H2 → F H2) → A) (h2 : ∀ H2, R H2 → F H2) : A := h1 h2
theorem joinN {A : Prop} {F R : Nat → Hp → Prop} (h1 : (∀ i H2, R i H2 → F i H2) → A) (h2 : ∀ i H2, R i H2 → F i H2) : A := h1 h2
theorem joinZ {A : Prop} {F R : Int → Hp → Prop} (h1 : (∀ i H2, R i H2 → F i H2) → A) (h2 : ∀ i H2, R i H2 → F i H2) : A := h1 h2
theorem joinB {A : Prop} {F R : Bool → Prop} (h1 : (∀ i, R i → F i) → A) (h2 : ∀ i, R i → F i) : A := h1 h2
theorem r_or1 {A B : Prop} (h : A) : A ∨ B := .inl h
def sp_law (K : PySem.W.Frag) : Sp := fun vs H Q _ => ∃ (a : Addr) (ns : List Int), vs = [.ref a] ∧ SqL K H a (ns.map V.int) ∧ Tabs (TK K) H ∧ ∀ H', Q (.bl true) H'
theorem ok_law (W : Wd K mg base) : OkD P w K mg base d_law ["script"] 10 (sp_law K) := by
  have S : FnScope ["script", "draw", "turn", "wide", "row", "least", "place", "found", "ahead", "other", "due", "above", "spot", "one", "key"] ["script"] d_law.scope := ⟨rfl, rfl, rfl, by decide +kernel, rfl, by decide +kernel, by decide +kernel⟩
  refine ok_of W.d_law S (fun vs H Q E h => ?_) (fun _ _ _ _ _ _ us hl => match us, hl with | [_], _ => rfl) (fun cdv A outer s H vs Q E hr h => ⟨_, (pss_cons (ps_set (i := 1) S.nd rfl (Or.inl rfl) (c_lst (T := TK K) (pa_cons (pv 0) (pa_cons (pe_int) pa_nil))))
      (pss_cons (ps_for PassesOwn.never rfl (pi_range1 (by rfl) (by exact W.f_range) (pa_cons (pe_int) pa_nil)) (pg_name (i := 2) S.nd rfl (Or.inl rfl)) (pss_cons (ps_set (i := 3) S.nd rfl (Or.inl rfl) (c_call (ok_law_arms W) hr (by exact W.g_law_arms) (pa_cons (pv 1) pa_nil)))
      (pss_cons (ps_set (i := 4) S.nd rfl (Or.inl rfl) (c_call (ok_law_heap W) hr (by exact W.g_law_heap) (pa_cons (c_call (ok_law_unlike W) hr (by exact W.g_law_unlike) (pa_cons (pv 1) (pa_cons (pe_op op_add (pe_int) (c_call (ok_law_take W) hr (by exact W.g_law_take) (pa_cons (pv 1) (pa_cons (pe_int) pa_nil)))) pa_nil))) (pa_cons (pv 3) pa_nil))))
      (pss_cons (ps_par (i := 5) (j := 6) rfl S.nd rfl rfl (by decide) rfl rfl (pa_cons (pe_op op_sub (pe_op op_sub (pe_ix l_ix (pv 4) (pe_int) (fun _ _ => rfl)) (pe_int)) (c_call (ok_law_take W) hr (by exact W.g_law_take) (pa_cons (pv 1) (pa_cons (pe_int) pa_nil)))) (pa_cons (c_call (ok_law_take W) hr (by exact W.g_law_take) (pa_cons (pv 1) (pa_cons (pe_callB l_len (by rfl) (by exact W.f_len) boot_len (pa_cons (pv 4) pa_nil)) pa_nil))) pa_nil)) (by rfl))
      (pss_cons (ps_par (i := 7) (j := 8) rfl S.nd rfl rfl (by decide) rfl rfl (pa_cons (c_callK (ok_undo_take W) hr (by exact W.g_undo_take) (pa_cons (pv 4) (pa_cons (pv 5) (pa_cons (pv 6) pa_nil))) (pk_cons (pv 3) pk_nil)) (pa_cons (c_call (ok_law_shifted W) hr (by exact W.g_law_shifted) (pa_cons (pv 4) (pa_cons (pv 5) (pa_cons (pv 6) (pa_cons (pv 3) pa_nil))))) pa_nil)) (by rfl))
      (pss_cons (ps_if (pt_cmpR op_notBl (peOr (c_methK (pv 7) W.s_Before (ok_Before_shows W) (by exact W.m_Before_shows) hr (pa_cons (pe_callTy (l_tuple (T := TK K)) (by rfl) (by exact W.f_tuple) PyProof.Rows.boot_tuple (pa_cons (pv 4) pa_nil)) (pa_cons (pv 5) (pa_cons (pv 6) pa_nil))) (pk_cons (pv 3) pk_nil)) (c_methK (pv 7) W.s_Over (ok_Over_shows W) (by exact W.m_Over_shows) hr (pa_cons (pe_callTy (l_tuple (T := TK K)) (by rfl) (by exact W.f_tuple) PyProof.Rows.boot_tuple (pa_cons (pv 4) pa_nil)) (pa_cons (pv 5) (pa_cons (pv 6) pa_nil))) (pk_cons (pv 3) pk_nil))) (pe_bl) (nomark _)) (pss_one (ps_ret (pe_bl))) pss_nil)
      (pss_cons (ps_if (pt_cmpR op_ne (pe_callB (call_isiSl (.ref (He.ga K "Before"))) (by rfl) (by exact W.f_isinstance) PyProof.Rows.boot_isinstance (pa_cons (pv 7) (pa_cons (pe_glob (v := .ref (He.ga K "Before")) (by rfl) (by exact W.g_Before) rfl) pa_nil))) (c_call (ok_law_is_heap W) hr (by exact W.g_law_is_heap) (pa_cons (pv 8) (pa_cons (pv 3) pa_nil))) (nomark _)) (pss_one (ps_ret (pe_bl))) pss_nil)
      (pss_cons (ps_for PassesOwn.never rfl (pi_tup (c_tup (T := TK K) (pa_cons (pv 8) (pa_cons (pe_op (l_cat (T := TK K)) (c_lst (T := TK K) (pa_cons (pv 5) pa_nil)) (pv 4)) (pa_cons (pe_op (l_cat (T := TK K)) (pv 4) (c_lst (T := TK K) (pa_cons (pv 5) pa_nil))) (pa_cons (pe_callB (l_sorted (T := TK K)) (by rfl) (by exact W.f_sorted) PyProof.Rows.boot_sorted (pa_cons (pv 8) pa_nil)) (pa_cons (pe_op (l_cat (T := TK K)) (c_lst (T := TK K) (pa_cons (pe_ix l_ix (pv 4) (pe_int) (fun _ _ => rfl)) pa_nil)) (pe_slice (l_sl (T := TK K)) (pv 8) (po_some (pe_int)) po_none)) (pa_cons (pv 4) (pa_cons (pe_slice (l_sl (T := TK K)) (pv 8) po_none (po_some (pe_un un_neg (pe_int)))) pa_nil))))))))) (pg_name (i := 9) S.nd rfl (Or.inl rfl)) (pss_cons (ps_set (i := 10) S.nd rfl (Or.inl rfl) (c_call (ok_law_is_before W) hr (by exact W.g_law_is_before) (pa_cons (pv 4) (pa_cons (pv 5) (pa_cons (pv 6) (pa_cons (pv 3) (pa_cons (pv 9) pa_nil)))))))
      (pss_one (ps_if (PW.pt (pw_and (pt_cmpR op_le (pe_callB l_len (by rfl) (by exact W.f_len) boot_len (pa_cons (pv 9) pa_nil)) (pe_int) (nomark _)) (pw_and1 (pt_cmpR op_ne (c_methK (c_make (ok_Before_init W) (by exact W.k_Before) hr (by exact W.g_Before) (pa_cons (pv 9) pa_nil)) W.s_Before (ok_Before_shows W) (by exact W.m_Before_shows) hr (pa_cons (pv 4) (pa_cons (pv 5) (pa_cons (pv 6) pa_nil))) (pk_cons (pv 3) pk_nil)) (pv 10) (nomark _))))) (pss_one (ps_ret (pe_bl))) pss_nil))))
      (pss_cons (ps_set (i := 11) S.nd rfl (Or.inl rfl) (pe_ix l_ix (pv 8) (c_call (ok_law_parent W) hr (by exact W.g_law_parent) (pa_cons (pv 3) (pa_cons (pe_callB l_len (by rfl) (by exact W.f_len) boot_len (pa_cons (pv 4) pa_nil)) pa_nil))) (fun _ _ => rfl)))
      (pss_cons (ps_for PassesOwn.never rfl (pi_range1 (by rfl) (by exact W.f_range) (pa_cons (pe_int) pa_nil)) (pg_name (i := 12) S.nd rfl (Or.inl rfl)) (pss_cons (ps_set (i := 13) S.nd rfl (Or.inl rfl) (pe_ifExp (PW.pt (pw_or (pt_cmpR op_gt (pv 12) (pe_int) (nomark _)) (pw_or1 (pt_cmpR l_notIn (pv 11) (pv 4) (by with_unfolding_all rfl))))) (c_call (ok_law_take W) hr (by exact W.g_law_take) (pa_cons (pv 1) (pa_cons (pe_op op_add (pe_callB l_len (by rfl) (by exact W.f_len) boot_len (pa_cons (pv 4) pa_nil)) (pe_int)) pa_nil))) (pe_bm PySem.F.plainAttrs_list PySem.F.slot_list_index PySem.F.type_list_index l_index (pv 4) (pa_cons (pv 11) pa_nil))))
      (pss_cons (ps_set (i := 14) S.nd rfl (Or.inl rfl) (pe_ifExp (PW.pt (pw_and (pt_cmpR op_lt (pv 13) (pe_callB l_len (by rfl) (by exact W.f_len) boot_len (pa_cons (pv 4) pa_nil)) (nomark _)) (pw_and1 (pt_cmpR op_lt (pv 12) (pe_int) (nomark _))))) (pe_ix l_ix (pv 4) (pv 13) (fun _ _ => rfl)) (c_call (ok_law_pick W) hr (by exact W.g_law_pick) (pa_cons (pv 1) (pa_cons (pv 4) pa_nil)))))
      (pss_cons (ps_set (i := 10) S.nd rfl (Or.inl rfl) ((pe_and (pe_cmpR op_lt (pv 13) (pe_callB l_len (by rfl) (by exact W.f_len) boot_len (pa_cons (pv 4) pa_nil)) (nomark _)) (pe_and (pe_cmpR op_eq (pe_ix l_ix (pv 4) (pv 13) (fun _ _ => rfl)) (pv 14) (nomark _)) (pe_and (pe_cmpR op_eq (pv 14) (pv 11) (nomark _)) (pe_one (pe_cmpR op_gt (pv 11) (pe_ix l_ix (pv 4) (pv 6) (fun _ _ => rfl)) (nomark _))))))))
      (pss_one (ps_if (pt_cmpR op_ne (c_methK (c_make (ok_Over_init W) (by exact W.k_Over) hr (by exact W.g_Over) (pa_cons (pv 13) (pa_cons (pv 14) pa_nil))) W.s_Over (ok_Over_shows W) (by exact W.m_Over_shows) hr (pa_cons (pv 4) (pa_cons (pv 5) (pa_cons (pv 6) pa_nil))) (pk_cons (pv 3) pk_nil)) (pv 10) (nomark _)) (pss_one (ps_ret (pe_bl))) pss_nil))))))
      (pss_cons (ps_if (PW.pt (pw_or (pt_cmpR (op_neOwn W.n_Before.1 W.o_Before_eq.1 W.o_Before_eq.2.1 W.n_Before.2 W.x_Before.cm (ok_Before_eq W).fnR (hr.mono (by decide)) pass0) (c_make (ok_Before_init W) (by exact W.k_Before) hr (by exact W.g_Before) (pa_cons (c_lst (T := TK K) (pa_cons (pe_int) pa_nil)) pa_nil)) (c_make (ok_Before_init W) (by exact W.k_Before) hr (by exact W.g_Before) (pa_cons (c_tup (T := TK K) (pa_cons (pe_int) pa_nil)) pa_nil)) (nomark _)) (pw_or1 (pt_cmpR (op_own (op := .Eq) (fun _ _ => rfl) W.o_Before_eq.1 W.o_Before_eq.2.1 (ok_Before_eq W).fnR (hr.mono (by decide)) pass0) (c_make (ok_Before_init W) (by exact W.k_Before) hr (by exact W.g_Before) (pa_cons (c_lst (T := TK K) (pa_cons (pe_int) pa_nil)) pa_nil)) (c_make (ok_Before_init W) (by exact W.k_Before) hr (by exact W.g_Before) (pa_cons (c_lst (T := TK K) (pa_cons (pe_int) pa_nil)) pa_nil)) (nomark _))))) (pss_one (ps_ret (pe_bl))) pss_nil)
      (pss_cons (ps_if (PW.pt (pw_or (pt_cmpR (op_neOwn W.n_Over.1 W.o_Over_eq.1 W.o_Over_eq.2.1 W.n_Over.2 W.x_Over.cm (ok_Over_eq W).fnR (hr.mono (by decide)) pass0) (c_make (ok_Over_init W) (by exact W.k_Over) hr (by exact W.g_Over) (pa_cons (pe_int) (pa_cons (pe_int) pa_nil))) (c_make (ok_Over_init W) (by exact W.k_Over) hr (by exact W.g_Over) (pa_cons (pe_int) (pa_cons (pe_int) pa_nil))) (nomark _)) (pw_or1 (pt_cmpR (op_own (op := .Eq) (fun _ _ => rfl) W.o_Over_eq.1 W.o_Over_eq.2.1 (ok_Over_eq W).fnR (hr.mono (by decide)) pass0) (c_make (ok_Over_init W) (by exact W.k_Over) hr (by exact W.g_Over) (pa_cons (pe_int) (pa_cons (pe_int) pa_nil))) (c_make (ok_Over_init W) (by exact W.k_Over) hr (by exact W.g_Over) (pa_cons (pe_int) (pa_cons (pe_int) pa_nil))) (nomark _))))) (pss_one (ps_ret (pe_bl))) pss_nil)
      (pss_one (ps_if (PW.pt (pw_or (pt_cmpR (op_own (op := .Eq) (fun _ _ => rfl) W.o_Over_eq.1 W.o_Over_eq.2.1 (ok_Over_eq W).fnR (hr.mono (by decide)) pass0) (c_make (ok_Over_init W) (by exact W.k_Over) hr (by exact W.g_Over) (pa_cons (pe_int) (pa_cons (pe_int) pa_nil))) (c_make (ok_Over_init W) (by exact W.k_Over) hr (by exact W.g_Over) (pa_cons (pe_int) (pa_cons (pe_int) pa_nil))) (nomark _)) (pw_or (pt_cmpR (op_own (op := .Eq) (fun _ _ => rfl) W.o_Before_eq.1 W.o_Before_eq.2.1 (ok_Before_eq W).fnR (hr.mono (by decide)) pass0) (c_make (ok_Before_init W) (by exact W.k_Before) hr (by exact W.g_Before) (pa_cons (c_lst (T := TK K) (pa_cons (pe_int) (pa_cons (pe_int) pa_nil))) pa_nil)) (c_make (ok_Over_init W) (by exact W.k_Over) hr (by exact W.g_Over) (pa_cons (pe_int) (pa_cons (pe_int) pa_nil))) (nomark _)) (pw_or1 (pt_cmpR (op_eqTup W.last.1 W.o_Before_eq.1 W.o_Before_eq.2.1 (ok_Before_eq W).fnR (hr.mono (by decide)) pass0) (c_make (ok_Before_init W) (by exact W.k_Before) hr (by exact W.g_Before) (pa_cons (c_lst (T := TK K) (pa_cons (pe_int) pa_nil)) pa_nil)) (c_tup (T := TK K) (pa_cons (pe_int) pa_nil)) (nomark _)))))) (pss_one (ps_ret (pe_bl))) pss_nil))))))))))))))
      (pss_one (ps_ret (pe_bl))))), ?_⟩)
  · obtain ⟨_, _, rfl, _⟩ := h
    rfl
  · obtain ⟨a, ns, rfl, hS, hT, hQ⟩ := h
    refine r_entry (σ' := [_, _, _, _, _, _, _, _, _, _, _, _, _, _, _]) rfl ?_
    walk_at "go"
    refine ⟨by simp, fun d H1 hd e1 h1 => ?_⟩
    walk_at "go"
    refine ⟨4, rfl, by omega, by omega, ?_⟩
    refine fb_rng (fun i σ H' => ∃ (k : Nat) (x2 x3 x4 x5 x6 x7 x8 x9 x10 x11 x12 x13 x14 : Option V), σ = [some (.ref a), some (.ref d), x2, x3, x4, x5, x6, x7, x8, x9, x10, x11, x12, x13, x14] ∧ Drw K H' d a ns k ∧ k ≤ 100 * i ∧ Tabs (TK K) H')
      ⟨0, _, _, _, _, _, _, _, _, _, _, _, _, _, rfl, ⟨h1, e1.seqL hS⟩, by omega, e1.t hT⟩ (fun i σ H2 hi hp => ?_) fun σ H2 hp => ?_
    · obtain ⟨k, x2, x3, x4, x5, x6, x7, x8, x9, x10, x11, x12, x13, x14, rfl, hD2, hk, hT2⟩ := hp
      walk_at "go"
      refine ⟨d, a, ns, k, rfl, hD2, by omega, fun m H3 m1 m4 e3 hD3 => ?_⟩
      walk_at "go"
      have hT3 := e3.t (hide_tabs hD2.1 hT2)
      refine ⟨d, a, ns, k + 1, 11, rfl, hD3, by omega, by omega, by omega, fun i4 H4 hi4 e4 hD4 => ?_⟩
      walk_at "go"
      have hT4 := e4.t (hide_tabs hD3.1 hT3)
      rw [show (1 : Int) + (i4 : Int) = ((1 + i4 : Nat) : Int) by omega]
      refine ⟨d, a, ns, k + 1 + 1, 1 + i4, rfl, hD4, by omega, by omega, fun lz zs H5 k5 e5 hD5 hk5 h5 hzl hzn hzb => ?_⟩
      walk_at "go"
      have hT5 := e5.t (hide_tabs hD4.1 hT4)
      refine ⟨lz, zs, m, rfl, h5, m1, m4, by omega, fun r rs H6 e6 h6 hP hh => ?_⟩
      walk_at "go"
      have hT6 := e6.t hT5
      have hD6 := hD5.ex e6
      have hrl : rs.length = 1 + i4 := by rw [hP.length_eq, hzl]
      refine r_ix (.inl h6) (at_key (p := 0) (by omega)) ?_
      walk_at "go"
      refine ⟨d, a, ns, k5, 5, rfl, hD6, by omega, by omega, by omega, fun i7 H7 hi7 e7 hD7 => ?_⟩
      walk_at "go"
      have hT7 := e7.t (hide_tabs hD6.1 hT6)
      have h7 : H7 r = some (.lst (rs.map V.int)) := e7.lst (by rw [hide_ne (hD6.ne h6)]; exact h6)
      refine r_len (.inl h7) ?_
      walk_at "go"
      rw [List.length_map]
      refine ⟨d, a, ns, k5 + 1, rs.length, rfl, hD7, by omega, by omega, by omega, fun p H8 hp8 e8 hD8 => ?_⟩
      walk_at "go"
      have hT8 := e8.t (hide_tabs hD7.1 hT7)
      have h8 : H8 r = some (.lst (rs.map V.int)) := e8.lst (by rw [hide_ne (hD7.ne h7)]; exact h7)
      have hb : ∀ z ∈ rs, -25 ≤ z ∧ z ≤ 100 := fun z hz => hzb z (hP.mem_iff.mp hz)
      have hk0 := hb _ (key_mem (ns := rs) (a := 0) (by omega))
      generalize hle : key rs 0 - 1 - (i7 : Int) = least
      have hA : Ahd m rs least p := ⟨m1, m4, by omega, by omega, fun z hz => by have := hb z hz; omega, hh, hP.nodup_iff.mpr hzn, by omega, by omega, hp8⟩
      refine ⟨rfl, rfl, r, rs, least, p, m, rfl, h8, hA, above_mem hA, fun o H9 e9 ho => ?_⟩
      walk_at "go"
      refine ⟨r, rs, least, p, m, rfl, e9.lst h8, m1, m4, hp8, by omega, fun l H10 e10 h10 => ?_⟩
      walk_at "go"
      have e8_10 := e9.trans e10
      have hT10 := e8_10.t hT8
      have hD10 := hD8.ex e8_10
      have hr10 := e8_10.lst h8
      have hal := aheadL_length m rs least p
      -- found.shows(..) is True
      refine join1 (F := ?F5) (R := fun H' => Ex (TK K) H10 H') ?j1 ?j2
      case j1 =>
        intro keyF
        rcases ho with ⟨hc, q, hq, hO⟩ | ⟨hc, hB⟩
        · have hqn := (List.getElem?_eq_some_iff.mp hq).1
          have hqk : key rs q = key (aheadL m rs least p) (par m rs.length) := by
            have := key_at hqn
            rw [hq] at this
            exact (Option.some.inj this).symm
          obtain ⟨dx, hSl⟩ := e10.over hO
          refine Or.inr ?_
          walk_at "go"
          refine r_methv hSl ?_
          walk_at "go"
          refine ⟨r, _, rfl, .inl hr10, fun t H11 e11 h11 => ?_⟩
          walk_at "go"
          refine ⟨rfl, rfl, o, t, rs, least, p, m, q, _, rfl, ⟨dx, e11.slt hSl⟩, .inr h11, hA, fun b H12 e12 hb => ?_⟩
          have hbt : b = true := hb.mpr ⟨hqn, hqk, rfl, hc⟩
          subst hbt
          exact keyF H12 (e11.trans e12)
        · obtain ⟨dx, pb, hSl, hPb⟩ := e10.before hB
          refine Or.inl ?_
          walk_at "go"
          refine r_methv hSl ?_
          walk_at "go"
          refine ⟨r, _, rfl, .inl hr10, fun t H11 e11 h11 => ?_⟩
          walk_at "go"
          refine ⟨rfl, rfl, o, t, rs, _, least, p, m, rfl, ⟨dx, pb, e11.slt hSl, e11.tup hPb⟩, .inr h11, hA, by omega, e11.t hT10, fun b H12 e12 hb => ?_⟩
          have hbt : b = true := hb.mpr (ahead_shows hA ((ahead_heap hA).mpr hc))
          subst hbt
          exact keyF H12 (e11.trans e12)
      case j2 =>
        intro H12 e12
        walk_at "go"
        refine ⟨true, true, rfl, rfl, ?_⟩
        walk_at "go"
        refine r_else (by simp) ?_
        walk_at "go"
        have hT12 := e12.t hT10
        have hD12 := hD10.ex e12
        have hr12 := e12.lst hr10
        have hl12 := e12.lst h10
        -- isinstance(found, Before) is is_heap(ahead)
        have hio : ∃ (C dx : Addr) (vs : List (Option V)) (kb : Bool), Slt H12 o C dx vs ∧ SCls K C ∧ SIsi K C ∧ PySem.W.kitOne K (.ref C) (.ref (He.ga K "Before")) = some kb ∧ (kb = true ↔ IsHeap m (aheadL m rs least p)) := by
          rcases ho with ⟨hc, q, hq, hO⟩ | ⟨hc, hB⟩
          · obtain ⟨dx, hSl⟩ := (e10.trans e12).over hO
            exact ⟨_, dx, _, false, hSl, W.s_Over, W.x_Over, W.last.2.2.2.1, ⟨fun z => (by cases z), fun z => absurd hc ((ahead_heap hA).mp z)⟩⟩
          · obtain ⟨dx, pb, hSl, hPb⟩ := (e10.trans e12).before hB
            exact ⟨_, dx, _, true, hSl, W.s_Before, W.x_Before, W.last.2.2.1, ⟨fun _ => (ahead_heap hA).mpr hc, fun _ => rfl⟩⟩
        obtain ⟨C, dx, vs, kb, hSl, hC, hI, hkb, hkh⟩ := hio
        refine r_isiSl hSl hC hI hkb ?_
        walk_at "go"
        refine ⟨l, _, m, rfl, hl12, m1, m4, by omega, fun b H13 e13 hb => ?_⟩
        have hbk : kb = b := by
          cases kb with
          | true => exact (hb.mpr (hkh.mp rfl)).symm
          | false =>
            cases b with
            | true => exact absurd (hkh.mpr (hb.mp rfl)) (by simp)
            | false => rfl
        subst hbk
        refine ⟨rfl, ?_⟩
        walk_at "go"
        refine r_else (by simp) ?_
        walk_at "go"
        -- the others
        have hT13 := e13.t hT12
        have hD13 := hD12.ex e13
        have hr13 := e13.lst hr12
        have hl13 := e13.lst hl12
        refine ⟨by simp, fun t1 H14 ht1 e14 h14 => ?_⟩
        walk_at "go"
        refine ⟨t1, r, [.int least], _, rfl, rfl, h14, e14.lst hr13, by rw [List.length_map]; simp; omega, fun o1 H15 ho1 e15 h15 => ?_⟩
        walk_at "go"
        refine ⟨by simp, fun t2 H16 ht2 e16 h16 => ?_⟩
        have e13_16 := e14.trans (e15.trans e16)
        refine ⟨r, t2, _, [.int least], rfl, rfl, e13_16.lst hr13, h16, by rw [List.length_map]; simp; omega, fun o2 H17 ho2 e17 h17 => ?_⟩
        walk_at "go"
        have e13_17 := e13_16.trans e17
        refine ⟨l, _, rfl, e13_17.lst hl13, fun o3 H18 ms ho3 hms e18 h18 => ?_⟩
        walk_at "go"
        have e13_18 := e13_17.trans e18
        refine r_ix (.inl (e13_18.lst hr13)) (at_key (p := 0) (by omega)) ?_
        walk_at "go"
        refine ⟨by simp, fun t3 H19 ht3 e19 h19 => ?_⟩
        walk_at "go"
        have e13_19 := e13_18.trans e19
        refine r_slL (e13_19.lst hl13) fun t4 H20 ht4 e20 h20 => ?_
        rw [cut_one] at h20
        have e13_20 := e13_19.trans e20
        refine ⟨t3, t4, _, _, rfl, rfl, e20.lst h19, h20, by rw [List.length_drop, List.length_map]; simp; omega, fun o4 H21 ho4 e21 h21 => ?_⟩
        walk_at "go"
        have e13_21 := e13_20.trans e21
        refine r_slL (e13_21.lst hl13) fun o5 H22 ho5 e22 h22 => ?_
        rw [cut_init] at h22
        walk_at "go"
        have e13_22 := e13_21.trans e22
        refine ⟨by simp, fun t7 H23 ht7 e23 h23 => ?_⟩
        have e13_23 := e13_22.trans e23
        have hmsl := hms.length_eq
        have hxs : ∀ x ∈ [V.ref l, V.ref o1, V.ref o2, V.ref o3, V.ref o4, V.ref r, V.ref o5], ∃ (q : Addr) (bs : List Int), x = .ref q ∧ H23 q = some (.lst (bs.map V.int)) ∧ bs.length ≤ 12 := by
          intro x hx
          simp only [List.mem_cons, List.not_mem_nil, or_false] at hx
          rcases hx with rfl | rfl | rfl | rfl | rfl | rfl | rfl
          · exact ⟨l, _, rfl, e13_23.lst hl13, by omega⟩
          · exact ⟨o1, least :: rs, rfl, (e16.trans (e17.trans (e18.trans (e19.trans (e20.trans (e21.trans (e22.trans e23))))))).lst h15, by rw [List.length_cons]; omega⟩
          · exact ⟨o2, rs ++ [least], rfl, by rw [List.map_append]; exact (e18.trans (e19.trans (e20.trans (e21.trans (e22.trans e23))))).lst h17, by rw [List.length_append, List.length_singleton]; omega⟩
          · exact ⟨o3, ms, rfl, (e19.trans (e20.trans (e21.trans (e22.trans e23)))).lst h18, by omega⟩
          · exact ⟨o4, key rs 0 :: (aheadL m rs least p).drop 1, rfl, by rw [List.map_cons, List.map_drop]; exact (e22.trans e23).lst h21, by rw [List.length_cons, List.length_drop]; omega⟩
          · exact ⟨r, rs, rfl, e13_23.lst hr13, by omega⟩
          · exact ⟨o5, (aheadL m rs least p).take (((aheadL m rs least p).map V.int).length - 1), rfl, by rw [List.map_take]; exact e23.lst h22, by rw [List.length_take]; omega⟩
        have hr23 := e13_23.lst hr13
        have hl23 := e13_23.lst hl13
        have hD23 := hD13.ex e13_23
        have hT23 := e13_23.t hT13
        show ∃ a', V.ref t7 = V.ref a' ∧ _
        refine ⟨t7, rfl, ⟨_, sqT_of h23⟩, ?_⟩
        refine fb_tup (xs := [V.ref l, V.ref o1, V.ref o2, V.ref o3, V.ref o4, V.ref r, V.ref o5]) (fun ix σ H' => ∃ (y9 y10 : Option V), σ = [some (.ref a), some (.ref d), some (.int (0 + (i : Nat) : Int)), some (.int (m : Nat)), some (.ref r), some (.int least), some (.int (p : Nat)), some (.ref o), some (.ref l), y9, y10, x11, x12, x13, x14] ∧ Ex (TK K) H23 H')
          ⟨_, _, rfl, Ex.refl _⟩ (fun ix σ H' _ hp => ?_) (fun ix x σ H24 hx hp => ?_) fun σ H24 hp => ?_
        · obtain ⟨y9, y10, _, e24⟩ := hp
          exact sqT_of (e24.tup h23)
        · obtain ⟨y9, y10, rfl, e24⟩ := hp
          obtain ⟨q, bs, rfl, hq, hbl⟩ := hxs x (List.mem_of_getElem? hx)
          walk_at "go"
          refine ⟨r, q, rs, bs, least, p, m, rfl, e24.lst hr23, e24.lst hq, m1, m4, by omega, by omega, fun c H25 e25 hc => ?_⟩
          walk_at "go"
          have e2325 := e24.trans e25
          refine r_len (.inl (e2325.lst hq)) ?_
          walk_at "go"
          rw [List.length_map]
          refine r_then (decide_eq_true (by omega)) ?_
          walk_at "go"
          refine r_mkBefore (.inl (e2325.lst hq)) fun ob H26 e26 hB => ?_
          have e2326 := e2325.trans e26
          have hB2 := hB
          obtain ⟨dx2, pb2, hSl2, hPb2⟩ := hB2
          refine ⟨ob, dx2, _, rfl, hSl2, ?_⟩
          walk_at "go"
          refine ⟨rfl, rfl, ob, r, rs, bs, least, p, m, rfl, hB, .inl (e2326.lst hr23), hA, hbl, e2326.t hT23, fun b H27 e27 hb => ?_⟩
          walk_at "go"
          have hbc : b = c := by
            cases b with
            | true => exact (hc.mpr (hb.mp rfl)).symm
            | false =>
              cases c with
              | true => exact hb.mpr (hc.mp rfl)
              | false => rfl
          subst hbc
          refine ⟨rfl, ?_⟩
          walk_at "go"
          refine r_else (by simp) ?_
          walk_at "go"
          exact ⟨_, _, rfl, e2326.trans e27⟩
        · obtain ⟨y9, y10, rfl, e24⟩ := hp
          have hr24 := e24.lst hr23
          have hl24 := e24.lst hl23
          have hD24 := hD23.ex e24
          have hT24 := e24.t hT23
          have hparn : par m rs.length < rs.length := par_lt (by omega)
          walk_at "go"
          refine r_len (.inl hr24) ?_
          walk_at "go"
          rw [List.length_map]
          refine ⟨m, rs.length, rfl, m1, m4, by omega, ?_⟩
          refine r_ix (.inl hl24) (at_key (by omega)) ?_
          walk_at "go"
          refine ⟨6, rfl, by omega, by omega, ?_⟩
          generalize hab : key (aheadL m rs least p) (par m rs.length) = above
          refine fb_rng (fun sp σ H' => ∃ (k6 : Nat) (z10 z12 z13 z14 : Option V), σ = [some (.ref a), some (.ref d), some (.int (0 + (i : Nat) : Int)), some (.int (m : Nat)), some (.ref r), some (.int least), some (.int (p : Nat)), some (.ref o), some (.ref l), y9, z10, some (.int above), z12, z13, z14] ∧ Ex (TK K) (hide H24 d) H' ∧ Drw K H' d a ns k6 ∧ k6 ≤ k5 + 2 + 2 * sp)
            ⟨k5 + 1 + 1, _, _, _, _, rfl, hide_ex hD24.1, hD24, by omega⟩ (fun sp σ H25 hsp hp => ?_) fun σ H25 hp => ?_
          · obtain ⟨k6, z10, z12, z13, z14, rfl, e25, hD25, hk6⟩ := hp
            have hrh : hide H24 d r = some (.lst (rs.map V.int)) := by rw [hide_ne (hD24.ne hr24)]; exact hr24
            have hr25 := e25.lst hrh
            show gName 12 (V.int ((0 : Int) + (sp : Int))) _ _ _
            rw [show (0 : Int) + (sp : Int) = ((sp : Nat) : Int) by omega]
            walk_at "go"
            -- one
            refine joinN (F := ?Fa) (R := fun one H' => ∃ k7, one ≤ rs.length ∧ Ex (TK K) (hide H24 d) H' ∧ Drw K H' d a ns k7 ∧ k7 ≤ k6 + 1) ?a1 ?a2
            case a1 =>
              intro keyF
              have tk : ∀ (Q' : VK), (∀ i H', (∃ k7, i ≤ rs.length ∧ Ex (TK K) (hide H24 d) H' ∧ Drw K H' d a ns k7 ∧ k7 ≤ k6 + 1) → Q' (.int (i : Nat)) H') → sp_law_take K [V.ref d, V.int ((rs.length : Int) + 1)] H25 Q' E0 := fun Q' hQ' => by
                refine ⟨d, a, ns, k6, rs.length + 1, rfl, hD25, by omega, by omega, by omega, fun i8 H26 hi8 e26 hD26 => ?_⟩
                exact hQ' i8 H26 ⟨k6 + 1, by omega, hide_trans e25 hD25.1 e26, hD26, Nat.le_refl _⟩
              refine r_ite (fun hb => ?_) fun hb => ?_
              · walk_at "go"
                refine r_len (.inl hr25) ?_
                walk_at "go"
                rw [List.length_map]
                refine tk _ fun i9 H29 hR9 => ?_
                exact keyF i9 H29 hR9
              · walk_at "go"
                refine r_notIn (.inl hr25) ?_
                walk_at "go"
                refine r_ite (fun hc => ?_) fun hc => ?_
                · walk_at "go"
                  refine r_len (.inl hr25) ?_
                  walk_at "go"
                  rw [List.length_map]
                  refine tk _ fun i9 H29 hR9 => ?_
                  exact keyF i9 H29 hR9
                · have hmem : above ∈ rs := by simpa using hc
                  walk_at "go"
                  refine ⟨ty_lst hr25, ?_⟩
                  walk_at "go"
                  refine ⟨r, rs, above, rfl, rfl, hr25, hmem, fun j hj => ?_⟩
                  exact keyF j H25 ⟨k6, Nat.le_of_lt (List.getElem?_eq_some_iff.mp hj).1, e25, hD25, by omega⟩
            case a2 =>
              rintro one H26 ⟨k7, hone, e26, hD26, hk7⟩
              have hr26 := e26.lst hrh
              walk_at "go"
              -- key
              refine joinZ (F := ?Fb) (R := fun z H' => ∃ k8, Ex (TK K) (hide H24 d) H' ∧ Drw K H' d a ns k8 ∧ k8 ≤ k7 + 1) ?b1 ?b2
              case b1 =>
                intro keyF
                have pk : ∀ (Q' : VK), (∀ z H', (∃ k8, Ex (TK K) (hide H24 d) H' ∧ Drw K H' d a ns k8 ∧ k8 ≤ k7 + 1) → Q' (.int z) H') → sp_law_pick K [V.ref d, V.ref r] H26 Q' E0 := fun Q' hQ' => by
                  refine ⟨d, a, r, ns, rs, k7, rfl, hD26, by omega, hr26, by omega, by omega, fun z H27 hz e27 hD27 => ?_⟩
                  exact hQ' z H27 ⟨k7 + 1, hide_trans e26 hD26.1 e27, hD27, Nat.le_refl _⟩
                refine r_len (.inl hr26) ?_
                walk_at "go"
                rw [List.length_map]
                refine r_ite (fun hb => ?_) fun hb => ?_
                · have hb2 : one < rs.length := by
                    have := of_decide_eq_true hb
                    omega
                  walk_at "go"
                  refine r_ite (fun hc => ?_) fun hc => ?_
                  · walk_at "go"
                    obtain ⟨zz, hzz⟩ : ∃ zz, key rs one = zz := ⟨_, rfl⟩
                    refine r_ix (.inl hr26) (v := .int zz) (by rw [← hzz]; exact at_key hb2) ?_
                    exact keyF zz H26 ⟨k7, e26, hD26, by omega⟩
                  · walk_at "go"
                    refine pk _ fun i9 H29 hR9 => ?_
                    exact keyF i9 H29 hR9
                · walk_at "go"
                  refine pk _ fun i9 H29 hR9 => ?_
                  exact keyF i9 H29 hR9
              case b2 =>
                rintro z H27 ⟨k8, e27, hD27, hk8⟩
                have hr27 := e27.lst hrh
                have hT27 := e27.t (hide_tabs hD24.1 hT24)
                walk_at "go"
                refine r_len (.inl hr27) ?_
                walk_at "go"
                rw [List.length_map]
                -- due
                refine joinB (F := ?Fc) (R := fun due => (due = true ↔ ShowsO m rs least p one z)) ?c1 ?c2
                case c1 =>
                  intro keyF
                  refine r_ite (fun hb => ?_) fun hb => ?_
                  · have hb2 : one < rs.length := by
                      have := of_decide_eq_true hb
                      omega
                    walk_at "go"
                    refine r_ix (.inl hr27) (at_key hb2) ?_
                    walk_at "go"
                    refine ⟨rfl, ?_⟩
                    rw [dec_i]
                    walk_at "go"
                    refine r_ite (fun hc => ?_) fun hc => ?_
                    · have hc2 := of_decide_eq_true hc
                      walk_at "go"
                      refine ⟨rfl, ?_⟩
                      rw [dec_i]
                      walk_at "go"
                      refine r_ite (fun hd3 => ?_) fun hd3 => ?_
                      · have hd4 := of_decide_eq_true hd3
                        walk_at "go"
                        refine r_ix (.inl hr27) (at_key hp8) ?_
                        walk_at "go"
                        obtain ⟨bb, hbb⟩ : ∃ bb, decide (key rs p < above) = bb := ⟨_, rfl⟩
                        rw [hbb]
                        refine keyF bb ⟨fun w => ?_, fun w => ?_⟩
                        · rw [w] at hbb
                          have := of_decide_eq_true hbb
                          exact ⟨hb2, hc2, by rw [hab]; exact hd4.symm, by omega⟩
                        · rw [← hbb]
                          refine decide_eq_true ?_
                          have := w.2.2.2
                          omega
                      · have hd4 := of_decide_eq_false hd3
                        exact keyF false ⟨fun w => (by cases w), fun w => absurd (by have := w.2.2.1; rw [hab] at this; exact this.symm) hd4⟩
                    · have hc2 := of_decide_eq_false hc
                      exact keyF false ⟨fun w => (by cases w), fun w => absurd w.2.1 hc2⟩
                  · have hb2 : ¬ one < rs.length := by
                      have := of_decide_eq_false hb
                      omega
                    exact keyF false ⟨fun w => (by cases w), fun w => absurd w.1 hb2⟩
                case c2 =>
                  intro due hdue
                  change gName 10 (V.bl due) [_, _, _, _, _, _, _, _, _, _, _, _, _, _, _] H27 _
                  walk_at "go"
                  refine r_mkOver fun ov H28 e28 hO => ?_
                  have hO2 := hO
                  obtain ⟨dxo, hSo⟩ := hO2
                  refine ⟨ov, dxo, _, rfl, hSo, ?_⟩
                  walk_at "go"
                  refine ⟨rfl, rfl, ov, r, rs, least, p, m, one, z, rfl, hO, .inl (e28.lst hr27), hA, fun b H29 e29 hb => ?_⟩
                  walk_at "go"
                  have hbd : b = due := by
                    cases b with
                    | true => exact (hdue.mpr (hb.mp rfl)).symm
                    | false =>
                      cases due with
                      | true => exact hb.mpr (hdue.mp rfl)
                      | false => rfl
                  subst hbd
                  refine ⟨rfl, ?_⟩
                  walk_at "go"
                  refine r_else (by simp) ?_
                  walk_at "go"
                  exact ⟨k8, _, _, _, _, rfl, e27.trans (e28.trans e29), hD27.ex (e28.trans e29), by omega⟩
          · obtain ⟨k6, z10, z12, z13, z14, rfl, e25, hD25, hk6⟩ := hp
            have hT25 := e25.t (hide_tabs hD24.1 hT24)
            walk_at "go"
            refine ⟨by simp, fun u1 J1 hu1 g1 w1 => ?_⟩
            walk_at "go"
            refine r_mkBefore (ns := [1]) (.inl w1) fun b1 J2 g2 hB1 => ?_
            walk_at "go"
            refine ⟨by simp, fun u2 J3 hu2 g3 w3 => ?_⟩
            walk_at "go"
            refine r_mkBefore (ns := [1]) (.inr w3) fun b2 J4 g4 hB2 => ?_
            have hB1' := (g3.trans g4).before hB1
            obtain ⟨dx1, pb1, hs1, _⟩ := id hB1'
            obtain ⟨dx2, pb2, hs2, _⟩ := id hB2
            refine ⟨b1, dx1, _, b2, dx2, _, rfl, rfl, hs1, hs2, b1, b2, [1], rfl, hB1', .inl ⟨[1], hB2, ?_⟩⟩
            walk_at "go"
            refine r_else (by decide) ?_
            walk_at "go"
            refine ⟨by simp, fun u5 J5 hu5 g5 w5 => ?_⟩
            walk_at "go"
            refine r_mkBefore (ns := [1]) (.inl w5) fun b6 J6 g6 hB6 => ?_
            walk_at "go"
            refine ⟨by simp, fun u7 J7 hu7 g7 w7 => ?_⟩
            walk_at "go"
            refine r_mkBefore (ns := [2]) (.inl w7) fun b8 J8 g8 hB8 => ?_
            have hB6' := (g7.trans g8).before hB6
            obtain ⟨dx6, pb6, hs6, _⟩ := id hB6'
            obtain ⟨dx8, pb8, hs8, _⟩ := id hB8
            refine ⟨b6, dx6, _, b8, _, dx8, _, rfl, rfl, hs6, hs8, W.n_Before.1, b6, b8, [1], rfl, hB6', .inl ⟨[2], hB8, ?_⟩⟩
            walk_at "go"
            refine r_else (by decide) ?_
            walk_at "go"
            have g18 := g1.trans (g2.trans (g3.trans (g4.trans (g5.trans (g6.trans (g7.trans g8))))))
            -- Over
            refine r_mkOver fun v1 J9 g9 hO1 => ?_
            walk_at "go"
            refine r_mkOver fun v2 J10 g10 hO2 => ?_
            have hO1' := g10.over hO1
            obtain ⟨dy1, ht1⟩ := id hO1'
            obtain ⟨dy2, ht2⟩ := id hO2
            refine ⟨v1, dy1, _, v2, dy2, _, rfl, rfl, ht1, ht2, v1, v2, 1, 2, 1, 2, rfl, hO1', hO2, fun J11 g11 => ?_⟩
            walk_at "go"
            refine r_else (by decide) ?_
            walk_at "go"
            refine r_mkOver fun v3 J12 g12 hO3 => ?_
            walk_at "go"
            refine r_mkOver fun v4 J13 g13 hO4 => ?_
            have hO3' := g13.over hO3
            obtain ⟨dy3, ht3⟩ := id hO3'
            obtain ⟨dy4, ht4⟩ := id hO4
            refine ⟨v3, dy3, _, v4, _, dy4, _, rfl, rfl, ht3, ht4, W.n_Over.1, v3, v4, 1, 2, 1, 3, rfl, hO3', hO4, fun J14 g14 => ?_⟩
            walk_at "go"
            refine r_else (by decide) ?_
            walk_at "go"
            have g8_14 := g9.trans (g10.trans (g11.trans (g12.trans (g13.trans g14))))
            refine r_mkOver fun v5 J15 g15 hO5 => ?_
            walk_at "go"
            refine r_mkOver fun v6 J16 g16 hO6 => ?_
            have hO5' := g16.over hO5
            obtain ⟨dy5, ht5⟩ := id hO5'
            obtain ⟨dy6, ht6⟩ := id hO6
            refine ⟨v5, dy5, _, v6, _, dy6, _, rfl, rfl, ht5, ht6, W.n_Over.1, v5, v6, 1, 2, 2, 2, rfl, hO5', hO6, fun J17 g17 => ?_⟩
            walk_at "go"
            refine r_else (by decide) ?_
            walk_at "go"
            refine ⟨by simp, fun u18 J18 hu18 g18' w18 => ?_⟩
            walk_at "go"
            refine r_mkBefore (ns := [1, 2]) (.inl w18) fun b19 J19 g19 hB19 => ?_
            walk_at "go"
            refine r_mkOver fun v20 J20 g20 hO20 => ?_
            have hB19' := g20.before hB19
            obtain ⟨dx19, pb19, hs19, _⟩ := id hB19'
            obtain ⟨dy20, ht20⟩ := id hO20
            refine ⟨b19, dx19, _, v20, _, dy20, _, rfl, rfl, hs19, ht20, W.last.2.1, b19, v20, [1, 2], rfl, hB19', .inr (.inl ⟨1, 2, hO20, ?_⟩)⟩
            walk_at "go"
            refine ⟨by simp, fun u21 J21 hu21 g21 w21 => ?_⟩
            walk_at "go"
            refine r_mkBefore (ns := [1]) (.inl w21) fun b22 J22 g22 hB22 => ?_
            walk_at "go"
            refine ⟨by simp, fun u23 J23 hu23 g23 w23 => ?_⟩
            have hB22' := g23.before hB22
            obtain ⟨dx22, pb22, hs22, _⟩ := id hB22'
            refine ⟨b22, dx22, _, u23, _, rfl, rfl, hs22, sqT_of w23, b22, u23, [1], rfl, hB22', .inr (.inr ⟨_, w23, ?_⟩)⟩
            walk_at "go"
            have g14_23 := g15.trans (g16.trans (g17.trans (g18'.trans (g19.trans (g20.trans (g21.trans (g22.trans g23)))))))
            have gall := g18.trans (g8_14.trans g14_23)
            exact ⟨k6, _, _, _, _, _, _, _, _, _, _, _, _, _, rfl, hD25.ex gall, by omega, gall.t hT25⟩
    · walk_at "go"
      exact hQ H2
end
end Hr

set_option maxHeartbeats 0
/-! HrRun: the run of the top. -/
namespace Hr
theorem run (w : PySem.World) : HandSHeadRun.RunEq R (PySem.W.view R.prog [58]) hk ob 6000 loose w := by
  intro os
  kernel_rfl
end Hr

set_option maxHeartbeats 4000000
/-! HrZ: the law's facts behind the head. -/
namespace Hr
open PySem PySem.Spec PyProof.Rows L2 LamX SlX
theorem wd_of {w : World} {K : PySem.W.Frag} {h : Heap} {mg : Str → Option Value} (X : K.In h) (G : h.Ns mainGlobals mg) (c : He.SaysX fa fn [] tf ex w h K) (base : Heap) (tb : TabB base mg (He.cT K ("first_least", none)).1 (He.cT K ("first_least", none)).2) : Wd K mg base where
  tb := tb
  glo := fun i x e => He.glo_ok X G (c.t.d.fact i e)
  free := fun i x e => He.free_ok X G (c.t.d.fact i e)
  int := fun i x z e => He.int_ok X G (c.t.d.fact i e)
  mkr := fun i x e => He.mkr_ok (c.t.d.fact i e)
  meth := fun i x m e => He.meth_ok (c.t.d.fact i e)
  def_ := fun i d e => c.t.d.def_ i e
  more := c.more
theorem facts {w : World} {K : PySem.W.Frag} {h : Heap} {mg : Str → Option Value} {f : Addr} (X : K.In h) (G : h.Ns mainGlobals mg) (hfa : mg ("law" : Str) = some (.ref f)) (c : He.SaysX fa fn [] tf ex w h K) : LawAtS Rw w K CX0 10 63 "script" mg f h := by
  have mem : (("first_least", none) : He.Defn) ∈ tf := List.mem_cons_self
  have gl : mg ("law" : Str) = some (.ref (He.ga K "law")) := He.glo_ok X G (c.t.d.fact 22 (f := .glo "law") rfl)
  have e := hfa.symm.trans gl
  cases e
  obtain ⟨fd, F⟩ := c.t.d.def_ 47 (d := d_law) rfl
  have F' : FunD K d_law.name d_law.qual d_law.params d_law.body d_law.scope [] [] (He.fAd K d_law.at_) fd := F
  have b := FunD.bindsA (ps := ["script"]) F' fun _ _ _ _ _ _ us hl => match us, hl with | [_], _ => rfl
  refine ⟨fd, [He.cT K ("first_least", none)], sp_law K, fun p hp => ?_, fun p hp => ?_, fun p hp => ?_, fun s u => b s [u] rfl, fun H a ns _ _ hH hS => ?_, fun base hK hG hTB => ?_⟩
  · rw [List.mem_singleton.mp hp]
    exact c.empty _ mem
  · rw [List.mem_singleton.mp hp]
    exact c.out _ mem
  · rw [List.mem_singleton.mp hp]
    exact PySem.W.codeHd_of_K X (c.hd _ mem)
  · refine ⟨a, ns, rfl, hS, fun p hp => ?_, fun _ => rfl⟩
    rw [List.mem_singleton.mp hp]
    exact TabS.nil (hH _ List.mem_cons_self)
  · obtain ⟨fd2, F2, G2, _⟩ := (ok_law (P := Rw.prog) (w := w) (wd_of X G c base (hTB _ List.mem_cons_self))).ex
    have e : fd2 = fd := by
      obtain ⟨_, _, _, _, _, _, _, _, _, _, _, l1, _⟩ := F'.ex
      obtain ⟨_, _, _, _, _, _, _, _, _, _, _, l2, _⟩ := F2.ex
      rw [l1] at l2
      injection l2 with l2
      injection l2 with _ _ l3 _
      injection l3 with l3
      exact l3.symm
    subst e
    exact G2
end Hr
open PySem PySem.W PySem.Calls PyProof.Rows
theorem PySem.Challenge.cw_heaprows_k25_whole_takings_shown_holds : PySem.Challenge.rw_heaprows_k25_whole_takings_shown.Holds := by
  w_on; o_law
  refine HandSHeadRun.head_any (r := OpenLaw.row PySem.Challenge.rw_heaprows_k25_whole_takings_shown) (q := view (OpenLaw.row PySem.Challenge.rw_heaprows_k25_whole_takings_shown).prog [58]) (H := Hr.hk) (ob := Hr.ob) (M := 6000) (loose := Hr.loose) (d := HandSHeadRun.topDef (OpenLaw.row PySem.Challenge.rw_heaprows_k25_whole_takings_shown).prog 58) (kwd := []) Hr.ob_eq
    (by kernel_rfl) (fun s => by kernel_rfl) Hr.run (by kernel_rfl) (by kernel_rfl) (by kernel_rfl) (by rfl) (by first | assumption | decide +kernel) (by decide +kernel) ⟨rfl, rfl, rfl, rfl, rfl, by decide +kernel⟩ ?hw ?hc
  case hw => w_witness2
  case hc =>
    refine LamX.walk_ofTsE (l := PySem.Challenge.rw_heaprows_k25_whole_takings_shown) (n := 63) (k := 10) (x := "script") (CX := fun _ => L2.CX0) rfl (by decide) (by kernel_rfl) ⟨rfl, by decide, by decide⟩ ?F (fun _ _ _ _ _ z => z)
    intro w mg fa h Y G hmg0
    obtain ⟨K, KX, c⟩ := Y
    have hmg : mg ("law" : PySem.Str) = some (.ref fa) := by
      have e : (HandSHeadRun.topDef (OpenLaw.row PySem.Challenge.rw_heaprows_k25_whole_takings_shown).prog 58).name = ("law" : PySem.Str) := by kernel_rfl
      rw [← e]
      exact hmg0
    exact ⟨K, KX, Hr.facts KX G hmg c⟩
