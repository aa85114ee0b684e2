import PyProof.Rows.All
import Wide.All
import OpenK.AllK
import Wide.FinOn
import HandS.ForMost
import HandS.ExcInit
import HandS.ExcIs
import HandS.MakeKw
import KE.KExcIs
import HandS.IsInst
import HandS.ExcOwn
import HandS.ExcValue
import PyProof.EqAt
import PyProof.EqKinds
import PyProof.ReprRoads
import HandS.Deep
import HandS.Defaults
import HandS.Evl
import HandS.Exc
import HandS.Head0
import HandS.Head1
import HandS.Head2
import HandS.HeadHook1
import HandS.HeadHook2
import HandS.WideBits
import PyProof.ReprLen
import PyProof.FitsInt
import PySem.Challenge.RW_sealedweights_k01_limits_and_errors
import HandS.HeadEnd
import KE.KStateDown
import HandS.More
set_option Elab.async false
set_option linter.all false
set_option maxRecDepth 100000
set_option maxHeartbeats 4000000
/-! own exceptions made by a call with keywords, over any of the built-in bases -/
namespace SwX
open PySem PySem.W
/-- C is a class of the text whose bases end in a built-in exception's -/
structure Born (h : Heap) (C : Addr) (newId : String) (bm : List Value) : Prop where
  ex : ∃ nm q N bs hd sn sub ab col dd k0 k1 k2 k3 k5, h.get? C = some (excClassObj nm q C N bs bm hd sn sub ab col dd k0 k1 k2 k3 k5 newId)
local macro_rules | `(tactic| walk_at "sw ask") => `(tactic| repeat (first
  | refine wpAny_loadPart_at ‹_› ?_
  | (refine wpAny_isSubtype_exc ‹_› ?_; first | rw [show List.contains (_ :: _) _ = true from ‹_›] | rw [show List.contains (_ :: _) _ = false from ‹_›])
  | refine wpAny_staticBase_exc ‹_› ?_
  | refine wpAny_madeBy_exc ‹_› ?_
  | simp only [bne_self_eq_false, Bool.false_eq_true, if_false]
  | wp_step))
local macro_rules | `(tactic| walk_at "sw ask1") => `(tactic| first
  | refine wpAny_loadPart_at ‹_› ?_
  | (refine wpAny_isSubtype_exc ‹_› ?_; first | rw [show List.contains (_ :: _) _ = true from ‹_›] | rw [show List.contains (_ :: _) _ = false from ‹_›])
  | wp_step)
section
variable {prog : Program} {w : World} {A : Around} {R : Result → Shared → Prop} {E : Value → Shared → Prop} {h : Heap} {g : Array GenState} {d : Drawn} {t : Nat} {os : OsState}
variable {C fI : Addr} {bm bmB : List Value} {B newId initId : String} {pos : List Value} {kw : List (Str × Value)}
/-- what of the bases is asked -/
structure Line (bm bmB : List Value) (B : String) : Prop where
  own : ∀ C : Addr, (Value.ref C :: bm).contains (.type B) = true
  noA : ∀ C : Addr, (Value.ref C :: bm).contains (.type "AttributeError") = false
  noN : ∀ C : Addr, (Value.ref C :: bm).contains (.type "NameError") = false
theorem line_of (F : ExcBaseFacts B newId initId bmB) (same : ∀ T : String, bm.contains (.type T) = bmB.contains (.type T)) : Line bm bmB B :=
  ⟨fun C => by rw [List.contains_cons, same, F.hasB]; exact Bool.or_true _, fun C => by rw [List.contains_cons, same, F.noAttr]; rfl, fun C => by rw [List.contains_cons, same, F.noName]; rfl⟩
/-- the two objects that a call lays: the arguments' tuple, the exception -/
abbrev laid2 (h : Heap) (C : Addr) (pos : List Value) : Heap := (h.push (kdv_tup pos)).push (PySem.HandSPX.excO C h.objs.size)
theorem look_new (F : ExcBaseFacts B newId initId bmB) (l : Line bm bmB B) (c : Born h C newId bm) {Q : Unit → Shared → Prop} (q : Q () ⟨h, g, d, t, os⟩) :
    wpAny (model prog w) A (checkBuiltinCall newId ⟨.ref C :: pos, kw⟩) Q E ⟨h, g, d, t, os⟩ := by
  obtain ⟨nm, qn, N, bs, hd, sn, sub, ab, col, dd, k0, k1, k2, k3, k5, hC⟩ := c.ex
  have own := l.own C
  have hs := F.noStar
  simp only [checkBuiltinCall, F.newKind, F.newSplit, F.newRow]
  walk_at "sw ask"
  exact q

/-- BaseException.__new__: keywords are not asked -/
theorem run_new (F : ExcBaseFacts B newId initId bmB) (l : Line bm bmB B) (c : Born h C newId bm) (hz : pos.length ≤ sizeLine) (q : R (.ok (.ret (.ref (h.objs.size + 1)))) ⟨laid2 h C pos, g, d, t, os⟩) :
    codeAny (model prog w) A (.builtin newId ⟨.ref C :: pos, kw⟩) R ⟨h, g, d, t, os⟩ := by
  obtain ⟨nm, qn, N, bs, hd, sn, sub, ab, col, dd, k0, k1, k2, k3, k5, hC⟩ := c.ex
  have e1 := l.own C
  have e2 := l.noA C
  have e3 := l.noN C
  have e4 := F.ends
  refine codeAny_builtinAt F.entry ?_
  unfold Builtin.«BaseException.__new__»
  refine PySem.wpAt_bind ?_
  show PySem.wpAt _ _ _ (stack >>= _) _ _ _
  refine PySem.wpAt_bind (wpAt_stack fun p below => PySem.wpAt_of_wpAny ?_)
  wp_walk
  refine PySem.wpAt_of_wpAny ?_
  rw [F.owner]
  repeat (first | with_reducible refine wpAny_madeHere_exc F.canon hC ?_ | walk_at "sw ask1")
  show R _ _
  rw [Heap.size_push]
  exact q

/-- a call of the class: the arguments' tuple and the exception are laid, __init__ runs -/
theorem run_class (F : ExcBaseFacts B newId initId bmB) (l : Line bm bmB B) (c : Born h C newId bm) (hz : pos.length ≤ sizeLine) (hi : Looks (model prog w) h (typeLookup (.ref C) "__init__") (some (.ref fI)))
    (hb : ∀ self, Looks (model prog w) h (bindSpecial (.ref fI) self) (.ref fI, [self]))
    (q : codeAny (model prog w) (A.under (.builtin "type.__call__" ⟨.ref C :: pos, kw⟩)) (.call (.ref fI) ⟨.ref (h.objs.size + 1) :: pos, kw⟩) (InitBack (h.objs.size + 1) R) ⟨laid2 h C pos, g, d, t, os⟩) :
    codeAny (model prog w) A (.call (.ref C) ⟨pos, kw⟩) R ⟨h, g, d, t, os⟩ := by
  obtain ⟨nm, qn, N, bs, hd, sn, sub, ab, col, dd, k0, k1, k2, k3, k5, hC⟩ := id c.ex
  have up : ∀ b o, h.get? b = some o → (laid2 h C pos).get? b = some o := fun b o z => Heap.get?_push_of_some _ (Heap.get?_push_of_some _ z)
  have hC' := up _ _ hC
  have it : (laid2 h C pos).get? (h.objs.size + 1) = some (PySem.HandSPX.excO C h.objs.size) := by heap_get
  have self : (Value.ref C :: bm).contains (.ref C) = true := by simp
  have isT : Looks (model prog w) h (isInstance (.ref C) (.type "type")) true := fun A' Q' E' s' k z => by
    have hC1 := k _ _ hC
    have sub1 := tc_sub
    obtain ⟨h1, g1, d1, t1, os1⟩ := s'
    unfold isInstance
    repeat (first | assumption | with_reducible refine wpAny_loadPart_at hC1 ?_ | wp_step)
  have i1 := hi.keeps up
  have b1 := (hb (.ref (h.objs.size + 1))).keeps up
  have c1 := tc_lookup
  have c2 := tc_bind (.ref C)
  have ty : (⟨h, g, d, t, os⟩ : Shared).TypeIs (.ref C) "type" := ⟨_, hC, rfl⟩
  refine codeAny_of_tree ?_
  show wpAny _ _ (callAny (.ref C) _) _ _ _
  repeat (any_goals (first | assumption | with_reducible refine wpAny_loadPart_at hC ?_ | wp_step))
  refine And.intro rfl ?_
  refine codeAny_call_builtin_at (Code.quiet_builtin _ (by decide +kernel)) entry_typeCall (check_slot tc_kind tc_split isT (tc_args _ _ _) ?_)
  unfold Builtin.«type.__call__»
  repeat (first | with_reducible refine wpAny_loadPart_at hC ?_ | with_reducible refine wpAny_madeBy_exc hC ?_ | wp_step)
  refine codeAny_call_builtin_code (Code.quiet_builtin _ F.quiet) (look_new F l c (run_new F l c hz ?_))
  show wpAny _ _ _ _ _ _
  unfold isInstance
  repeat (first | with_reducible refine wpAny_loadPart_at it ?_ | wp_step)
  show wpAny _ _ (isSubtype (.ref C) (.ref C)) _ _ _
  refine wpAny_isSubtype_exc hC' ?_
  rw [self]
  repeat (first | with_reducible refine wpAny_loadPart_at it ?_ | wp_step)
  show wpAny _ _ (typeLookup (.ref C) "__init__") _ _ _
  refine i1.at (wpAny_holding (wpAny_bind (b1.at ?_)))
  refine wpAny_bind (wpAny_call (codeAny_mono q fun r s' z => ?_))
  cases r with
  | error e => exact z
  | ok f =>
    cases f with
    | ret v =>
      obtain ⟨rfl, z⟩ := z
      first | exact wpAny_pure (wpAny_pure z) | (wp_walk; exact z)
    | next => exact z
    | brk => exact z
    | cont => exact z
end
end SwX
set_option Elab.async false
set_option linter.all false
set_option maxRecDepth 100000
set_option maxHeartbeats 4000000
/-! own exceptions as values: made, their fields stored and read, isinstance; over any of the built-in bases -/
namespace SwX
open PySem PySem.Spec PyProof.Rows L2
/-- a built-in base: its facts at calls and at stores -/
structure Base (B newId initId : String) (bmB : List Value) : Prop where
  call : ExcBaseFacts B newId initId bmB
  sto : StoreFacts B bmB "object.__setattr__" "object"
/-- what the written part says of an own exception class over one of them -/
structure Oex (K : PySem.W.Frag) (C : Addr) : Prop where
  base : ∃ B newId initId bmB, Base B newId initId bmB ∧ PySem.W.excOver K C bmB = true ∧
    ∃ nm q N bs bm hd sn sub ab col dd k0 k1 k2 k3 k5, K.lookup C = some (excClassObj nm q C N bs bm hd sn sub ab col dd k0 k1 k2 k3 k5 newId) ∧ PySem.W.excTail bmB bm = true
  set : PySem.W.findIn K (.ref C) "__setattr__" = some (some (.builtin "object.__setattr__"))
  get : PySem.W.findIn K (.ref C) "__getattribute__" = some (some (.builtin "BaseException.__getattribute__"))
  miss : PySem.W.findIn K (.ref C) "__getattr__" = some none
  exc : PySem.W.subIn K (.ref C) (.type "BaseException") = some true
  dct : PySem.W.hasDictIn K C = true
  cl : PySem.W.findIn K (.ref C) "__class__" = some (some (.builtin "object.__class__"))
  clg : PySem.W.specialIn K (.builtin "object.__class__") "__get__" = some (some (.builtin "getset_descriptor.__get__"))
  clt : PySem.W.takesIn K (.builtin "object.__class__") = some true
  top : PySem.W.mroIn K C (.type "object") = some true
  kp : PySem.W.keepIn K (.ref C) = true
/-- a field's name that the class has not -/
structure Free (K : PySem.W.Frag) (C : Addr) (f : Str) : Prop where
  no : PySem.W.findIn K (.ref C) f = some none
  tk : PySem.W.takerIn K C f = some none
section
variable {prog : Program} {w : World} {A : Around} {R : Result → Shared → Prop} {hp : Heap} {g : Array GenState} {d : Drawn} {t : Nat} {os : OsState}
open PySem.W Builtin Builtin.ObjectAttr in
/-- the first field of an exception: its dict is laid -/
theorem put_first {K : Frag} {f : Str} {tk : Tok} {v : Value} {x C t1 : Addr} (T : Oex K C) (no : Free K C f) (X : K.In hp) (hx : hp.get? x = some (PySem.HandSPX.excO C t1))
    (q : ∀ h' tk' dx, (∀ b o, b ≠ x → hp.get? b = some o → h'.get? b = some o) → hp.objs.size ≤ dx → dx ≠ x → h'.get? x = some { PySem.HandSPX.excO C t1 with dict := some dx } → h'.Ns1 dx (fun y => if y = f then some v else none) → R (.ok (.ret .none)) ⟨h', g, d, tk', os⟩) :
    codeAny (model prog w) A (.call (.builtin "object.__setattr__") ⟨[.ref x, .str f tk, v], []⟩) R ⟨hp, g, d, t, os⟩ := by
  obtain ⟨B, newId, initId, bmB, base, over, _⟩ := T.base
  obtain ⟨cd, hcd, hdc⟩ := any_some T.dct
  have cls : Looks (model prog w) hp (classData C) cd := looks_clsIn X hcd
  have far : x ≠ hp.objs.size := Nat.ne_of_lt (Heap.lt_size hx)
  refine osa_openX (s := ⟨hp, g, d, t, os⟩) (ox := PySem.HandSPX.excO C t1) (od := none) (r := none) base.sto X ⟨hx, rfl, rfl, trivial⟩ over no.tk fun b => ?_
  obtain ⟨nm, bs, mro, ns, qn, hasD, sn, sb, ab, col, del⟩ := cd
  dsimp only at hdc
  subst hdc
  show wpAny _ _ (storeInOwnDict _ _ _ _ _ _) _ _ _
  unfold storeInOwnDict ownDictForStores
  repeat (first | with_reducible refine PySem.HandSPX.store_in_new ?_ ?_ | with_reducible refine wpAny_loadPart_at hx ?_ | with_reducible refine cls.at ?_ | wp_step)
  · refine ⟨_, #[], _, (Heap.get?_update_ne _ _ _ _ (Ne.symm far)).trans (Heap.get?_push_at rfl rfl), rfl, ?_, fun _ => rfl⟩
    intro e he
    simp at he
  · intro h' tk' hn hs
    have old : ∀ {b : Addr} {o : Obj}, b ≠ x → hp.get? b = some o → h'.get? b = some o := fun {b o} ne ho => by
      rw [hs.2 b (Nat.ne_of_lt (Heap.lt_size ho)), Heap.get?_update_ne _ _ _ _ ne]
      exact Heap.get?_push_of_some _ ho
    refine q h' tk' _ (fun b o => old) (Nat.le_refl _) (Ne.symm far) ?_ hn
    rw [hs.2 x far, Heap.get?_update_self _ (Heap.get?_push_of_some _ hx) rfl]
open PySem.W Builtin Builtin.ObjectAttr in
/-- a further field -/
theorem put_next {K : Frag} {f : Str} {tk : Tok} {v : Value} {x C t1 dx : Addr} {m0 : Str → Option Value} {nl : List Str} (T : Oex K C) (no : Free K C f) (X : K.In hp) (hx : hp.get? x = some { PySem.HandSPX.excO C t1 with dict := some dx })
    (hns : hp.Ns1 dx m0) (hw : Within m0 nl) (hz : nl.length ≤ 1000) (q : ∀ h' tk', (∀ b o, b ≠ dx → hp.get? b = some o → h'.get? b = some o) → h'.Ns1 dx (fun y => if y = f then some v else m0 y) → R (.ok (.ret .none)) ⟨h', g, d, tk', os⟩) :
    codeAny (model prog w) A (.call (.builtin "object.__setattr__") ⟨[.ref x, .str f tk, v], []⟩) R ⟨hp, g, d, t, os⟩ := by
  obtain ⟨B, newId, initId, bmB, base, over, _⟩ := T.base
  obtain ⟨cd, hcd, hdc⟩ := any_some T.dct
  have cls : Looks (model prog w) hp (classData C) cd := looks_clsIn X hcd
  obtain ⟨oD, _, _, hoD, _, _⟩ := hns.count hw
  refine osa_openX (s := ⟨hp, g, d, t, os⟩) (ox := { PySem.HandSPX.excO C t1 with dict := some dx }) (od := some oD) (r := none) base.sto X ⟨hx, rfl, rfl, hoD⟩ over no.tk fun b => ?_
  obtain ⟨nm, bs, mro, ns, qn, hasD, sn, sb, ab, col, del⟩ := cd
  dsimp only at hdc
  subst hdc
  show wpAny _ _ (storeInOwnDict _ _ _ _ _ _) _ _ _
  unfold storeInOwnDict ownDictForStores
  repeat (first | with_reducible refine PySem.OEX.store_in_old hns hw hz ?_ | with_reducible refine wpAny_loadPart_at hx ?_ | with_reducible refine cls.at ?_ | wp_step)
  exact fun h' tk' hn hs => q h' tk' (fun b o ne ho => (hs.2 b ne).trans ho) hn
end
/-- the exception at a: of the class at C, its fields fs (its dict is not made while there is none) -/
def ExAt (H : Hp) (a C : Addr) (fs : List (Str × V)) : Prop := (H a = some (exo a C none) ∧ fs = []) ∨ ∃ d, H a = some (exo a C (some d)) ∧ H d = some (exd d fs)
section
variable {X : Cx} {pins : List (Addr × Obj)} {σ : L2.St} {H : Hp} {s : Shared} {a C d : Addr} {f : Str} {y v : V} {u : Value} {fs : List (Str × V)}
theorem ex_at_none (I : Inv X pins σ H s) (e : H a = some (exo a C none)) : ∃ t1, s.heap.get? a = some (PySem.HandSPX.excO C t1) := exo_at I.hok e
theorem ex_at_some (I : Inv X pins σ H s) (e : H a = some (exo a C (some d))) : ∃ t1, s.heap.get? a = some { PySem.HandSPX.excO C t1 with dict := some d } := exo_at I.hok e
theorem no_own {b c : Addr} {o : HO} (e : H b = some o) (h : H c = some (.own b)) (n : o ≠ .own b) : c ≠ b := fun z => n (Option.some.inj (e.symm.trans (z ▸ h)))
/-- what is tracked as something else stands elsewhere -/
theorem apart {b c : Addr} {o o' : HO} (e : H b = some o) (h : H c = some o') (n : o ≠ o') : c ≠ b := fun z => n (Option.some.inj (e.symm.trans (z ▸ h)))
theorem gone_apart {b c : Addr} {o : HO} (e : H b = some o) (h : H c = none) : c ≠ b := fun z => by rw [z, e] at h; cases h
/-- x.f = u, the first field of the exception at x -/
theorem set_first {A : Around} {E : Value → Shared → Prop} {Q : Unit → Shared → Prop} (T : Oex X.K C) (no : Free X.K C f) (I : Inv X pins σ H s) (e : H a = some (exo a C none)) (r : RelV y u)
    (k : ∀ d s', H d = none → d ≠ a → Inv X pins σ (upd (upd H d (exd d [(f, y)])) a (exo a C (some d))) s' → Q () s') : wpAny (model X.prog X.w) A (setAttr (.ref a) f u) Q E s := by
  obtain ⟨t1, ho⟩ := ex_at_none I e
  obtain ⟨hp, g, dr, t, os⟩ := s
  refine PySem.W.set_plain I.kIn (od := none) ⟨ho, rfl, rfl, trivial⟩ T.set (put_first T no I.kIn ho fun h' tk' d old dn dne hx hn => ?_)
  have fresh : H d = none := I.hok.fresh dn
  have far : ∀ {b : Addr} {o : Obj}, hp.get? b = some o → b ≠ d := fun z => Nat.ne_of_lt (Nat.lt_of_lt_of_le (Heap.lt_size z) dn)
  have same : ∀ {b : Addr} {o : HO}, H b = some o → exo a C none ≠ o → upd (upd H d (exd d [(f, y)])) a (exo a C (some d)) b = some o := fun {b o} z n => by
    rw [upd_ne (apart e z n), upd_ne (ne_of_none z fresh)]
    exact z
  have un : Un X.fs [] H (upd (upd H d (exd d [(f, y)])) a (exo a C (some d))) hp h' :=
    ⟨fun b o z n _ _ => old b o (gone_apart e n) z, fun b o z n _ _ => ⟨o.slots, old b o (gone_apart e n) z⟩, fun b o z n _ => by rw [upd_ne (gone_apart e n), upd_ne (far z)]; exact n,
      fun b o z _ => if hb : b = a then ⟨_, hb ▸ hx⟩ else ⟨o, old b o hb z⟩, fun b xs z => same z exo_tup, fun b o w z => same z exo_frz, fun b ps z => ⟨#[], by rw [same z exo_tbl]; simp⟩⟩
  refine k d _ fresh dne (I.un (t' := tk') un fun b o z => ?_)
  by_cases hb : b = a
  · subst hb
    rw [upd_same] at z
    cases z
    exact exo_ok hx
  rw [upd_ne hb] at z
  by_cases hd : b = d
  · subst hd
    rw [upd_same] at z
    cases z
    exact exd_ok hn (relO_put (fs := []) r fun _ => True.intro)
  rw [upd_ne hd] at z
  refine (I.hok b o z).stay (fun c w hc z' => old c w ?_ z') (fun c hc => same hc exo_own) (fun c xs hc => same hc exo_tup)
  rcases hc with hc | hc
  · exact hc ▸ hb
  · exact apart e hc exo_own
/-- a further field -/
theorem set_next {A : Around} {E : Value → Shared → Prop} {Q : Unit → Shared → Prop} (T : Oex X.K C) (no : Free X.K C f) (I : Inv X pins σ H s) (e : H a = some (exo a C (some d))) (ed : H d = some (exd d fs)) (hl : fs.length ≤ 900) (r : RelV y u)
    (k : ∀ s', Inv X pins σ (upd H d (exd d ((f, y) :: fs))) s' → Q () s') : wpAny (model X.prog X.w) A (setAttr (.ref a) f u) Q E s := by
  obtain ⟨t1, ho⟩ := ex_at_some I e
  obtain ⟨mA, hns, rel⟩ := exd_at I.hok ed
  obtain ⟨hp, g, dr, t, os⟩ := s
  obtain ⟨oD, _, _, hoD, _, _⟩ := hns.count (within_of rel)
  refine PySem.W.set_plain I.kIn (od := some oD) ⟨ho, rfl, rfl, hoD⟩ T.set (put_next T no I.kIn ho hns (within_of rel) (by rw [List.length_map]; omega) fun h' tk' old hn => ?_)
  have there : ∃ o, h'.get? d = some o := let ⟨o, _, _, z, _⟩ := hn; ⟨o, z⟩
  exact k _ (I.write (t' := tk') (x := d) (e := d) (by rw [ed]; exact True.intro) (.inl rfl) old there (exd_ok hn (relO_put r rel)))
/-- such an exception as the library's rules see it -/
theorem ExAt.seen (I : Inv X pins σ H s) (h : ExAt H a C fs) : ∃ ox od, PySem.W.InstAt s.heap a ox C od ∧ ∀ f v, fs.lookup f = some v → ∃ o u, od = some o ∧ PySem.W.lookIn f o = some (some u) ∧ RelV v u := by
  rcases h with ⟨e, rfl⟩ | ⟨d, e, ed⟩
  · obtain ⟨t1, ho⟩ := ex_at_none I e
    exact ⟨_, none, ⟨ho, rfl, rfl, trivial⟩, fun f v z => by cases z⟩
  · obtain ⟨t1, ho⟩ := ex_at_some I e
    obtain ⟨mA, hns, rel⟩ := exd_at I.hok ed
    obtain ⟨o, hod, look⟩ := lookIn_ns hns
    refine ⟨_, some o, ⟨ho, rfl, rfl, hod⟩, fun f v z => ?_⟩
    have ro := rel f
    rw [z] at ro
    cases q : mA f with
    | none => rw [q] at ro; exact ro.elim
    | some u => rw [q] at ro; exact ⟨o, u, rfl, (look f).trans (congrArg some q), ro⟩
end
/-- x.f = e, x an exception that is being made -/
def tSetX (K : PySem.W.Frag) (f : Str) (to te : TE) : TS := fun D σ H => te σ H fun y H1 => to σ H1 fun x H2 => ∃ a C : Addr, x = .ref a ∧ Oex K C ∧ Free K C f ∧
  ((H2 a = some (exo a C none) ∧ ∀ d, H2 d = none → d ≠ a → D.nx σ (upd (upd H2 d (exd d [(f, y)])) a (exo a C (some d)))) ∨
    ∃ (d : Addr) (fs : List (Str × V)), H2 a = some (exo a C (some d)) ∧ H2 d = some (exd d fs) ∧ fs.length ≤ 900 ∧ D.nx σ (upd H2 d (exd d ((f, y) :: fs))))
theorem ps_setX {X : Cx} {o e : Expr} {to te : TE} {f : Str} {p' pos : Pos} (ho : PE X o to) (he : PE X e te) (hs : swapsWith e (some (.Attribute o f p')) pos.line X.env = pure false := by rfl) : PS X (.Assign [.Attribute o f p'] e pos) (tSetX X.K f to te) := by
  refine ⟨fun pins s σ H D I h => plainObj_wpAny_Assign_Attribute (thn (he.run pins s σ H _ I h) fun v s1 hv => ?_) hs⟩
  obtain ⟨y, H1, I1, r1, q1⟩ := hv
  refine thn (ho.run pins s1 σ H1 _ I1 q1) fun u s2 hu => ?_
  obtain ⟨x, H2, I2, r2, a, C, rfl, T, no, q⟩ := hu
  obtain rfl : u = Value.ref a := r2
  rcases q with ⟨e2, q⟩ | ⟨d, fs, e2, ed, hl, q⟩
  · exact set_first T no I2 e2 r1 fun d s' n ne J => ⟨σ, _, J, q d n ne⟩
  · exact set_next T no I2 e2 ed hl r1 fun s' J => ⟨σ, _, J, q⟩
/-- isinstance(e, c), e such an exception -/
def rIsX (K : PySem.W.Frag) : List V → Hp → VK → Prop := fun xs H Q => ∃ (a C : Addr) (fs : List (Str × V)) (c : V) (u : Value) (b : Bool), xs = [.ref a, c] ∧ ExAt H a C fs ∧ Oex K C ∧ ClsV c u ∧ PySem.W.kitOne K (.ref C) u = some b ∧ Q (.bl b) H
theorem call_isX {X : Cx} : CallR X (.builtin "isinstance") (rIsX X.K) := fun pins s σ H xs us Q I r h => by
  obtain ⟨a, C, fs, c, u, b, rfl, at_, T, k, ans, q⟩ := h
  obtain ⟨u1, u2, rfl, r1, r2⟩ := vals2 r
  obtain rfl : u1 = Value.ref a := r1
  obtain rfl : u2 = u := k.eq r2
  obtain ⟨ox, od, J, _⟩ := at_.seen I
  obtain ⟨cd, hcd, _⟩ := PySem.W.any_some T.dct
  exact PySem.W.kia_one (PySem.W.kitx_exc (by rw [hcd]; rfl) T.get T.miss T.exc T.cl T.clg T.clt T.top) I.kIn J ans (fun z => nomatch z) fun tk => ⟨.bl b, H, I.tok tk, rfl, q⟩
/-- e.f, e such an exception -/
def tFldX (K : PySem.W.Frag) (f : Str) (te : TE) : TE := fun σ H Q => te σ H fun x H1 => ∃ (a C : Addr) (fs : List (Str × V)) (v : V), x = .ref a ∧ ExAt H1 a C fs ∧ Oex K C ∧ Free K C f ∧ fs.lookup f = some v ∧ Q v H1
theorem pe_fldX {X : Cx} {e : Expr} {te : TE} {f : Str} {pos : Pos} (he : PE X e te) (hb : attributeBase e f X.env (eval e X.env) = eval e X.env := by rfl) : PE X (.Attribute e f pos) (tFldX X.K f te) := by
  refine ⟨fun pins s σ H Q I h => attr_of hb (thn (he.run pins s σ H _ I h) fun u s1 hu => ?_)⟩
  obtain ⟨x, H1, I1, rx, a, C, fs, v, rfl, at_, T, no, hl, q⟩ := hu
  obtain rfl : u = Value.ref a := rx
  obtain ⟨ox, od, J, z⟩ := at_.seen I1
  obtain ⟨o, w, rfl, hw, rw'⟩ := z f v hl
  exact PySem.HandSPX.exc_get I1.kIn J T.get T.miss T.exc (PySem.W.findObj_own T.dct no.no rfl hw) (handed_of rw') ⟨v, H1, I1.tok _, rw', q⟩
/-- C(e, .., k = v, ..) as a value: a new exception, then __init__, which keeps sp -/
def tNewX (C : Addr) (n m : Nat) (sp : Sp) (gV : List V → List V → List V) (E : XK) (t tk : TA) : TE := fun σ H Q => t σ H fun vs H1 => tk σ H1 fun zs H2 => (vs.length = n ∧ zs.length = m ∧ n ≤ 1000) ∧
  ∀ a, H2 a = none → sp (gV (.ref a :: vs) zs) (upd H2 a (exo a C none)) (fun v H3 => v = .non ∧ Q (.ref a) H3) E
/-- the class at C has the def at fI for its __init__ -/
structure Ini (K : PySem.W.Frag) (C fI : Addr) : Prop where
  at_ : PySem.W.findIn K (.ref C) "__init__" = some (some (.ref fI))
  ty : PySem.W.typeIn K (.ref fI) = some (.type "function")
section
variable {X : Cx} {CX : CXT} {k n : Nat} {fI C : Addr} {fd : FuncData} {ps ks : List Str} {sp : Sp} {E : XK} {x : Str} {p pos : Pos} {e : Expr} {es : List Expr} {kws : List Keyword} {t tk : TA} {g : List Value → List Value → List Value} {gV : List V → List V → List V}
theorem new_runs {pins : List (Addr × Obj)} {σ : L2.St} {H : Hp} {s : Shared} {Q : VK} {us ws : List Value} {vs zs : List V} (T : Oex X.K C) (i : Ini X.K C fI) (F : FnOk X.prog X.w X.K X.mg X.base CX k fI fd ps sp) (room : Room (k + 1) X.A) (b : KBn X.K fd ps (n + 1) ks g gV) (out : Passes CX X E)
    (I : Inv X pins σ H s) (r : Vals vs us) (rz : Vals zs ws) (len : vs.length = n ∧ zs.length = ks.length ∧ n ≤ 1000) (h : ∀ a, H a = none → sp (gV (.ref a :: vs) zs) (upd H a (exo a C none)) (fun v H2 => v = .non ∧ Q (.ref a) H2) E) :
    wpAny (model X.prog X.w) X.A (call (.ref C) us (ks.zip ws)) (EP X pins σ Q) X.xe s := by
  obtain ⟨B, newId, initId, bmB, base, _, nm, qn, N, bs, bm, hd, sn, sub, ab, col, dd, k0, k1, k2, k3, k5, hC, tail⟩ := T.base
  obtain ⟨l1, l2, l3⟩ := len
  obtain ⟨hp, gs, dr, tok, os⟩ := s
  have new : H (hp.objs.size + 1) = none := I.hok.fresh (Nat.le_succ _)
  have there : (laid2 hp C us).get? (hp.objs.size + 1) = some (PySem.HandSPX.excO C hp.objs.size) := by heap_get
  have J : Inv X pins σ (upd H (hp.objs.size + 1) (exo (hp.objs.size + 1) C none)) ⟨laid2 hp C us, gs, dr, tok, os⟩ := I.laid (t' := tok) (fun _ _ z => Heap.get?_push_of_some _ (Heap.get?_push_of_some _ z)) (Nat.le_succ _) (exo_ok there)
  have ra : Vals (V.ref (hp.objs.size + 1) :: vs) (Value.ref (hp.objs.size + 1) :: us) := .cons rfl r
  have small : us.length ≤ sizeLine := by have := r.length; rw [sizeLine_eq]; omega
  refine wpAny_call (run_class base.call (line_of base.call fun Y => PySem.W.excTail_contains Y bm tail) ⟨_, _, _, _, _, _, _, _, _, _, _, _, _, _, _, I.kIn _ _ hC⟩ small (PySem.W.looks_findIn I.kIn i.at_) (fun self => PySem.W.bind_fn I.kIn self i.ty) ?_)
  refine codeAny_mono (F.run _ X.stack _ _ ⟨Value.ref (hp.objs.size + 1) :: us, ks.zip ws⟩ (g (Value.ref (hp.objs.size + 1) :: us) ws) _ _ E (room.make C us (ks.zip ws)) (J.env0.make C us (ks.zip ws)) (b.to _ (_ :: us) ws J.kIn ?_ ?_) (b.rel ra rz) (h _ new)) fun r s' z => ?_
  · exact ra.length.symm.trans (congrArg Nat.succ l1)
  · exact rz.length.symm.trans l2
  cases r with
  | error er => exact out pins σ _ _ er s' J z
  | ok fl =>
    cases fl with
    | ret u =>
      obtain ⟨v, H', I3, rv, ev, q3⟩ := J.after z
      subst ev
      exact ⟨rv, V.ref (hp.objs.size + 1), H', I3, rfl, q3⟩
    | next => exact z.elim
    | brk => exact z.elim
    | cont => exact z.elim
theorem pe_newX (T : Oex X.K C) (i : Ini X.K C fI) (F : FnOk X.prog X.w X.K X.mg X.base CX k fI fd ps sp) (room : Room (k + 1) X.A) (hg : Gl X x) (hm : X.mg x = some (.ref C)) (b : KBn X.K fd ps (n + 1) [] g gV) (out : Passes CX X E) (ha : PA X (e :: es) t)
    (hdb : (x == ("__debug__" : Str)) = false := by decide) (he : starEach (e :: es) X.env = (false, eval e X.env) :: starEach es X.env := by rfl) (hpl : (backTo pos (starEach es X.env)).any (·.1) = false := by rfl) :
    PE X (.Call (.Name x p) (e :: es) [] pos) (tNewX C n 0 sp gV E t tNil) := by
  refine ⟨fun pins s σ H Q I h => wpAny_Call_Name_kw (ld_glob I hg hm ?_ hdb)⟩
  refine PySem.W.callWith_K (h₀ := X.base) I.ok.mod.kin T.kp (thn (ha.run pos pins s σ H _ I h) fun us s1 hu => ?_) he hpl
  obtain ⟨vs, H1, I1, r, len, q⟩ := hu
  exact ⟨I1.kIn, new_runs (ks := []) (ws := []) (zs := []) T i F room b out I1 r .nil len q⟩
theorem pe_newXK (T : Oex X.K C) (i : Ini X.K C fI) (F : FnOk X.prog X.w X.K X.mg X.base CX k fI fd ps sp) (room : Room (k + 1) X.A) (hg : Gl X x) (hm : X.mg x = some (.ref C)) (b : KBn X.K fd ps 1 ks g gV) (out : Passes CX X E) (hkw : PK X kws tk)
    (hall : (backToKw pos (keywordEach kws X.env)).all (·.1.isSome) = true := by rfl) (hks : (backToKw pos (keywordEach kws X.env)).filterMap (·.1) = ks := by rfl) (hdb : (x == ("__debug__" : Str)) = false := by decide)
    (hpl : ((backTo pos (starEach [] X.env)).any (·.1) || (backToKw pos (keywordEach kws X.env)).any (·.1.isNone)) = false := by rfl) : PE X (.Call (.Name x p) [] kws pos) (tNewX C 0 ks.length sp gV E tNil tk) := by
  refine ⟨fun pins s σ H Q I h => wpAny_Call_Name_kw (ld_glob I hg hm ?_ hdb)⟩
  refine PySem.W.callWith_KW0 (h₀ := X.base) I.ok.mod.kin T.kp hall (thn (hkw.run pos pins s σ H _ I h) fun ws s2 hu => ?_) hpl
  obtain ⟨zs, H2, I2, rz, len, q2⟩ := hu
  rw [hks]
  exact ⟨I2.kIn, new_runs (us := []) (vs := []) T i F room b out I2 .nil rz len q2⟩
/-- C(), C without an __init__ of its own -/
theorem pe_newX0 {C : Addr} {bmB : List Value} {B newId initId : String} {x : Str} {p pos : Pos} (F : ExcBaseFacts B newId initId bmB) (ok : PySem.W.excIn X.K C bmB newId = true) (hm : X.mg x = some (.ref C)) (kC : PySem.W.keepIn X.K (.ref C) = true) (hg : Gl X x) (hdb : (x == ("__debug__" : Str)) = false := by decide) :
    PE X (.Call (.Name x p) [] [] pos) (fun _ H Q => ∀ a, H a = none → Q (.ref a) (upd H a (exo a C none))) := by
  refine ⟨fun pins s σ H Q I h => wpAny_Call_Name_kw (ld_glob I hg hm (PySem.W.callWith_K0 I.kIn kC ?_) hdb)⟩
  obtain ⟨bm, N, nm, qn, bs, hdct, sn, sub, ab, col, dd, k0, k1, k2, k3, k5, mN, hC, hN, hni, same⟩ := exc_obj I.kIn ok
  refine wpAny_call_exc_subT F same hC hN hni (fun h' a new => ?_) (Nat.zero_le _)
  have free : H a = none := I.hok.gone new.new
  obtain ⟨t1, ht, _, _⟩ := new.there
  exact ⟨.ref a, _, I.laidN new.keeps new.new free (exo_ok ht), rfl, h a free⟩
end
end SwX
set_option Elab.async false
set_option linter.all false
set_option maxRecDepth 100000
set_option maxHeartbeats 4000000
/-! defs whose frames stand outside of every repr (so that repr tells the whole text), from the law's call on; repr, count over data -/
namespace SwX
open PySem PySem.Spec PyProof.Rows L2
/-- no repr is under way around A -/
def Calm (A : Around) : Prop := A.guards = some []
/-- a def's promise, where no repr is under way -/
structure FnG (P : Program) (w : World) (K : PySem.W.Frag) (mg : Str → Option Value) (base : Heap) (CX : CXT) (k : Nat) (f : Addr) (fd : FuncData) (ps : List Str) (sp : Sp) : Prop where
  len : ∀ vs H Q E, sp vs H Q E → vs.length = ps.length
  run : ∀ (A : Around) (outer : List Env) (s : Shared) (H : Hp) (args : Args) (us : List Value) (vs : List V) (Q : VK) (E : XK), Room k A → Calm A → Env0 P w K mg base A outer s H → BindsTo s fd args (ps.zip us) → Vals vs us → sp vs H Q E →
    codeAny (model P w) A (.call (.ref f) args) (CR CX outer P w H s Q E) s
section
variable {P : Program} {w : World} {K : PySem.W.Frag} {mg : Str → Option Value} {base : Heap} {CX : CXT} {k : Nat} {f : Addr} {fd : FuncData} {N ps : List Str} {sp : Sp}
theorem FnOk.calm (F : FnOk P w K mg base CX k f fd ps sp) : FnG P w K mg base CX k f fd ps sp := ⟨F.len, fun A outer s H args us vs Q E hr _ => F.run A outer s H args us vs Q E hr⟩
variable {x qual : Str} {params : Arguments} {body : List Stmt} {scope : Scope} {dvs : List V} {kws : List (Str × V)}
/-- the rule of such a def -/
theorem FunD.okG (F : FunD K x qual params body scope dvs kws f fd) (S : FnScope N ps scope) (len : ∀ vs H Q E, sp vs H Q E → vs.length = ps.length)
    (hb : ∀ (cdv : Value) (A : Around) (outer : List Env) (s : Shared) (H : Hp) (vs : List V) (Q : VK) (E : XK), Room k (A.deeper (envOfC qual scope s.heap.objs.size f cdv)) → Calm A → sp vs H Q E →
      ∃ t, PSs (cxOf CX P w K mg base N qual scope f cdv A outer s H E) body t ∧ t { nx := fun _ H' => Q .non H', rt := Q } (start N vs) H) : FnG P w K mg base CX (k + 1) f fd ps sp := by
  obtain ⟨oc, od, dV, kV, doc, pm, an, cdv, ct, osl, rfl, lk, hcd, _, _⟩ := F.ex
  refine ⟨len, fun A outer s H args us vs Q E hr calm e0 bind r hsp => ?_⟩
  have base_in : ∀ b o, base.get? b = some o → s.heap.get? b = some o := fun b o z => (e0.bs b o z).1
  have KX : K.In s.heap := e0.mod.kin.keeps base_in
  have par : ∀ y ∈ ps.zip us, scope.names.lookup y.1 = some .local ∨ (scope.names.lookup y.1 = some .cell ∧ ((cellsFrom (s.heap.objs.size + 1) scope.names []).lookup y.1).isSome = true) := fun y hy => by
    cases S.par y.1 (List.of_mem_zip hy).1 with
    | inl q => exact Or.inl q
    | inr q => exact Or.inr ⟨q, PySem.W.cellsFrom_some _ _ _ (Or.inl q)⟩
  refine codeAny_call_function hr.depth (KX _ _ lk) rfl S.co S.gen rfl (PySem.W.codeRec_of KX hcd) (bind _ _ _ _ (wpAny_newFunctionEnv_cells S.kind par fun env he s1 made => ?_))
  subst he
  refine And.intro ((e0.mod.nolimit.keeps base_in).keeps made.toInCall.keep) (codeAny_func ?_)
  obtain ⟨t, ht, hq⟩ := hb cdv A outer s H vs Q E (hr.deeper _) calm hsp
  refine wpAny_mono (ht.run [] s1 (start N vs) H _ (inv_start S hr.hd e0 (len _ _ _ _ hsp) r made) hq) (fun fl s' z => ?_) fun _ _ z => z
  cases fl with
  | ret u =>
    obtain ⟨v, σ', H', J, rv, q⟩ := z
    exact ⟨v, H', J.os, J.bare, J.base, J.hok, rv, q⟩
  | next =>
    obtain ⟨σ', H', J, q⟩ := z
    exact ⟨V.non, H', J.os, J.bare, J.base, J.hok, rfl, q⟩
  | brk =>
    obtain ⟨_, _, _, q⟩ := z
    exact q.elim
  | cont =>
    obtain ⟨_, _, _, q⟩ := z
    exact q.elim
end
/-! ### calls of such defs -/
section
variable {X : Cx} {CX : CXT} {k : Nat} {f : Addr} {fd : FuncData} {ps : List Str} {sp : Sp} {dvs : List V} {ds : List Value} {E : XK} {x : Str} {p pos : Pos} {e : Expr} {es : List Expr} {t : TA}
theorem pe_callG (F : FnG X.prog X.w X.K X.mg X.base CX k f fd ps sp) (hr : Room k X.A) (calm : Calm X.A) (hg : Gl X x) (hm : X.mg x = some (.ref f)) (hk : PySem.W.keepIn X.K (.ref f) = true) (hb : Binds X.K fd ps ds) (hd : Vals dvs ds) (hx : Passes CX X E) (ha : PA X (e :: es) t)
    (hdb : (x == ("__debug__" : Str)) = false := by decide) (he : starEach (e :: es) X.env = (false, eval e X.env) :: starEach es X.env := by rfl) (hpl : (backTo pos (starEach es X.env)).any (·.1) = false := by rfl) :
    PE X (.Call (.Name x p) (e :: es) [] pos) (tCall sp dvs E t) := by
  refine ⟨fun pins s σ H Q I h => wpAny_Call_Name_kw (ld_glob I hg hm ?_ hdb)⟩
  refine PySem.W.callWith_K (h₀ := X.base) I.ok.mod.kin hk (thn (ha.run pos pins s σ H _ I h) fun us s1 hu => ?_) he hpl
  obtain ⟨vs, H1, I1, r, q⟩ := hu
  have all := r.append hd
  refine ⟨I1.kIn, wpAny_call (codeAny_mono (F.run X.A X.stack s1 H1 ⟨us, []⟩ (us ++ ds) (vs ++ dvs) Q E hr calm I1.env0 (hb s1 us I1.kIn ?_) all q) fun res s' z => ?_)⟩
  · rw [← all.length]
    exact F.len _ _ _ _ q
  cases res with
  | error er => exact hx pins σ H1 s1 er s' I1 z
  | ok fl =>
    cases fl with
    | ret u => exact I1.after z
    | next => exact z.elim
    | brk => exact z.elim
    | cont => exact z.elim
end
/-! ### the law's call -/
/-- the abstract heap ahead of the law: the script alone, where it is none of the module's own -/
def scriptH (K : PySem.W.Frag) (a : Addr) (o : Obj) (ns : List Int) : Hp := fun b => if b = a ∧ K.lookup a = none then some (.frz o (.lst (ns.map V.int))) else none
theorem scriptH_some {K : PySem.W.Frag} {a b : Addr} {o : Obj} {ns : List Int} {u : HO} (h : scriptH K a o ns b = some u) : b = a ∧ K.lookup a = none ∧ u = .frz o (.lst (ns.map V.int)) := by
  unfold scriptH at h
  split at h
  · rename_i c
    exact ⟨c.1, c.2, (Option.some.inj h).symm⟩
  · cases h
theorem law_runG {P : Program} {w : World} {K : PySem.W.Frag} {mg mb : Str → Option Value} {CX : CXT} {k : Nat} {fa a : Addr} {fd : FuncData} {x : Str} {sp : Sp} {s1 : Shared} {vs : List Value} {ns : List Int}
    (KX : K.In s1.heap) (gl : s1.heap.Ns mainGlobals mg) (bl : s1.heap.Ns builtinsNs mb) (bb : ∀ x : Str, x ≠ "__name__" → mb x = bootBuiltins x) (lim : s1.heap.NoLimit) (gens : s1.gens = #[])
    (ha : s1.heap.get? a = some { cls := .type "list", data := .seq vs.toArray }) (hi : IntsAre vs ns) (hl : ns.length ≤ sizeLine) (room : Room k callerA)
    (F : ∀ base : Heap, K.In base → base.Ns mainGlobals mg → FnG P w K mg base CX k fa fd [x] sp) (bind : ∀ (s : Shared) (u : Value), BindsTo s fd ⟨[u], []⟩ [(x, u)])
    (hsp : ∀ H : Hp, SqL K H a (ns.map V.int) → sp [.ref a] H (fun v _ => v = .bl true) fun _ _ _ => False) (out : ∀ H e s', CX [] H s1 (fun _ _ _ => False) e s' → False) :
    codeAny (model P w) callerA (.call (.ref fa) ⟨[.ref a], []⟩) (fun r s' => r = .ok (.ret (.bool true)) ∧ OldK s1.heap s'.heap ∧ s'.os = s1.os ∧ AllBare s'.gens) s1 := by
  let o : Obj := { cls := .type "list", data := .seq vs.toArray }
  let H : Hp := scriptH K a o ns
  have rv := vals_ints hi
  have short : (ns.map V.int).length ≤ sizeLine := by rw [List.length_map]; exact hl
  have seen : SqL K H a (ns.map V.int) := by
    cases q : K.lookup a with
    | none => exact Or.inl (Or.inr ⟨o, if_pos ⟨rfl, q⟩⟩)
    | some u =>
      have z := KX a u q
      rw [ha] at z
      cases z
      exact Or.inr ⟨_, vs.toArray, _, q, rfl, rfl, rfl, by rw [List.size_toArray, hi.length]; exact hl, by simpa using rv⟩
  have held : HOk P w H s1.heap := fun b u z => by
    obtain ⟨rfl, _, rfl⟩ := scriptH_some z
    exact ⟨ha, short, vs, _, rv, ha⟩
  -- nothing of the written part and no table of names is tracked
  have part : ∀ b u, K.lookup b = some u → H b = none := fun b u z => by
    cases q : H b with
    | none => rfl
    | some c =>
      obtain ⟨rfl, n, _⟩ := scriptH_some q
      rw [n] at z
      cases z
  have table : ∀ {b : Addr} {m : Str → Option Value}, s1.heap.Ns b m → (hidT s1.heap H).Ns b m := fun {b m} z => by
    obtain ⟨ob, es, ep, e1, e2, rest⟩ := z
    refine ⟨ob, es, ep, hidT_get e1 ?_, e2, rest⟩
    cases q : H b with
    | none => rfl
    | some c =>
      obtain ⟨rfl, _, _⟩ := scriptH_some q
      rw [ha] at e1
      cases e1
      exact nomatch (show Data.seq vs.toArray _ = Data.dict es ep from e2)
  have kin : K.In (hidT s1.heap H) := fun b u z => hidT_get (KX b u z) (part b u z)
  have env : Env0 P w K mg (hidT s1.heap H) callerA [] s1 H := by
    refine ⟨rfl, ⟨kin, table gl, ⟨mb, table bl, bb⟩, ?_⟩, fun b u z => of_hidT z, Nat.le_of_eq (hidT_size _ _), trivial, fun b z => ?_, held, .of_eq gens⟩
    · obtain ⟨mc, h1, h2⟩ := lim
      exact ⟨mc, table h1, h2⟩
    · exact absurd (show b ∈ ([] : List Addr) from z) List.not_mem_nil
  refine codeAny_mono ((F _ kin (table gl)).run callerA [] s1 H ⟨[.ref a], []⟩ [.ref a] [.ref a] _ _ room rfl env (bind s1 (.ref a)) (.cons rfl .nil) (hsp H seen)) fun r s' z => ?_
  cases r with
  | error e => exact (out H e s' z).elim
  | ok fl =>
    cases fl with
    | next => exact z.elim
    | brk => exact z.elim
    | cont => exact z.elim
    | ret u =>
      obtain ⟨v, H', os, bare, un, held', r', rfl⟩ := z
      obtain rfl : u = Value.bool true := r'
      refine ⟨rfl, OldK.of_keep fun b ob e => ?_, os, bare⟩
      cases q : H b with
      | none => exact un.keep b ob e q (fun z => absurd (show b ∈ ([] : List Addr) from z) List.not_mem_nil) (fun z => absurd z List.not_mem_nil)
      | some c =>
        obtain ⟨rfl, _, rfl⟩ := scriptH_some q
        have z1 := (held b _ q).1
        have z2 := (held' b _ (un.frzs b _ _ q)).1
        rw [e] at z1
        cases z1
        exact z2
/-- the end of a law's row over a head by facts: the law's def keeps its promise where no repr is under way -/
theorem walk_ofG {l : PySem.W.OpenLaw} {n k : Nat} {q : Program} {loose : List Str} {XP : (Str → Option Value) → Heap → Prop} {YP : World → Heap → Prop} {d : DefRec} {CX : CXT} {x : Str}
    (hn : l.most = some n) (hn2 : n ≤ sizeLine) (hdf : d.params.defaults = []) (room : Room k callerA)
    (F : ∀ (w : World) (mg : Str → Option Value) (fa : Addr) (h : Heap), YP w h → h.Ns mainGlobals mg → mg d.name = some (.ref fa) →
      ∃ (K : PySem.W.Frag) (fd : FuncData) (sp : Sp), K.In h ∧ (∀ (s : Shared) (u : Value), BindsTo s fd ⟨[u], []⟩ [(x, u)]) ∧
        (∀ (H : Hp) (a : Addr) (ns : List Int), ns.length ≤ n → SqL K H a (ns.map V.int) → sp [.ref a] H (fun v _ => v = .bl true) fun _ _ _ => False) ∧
        ∀ base : Heap, K.In base → base.Ns mainGlobals mg → FnG l.prog w K mg base CX k fa fd [x] sp)
    (out : ∀ (H : Hp) (s : Shared) (e : Value) (s' : Shared), CX [] H s (fun _ _ _ => False) e s' → False) : PySem.W.WalkO q loose XP YP l.row.toRowW d [] (fun f vs => PySem.call f vs) := by
  refine Att.attach_call hn hdf fun w s0 s1 mg mb fa o pm cd doc a vs ns G Y _ _ _ hm hobj hints hlen hg => ?_
  obtain ⟨K, fd, sp, KX, bind, hsp, hF⟩ := F w mg fa _ Y G.T.g hm
  exact law_runG KX G.T.g G.T.b G.T.builtins G.T.nolimit hg hobj hints (Nat.le_trans hlen hn2) room hF bind (fun H z => hsp H a ns hlen z) fun H e s' => out H s1 e s'
end SwX
set_option Elab.async false
set_option linter.all false
set_option maxRecDepth 100000
set_option maxHeartbeats 4000000
/-! data in the abstract heap, dicts with flat keys among it; its repr; counting truths -/
namespace SwX
open PySem PySem.Spec PyProof.Rows L2
def keyD : Key → PyData
  | .inl i => .int i
  | .inr x => .str x
/-- v stands for the data d -/
inductive Da (K : PySem.W.Frag) (H : Hp) : V → PyData → Prop
  | non : Da K H .non .none
  | bl (b : Bool) : Da K H (.bl b) (.bool b)
  | int (i : Int) : Da K H (.int i) (.int i)
  | str (x : Str) : Da K H (.str x) (.str x)
  | lst {a : Addr} {xs : List V} {ds : List PyData} (h : H a = some (.lst xs)) (l : xs.length = ds.length) (each : ∀ (i : Nat) x d, xs[i]? = some x → ds[i]? = some d → Da K H x d) : Da K H (.ref a) (.list ds)
  | tup {a : Addr} {xs : List V} {ds : List PyData} (h : SqT K H a xs) (l : xs.length = ds.length) (each : ∀ (i : Nat) x d, xs[i]? = some x → ds[i]? = some d → Da K H x d) : Da K H (.ref a) (.tuple ds)
  | dic {a : Addr} {kvs : List (Key × V)} {ds : List PyData} (h : H a = some (.dK kvs)) (l : kvs.length = ds.length) (each : ∀ (i : Nat) kv d, kvs[i]? = some kv → ds[i]? = some d → Da K H kv.2 d) :
      Da K H (.ref a) (.dict ((kvs.map fun q => keyD q.1).zip ds))
theorem Da.mono {K : PySem.W.Frag} {H H' : Hp} (e : Evl.Ex H H') {v : V} {d : PyData} (h : Da K H v d) : Da K H' v d := by
  induction h with
  | non => exact .non
  | bl b => exact .bl b
  | int i => exact .int i
  | str x => exact .str x
  | lst h l _ ih => exact .lst (e _ _ h) l ih
  | tup h l _ ih => exact .tup (Evl.ex_t e h) l ih
  | dic h l _ ih => exact .dic (e _ _ h) l ih
/-- what the written part holds of sys.modules -/
def SysIn (K : PySem.W.Frag) : Prop := ∃ o, K.lookup sysModules = some o
section
variable {X : Cx} {pins : List (Addr × Obj)} {σ : L2.St} {H : Hp} {s : Shared}
theorem reads_each {h : Heap} : ∀ {us : List Value} {ds : List PyData}, us.length = ds.length → (∀ (i : Nat) u d, us[i]? = some u → ds[i]? = some d → ∃ as, Reads h u d as ∧ sysModules ∉ as) → ∃ as, ReadsAll h us ds as ∧ sysModules ∉ as
  | [], [], _, _ => ⟨[], .nil, List.not_mem_nil⟩
  | [], _ :: _, l, _ => by cases l
  | _ :: _, [], l, _ => by cases l
  | u :: us, d :: ds, l, k => by
    obtain ⟨as, r, n⟩ := k 0 u d rfl rfl
    obtain ⟨bs, rs, ns⟩ := reads_each (us := us) (ds := ds) (Nat.succ.inj l) fun i u' d' e1 e2 => k (i + 1) u' d' (by simpa using e1) (by simpa using e2)
    exact ⟨as ++ bs, .cons r rs, fun z => (List.mem_append.mp z).elim n ns⟩
/-- the other way: an item of the values is one of what is paired -/
theorem Vals.back : ∀ {xs : List V} {us : List Value} {i : Nat} {u : Value}, Vals xs us → us[i]? = some u → ∃ x, xs[i]? = some x ∧ RelV x u
  | _, _, _, _, .nil, e => by simp at e
  | _, _, 0, _, .cons r _, e => by
    simp at e
    subst e
    exact ⟨_, rfl, r⟩
  | _, _, i + 1, u, .cons _ t, e => by
    obtain ⟨x, e1, r⟩ := Vals.back (i := i) (u := u) t (by simpa using e)
    exact ⟨x, by simpa using e1, r⟩
theorem kv_back : ∀ {kvs : List (Key × V)} {vs : List (Key × Value)}, KV kvs vs → vs.length = kvs.length ∧ vs.map (·.1) = kvs.map (·.1) ∧ ∀ (i : Nat) q, vs[i]? = some q → ∃ p, kvs[i]? = some p ∧ RelV p.2 q.2
  | _, _, .nil => ⟨rfl, rfl, fun i q e => by simp at e⟩
  | _, _, .cons (a := p) (b := q) r t => by
    obtain ⟨l, m, k⟩ := kv_back t
    refine ⟨congrArg Nat.succ l, by rw [List.map_cons, List.map_cons, m, r.1], fun i q' e => ?_⟩
    cases i with
    | zero =>
      simp at e
      subst e
      exact ⟨p, rfl, r.2⟩
    | succ i =>
      obtain ⟨p', e1, r'⟩ := k i q' (by simpa using e)
      exact ⟨p', by simpa using e1, r'⟩
theorem keys_read {h : Heap} {knd : PySem.KeyKind X.prog X.w Key} (hk : ∀ k v, knd.is k v = keyIs k v) : ∀ {es : List DictEntry} {vs : List (Key × Value)}, Pairs knd es vs → ReadsAll h (es.map (·.key)) (vs.map fun q => keyD q.1) [] ∧ es.map (·.val) = vs.map (·.2)
  | _, _, .nil => ⟨.nil, rfl⟩
  | _, _, .cons (e := e) (kv := kv) i v t => by
    obtain ⟨r, m⟩ := keys_read hk t
    refine ⟨?_, by rw [List.map_cons, List.map_cons, m, v]⟩
    rw [hk] at i
    have one : Reads h e.key (keyD kv.1) [] := by
      rcases keyIs_shape i with ⟨j, tk, e1, e2⟩ | ⟨x, tk, e1, e2⟩
      · rw [e1, e2]
        exact .int j tk
      · rw [e1, e2]
        exact .str x tk
    exact ReadsAll.cons (as := []) (bs := []) one r
theorem not_sys (I : Inv X pins σ H s) (S : SysIn X.K) {a : Addr} {o : HO} (h : H a = some o) : sysModules ≠ a := fun e => by
  obtain ⟨ob, z⟩ := S
  have n := (I.bs _ _ (I.ok.mod.kin _ _ z)).2
  rw [e, h] at n
  cases n
theorem Da.reads (I : Inv X pins σ H s) (S : SysIn X.K) {v : V} {d : PyData} (h : Da X.K H v d) : ∀ u, RelV v u → ∃ as, Reads s.heap u d as ∧ sysModules ∉ as := by
  induction h with
  | non => intro u r; cases r; exact ⟨_, .none, List.not_mem_nil⟩
  | bl b => intro u r; cases r; exact ⟨_, .bool b, List.not_mem_nil⟩
  | int i =>
    intro u r
    obtain ⟨t, rfl⟩ := r
    exact ⟨_, .int i t, List.not_mem_nil⟩
  | str x =>
    intro u r
    obtain ⟨t, rfl⟩ := r
    exact ⟨_, .str x t, List.not_mem_nil⟩
  | @lst a xs ds h l _ ih =>
    intro u r
    cases r
    obtain ⟨its, rv, ⟨o, n, ho, hc, _, hd⟩, _⟩ := I.list (Evl.sq_of h)
    obtain ⟨as, ra, na⟩ := reads_each (h := s.heap) (us := its) (ds := ds) (rv.length.symm.trans l) fun i u d e1 e2 => by
      obtain ⟨x, e3, r⟩ := Vals.back rv e1
      exact ih i x d e3 e2 u r
    exact ⟨_, .list ho hc hd ra, fun z => (List.mem_cons.mp z).elim (not_sys I S h) na⟩
  | @tup a xs ds h l _ ih =>
    intro u r
    cases r
    obtain ⟨its, rv, ⟨o, ho, hc, n, hd⟩, _⟩ := I.tuple h
    obtain ⟨as, ra, na⟩ := reads_each (h := s.heap) (us := its) (ds := ds) (rv.length.symm.trans l) fun i u d e1 e2 => by
      obtain ⟨x, e3, r⟩ := Vals.back rv e1
      exact ih i x d e3 e2 u r
    exact ⟨_, .tuple ho hc hd ra, na⟩
  | @dic a kvs ds h l _ ih =>
    intro u r
    cases r
    have ok : ObjOk X.prog X.w H s.heap a (.dK kvs) := I.hok a _ h
    obtain ⟨_, _, vs, kv, o, es, ep, ho, hx, hd, _, hp, _⟩ := ok
    obtain ⟨l2, m2, k2⟩ := kv_back kv
    obtain ⟨rk, mv⟩ := keys_read (X := X) (h := s.heap) (mixKind_is X.prog X.w) hp
    have lk : (kvs.map fun q => keyD q.1).length = ds.length := by rw [List.length_map]; exact l
    obtain ⟨as, ra, na⟩ := reads_each (h := s.heap) (us := es.toList.map (·.val)) (ds := ds) (by rw [mv, List.length_map, l2]; exact l) fun i u d e1 e2 => by
      rw [mv, List.getElem?_map] at e1
      cases q : vs[i]? with
      | none => rw [q] at e1; cases e1
      | some p =>
        rw [q] at e1
        obtain ⟨p', e3, r⟩ := k2 i p q
        cases e1
        exact ih i p' d e3 e2 p.2 r
    have f1 : ((kvs.map fun q => keyD q.1).zip ds).map (·.1) = vs.map fun q => keyD q.1 := by
      rw [List.map_fst_zip (Nat.le_of_eq lk)]
      have z := congrArg (List.map keyD) m2
      rw [List.map_map, List.map_map] at z
      exact z.symm
    have f2 : ((kvs.map fun q => keyD q.1).zip ds).map (·.2) = ds := List.map_snd_zip (Nat.le_of_eq lk.symm)
    refine ⟨_, .dict (as := []) (bs := as) ho hx.1 hd (by rw [f1]; exact rk) (by rw [f2]; exact ra), fun z => ?_⟩
    rcases List.mem_cons.mp (show sysModules ∈ a :: as from z) with z | z
    · exact not_sys I S h z
    · exact na z
end
/-- repr(x), x a list or a tuple that is data -/
def rRepr (K : PySem.W.Frag) : List V → Hp → VK → Prop := fun xs H Q => ∃ (a : Addr) (d : PyData), xs = [.ref a] ∧ Da K H (.ref a) d ∧ d.showable = true ∧ d.depth ≤ 150 ∧ d.shown.length ≤ sizeLine ∧ Q (.str d.shown) H
theorem call_repr {X : Cx} {k : Nat} (S : SysIn X.K) (calm : Calm X.A) (hr : Room k X.A) : CallR X (.builtin "repr") (rRepr X.K) := fun pins s σ H xs us Q I r h => by
  obtain ⟨a, d, rfl, da, sh, dp, len, q⟩ := h
  obtain ⟨u, rfl, ru⟩ := Vals.one r
  obtain ⟨as, rd, ns⟩ := da.reads I S u ru
  cases ru
  have un := hr.un
  exact repr_of_reads' rd sh (fun _ => ns) calm (by omega) (fun _ _ e => e) (fun h' u tk keep => ⟨.str d.shown, H, I.kept keep, ⟨u, rfl⟩, q⟩) len
/-- xs.count(b), xs a list of truths -/
def rCountB (K : PySem.W.Frag) : V → List V → Hp → VK → Prop := fun x xs H Q => ∃ (p : Addr) (bs : List Bool) (b : Bool), x = .ref p ∧ xs = [.bl b] ∧ SqL K H p (bs.map V.bl) ∧ Q (.int (bs.count b : Nat)) H
theorem bools_of : ∀ {bs : List Bool} {its : List Value}, Vals (bs.map V.bl) its → its = bs.map Value.bool
  | [], _, r => by cases r; rfl
  | b :: bs, _, r => by
    cases r with
    | cons r t => rw [bools_of t, List.map_cons, show _ = Value.bool b from r]
def isB (b : Bool) : Value → Bool
  | .bool c => c == b
  | _ => false
theorem isB_count (b : Bool) : ∀ bs : List Bool, (bs.map Value.bool).countP (isB b) = bs.count b
  | [] => rfl
  | c :: bs => by rw [List.map_cons, List.countP_cons, List.count_cons, isB_count b bs]; rfl
theorem mt_countB {X : Cx} {k : Nat} (hr : Room k X.A) : MtR X "list.count" (rCountB X.K) := fun pins s σ H x xs v us Q I rx rxs h => by
  obtain ⟨p, bs, b, rfl, rfl, hs, q⟩ := h
  cases rx
  obtain ⟨u, rfl, ru⟩ := Vals.one rxs
  obtain rfl : u = Value.bool b := ru
  obtain ⟨its, rv, ⟨⟨cls, dd, data, sl⟩, n, ho, hc, hdn, hd⟩, _⟩ := I.list hs
  simp only at hc hd
  subst hc hd
  have e := bools_of rv
  subst e
  have un := hr.un
  refine call_meets PySem.F.slot_list_count ⟨_, ho, rfl⟩ PySem.F.entry_list_count (PySem.F.args_list_count_2 _ _) (SeqAt.list_countAt p _ n dd sl (.bool b) (isB b)) ⟨ho, fun y hy => ?_, ?_⟩
  · obtain ⟨c, _, rfl⟩ := List.mem_map.mp (show y ∈ bs.map Value.bool by simpa using hy)
    exact SeqAt.eqAt_reads (.bool c) (.bool b) _ _ _ _ [] [] (.bool c) (.bool b) rfl rfl (by show X.A.units + 1 + min _ _ < cLine; simp only [PyData.depth]; omega)
  · refine ⟨.int (bs.count b : Nat), H, I.tok _, ⟨s.toks, ?_⟩, q⟩
    rw [isB_count]
end SwX
set_option Elab.async false
set_option linter.all false
set_option maxRecDepth 100000
set_option maxHeartbeats 4000000
/-! what a head tells of own exception classes, and a Hook with a further look -/
namespace SwX
open PySem PySem.Spec PyProof.Rows L2 He
/-- the bases: 0 ValueError, 1 LookupError, else ArithmeticError -/
def baseN : Nat → String
  | 0 => "ValueError"
  | 1 => "LookupError"
  | _ => "ArithmeticError"
def newN (i : Nat) : String := match i with
  | 0 => "ValueError.__new__"
  | 1 => "LookupError.__new__"
  | _ => "ArithmeticError.__new__"
def mroN (i : Nat) : List Value := [.type (baseN i), .type "Exception", .type "BaseException", .type "object"]
theorem base_of (i : Nat) : ∃ initId, Base (baseN i) (newN i) initId (mroN i) := match i with
  | 0 => ⟨_, PySem.F.excBase_ValueError, PySem.F.store_ValueError⟩
  | 1 => ⟨_, PySem.F.excBase_LookupError, PySem.F.store_LookupError⟩
  | _ + 2 => ⟨_, PySem.F.excBase_ArithmeticError, PySem.F.store_ArithmeticError⟩
def oB (a b : Option Bool) : Bool := decide (a = b)
/-- the class at C is an own exception over base i -/
def oexB (K : PySem.W.Frag) (i : Nat) (C : Addr) : Bool :=
  PySem.W.excOver K C (mroN i) && (PySem.W.excInitIn K C (mroN i) (newN i) && (eqO (PySem.W.findIn K (.ref C) "__setattr__") (some (some (.builtin "object.__setattr__"))) &&
  (eqO (PySem.W.findIn K (.ref C) "__getattribute__") (some (some (.builtin "BaseException.__getattribute__"))) && (eqO (PySem.W.findIn K (.ref C) "__getattr__") (some none) &&
  (oB (PySem.W.subIn K (.ref C) (.type "BaseException")) (some true) && (PySem.W.hasDictIn K C && (eqO (PySem.W.findIn K (.ref C) "__class__") (some (some (.builtin "object.__class__"))) &&
  (eqO (PySem.W.specialIn K (.builtin "object.__class__") "__get__") (some (some (.builtin "getset_descriptor.__get__"))) && (oB (PySem.W.takesIn K (.builtin "object.__class__")) (some true) &&
  (oB (PySem.W.mroIn K C (.type "object")) (some true) && PySem.W.keepIn K (.ref C)))))))))))
theorem born_in {K : PySem.W.Frag} {C : Addr} {bmB : List Value} {newId : String} (q : PySem.W.excInitIn K C bmB newId = true) :
    ∃ nm qn N bs bm hd sn sub ab col dd k0 k1 k2 k3 k5, K.lookup C = some (excClassObj nm qn C N bs bm hd sn sub ab col dd k0 k1 k2 k3 k5 newId) ∧ PySem.W.excTail bmB bm = true := by
  unfold PySem.W.excInitIn at q
  split at q
  · rename_i dd cd sl at_
    obtain ⟨nm, bs, mro, ns, qn, hd, sn, sub, ab, col, del⟩ := cd
    obtain ⟨l⟩ := sl
    cases mro with
    | nil => cases q
    | cons c bm =>
      cases c with
      | ref C' =>
        match l, q with
        | [k0, k1, k2, k3, some (.builtin n), k5], q =>
          have q' : (C' == C && n == newId && !del && PySem.W.excTail bmB bm) = true := q
          simp only [Bool.and_eq_true, beq_iff_eq, Bool.not_eq_true'] at q'
          obtain ⟨⟨⟨rfl, rfl⟩, rfl⟩, tail⟩ := q'
          exact ⟨nm, qn, ns, bs, bm, hd, sn, sub, ab, col, dd, k0, k1, k2, k3, k5, at_, tail⟩
      | _ => cases q
  · cases q
theorem oex_of {K : PySem.W.Frag} {i : Nat} {C : Addr} (h : oexB K i C = true) : Oex K C := by
  simp only [oexB, Bool.and_eq_true, eqO, oB, decide_eq_true_eq] at h
  obtain ⟨over, ini, set, get, miss, exc, dct, cl, clg, clt, top, kp⟩ := h
  obtain ⟨initId, base⟩ := base_of i
  obtain ⟨nm, qn, N, bs, bm, hd, sn, sub, ab, col, dd, k0, k1, k2, k3, k5, at_, tail⟩ := born_in ini
  exact ⟨⟨_, _, initId, _, base, over, nm, qn, N, bs, bm, hd, sn, sub, ab, col, dd, k0, k1, k2, k3, k5, at_, tail⟩, set, get, miss, exc, dct, cl, clg, clt, top, kp⟩
theorem free_of {K : PySem.W.Frag} {C : Addr} {f : Str} (h : PySem.W.findIn K (.ref C) f = some none) : Free K C f := ⟨h, by unfold PySem.W.takerIn; rw [h] <;> rfl⟩
/-- the class at C has the def at fI for its __init__ -/
def iniB (K : PySem.W.Frag) (C : Addr) : Bool := eqO (PySem.W.findIn K (.ref C) "__init__") (some (some (.ref (ma K C "__init__")))) && decide (PySem.W.typeIn K (.ref (ma K C "__init__")) = some (.type "function"))
theorem ini_of {K : PySem.W.Frag} {C : Addr} (h : iniB K C = true) : Ini K C (ma K C "__init__") := by
  simp only [iniB, Bool.and_eq_true, eqO, decide_eq_true_eq] at h
  exact ⟨h.1, h.2⟩
/-! ### a Hook with a further look; sys.modules is among what is seen -/
def asS (g : Addr → Option Obj) (n : Nat) : List Addr := sysModules :: asD g n
abbrev AlS : Type := Bool × AlD
def obsS (fa : List Fa) (fn : List DefD) (chk : PySem.W.Frag → Bool) (K : PySem.W.Frag) : AlS := ((K.lookup sysModules).isSome && chk K, obsD fa fn K)
def obsSG (n : Nat) (fa : List Fa) (fn : List DefD) (chk : PySem.W.Frag → Bool) (g : Addr → Option Obj) : AlS := obsS fa fn chk (frG g (asS g n))
def hookS (n : Nat) (fa : List Fa) (fn : List DefD) (chk : PySem.W.Frag → Bool) : PySem.W.Hook where
  α := AlS
  obs := fun s => obsSG n fa fn chk s.heap.get?
  val := fun _ => (true, valD fn)
  says := fun _ h => ∃ K : PySem.W.Frag, K.In h ∧ obsS fa fn chk K = (true, valD fn)
  of := fun _ _ e => ⟨_, frG_in, e⟩
  keeps := fun _ _ _ ⟨K, hK, c⟩ k => ⟨K, PySem.W.Frag.In.keeps hK k, c⟩
theorem obsSG_eq {n : Nat} {fa : List Fa} {fn : List DefD} {chk : PySem.W.Frag → Bool} {g : Addr → Option Obj} {s : Shared} (h : ∀ a, g a = s.heap.get? a) : obsSG n fa fn chk g = (hookS n fa fn chk).obs s := by
  rw [show g = s.heap.get? from funext h] <;> rfl
theorem saysS {fa : List Fa} {fn : List DefD} {chk : PySem.W.Frag → Bool} {K : PySem.W.Frag} (h : obsS fa fn chk K = (true, valD fn)) : SysIn K ∧ chk K = true ∧ SaysD fa fn K := by
  have h1 : ((K.lookup sysModules).isSome && chk K) = true := congrArg (fun z : AlS => z.1) h
  have h2 : obsD fa fn K = valD fn := congrArg (fun z : AlS => z.2) h
  obtain ⟨a, b⟩ := Bool.and_eq_true_iff.mp h1
  exact ⟨Option.isSome_iff_exists.mp a, b, h2⟩
end SwX
set_option Elab.async false
set_option linter.all false
set_option maxRecDepth 100000
set_option maxHeartbeats 4000000
/-! a def by its name; joined rules, so that a body's term needs no types; heaps that grow -/
namespace SwX
open PySem PySem.Spec PyProof.Rows L2
/-- the module's name x is a def that keeps sp -/
structure Has (P : Program) (w : World) (K : PySem.W.Frag) (mg : Str → Option Value) (base : Heap) (x : Str) (k : Nat) (ps : List Str) (sp : Sp) : Prop where
  ex : ∃ f fd, FnOk P w K mg base CX0 k f fd ps sp ∧ mg x = some (.ref f) ∧ PySem.W.keepIn K (.ref f) = true ∧ Binds K fd ps []
/-- the same where no repr is under way -/
structure HasG (P : Program) (w : World) (K : PySem.W.Frag) (mg : Str → Option Value) (base : Heap) (x : Str) (k : Nat) (ps : List Str) (sp : Sp) : Prop where
  ex : ∃ f fd, FnG P w K mg base CX0 k f fd ps sp ∧ mg x = some (.ref f) ∧ PySem.W.keepIn K (.ref f) = true ∧ Binds K fd ps []
/-- the module's name x is an own exception class, its __init__ keeps sp; m keywords ks -/
structure HasX (P : Program) (w : World) (K : PySem.W.Frag) (mg : Str → Option Value) (base : Heap) (x : Str) (k : Nat) (C : Addr) (n : Nat) (ks : List Str) (g : {α : Type} → List α → List α → List α) (sp : Sp) : Prop where
  ex : ∃ fI fd ps, Oex K C ∧ Ini K C fI ∧ FnOk P w K mg base CX0 k fI fd ps sp ∧ mg x = some (.ref C) ∧ KBn K fd ps (n + 1) [] (fun us _ => us) (fun vs _ => vs) ∧ KBn K fd ps 1 ks (fun us ws => g us ws) (fun vs zs => g vs zs)
section
variable {X : Cx} {k n : Nat} {C : Addr} {ps ks : List Str} {sp : Sp} {x : Str} {p pos : Pos} {e : Expr} {es : List Expr} {kws : List Keyword} {t tk : TA} {gg : {α : Type} → List α → List α → List α}
theorem pe_has (D : Has X.prog X.w X.K X.mg X.base x k ps sp) (hr : Room k X.A) (ha : PA X (e :: es) t) (hg : Gl X x := by rfl) (hdb : (x == ("__debug__" : Str)) = false := by decide)
    (he : starEach (e :: es) X.env = (false, eval e X.env) :: starEach es X.env := by rfl) (hpl : (backTo pos (starEach es X.env)).any (·.1) = false := by rfl) : PE X (.Call (.Name x p) (e :: es) [] pos) (tCall sp [] E0 t) := by
  obtain ⟨f, fd, F, hm, hk, hb⟩ := D.ex
  exact pe_call F hr hg hm hk hb .nil pass0 ha hdb he hpl
theorem pe_hasG (D : HasG X.prog X.w X.K X.mg X.base x k ps sp) (hr : Room k X.A) (calm : Calm X.A) (ha : PA X (e :: es) t) (hg : Gl X x := by rfl) (hdb : (x == ("__debug__" : Str)) = false := by decide)
    (he : starEach (e :: es) X.env = (false, eval e X.env) :: starEach es X.env := by rfl) (hpl : (backTo pos (starEach es X.env)).any (·.1) = false := by rfl) : PE X (.Call (.Name x p) (e :: es) [] pos) (tCall sp [] E0 t) := by
  obtain ⟨f, fd, F, hm, hk, hb⟩ := D.ex
  exact pe_callG F hr calm hg hm hk hb .nil pass0 ha hdb he hpl
theorem pe_newH (D : HasX X.prog X.w X.K X.mg X.base x k C n ks gg sp) (hr : Room (k + 1) X.A) (ha : PA X (e :: es) t) (hg : Gl X x := by rfl) (hdb : (x == ("__debug__" : Str)) = false := by decide)
    (he : starEach (e :: es) X.env = (false, eval e X.env) :: starEach es X.env := by rfl) (hpl : (backTo pos (starEach es X.env)).any (·.1) = false := by rfl) :
    PE X (.Call (.Name x p) (e :: es) [] pos) (tNewX C n 0 sp (fun vs _ => vs) E0 t tNil) := by
  obtain ⟨fI, fd, ps, T, i, F, hm, b, _⟩ := D.ex
  exact pe_newX T i F hr hg hm b pass0 ha hdb he hpl
theorem pe_newHK (D : HasX X.prog X.w X.K X.mg X.base x k C n ks gg sp) (hr : Room (k + 1) X.A) (hkw : PK X kws tk) (hg : Gl X x := by rfl)
    (hall : (backToKw pos (keywordEach kws X.env)).all (·.1.isSome) = true := by rfl) (hks : (backToKw pos (keywordEach kws X.env)).filterMap (·.1) = ks := by rfl) (hdb : (x == ("__debug__" : Str)) = false := by decide)
    (hpl : ((backTo pos (starEach [] X.env)).any (·.1) || (backToKw pos (keywordEach kws X.env)).any (·.1.isNone)) = false := by rfl) : PE X (.Call (.Name x p) [] kws pos) (tNewX C 0 ks.length sp (fun vs zs => gg vs zs) E0 tNil tk) := by
  obtain ⟨fI, fd, ps, T, i, F, hm, _, b⟩ := D.ex
  exact pe_newXK T i F hr hg hm b pass0 hkw hall hks hdb hpl
end
/-! ### joined rules -/
section
variable {X : Cx} {k : Nat}
theorem op_join {f : Value → Value → Sem Value} {r r' : R2} (h : OpR X f r) (h' : OpR X f r') : OpR X f (fun x y H Q => r x y H Q ∨ r' x y H Q) := fun pins s σ H x y v u Q I rx ry z => z.elim (h pins s σ H x y v u Q I rx ry) (h' pins s σ H x y v u Q I rx ry)
theorem ix_join {r r' : R2} (h : IxR X r) (h' : IxR X r') : IxR X (fun x y H Q => r x y H Q ∨ r' x y H Q) := fun a b pins s σ H x y v u Q I rx ry z hs => z.elim (fun z => h a b pins s σ H x y v u Q I rx ry z hs) fun z => h' a b pins s σ H x y v u Q I rx ry z hs
theorem cr_join {f : Value} {r r' : List V → Hp → VK → Prop} (h : CallR X f r) (h' : CallR X f r') : CallR X f (fun xs H Q => r xs H Q ∨ r' xs H Q) := fun pins s σ H xs us Q I rx z => z.elim (h pins s σ H xs us Q I rx) (h' pins s σ H xs us Q I rx)
/-- a + b: ints | lists -/
theorem op_addA : OpR X (binaryOp .Add) (fun x y H Q => rI0 (fun i j => .int (i + j)) x y H Q ∨ rCat x y H Q) := op_join op_add op_cat
/-- a == b: flat things | data -/
theorem op_eqA (hr : Room k X.A) : OpR X (compareOp .Eq) (fun x y H Q => rEq x y H Q ∨ rEqD X.K x y H Q) := op_join op_eq (op_eqD (by have := hr.un; omega))
theorem op_neA (hr : Room k X.A) : OpR X (compareOp .NotEq) (fun x y H Q => rNe x y H Q ∨ rNeD X.K x y H Q) := op_join op_ne (op_neD (by have := hr.un; omega))
/-- a[i]: lists | tuples -/
theorem ix_A : IxR X (fun x y H Q => rIxL X.K x y H Q ∨ rIxT X.K x y H Q) := ix_join ix_list ix_tup
end
/-! ### heaps that grow -/
open Evl (Ex)
theorem ex_new {H : Hp} {p : Addr} {o : HO} (h : H p = none) : Ex H (upd H p o) := Evl.Ex.new h
theorem ExAt.mono {H H' : Hp} {a C : Addr} {fs : List (Str × V)} (e : Ex H H') (h : ExAt H a C fs) : ExAt H' a C fs := by
  rcases h with ⟨h1, h2⟩ | ⟨d, h1, h2⟩
  · exact .inl ⟨e _ _ h1, h2⟩
  · exact .inr ⟨d, e _ _ h1, e _ _ h2⟩
/-- te gives, over any greater heap, a value of which P holds in a greater heap still -/
def Yi (te : TE) (σ : L2.St) (H : Hp) (P : V → Hp → Prop) : Prop := ∀ H1, Ex H H1 → ∀ Q : VK, (∀ v H2, Ex H1 H2 → P v H2 → Q v H2) → te σ H1 Q
/-- the same of an argument list -/
def Ys (ta : TA) (σ : L2.St) (H : Hp) (P : List V → Hp → Prop) : Prop := ∀ H1, Ex H H1 → ∀ Q : List V → Hp → Prop, (∀ vs H2, Ex H1 H2 → P vs H2 → Q vs H2) → ta σ H1 Q
section
variable {σ : L2.St} {H : Hp} {te : TE} {ta : TA} {P : V → Hp → Prop} {R : List V → Hp → Prop}
theorem Yi.mono {H' : Hp} (h : Yi te σ H P) (e : Ex H H') : Yi te σ H' P := fun H1 e1 => h H1 (e.trans e1)
theorem Ys.mono {H' : Hp} (h : Ys ta σ H R) (e : Ex H H') : Ys ta σ H' R := fun H1 e1 => h H1 (e.trans e1)
/-- items of a list, one predicate each -/
theorem ys_nil {α : Type} {F : α → V → Hp → Prop} : Ys tNil σ H fun vs H' => Paired (fun i v => F i v H') [] vs := fun H1 _ Q q => q [] H1 (Evl.Ex.refl H1) .nil
theorem ys_cons {α : Type} {F : α → V → Hp → Prop} {i : α} {is : List α} (mono : ∀ i v H H', Ex H H' → F i v H → F i v H') (h : Yi te σ H (F i)) (t : Ys ta σ H fun vs H' => Paired (fun i v => F i v H') is vs) :
    Ys (tCons te ta) σ H fun vs H' => Paired (fun i v => F i v H') (i :: is) vs := fun H1 e1 Q q =>
  h H1 e1 _ fun v H2 e2 p => t H2 (e1.trans e2) _ fun vs H3 e3 r => q (v :: vs) H3 (e2.trans e3) (.cons (mono i v H2 H3 e3 p) r)
theorem paired_mono {α : Type} {F : α → V → Hp → Prop} {H H' : Hp} (e : Ex H H') (mono : ∀ i v H H', Ex H H' → F i v H → F i v H') : ∀ {is : List α} {vs : List V}, Paired (fun i v => F i v H) is vs → Paired (fun i v => F i v H') is vs
  | _, _, .nil => .nil
  | _, _, .cons h t => .cons (mono _ _ _ _ e h) (paired_mono e mono t)
theorem paired_append {α β : Type} {F : α → β → Prop} : ∀ {is js : List α} {vs ws : List β}, Paired F is vs → Paired F js ws → Paired F (is ++ js) (vs ++ ws)
  | _, _, _, _, .nil, t => t
  | _, _, _, _, .cons h r, t => .cons h (paired_append r t)
theorem paired_get {α β : Type} {F : α → β → Prop} : ∀ {is : List α} {vs : List β} {n : Nat} {i : α}, Paired F is vs → is[n]? = some i → ∃ v, vs[n]? = some v ∧ F i v
  | _, _, n, _, .nil, e => by simp at e
  | _, _, 0, _, .cons h _, e => by
    simp at e
    subst e
    exact ⟨_, rfl, h⟩
  | _, _, n + 1, i, .cons _ t, e => by
    obtain ⟨v, e1, h⟩ := paired_get (n := n) (i := i) t (by simpa using e)
    exact ⟨v, by simpa using e1, h⟩
theorem paired_len {α β : Type} {F : α → β → Prop} {is : List α} {vs : List β} (h : Paired F is vs) : is.length = vs.length := Paired.length h
end
end SwX
set_option Elab.async false
set_option linter.all false
set_option maxRecDepth 100000
set_option maxHeartbeats 4000000
/-! readings of joined rules evaluated; the purse of the laws' draws -/
namespace SwX
open PySem PySem.Spec PyProof.Rows L2 Evl
section
variable {K : PySem.W.Frag} {σ : L2.St} {H : Hp} {x y z v : V} {r r' : R2} {te : TE}
theorem rv_l (h : RV r x y H z) : RV (fun x y H Q => r x y H Q ∨ r' x y H Q) x y H z := fun H1 e Q q => .inl (h H1 e Q q)
theorem rv_r (h : RV r' x y H z) : RV (fun x y H Q => r x y H Q ∨ r' x y H Q) x y H z := fun H1 e Q q => .inr (h H1 e Q q)
theorem rv_add {i j : Int} : RV (fun x y H Q => rI0 (fun i j => .int (i + j)) x y H Q ∨ rCat x y H Q) (.int i) (.int j) H (.int (i + j)) := rv_l rv_I0
theorem rv_at {p : Addr} {xs : List V} {i : Int} (h : SqL K H p xs) (ha : atI xs i = some v) : RV (fun x y H Q => rIxL K x y H Q ∨ rIxT K x y H Q) (.ref p) (.int i) H v := rv_l (rv_ixL h ha)
theorem rv_atT {p : Addr} {xs : List V} {i : Int} (h : SqT K H p xs) (ha : atI xs i = some v) : RV (fun x y H Q => rIxL K x y H Q ∨ rIxT K x y H Q) (.ref p) (.int i) H v := rv_r (rv_ixT h ha)
/-- a statement, then the rest -/
theorem s_seq {t u : TS} {D : Ends} (h : t { D with nx := u D } σ H) : tSeq t u D σ H := h
/-- int(i) -/
def rInt1 : List V → Hp → VK → Prop := fun xs H Q => (∃ i, xs = [.int i] ∧ Q (.int i) H) ∨ ∃ k, xs = [.bl k] ∧ Q (.int (if k then 1 else 0)) H
theorem ev_int1 {i : Int} (h : Ev te σ H (.int i)) : Ev (tCB rInt1 (tCons te tNil)) σ H (.int i) := ev_cb (ea_cons h ea_nil) fun H1 _ _ q => .inl ⟨i, rfl, q H1 (Ex.refl H1)⟩
end
/-- the purse at a: its state, what is left of a great number, its count -/
def Pur (H : Hp) (a : Addr) : Prop := ∃ x y z : Int, H a = some (.lst [.int x, .int y, .int z]) ∧ 0 ≤ x ∧ x < 2147483629 ∧ 0 ≤ y
/-- the heap without what stands at a -/
def less (a : Addr) (H : Hp) : Hp := fun b => if b = a then none else H b
theorem less_at {a : Addr} {H : Hp} : less a H a = none := if_pos rfl
theorem less_ne {a b : Addr} {H : Hp} (h : b ≠ a) : less a H b = H b := if_neg h
theorem less_ex {a : Addr} {H : Hp} : Ex (less a H) H := fun b o e => by
  unfold less at e
  split at e
  · cases e
  · exact e
theorem ex_less {a : Addr} {G H : Hp} (n : G a = none) (e : Ex G H) : Ex G (less a H) := fun b o h => by
  rw [less_ne (fun z => by rw [z, n] at h; cases h)]
  exact e b o h
theorem less_upd {a : Addr} {H H1 : Hp} {o : HO} (e : Ex (less a H) H1) : Ex (less a H) (upd H1 a o) := e.mut less_at
/-- what was known aside of the purse is known still -/
theorem ex_past {a : Addr} {G H H' : Hp} (n : G a = none) (e : Ex G H) (e' : Ex (less a H) H') : Ex G H' := (ex_less n e).trans e'
theorem Pur.keep {a : Addr} {H H' : Hp} (h : Pur H a) (e : Ex H H') : Pur H' a := by
  obtain ⟨x, y, z, q, r⟩ := h
  exact ⟨x, y, z, e _ _ q, r⟩
/-! promises of the three defs that draw -/
def spSeed (K : PySem.W.Frag) : Sp := fun vs H Q _ => ∃ (a : Addr) (ns : List Int) (k : Int), vs = [.ref a, .int k] ∧ SqL K H a (ns.map V.int) ∧ 0 ≤ k ∧ k ≤ 1000 ∧ ∀ n H', Ex H H' → Q (.int n) H'
def spPurse : Sp := fun vs H Q _ => ∃ n : Int, vs = [.int n] ∧ ∀ a H', H a = none → Ex H H' → Pur H' a → Q (.ref a) H'
def spDraw : Sp := fun vs H Q _ => ∃ (a : Addr) (m : Int), vs = [.ref a, .int m] ∧ 0 < m ∧ m ≤ 1000000 ∧ Pur H a ∧ ∀ k H', 0 ≤ k → k < m → Pur H' a → Ex (less a H) H' → Q (.int k) H'
theorem pylong_small {i j : Int} (h : 0 < j) (h2 : j ≤ 1000000) : CDivP i j := by
  refine ⟨h, ?_⟩
  have e : (2 : Nat) ^ 20 = 1048576 := by decide
  have l : j.natAbs.log2 < 20 := (Nat.log2_lt (by omega)).mpr (by omega)
  have n : j ≠ 0 := by omega
  simp [Builtin.divisionGoesByPylong, n]
  intro q
  omega
theorem cut_mem {xs : List V} {lo hi : Option Int} {i : Nat} {x : V} (h : (cutV xs lo hi)[i]? = some x) : x ∈ xs := List.mem_of_mem_drop (List.mem_of_mem_take (List.mem_of_getElem? h))
end SwX
set_option Elab.async false
set_option linter.all false
set_option maxRecDepth 100000
set_option maxHeartbeats 4000000
/-! own exceptions and lists of things, evaluated over heaps that grow -/
namespace SwX
open PySem PySem.Spec PyProof.Rows L2 Evl
/-! ### keywords without defaults -/
theorem kbn_of {K : PySem.W.Frag} {x qual : Str} {params : Arguments} {body : List Stmt} {scope : Scope} {kws : List (Str × V)} {f : Addr} {fd : FuncData} {ps : List Str} (F : FunD K x qual params body scope [] kws f fd) (n : Nat) (ks : List Str) (g : {α : Type} → List α → List α → List α)
    (hrel : ∀ {vs zs : List V} {us ws : List Value}, Vals vs us → Vals zs ws → Vals (g vs zs) (g us ws))
    (h : ∀ (kV doc pm : Value) (an : Option Addr) (cdv ct : Value) (us ws : List Value), us.length = n → ws.length = ks.length → bindArgs (PySem.W.fnOf x qual params body scope .none kV doc pm an cdv ct) ⟨us, ks.zip ws⟩ = pure (ps.zip (g us ws))) : KBn K fd ps n ks (fun us ws => g us ws) (fun vs zs => g vs zs) := by
  obtain ⟨oc, od, dV, kV, doc, pm, an, cdv, ct, osl, rfl, lk, hcd, hD, hK⟩ := F.ex
  rcases hD with ⟨_, rfl⟩ | ⟨e, _⟩
  · exact ⟨fun s us ws _ l1 l2 => .of_eq (h kV doc pm an cdv ct us ws l1 l2), fun r1 r2 => hrel r1 r2⟩
  · exact absurd rfl e
theorem vals_rev : ∀ {vs : List V} {us : List Value}, Vals vs us → Vals vs.reverse us.reverse
  | _, _, .nil => .nil
  | _, _, .cons r t => by
    rw [List.reverse_cons, List.reverse_cons]
    exact (vals_rev t).append (.cons r .nil)
/-! ### things over growing heaps -/
section
variable {K : PySem.W.Frag} {σ : L2.St} {H H' : Hp} {te ta' tb' : TE} {ta : TA} {P P' : V → Hp → Prop} {D : Ends} {tz : TS} {v : V}
theorem Yi.imp (h : Yi te σ H P) (i : ∀ v H', Ex H H' → P v H' → P' v H') : Yi te σ H P' := fun H1 e1 Q q => h H1 e1 Q fun v H2 e2 p => q v H2 e2 (i v H2 (e1.trans e2) p)
theorem yi_ev (h : Ev te σ H v) : Yi te σ H fun x _ => x = v := fun H1 e1 Q q => h H1 e1 Q fun H2 e2 => q v H2 e2 rfl
theorem yi_var {i : Nat} (h : σ[i]? = some (some v)) (m : ∀ H1, Ex H H1 → P v H1) : Yi (tVar i) σ H P := fun H1 e1 Q q => ⟨v, h, q v H1 (Ex.refl H1) (m H1 e1)⟩
theorem q_asgY {i : Nat} (h : Yi te σ H P) (k : ∀ v H1, Ex H H1 → P v H1 → tz D (σ.set i (some v)) H1) : tSeq (tAsg te (gName i)) tz D σ H := h H (Ex.refl H) _ k
theorem s_retY (h : Yi te σ H P) (k : ∀ v H1, Ex H H1 → P v H1 → D.rt v H1) : tRet te D σ H := h H (Ex.refl H) _ k
/-- a list, each of its items as F says of its index's datum -/
def LstOf {α : Type} (F : α → V → Hp → Prop) (is : List α) (x : V) (H : Hp) : Prop := ∃ p vs, x = .ref p ∧ H p = some (.lst vs) ∧ Paired (fun i v => F i v H) is vs
section
variable {α : Type} {F : α → V → Hp → Prop} {is js : List α}
theorem LstOf.mono {x : V} (m : ∀ i v H H', Ex H H' → F i v H → F i v H') (e : Ex H H') (h : LstOf F is x H) : LstOf F is x H' := by
  obtain ⟨p, vs, rfl, hp, q⟩ := h
  exact ⟨p, vs, rfl, e _ _ hp, paired_mono e m q⟩
theorem yi_lst (m : ∀ i v H H', Ex H H' → F i v H → F i v H') (h : Ys ta σ H fun vs H' => Paired (fun i v => F i v H') is vs) (l : is.length ≤ 100000) : Yi (tLst ta) σ H (LstOf F is) := fun H1 e1 Q q =>
  h H1 e1 _ fun vs H2 e2 p => ⟨sz_of (by rw [← paired_len p]; exact l), fun a ha => q (.ref a) _ (e2.trans (Ex.new ha)) ⟨a, vs, rfl, upd_same, paired_mono (Ex.new ha) m p⟩⟩
theorem yi_cat (m : ∀ i v H H', Ex H H' → F i v H → F i v H') (ha : Yi ta' σ H (LstOf F is)) (hb : Yi tb' σ H (LstOf F js)) (l : is.length + js.length ≤ 100000) :
    Yi (tOp (fun x y H Q => rI0 (fun i j => .int (i + j)) x y H Q ∨ rCat x y H Q) ta' tb') σ H (LstOf F (is ++ js)) := fun H1 e1 Q q =>
  ha H1 e1 _ fun x H2 e2 p => hb H2 (e1.trans e2) _ fun y H3 e3 p' => by
    obtain ⟨a, vs, rfl, ha, pa⟩ := p.mono m e3
    obtain ⟨b, ws, rfl, hb, pb⟩ := p'
    refine .inr ⟨a, b, vs, ws, rfl, rfl, ha, hb, sz_of (by rw [← paired_len pa, ← paired_len pb]; exact l), fun c hc => ?_⟩
    exact q _ _ ((e2.trans e3).trans (Ex.new hc)) ⟨c, _, rfl, upd_same, paired_mono (Ex.new hc) m (paired_append pa pb)⟩
end
/-! truths in a list -/
def Tru (b : Bool) (v : V) (_ : Hp) : Prop := v = .bl b
theorem tru_mono (i : Bool) (v : V) (H H' : Hp) (_ : Ex H H') (h : Tru i v H) : Tru i v H' := h
theorem trus : ∀ {bs : List Bool} {vs : List V} {H : Hp}, Paired (fun b v => Tru b v H) bs vs → vs = bs.map V.bl
  | _, _, _, .nil => rfl
  | _, _, _, .cons h t => by rw [trus t, List.map_cons, show _ = V.bl _ from h]
theorem LstOf.trus {bs : List Bool} {x : V} (h : LstOf Tru bs x H) : ∃ p, x = .ref p ∧ H p = some (.lst (bs.map V.bl)) := by
  obtain ⟨p, vs, rfl, hp, q⟩ := h
  rw [SwX.trus q] at hp
  exact ⟨p, rfl, hp⟩
theorem dpAll_bl : ∀ bs : List Bool, DpAll K H (bs.map V.bl) (bs.map PyData.bool)
  | [] => .nil
  | b :: r => .cons (.bl b) (dpAll_bl r)
/-! isinstance -/
theorem ev_isX {a C : Addr} {fs : List (Str × V)} {c : V} {u : Value} {b : Bool} (h : Ev te σ H (.ref a)) (hc : Ev tb' σ H c) (x : ExAt H a C fs) (T : Oex K C) (k : ClsV c u) (e : PySem.W.kitOne K (.ref C) u = some b) : Ev (tCB (rIsX K) (tCons te (tCons tb' tNil))) σ H (.bl b) := fun H1 e1 Q q =>
  h H1 e1 _ fun H2 e2 => hc H2 (e1.trans e2) _ fun H3 e3 => ⟨a, C, fs, c, u, b, rfl, x.mono ((e1.trans e2).trans e3), T, k, e, q H3 (e2.trans e3)⟩
theorem ev_fldX {a C : Addr} {fs : List (Str × V)} {f : Str} {v : V} (h : Ev te σ H (.ref a)) (x : ExAt H a C fs) (T : Oex K C) (n : Free K C f) (l : fs.lookup f = some v) : Ev (tFldX K f te) σ H v := fun H1 e1 Q q =>
  h H1 e1 _ fun H2 e2 => ⟨a, C, fs, v, rfl, x.mono (e1.trans e2), T, n, l, q H2 e2⟩
theorem yi_tru {b : Bool} (h : Ev te σ H (.bl b)) : Yi te σ H (Tru b) := yi_ev h
theorem dp_trus {bs : List Bool} {p : Addr} (h : H p = some (.lst (bs.map V.bl))) : Dp K H (.ref p) (.list (bs.map PyData.bool)) := .lst (sq_of h) (dpAll_bl bs)
/-- two lists of truths -/
theorem rv_neTru {bs cs : List Bool} {p q : Addr} {z : Bool} (hp : H p = some (.lst (bs.map V.bl))) (hq : H q = some (.lst (cs.map V.bl))) (s1 : SeqAt.shaped (.list (bs.map PyData.bool)) = true) (s2 : SeqAt.shaped (.list (cs.map PyData.bool)) = true) (e : PyData.eqv (.list (bs.map PyData.bool)) (.list (cs.map PyData.bool)) = z) :
    RV (fun x y H Q => rNe x y H Q ∨ rNeD K x y H Q) (.ref p) (.ref q) H (.bl (!z)) := fun H1 e1 Q k => .inr ⟨_, _, dp_trus (e1 _ _ hp), dp_trus (e1 _ _ hq), s1, s2, by rw [e]; exact k H1 (Ex.refl H1)⟩
theorem ev_eqTru {bs cs : List Bool} {p : Addr} {z : Bool} (ha : Ev te σ H (.ref p)) (hp : H p = some (.lst (bs.map V.bl))) (hb : Yi tb' σ H (LstOf Tru cs)) (s1 : SeqAt.shaped (.list (bs.map PyData.bool)) = true) (s2 : SeqAt.shaped (.list (cs.map PyData.bool)) = true) (e : PyData.eqv (.list (bs.map PyData.bool)) (.list (cs.map PyData.bool)) = z) :
    Ev (tOp (fun x y H Q => rEq x y H Q ∨ rEqD K x y H Q) te tb') σ H (.bl z) := fun H1 e1 Q k => ha H1 e1 _ fun H2 e2 => hb H2 (e1.trans e2) _ fun y H3 e3 l => by
  obtain ⟨q, rfl, hq⟩ := l.trus
  exact .inr ⟨_, _, dp_trus (((e1.trans e2).trans e3) _ _ hp), dp_trus hq, s1, s2, by rw [e]; exact k H3 (e2.trans e3)⟩
theorem ev_chainI {f g : Int → Int → Bool} {i j l : Int} {tc : TE} (ha : Ev te σ H (.int i)) (hb : Ev ta' σ H (.int j)) (hc : Ev tc σ H (.int l)) : Ev (tChain (rI0 fun a b => .bl (f a b)) (rI0 fun a b => .bl (g a b)) te ta' tc) σ H (.bl (f i j && g j l)) := fun H1 e1 Q k =>
  ha H1 e1 _ fun H2 e2 => hb H2 (e1.trans e2) _ fun H3 e3 => ⟨i, j, rfl, rfl, f i j, rfl, by
    have fin : ∀ H4, Ex H3 H4 → Q (.bl (f i j && g j l)) H4 := fun H4 e4 => k H4 ((e2.trans e3).trans e4)
    cases c : f i j with
    | false =>
      rw [c] at fin
      exact fin H3 (Ex.refl H3)
    | true =>
      rw [c] at fin
      exact hc H3 ((e1.trans e2).trans e3) _ fun H4 e4 => ⟨j, l, rfl, rfl, fin H4 e4⟩⟩
theorem el_ifY {b : Bool} {tt : TT} {xs : List V} (h : EvT tt σ H b) (h1 : b = true → EvL ta' σ H xs) (h2 : b = false → EvL tb' σ H xs) : EvL (tIf tt ta' tb') σ H xs := fun H1 e1 Q k => h H1 e1 _ fun H2 e2 => by
  have k2 : ∀ p H3, H2 p = none → Ex H2 H3 → H3 p = some (.lst xs) → Q (.ref p) H3 := fun p H3 n e3 h3 => k p H3 (fresh_back e2 n) (e2.trans e3) h3
  cases b with
  | true =>
    show ta' σ H2 Q
    exact h1 rfl H2 (e1.trans e2) Q k2
  | false =>
    show tb' σ H2 Q
    exact h2 rfl H2 (e1.trans e2) Q k2
/-! making one -/
def spIni1 (C : Addr) (f : Str) : Sp := fun vs H Q _ => ∃ a v, vs = [.ref a, v] ∧ H a = some (exo a C none) ∧ ∀ d, H d = none → d ≠ a → Q .non (upd (upd H d (exd d [(f, v)])) a (exo a C (some d)))
def spIni2 (C : Addr) (f g : Str) : Sp := fun vs H Q _ => ∃ a v u, vs = [.ref a, v, u] ∧ H a = some (exo a C none) ∧ ∀ d, H d = none → d ≠ a → ∀ H', H' = upd (upd (upd H d (exd d [(f, v)])) a (exo a C (some d))) d (exd d [(g, u), (f, v)]) → Q .non H'
theorem exAt_new {a C d : Addr} {H : Hp} {fs : List (Str × V)} (h : H a = none) (hd : upd H a (exo a C none) d = none) : Ex H (upd (upd (upd H a (exo a C none)) d (exd d fs)) a (exo a C (some d))) ∧ ExAt (upd (upd (upd H a (exo a C none)) d (exd d fs)) a (exo a C (some d))) a C fs := by
  have ne : d ≠ a := fun z => by rw [z, upd_same] at hd; cases hd
  have hd' : H d = none := by rwa [upd_ne ne] at hd
  exact ⟨((Ex.refl H).mut h).mut hd' |>.mut h, .inr ⟨d, upd_same, by rw [upd_ne ne, upd_same]⟩⟩
section
variable {C : Addr} {E : XK} {f g : Str} {tv tu : TE} {u : V} {gV : List V → List V → List V}
theorem yi_new1 (h : Ev tv σ H v) (hg : ∀ x, gV [x, v] [] = [x, v] := by intros; rfl) : Yi (tNewX C 1 0 (spIni1 C f) gV E (tCons tv tNil) tNil) σ H fun x H' => ∃ a, x = .ref a ∧ ExAt H' a C [(f, v)] := fun H1 e1 Q q =>
  h H1 e1 _ fun H2 e2 => ⟨⟨rfl, rfl, by decide⟩, fun a ha => ⟨a, v, hg _, upd_same, fun d hd ne => ⟨rfl, q _ _ (e2.trans (exAt_new ha hd).1) ⟨a, rfl, (exAt_new ha hd).2⟩⟩⟩⟩
theorem yi_newK1 (h : Ev tv σ H v) (hg : ∀ x, gV [x] [v] = [x, v] := by intros; rfl) : Yi (tNewX C 0 1 (spIni1 C f) gV E tNil (tCons tv tNil)) σ H fun x H' => ∃ a, x = .ref a ∧ ExAt H' a C [(f, v)] := fun H1 e1 Q q =>
  h H1 e1 _ fun H2 e2 => ⟨⟨rfl, rfl, by decide⟩, fun a ha => ⟨a, v, hg _, upd_same, fun d hd ne => ⟨rfl, q _ _ (e2.trans (exAt_new ha hd).1) ⟨a, rfl, (exAt_new ha hd).2⟩⟩⟩⟩
theorem exAt_new2 {a d : Addr} {H : Hp} (h : H a = none) (hd : upd H a (exo a C none) d = none) :
    Ex H (upd (upd (upd (upd H a (exo a C none)) d (exd d [(f, v)])) a (exo a C (some d))) d (exd d [(g, u), (f, v)])) ∧ ExAt (upd (upd (upd (upd H a (exo a C none)) d (exd d [(f, v)])) a (exo a C (some d))) d (exd d [(g, u), (f, v)])) a C [(g, u), (f, v)] := by
  have ne : d ≠ a := fun z => by rw [z, upd_same] at hd; cases hd
  have hd' : H d = none := by rwa [upd_ne ne] at hd
  exact ⟨(exAt_new h hd).1.mut hd', .inr ⟨d, by rw [upd_ne (Ne.symm ne), upd_same], upd_same⟩⟩
theorem yi_new2 (h : Ev tv σ H v) (hu : Ev tu σ H u) (hg : ∀ x, gV [x, v, u] [] = [x, v, u] := by intros; rfl) : Yi (tNewX C 2 0 (spIni2 C f g) gV E (tCons tv (tCons tu tNil)) tNil) σ H fun x H' => ∃ a, x = .ref a ∧ ExAt H' a C [(g, u), (f, v)] := fun H1 e1 Q q =>
  h H1 e1 _ fun H2 e2 => hu H2 (e1.trans e2) _ fun H3 e3 => ⟨⟨rfl, rfl, by decide⟩, fun a ha => ⟨a, v, u, hg _, upd_same, fun d hd ne H' e => by
    subst e
    exact ⟨rfl, q _ _ ((e2.trans e3).trans (exAt_new2 ha hd).1) ⟨a, rfl, (exAt_new2 ha hd).2⟩⟩⟩⟩
theorem yi_newK2 (h : Ev tv σ H v) (hu : Ev tu σ H u) (hg : ∀ x, gV [x] [u, v] = [x, v, u] := by intros; rfl) : Yi (tNewX C 0 2 (spIni2 C f g) gV E tNil (tCons tu (tCons tv tNil))) σ H fun x H' => ∃ a, x = .ref a ∧ ExAt H' a C [(g, u), (f, v)] := fun H1 e1 Q q =>
  hu H1 e1 _ fun H2 e2 => h H2 (e1.trans e2) _ fun H3 e3 => ⟨⟨rfl, rfl, by decide⟩, fun a ha => ⟨a, v, u, hg _, upd_same, fun d hd ne H' e => by
    subst e
    exact ⟨rfl, q _ _ ((e2.trans e3).trans (exAt_new2 ha hd).1) ⟨a, rfl, (exAt_new2 ha hd).2⟩⟩⟩⟩
theorem yi_new0 : Yi (fun _ H Q => ∀ a, H a = none → Q (.ref a) (upd H a (exo a C none))) σ H fun x H' => ∃ a, x = .ref a ∧ ExAt H' a C [] := fun H1 e1 Q q a ha => q _ _ (Ex.new ha) ⟨a, rfl, .inl ⟨upd_same, rfl⟩⟩
/-- the bodies of the two inits -/
theorem body_ini1 {D : Ends} {a C : Addr} {f : Str} {v : V} {H : Hp} {σ : L2.St} (T : Oex K C) (n : Free K C f) (h0 : σ[0]? = some (some (.ref a))) (h1 : σ[1]? = some (some v)) (h : H a = some (exo a C none)) (k : ∀ d, H d = none → d ≠ a → D.nx σ (upd (upd H d (exd d [(f, v)])) a (exo a C (some d)))) :
    tSetX K f (tVar 0) (tVar 1) D σ H := ⟨v, h1, .ref a, h0, a, C, rfl, T, n, .inl ⟨h, k⟩⟩
end
end
/-! ### names of the module, of the builtins -/
theorem pe_own {X : Cx} {x : Str} {C : Addr} {pos : Pos} (hm : X.mg x = some (.ref C)) (hg : Gl X x := by rfl) (hd : (x == ("__debug__" : Str)) = false := by decide) : PE X (.Name x pos) (tC (.ref C)) := pe_glob hg hm rfl hd
theorem pe_gint {X : Cx} {x : Str} {i : Int} {pos : Pos} (hm : ∃ t, X.mg x = some (.int i t)) (hg : Gl X x := by rfl) (hd : (x == ("__debug__" : Str)) = false := by decide) : PE X (.Name x pos) (tC (.int i)) := by
  obtain ⟨t, h⟩ := hm
  exact pe_glob hg h ⟨t, rfl⟩ hd
theorem pe_bty {X : Cx} {x : Str} {n : String} {pos : Pos} (hm : X.mg x = none) (hv : bootBuiltins x = some (.type n) := by decide +kernel) (hg : Gl X x := by rfl) (hn : x ≠ "__name__" := by decide) (hd : (x == ("__debug__" : Str)) = false := by decide) : PE X (.Name x pos) (tC (.ty n)) := pe_bltn hg hm hv rfl hn hd
/-! ### the rules of a list's count and index -/
section
variable {X : Cx} {k : Nat} {o e : Expr} {to te : TE} {apos cpos : Pos}
theorem rc_count {K : PySem.W.Frag} {σ : L2.St} {H : Hp} {p : Addr} {bs : List Bool} {b : Bool} {to te : TE} (ho : Ev to σ H (.ref p)) (hs : SqL K H p (bs.map V.bl)) (he : Ev te σ H (.bl b)) : Ev (tBM K "list" (rCountB K) to (tCons te tNil)) σ H (.int (bs.count b : Nat)) := fun H1 e1 Q q =>
  ho H1 e1 _ fun H2 e2 => ⟨.inl ⟨rfl, _, ex_l (e1.trans e2) hs⟩, he H2 (e1.trans e2) _ fun H3 e3 => ⟨p, bs, b, rfl, rfl, ex_l ((e1.trans e2).trans e3) hs, q H3 (e2.trans e3)⟩⟩
theorem rc_index {K : PySem.W.Frag} {σ : L2.St} {H : Hp} {p : Addr} {bs : List Bool} {j : Nat} {to te : TE} (ho : Ev to σ H (.ref p)) (hs : SqL K H p (bs.map V.bl)) (he : Ev te σ H (.bl true)) (h1 : bs[j]? = some true) (h2 : ∀ m, m < j → bs[m]? = some false) :
    Ev (tBM K "list" (rIndex K) to (tCons te tNil)) σ H (.int (j : Nat)) := fun H1 e1 Q q =>
  ho H1 e1 _ fun H2 e2 => ⟨.inl ⟨rfl, _, ex_l (e1.trans e2) hs⟩, he H2 (e1.trans e2) _ fun H3 e3 => ⟨p, bs.map V.bl, .bl true, j, .bl true, rfl, rfl, ex_l ((e1.trans e2).trans e3) hs, rfl, by
    rw [List.all_eq_true]
    intro x hx
    obtain ⟨c, _, rfl⟩ := List.mem_map.mp hx
    rfl, by rw [List.getElem?_map, h1]; rfl, rfl, fun m z hm hz => by
    rw [List.getElem?_map, h2 m hm] at hz
    cases hz
    rfl, q H3 (e2.trans e3)⟩⟩
end
end SwX
set_option Elab.async false
set_option linter.all false
set_option maxRecDepth 100000
set_option maxHeartbeats 4000000
/-! draws in readings; data beside the purse; repr of lists that are data -/
namespace SwX
open PySem PySem.Spec PyProof.Rows L2 Evl
/-! ### what repr can show shortly -/
structure Good (d : PyData) (n w : Nat) : Prop where
  sh : d.showable = true
  dp : d.depth ≤ n
  lv : d.leavesShort 100 = true
  wt : d.weight ≤ w
theorem Good.len {d : PyData} {n w : Nat} (h : Good d n w) (hw : w ≤ 100000) : d.shown.length ≤ sizeLine := by
  have z := PyData.shown_le 100 (by decide) d h.lv
  have y := h.wt
  exact Nat.le_trans z (Nat.le_trans (show (100 + 2) * d.weight + 100 ≤ 11000000 by omega) (by decide))
theorem good_int {i : Int} (h : i.natAbs < 10 ^ 41) : Good (.int i) 0 137 := by
  have big : (10 : Nat) ^ 41 < 2 ^ 137 := by decide
  refine ⟨?_, Nat.le_refl _, ?_, ?_⟩
  · show decide (i.natAbs.log2 < 1920) = true
    have p : (2 : Nat) ^ 137 ≤ 2 ^ 1920 := Nat.pow_le_pow_right (by decide) (by decide)
    have l : i.natAbs.log2 < 1920 := by
      by_cases z : i.natAbs = 0
      · rw [z]
        decide
      · exact (Nat.log2_lt z).mpr (by omega)
    exact decide_eq_true l
  · show decide ((PyData.shown (.int i)).length ≤ 100) = true
    rw [PyData.shown_int]
    have l := int_text_length_le10 (a := i) (k := 41) (by decide) h
    refine decide_eq_true ?_
    rw [PySem.ofString_length]
    omega
  · show (if (i == 0) = true then 0 else i.natAbs.log2 + 1) ≤ 137
    split
    · omega
    · rename_i c
      have z : i.natAbs ≠ 0 := by simpa using c
      have l := (Nat.log2_lt z).mpr (show i.natAbs < 2 ^ 137 by omega)
      omega
/-! ### repr of a new list that is data -/
section
variable {K : PySem.W.Frag} {σ : L2.St} {H : Hp} {te : TE} {v : V}
theorem da_list {xs : List V} {ds : List PyData} {p : Addr} (h : H p = some (.lst xs)) (q : Paired (fun d v => Da K H v d) ds xs) : Da K H (.ref p) (.list ds) :=
  .lst h (paired_len q).symm fun i x d e1 e2 => by
    obtain ⟨y, e3, r⟩ := paired_get q e2
    rw [e1] at e3
    cases e3
    exact r
theorem da_tuple {xs : List V} {ds : List PyData} {p : Addr} (h : SqT K H p xs) (q : Paired (fun d v => Da K H v d) ds xs) : Da K H (.ref p) (.tuple ds) :=
  .tup h (paired_len q).symm fun i x d e1 e2 => by
    obtain ⟨y, e3, r⟩ := paired_get q e2
    rw [e1] at e3
    cases e3
    exact r
theorem ev_reprL {xs : List V} {ds : List PyData} {n w : Nat} (h : EvL te σ H xs) (da : ∀ H1, Ex H H1 → Paired (fun d v => Da K H1 v d) ds xs) (g : Good (.list ds) n w) (hn : n ≤ 150) (hw : w ≤ 100000) : Ev (tCB (rRepr K) (tCons te tNil)) σ H (.str (PyData.shown (.list ds))) := fun H1 e1 Q q =>
  h H1 e1 _ fun p H2 _ e2 h2 => ⟨p, .list ds, rfl, da_list h2 (da H2 (e1.trans e2)), g.sh, Nat.le_trans g.dp hn, g.len hw, q H2 e2⟩
theorem ev_reprV {p : Addr} {xs : List V} {ds : List PyData} {n w : Nat} (h : Ev te σ H (.ref p)) (hp : H p = some (.lst xs)) (da : ∀ H1, Ex H H1 → Paired (fun d v => Da K H1 v d) ds xs) (g : Good (.list ds) n w) (hn : n ≤ 150) (hw : w ≤ 100000) : Ev (tCB (rRepr K) (tCons te tNil)) σ H (.str (PyData.shown (.list ds))) := fun H1 e1 Q q =>
  h H1 e1 _ fun H2 e2 => ⟨p, .list ds, rfl, da_list (e2 _ _ (e1 _ _ hp)) (da H2 (e1.trans e2)), g.sh, Nat.le_trans g.dp hn, g.len hw, q H2 e2⟩
end
/-! ### draws: te gives a value of which P holds, the purse at a is kept, all else grows -/
def Dr (a : Addr) (te : TE) (σ : L2.St) (G : Hp) (P : V → Prop) : Prop := ∀ H1, Ex G H1 → Pur H1 a → ∀ Q : VK, (∀ v H2, P v → Ex G H2 → Pur H2 a → Q v H2) → te σ H1 Q
section
variable {K : PySem.W.Frag} {σ : L2.St} {G H : Hp} {a : Addr} {te ta tb : TE} {v : V} {P P1 P2 : V → Prop} {D : Ends} {tz : TS}
theorem dr_ev (h : Ev te σ G v) (hp : P v) : Dr a te σ G P := fun H1 e p Q q => h H1 e Q fun H2 e2 => q v H2 hp (e.trans e2) (p.keep e2)
theorem dr_op {r : R2} (ha : Dr a ta σ G P1) (hb : Dr a tb σ G P2) (hr : ∀ x y, P1 x → P2 y → ∃ z, P z ∧ ∀ H, RV r x y H z) : Dr a (tOp r ta tb) σ G P := fun H1 e p Q q =>
  ha H1 e p _ fun x H2 px e2 p2 => hb H2 e2 p2 _ fun y H3 py e3 p3 => by
    obtain ⟨z, pz, rv⟩ := hr x y px py
    exact rv H3 H3 (Ex.refl _) Q fun H4 e4 => q z H4 pz (e3.trans e4) (p3.keep e4)
theorem dr_draw {m : Int} {E : XK} {tm : TE} (n : G a = none) (h : σ[0]? = some (some (.ref a))) (hm : Ev tm σ G (.int m)) (m0 : 0 < m) (m1 : m ≤ 1000000) : Dr a (tCall spDraw [] E (tCons (tVar 0) (tCons tm tNil))) σ G fun v => ∃ k, v = .int k ∧ 0 ≤ k ∧ k < m := fun H1 e p Q q =>
  ⟨.ref a, h, hm H1 e _ fun H2 e2 => ⟨a, m, rfl, m0, m1, p.keep e2, fun k H3 k0 k1 p3 e3 => q _ H3 ⟨k, rfl, k0, k1⟩ ((ex_less n (e.trans e2)).trans e3) p3⟩⟩
theorem atI_nat {xs : List V} {k : Int} (h0 : 0 ≤ k) (h1 : k < xs.length) : ∃ v, atI xs k = some v ∧ xs[k.toNat]? = some v := by
  obtain ⟨j, rfl⟩ := Int.eq_ofNat_of_zero_le h0
  have hj : j < xs.length := by omega
  refine ⟨xs[j], ?_, by simp [hj]⟩
  unfold atI
  rw [ixN_nat hj]
  simp
/-- a new list's item by a draw -/
theorem dr_pick {xs : List V} (n : G a = none) (ha : EvL ta σ G xs) (hb : ∀ G', G' a = none → Ex G G' → Dr a tb σ G' fun v => ∃ k, v = .int k ∧ 0 ≤ k ∧ k < xs.length) : Dr a (tOp (fun x y H Q => rIxL K x y H Q ∨ rIxT K x y H Q) ta tb) σ G fun v => v ∈ xs := fun H1 e p Q q =>
  ha H1 e _ fun l H2 hl e2 h2 => by
    obtain ⟨x, y, z, hp, _⟩ := p
    have ne : l ≠ a := fun w => by rw [w, hp] at hl; cases hl
    refine hb (less a H2) less_at (ex_less n (e.trans e2)) H2 less_ex (Pur.keep ⟨x, y, z, hp, by assumption⟩ e2) _ fun k H3 pk e3 p3 => ?_
    obtain ⟨k, rfl, k0, k1⟩ := pk
    obtain ⟨v, hv, hv2⟩ := atI_nat k0 k1
    refine .inl ⟨l, xs, k, v, rfl, rfl, sq_of (e3 _ _ (by rw [less_ne ne]; exact h2)), hv, q v H3 (List.mem_of_getElem? hv2) ((ex_less n (e.trans e2)).trans e3) p3⟩
theorem q_asgDr {i : Nat} (h : Dr a te σ G P) (e : Ex G H) (p : Pur H a) (k : ∀ v H1, P v → Ex G H1 → Pur H1 a → tz D (σ.set i (some v)) H1) : tSeq (tAsg te (gName i)) tz D σ H := h H e p _ k
theorem s_retDr (h : Dr a te σ G P) (e : Ex G H) (p : Pur H a) (k : ∀ v H1, P v → Ex G H1 → Pur H1 a → D.rt v H1) : tRet te D σ H := h H e p _ k
end
/-! ### data beside the purse -/
def DaA (K : PySem.W.Frag) (a : Addr) (d : PyData) (v : V) (H : Hp) : Prop := Da K (less a H) v d
theorem less_mono {a : Addr} {H H' : Hp} (e : Ex H H') : Ex (less a H) (less a H') := ex_less less_at (less_ex.trans e)
theorem daA_mono {K : PySem.W.Frag} {a : Addr} (d : PyData) (v : V) (H H' : Hp) (e : Ex H H') (h : DaA K a d v H) : DaA K a d v H' := Da.mono (less_mono e) h
section
variable {K : PySem.W.Frag} {σ : L2.St} {H : Hp} {a : Addr} {te : TE} {ta : TA} {ds : List PyData} {o : HO}
theorem yi_dat {v : V} {d : PyData} (h : Ev te σ H v) (q : ∀ G, Da K G v d) : Yi te σ H (DaA K a d) := (yi_ev h).imp fun x H' _ e => by
  subst e
  exact q _
theorem yi_dtup (at_ : H a = some o) (h : Ys ta σ H fun vs H' => Paired (fun d v => DaA K a d v H') ds vs) (l : ds.length ≤ 100000) : Yi (tTup ta) σ H (DaA K a (.tuple ds)) := fun H1 e1 Q q =>
  h H1 e1 _ fun vs H2 e2 p => ⟨sz_of (by rw [← paired_len p]; exact l), fun c hc => by
    have ne : c ≠ a := fun z => by rw [z, (e1.trans e2) _ _ at_] at hc; cases hc
    have p' : Paired (fun d v => DaA K a d v (upd H2 c (.tup vs))) ds vs := paired_mono (Ex.new hc) daA_mono p
    exact q (.ref c) _ (e2.trans (Ex.new hc)) (da_tuple (.inl (.inl (by rw [less_ne ne, upd_same]))) p')⟩
theorem yi_dlst (at_ : H a = some o) (h : Ys ta σ H fun vs H' => Paired (fun d v => DaA K a d v H') ds vs) (l : ds.length ≤ 100000) : Yi (tLst ta) σ H (DaA K a (.list ds)) := fun H1 e1 Q q =>
  h H1 e1 _ fun vs H2 e2 p => ⟨sz_of (by rw [← paired_len p]; exact l), fun c hc => by
    have ne : c ≠ a := fun z => by rw [z, (e1.trans e2) _ _ at_] at hc; cases hc
    have p' : Paired (fun d v => DaA K a d v (upd H2 c (.lst vs))) ds vs := paired_mono (Ex.new hc) daA_mono p
    exact q (.ref c) _ (e2.trans (Ex.new hc)) (da_list (by rw [less_ne ne, upd_same]) p')⟩
theorem yi_ddic0 (at_ : H a = some o) : Yi tDNewK σ H (DaA K a (.dict [])) := fun H1 e1 Q q c hc => by
  have ne : c ≠ a := fun z => by rw [z, e1 _ _ at_] at hc; cases hc
  exact q (.ref c) _ (Ex.new hc) (.dic (kvs := []) (ds := []) (by rw [less_ne ne, upd_same]) rfl (fun i kv d e => by simp at e))
theorem yi_ddic1 {x : Str} {v : V} {d : PyData} {tk tv : TE} (at_ : H a = some o) (hk : Ev tk σ H (.str x)) (hv : Ev tv σ H v) (q : ∀ G, Da K G v d) : Yi (tDisp [(tk, tv)]) σ H (DaA K a (.dict [(.str x, d)])) := fun H1 e1 Q k c hc => by
  have ne : c ≠ a := fun z => by rw [z, e1 _ _ at_] at hc; cases hc
  refine hk _ (e1.trans (Ex.new hc)) _ fun H2 e2 => hv H2 ((e1.trans (Ex.new hc)).trans e2) _ fun H3 e3 => ⟨e3 _ _ (e2 _ _ upd_same), [(.inr x, v)], rfl, by simp, ?_⟩
  refine k (.ref c) _ ((show Ex H1 H3 from ((Ex.new hc).trans e2).trans e3).mut hc) (.dic (kvs := [(.inr x, v)]) (ds := [d]) (by rw [less_ne ne, upd_same]; rfl) rfl fun i kv d' h1 h2 => ?_)
  · cases i with
    | zero =>
      cases h1
      cases h2
      exact q _
    | succ i => simp at h1
end
theorem q_par {i j : Nat} {ta : TA} {u : TS} {D : Ends} {σ : L2.St} {H : Hp} (h : ta σ H fun vs H1 => ∃ v w, vs = [v, w] ∧ u D ((σ.set i (some v)).set j (some w)) H1) : tSeq (tPar i j ta) u D σ H := h
/-! ### a loop over a new list of such things -/
section
variable {α : Type} {F : α → V → Hp → Prop} {is : List α} {K : PySem.W.Frag} {σ : L2.St} {H : Hp} {tl : TE} {g : TG} {tu tz : TS} {D : Ends}
theorem q_forY (m : ∀ i v H H', Ex H H' → F i v H → F i v H') (h : Yi tl σ H (LstOf F is)) (Pv : Nat → L2.St → Prop) (h0 : Pv 0 σ)
    (hs : ∀ i d x H1 σ' H', is[i]? = some d → Ex H H1 → Ex H1 H' → F d x H' → Pv i σ' → g x σ' H' fun σ2 H2 => tu { D with nx := fun σ3 H3 => Pv (i + 1) σ3 ∧ Ex H1 H3, ct := fun σ3 H3 => Pv (i + 1) σ3 ∧ Ex H1 H3, bk := tz D } σ2 H2)
    (hd : ∀ σ' H', Ex H H' → Pv is.length σ' → tz D σ' H') : tSeq (tFor (iList K tl) g tu) tz D σ H := h H (Ex.refl H) _ fun x H1 e1 l => by
  obtain ⟨p, vs, rfl, hp, q⟩ := l
  refine ⟨p, rfl, ⟨vs, sq_of hp⟩, for_list (fun i σ' H' => Pv i σ' ∧ Ex H1 H') ⟨h0, Ex.refl H1⟩ (fun i σ' H' _ z => sq_of (z.2 _ _ hp)) (fun i x σ' H' hx z => ?_) fun σ' H' z => ?_⟩
  · have lt : i < is.length := by
      have := (List.getElem?_eq_some_iff.mp hx).1
      rw [← paired_len q] at this
      exact this
    have e2 : is[i]? = some is[i] := by simp [lt]
    obtain ⟨y, e3, f⟩ := paired_get q e2
    rw [hx] at e3
    cases e3
    exact hs i _ x H1 σ' H' e2 e1 z.2 (m _ _ _ _ z.2 f) z.1
  · rw [← paired_len q] at z
    exact hd σ' H' (e1.trans z.2) z.1
end
theorem kbn_pos {K : PySem.W.Frag} {fd : FuncData} {ps : List Str} {n : Nat} (h : KBn K fd ps n [] (fun us ws => us ++ ws.reverse) (fun vs zs => vs ++ zs.reverse)) : KBn K fd ps n [] (fun us _ => us) (fun vs _ => vs) :=
  ⟨fun s us ws X l1 l2 => (by
    cases ws with
    | nil =>
      have z := h.to s us [] X l1 rfl
      rw [List.reverse_nil, List.append_nil] at z
      exact z
    | cons _ _ => cases l2), fun {vs us zs ws} r1 _ => r1⟩
section
variable {K : PySem.W.Frag} {σ : L2.St} {H : Hp} {te ta tb : TE} {D : Ends}
theorem body_ini2 {a C : Addr} {f g : Str} {v u : V} (T : Oex K C) (n : Free K C f) (n2 : Free K C g) (h0 : σ[0]? = some (some (.ref a))) (h1 : σ[1]? = some (some v)) (h2 : σ[2]? = some (some u)) (h : H a = some (exo a C none))
    (k : ∀ d, H d = none → d ≠ a → ∀ H', H' = upd (upd (upd H d (exd d [(f, v)])) a (exo a C (some d))) d (exd d [(g, u), (f, v)]) → D.nx σ H') : tSeq (tSetX K f (tVar 0) (tVar 1)) (tSetX K g (tVar 0) (tVar 2)) D σ H :=
  ⟨v, h1, .ref a, h0, a, C, rfl, T, n, .inl ⟨h, fun d hd ne => ⟨u, h2, .ref a, h0, a, C, rfl, T, n2, .inr ⟨d, [(f, v)], upd_same, by rw [upd_ne ne, upd_same], by simp, k d hd ne _ rfl⟩⟩⟩⟩
theorem el_cat {l : Addr} {xs ys : List V} (ha : Ev ta σ H (.ref l)) (hl : H l = some (.lst xs)) (hb : EvL tb σ H ys) (z : xs.length + ys.length ≤ 100000) : EvL (tOp (fun x y H Q => rI0 (fun i j => .int (i + j)) x y H Q ∨ rCat x y H Q) ta tb) σ H (xs ++ ys) := fun H1 e1 Q q =>
  ha H1 e1 _ fun H2 e2 => hb H2 (e1.trans e2) _ fun p H3 _ e3 h3 => .inr ⟨l, p, xs, ys, rfl, rfl, e3 _ _ (e2 _ _ (e1 _ _ hl)), h3, sz_of z, fun c hc => q c _ (fresh_back (e2.trans e3) hc) ((e2.trans e3).trans (Ex.new hc)) upd_same⟩
theorem el_is {xs ys : List V} (h : EvL te σ H xs) (e : xs = ys) : EvL te σ H ys := e ▸ h
theorem ev_allT {bs : List Bool} (h : EvL te σ H (bs.map V.bl)) : Ev (tCB (rAll K) (tCons te tNil)) σ H (.bl (bs.all id)) := fun H1 e1 Q q => h H1 e1 _ fun p H2 _ e2 h2 => ⟨p, bs, rfl, sq_of h2, q H2 e2⟩
def rMin2 : List V → Hp → VK → Prop := fun xs H Q => ∃ i j, xs = [.int i, .int j] ∧ Q (.int (if j < i then j else i)) H
theorem ev_min2 {i j : Int} (ha : Ev ta σ H (.int i)) (hb : Ev tb σ H (.int j)) : Ev (tCB rMin2 (tCons ta (tCons tb tNil))) σ H (.int (if j < i then j else i)) := fun H1 e Q q =>
  ha H1 e _ fun H2 e2 => hb H2 (e.trans e2) _ fun H3 e3 => ⟨i, j, rfl, q H3 (e2.trans e3)⟩
end
end SwX
set_option Elab.async false
set_option linter.all false
set_option maxRecDepth 100000
set_option maxHeartbeats 4000000
namespace K01
open PySem PySem.Spec PyProof.Rows L2 Evl SwX
abbrev prog : Program := PySem.Challenge.pw_sealedweights_k01_limits_and_errors
def top (i : Nat) : Stmt := prog.main.body.getD i (.Pass ⟨0, 0, 0, 0⟩)
abbrev FnP (K : PySem.W.Frag) (x : Str) (st : Stmt) (f : Addr) (fd : FuncData) : Prop := FunD K x x (defArgs st) (defBody st) (defScope st) [] [] f fd
section
variable {P : Program} {w : World} {K : PySem.W.Frag} {mg : Str → Option Value} {base : Heap} {f : Addr} {fd : FuncData}
abbrev s__law_seed : Stmt := top 31
abbrev sc__law_seed_N : List Str := ["_law_script", "_law_k", "_law_seed_here", "_law_cell"]
theorem sc__law_seed : FnScope sc__law_seed_N ["_law_script", "_law_k"] (defScope s__law_seed) := ⟨rfl, rfl, rfl, by decide +kernel, rfl, by decide +kernel, by decide +kernel⟩
theorem ok_seed (F : FnP K "_law_seed" s__law_seed f fd) (m_len : mg "len" = none) (m_int : mg "int" = none) : FnOk P w K mg base CX0 1 f fd ["_law_script", "_law_k"] (spSeed K) := by
  refine F.ok sc__law_seed (fun vs H Q E h => by obtain ⟨a, ns, k, rfl, _⟩ := h; rfl) (fun cdv A outer s H vs Q E hr h => ⟨_, PSs.nox
    (pss_cons (ps_if (pt_cmpR op_lt (pv 1) (pe_callB call_len_seq (by rfl) m_len (by decide +kernel) (pa_cons (pv 0) pa_nil)) (nomark _)) (pss_one (ps_ret (pe_ix ix_A (pv 0) (pv 1) (fun _ _ => rfl)))) pss_nil) (pss_cons (ps_set (i := 2) sc__law_seed.nd rfl (Or.inl rfl) (pe_op op_addA (pe_op op_mul (pe_op op_mul pe_int (pe_op op_addA (pv 1) pe_int)) (pe_op op_addA (pv 1) pe_int)) pe_int)) (pss_cons (ps_for PassesOwn.never rfl (pi_list (pe_slice sl_list (pv 0) po_none (po_some pe_int))) (pg_name (i := 3) sc__law_seed.nd rfl (Or.inl rfl)) (pss_one (ps_set (i := 2) sc__law_seed.nd rfl (Or.inl rfl) (pe_op op_modN (pe_callTy call_int1 (by rfl) m_int (by decide +kernel) (pa_cons (pe_op op_addA (pe_op op_mul (pv 2) pe_int) (pv 3)) pa_nil)) pe_int)))) (pss_one (ps_ret (pv 2)))))), ?_⟩)
  obtain ⟨a, ns, k, rfl, hS, k0, k1, q⟩ := h
  refine q_when (b := decide (k < (ns.map V.int).length)) (et_B (ev_op (ev_var rfl) (ev_len (ev_var rfl) hS) rv_I0)) (fun c H1 e1 => ?_) fun _ H1 e1 => ?_
  · have c := of_decide_eq_true c
    rw [List.length_map] at c
    have hj : k.toNat < ns.length := by omega
    have g : atI (ns.map V.int) k = some (.int (ns[k.toNat]'hj)) := by
      obtain ⟨j, rfl⟩ := Int.eq_ofNat_of_zero_le k0
      unfold atI
      rw [ixN_nat (by rw [List.length_map]; omega)]
      simp
    exact s_ret (ev_op (ev_var rfl) (ev_var rfl) (rv_at (ex_l e1 hS) g)) fun H2 e2 => q _ _ (e1.trans e2)
  · refine q_asg (i := 2) (v := .int (40093 * (k + 3) * (k + 7) + 271)) (ev_op (ev_op (ev_op ev_c (ev_op (ev_var rfl) ev_c rv_add) (rv_I (Or.inl (by omega)))) (ev_op (ev_var rfl) ev_c rv_add) (rv_I (Or.inr (by omega)))) ev_c rv_add) fun H2 e2 => ?_
    refine q_forNL (xs := cutV (ns.map V.int) none (some 4)) (el_sl (ev_var rfl) eo_none (eo_some ev_c) (ex_l (e1.trans e2) hS)) (fun p i σ' H' => (∃ v0 v1 n v3, σ' = [v0, v1, some (.int n), v3]) ∧ Ex H H' ∧ H' p = some (.lst (cutV (ns.map V.int) none (some 4)))) (fun p H3 hp e3 h3 => ⟨⟨_, _, _, _, rfl⟩, (e1.trans e2).trans e3, h3⟩) (fun p i σ' H' _ z => sq_of z.2.2) (fun p i x σ' H' hx z => ?_) fun p σ' H' z => ?_
    · obtain ⟨⟨v0, v1, n, v3, rfl⟩, e, hp⟩ := z
      obtain ⟨m, _, rfl⟩ := List.mem_map.mp (cut_mem hx)
      exact s_asg (i := 2) (v := .int (((n * 50021 + m)).fmod 2147483629)) (ev_op (ev_int1 (ev_op (ev_op (ev_var rfl) ev_c (rv_I (Or.inr (by omega)))) (ev_var rfl) rv_add)) ev_c (rv_I (by omega))) fun H4 e4 => ⟨⟨_, _, _, _, rfl⟩, e.trans e4, e4 _ _ hp⟩
    · obtain ⟨⟨v0, v1, n, v3, rfl⟩, e, _⟩ := z
      exact s_ret (ev_var rfl) fun H2 e2 => q _ _ (e.trans e2)
abbrev s__law_purse : Stmt := top 32
abbrev sc__law_purse_N : List Str := ["_law_number"]
theorem sc__law_purse : FnScope sc__law_purse_N ["_law_number"] (defScope s__law_purse) := ⟨rfl, rfl, rfl, by decide +kernel, rfl, by decide +kernel, by decide +kernel⟩
theorem ok_purse (F : FnP K "_law_purse" s__law_purse f fd) (m_int : mg "int" = none) : FnOk P w K mg base CX0 1 f fd ["_law_number"] spPurse := by
  refine F.ok sc__law_purse (fun vs H Q E h => by obtain ⟨n, rfl, _⟩ := h; rfl) (fun cdv A outer s H vs Q E hr h => ⟨_, PSs.nox
    (pss_one (ps_ret (pe_lst (pa_cons (pe_op op_modN (pe_callTy call_int1 (by rfl) m_int (by decide +kernel) (pa_cons (pv 0) pa_nil)) pe_int) (pa_cons (pe_ifExp (pt_cmpR op_ge (pv 0) (pe_op op_pow pe_int pe_int) (nomark _)) (pv 0) pe_int) (pa_cons pe_int pa_nil)))))), ?_⟩)
  obtain ⟨n, rfl, q⟩ := h
  have big : (10 : Int) ^ (18 : Int).toNat = 1000000000000000000 := by decide
  refine s_retL (xs := [.int (n.fmod 2147483629), .int (if 10 ^ (18 : Int).toNat ≤ n then n else 0), .int 0]) (el_lst (ea_cons (ev_op (ev_int1 (ev_var rfl)) ev_c (rv_I (by omega))) (ea_cons (ev_if (b := decide (10 ^ (18 : Int).toNat ≤ n)) (et_B (ev_op (ev_var rfl) (ev_op ev_c ev_c (rv_I (by unfold CPow; omega))) rv_I0)) (fun c => ?_) fun c => ?_) (ea_cons ev_c ea_nil))) (by simp)) fun a H1 n1 e1 h1 => ?_
  · rw [if_pos (of_decide_eq_true c)]
    exact ev_var rfl
  · rw [if_neg (of_decide_eq_false c)]
    exact ev_c
  · refine q a H1 n1 e1 ⟨_, _, _, h1, ?_, ?_, ?_⟩
    · rw [Int.fmod_eq_emod_of_nonneg _ (by omega)]
      exact Int.emod_nonneg _ (by omega)
    · rw [Int.fmod_eq_emod_of_nonneg _ (by omega)]
      exact Int.emod_lt_of_pos _ (by omega)
    · split <;> omega
abbrev s__law_draw : Stmt := top 33
abbrev sc__law_draw_N : List Str := ["_law_purse_here", "_law_many", "_law_state", "_law_blend", "_law_digit"]
theorem sc__law_draw : FnScope sc__law_draw_N ["_law_purse_here", "_law_many"] (defScope s__law_draw) := ⟨rfl, rfl, rfl, by decide +kernel, rfl, by decide +kernel, by decide +kernel⟩
theorem ok_draw (F : FnP K "_law_draw" s__law_draw f fd) (m_int : mg "int" = none) (m_divmod : mg "divmod" = none) : FnOk P w K mg base CX0 1 f fd ["_law_purse_here", "_law_many"] spDraw := by
  refine F.ok sc__law_draw (fun vs H Q E h => by obtain ⟨a, m, rfl, _⟩ := h; rfl) (fun cdv A outer s H vs Q E hr h => ⟨_, PSs.nox
    (pss_cons (ps_asg (pe_op op_addA (pe_ix ix_A (pv 0) pe_int (fun _ _ => rfl)) pe_int) (pg_sub (pv 0) pe_int set_list)) (pss_cons (ps_set (i := 2) sc__law_draw.nd rfl (Or.inl rfl) (pe_callTy call_int1 (by rfl) m_int (by decide +kernel) (pa_cons (pe_ix ix_A (pv 0) pe_int (fun _ _ => rfl)) pa_nil))) (pss_cons (ps_set (i := 3) sc__law_draw.nd rfl (Or.inl rfl) (pe_op op_mul (pv 2) (pe_op op_addA (pe_op op_modN (pe_callTy call_int1 (by rfl) m_int (by decide +kernel) (pa_cons (pv 2) pa_nil)) pe_int) pe_int))) (pss_cons (ps_asg (pe_op op_modN (pe_callTy call_int1 (by rfl) m_int (by decide +kernel) (pa_cons (pe_op op_addA (pe_op op_addA (pv 3) (pe_op op_mul pe_int (pe_ix ix_A (pv 0) pe_int (fun _ _ => rfl)))) pe_int) pa_nil)) pe_int) (pg_sub (pv 0) pe_int set_list)) (pss_cons (ps_if (pt_cmpR op_gt (pe_ix ix_A (pv 0) pe_int (fun _ _ => rfl)) pe_int (nomark _)) (pss_cons (ps_asg (pe_callB call_divmodW (by rfl) m_divmod (by decide +kernel) (pa_cons (pe_ix ix_A (pv 0) pe_int (fun _ _ => rfl)) (pa_cons (pv 1) pa_nil))) (pg_tup rfl (pgs_cons (pg_sub (pv 0) pe_int set_list) (pgs_cons (pg_name (i := 4) sc__law_draw.nd rfl (Or.inl rfl)) pgs_nil)))) (pss_one (ps_ret (pv 4)))) pss_nil) (pss_one (ps_ret (pe_op op_modN (pe_callTy call_int1 (by rfl) m_int (by decide +kernel) (pa_cons (pe_op op_fdivN (pe_ix ix_A (pv 0) pe_int (fun _ _ => rfl)) pe_int) pa_nil)) (pv 1))))))))), ?_⟩)
  obtain ⟨a, m, rfl, m0, m1, ⟨x, y, z, h0, x0, x1, y0⟩, q⟩ := h
  refine q_setL (j := 2) (v := .int (z + 1)) h0 (ev_op (ev_op (ev_var rfl) ev_c (rv_at (sq_of h0) rfl)) ev_c rv_add) (ev_var rfl) ev_c (by simp) fun H1 e1 => ?_
  have g1 : Ex (less a H) (upd H1 a (.lst [.int x, .int y, .int (z + 1)])) := less_upd (less_ex.trans e1)
  refine q_asg (i := 2) (v := .int x) (ev_int1 (ev_op (ev_var rfl) ev_c (rv_at (sq_of upd_same) rfl))) fun H2 e2 => ?_
  have r0 : 0 ≤ x.fmod 30011 := by
    rw [Int.fmod_eq_emod_of_nonneg _ (by omega)]
    exact Int.emod_nonneg _ (by omega)
  have r1 : x.fmod 30011 < 30011 := by
    rw [Int.fmod_eq_emod_of_nonneg _ (by omega)]
    exact Int.emod_lt_of_pos _ (by omega)
  refine q_asg (i := 3) (v := .int (x * (x.fmod 30011 + 40009))) (ev_op (ev_var rfl) (ev_op (ev_op (ev_int1 (ev_var rfl)) ev_c (rv_I (by omega))) ev_c rv_add) (rv_I (Or.inl (by omega)))) fun H3 e3 => ?_
  have h3 := e3 _ _ (e2 _ _ (upd_same (H := H1) (a := a) (o := .lst [.int x, .int y, .int (z + 1)])))
  refine q_setL (j := 0) (v := .int ((x * (x.fmod 30011 + 40009) + 65551 * (z + 1) + 19).fmod 2147483629)) h3 (ev_op (ev_int1 (ev_op (ev_op (ev_var rfl) (ev_op ev_c (ev_op (ev_var rfl) ev_c (rv_at (sq_of h3) rfl)) (rv_I (Or.inl (by omega)))) rv_add) ev_c rv_add)) ev_c (rv_I (by omega))) (ev_var rfl) ev_c (by simp) fun H4 e4 => ?_
  have s0 : 0 ≤ (x * (x.fmod 30011 + 40009) + 65551 * (z + 1) + 19).fmod 2147483629 := by
    rw [Int.fmod_eq_emod_of_nonneg _ (by omega)]
    exact Int.emod_nonneg _ (by omega)
  have s1 : (x * (x.fmod 30011 + 40009) + 65551 * (z + 1) + 19).fmod 2147483629 < 2147483629 := by
    rw [Int.fmod_eq_emod_of_nonneg _ (by omega)]
    exact Int.emod_lt_of_pos _ (by omega)
  generalize (x * (x.fmod 30011 + 40009) + 65551 * (z + 1) + 19).fmod 2147483629 = u at s0 s1 ⊢
  have g4 : Ex (less a H) (upd H4 a (.lst [.int u, .int y, .int (z + 1)])) := less_upd (((g1.trans e2).trans e3).trans e4)
  show tIfS _ _ _ _ _ (upd H4 a (.lst [.int u, .int y, .int (z + 1)]))
  refine q_when (b := decide (0 < y)) (et_B (ev_op (ev_op (ev_var rfl) ev_c (rv_at (sq_of upd_same) rfl)) ev_c rv_I0)) (fun c H5 e5 => ?_) fun _ H5 e5 => ?_
  · have h5 := e5 _ _ (upd_same (H := H4) (a := a) (o := .lst [.int u, .int y, .int (z + 1)]))
    refine (ev_op (ev_var rfl) ev_c (rv_at (sq_of h5) rfl) : Ev _ _ H5 _) H5 (Ex.refl _) _ fun H6 e6 => ⟨.int m, rfl, y, m, rfl, pylong_small m0 m1, fun p hp => ?_⟩
    have ne : a ≠ p := fun w => by rw [← w, e6 _ _ h5] at hp; cases hp
    refine ⟨p, _, rfl, st_of upd_same, rfl, _, _, rfl, ⟨_, rfl, a, [.int u, .int y, .int (z + 1)], 1, 1, rfl, rfl, by rw [upd_ne ne]; exact e6 _ _ h5, rfl, ?_⟩⟩
    refine ⟨_, _, rfl, rfl, ?_⟩
    refine s_ret (ev_var rfl) fun H7 e7 => q _ _ (Int.emod_nonneg _ (by omega)) (Int.emod_lt_of_pos _ m0) ⟨u, y / m, z + 1, e7 _ _ upd_same, s0, s1, Int.ediv_nonneg y0 (by omega)⟩ ?_
    exact (less_upd ((((g4.trans e5).trans e6)).trans (Ex.new hp))).trans e7
  · have h5 := e5 _ _ (upd_same (H := H4) (a := a) (o := .lst [.int u, .int y, .int (z + 1)]))
    refine s_ret (v := .int ((u.fdiv 128).fmod m)) (ev_op (ev_int1 (ev_op (ev_op (ev_var rfl) ev_c (rv_at (sq_of h5) rfl)) ev_c (rv_I (by unfold CDivN; omega)))) (ev_var rfl) (rv_I (by omega))) fun H7 e7 => q _ _ ?_ ?_ ⟨u, y, z + 1, e7 _ _ h5, s0, s1, y0⟩ ((g4.trans e5).trans e7)
    · rw [Int.fmod_eq_emod_of_nonneg _ (by omega)]
      exact Int.emod_nonneg _ (by omega)
    · rw [Int.fmod_eq_emod_of_nonneg _ (by omega)]
      exact Int.emod_lt_of_pos _ m0
end
end K01
set_option Elab.async false
set_option linter.all false
set_option maxRecDepth 100000
set_option maxHeartbeats 4000000
namespace K01
open PySem PySem.Spec PyProof.Rows L2 Evl SwX
/-- the names of the exceptions in the law's order -/
def nm : Nat → Str
  | 0 => "InvalidNumber"
  | 1 => "InvalidText"
  | 2 => "InvalidName"
  | 3 => "InvalidIndex"
  | 4 => "InvalidClaim"
  | 5 => "InvalidThing"
  | 6 => "NotACatalogue"
  | 7 => "NotWeights"
  | 8 => "InvalidKinds"
  | 9 => "InvalidRecipes"
  | 10 => "InvalidMembers"
  | 11 => "InvalidRows"
  | 12 => "UnknownName"
  | 13 => "InUse"
  | 14 => "TooMany"
  | 15 => "NothingToUndo"
  | _ => "Broken"
def fld : Nat → Str
  | 8 => "index"
  | 9 => "index"
  | 10 => "index"
  | 11 => "index"
  | 13 => "index"
  | 14 => "limit"
  | _ => "given"
/-- what the law needs of the classes -/
structure Cl (P : Program) (w : World) (K : PySem.W.Frag) (mg : Str → Option Value) (base : Heap) (C : Nat → Addr) (WV WN NA : Addr) : Prop where
  T : ∀ i, i < 17 → Oex K (C i)
  kit : ∀ i, i < 17 → ∀ j, j < 17 → PySem.W.kitOne K (.ref (C i)) (.ref (C j)) = some (decide (i = j))
  kWV : ∀ i, i < 17 → PySem.W.kitOne K (.ref (C i)) (.ref WV) = some (decide ((i : Int) < 12))
  kWN : ∀ i, i < 17 → PySem.W.kitOne K (.ref (C i)) (.ref WN) = some (decide ((11 : Int) < i) && decide ((i : Int) < 14))
  kNA : ∀ i, i < 17 → PySem.W.kitOne K (.ref (C i)) (.ref NA) = some (decide ((13 : Int) < i))
  kVE : ∀ i, i < 17 → PySem.W.kitOne K (.ref (C i)) (.type "ValueError") = some (decide ((i : Int) < 12))
  kLE : ∀ i, i < 17 → PySem.W.kitOne K (.ref (C i)) (.type "LookupError") = some (decide ((11 : Int) < i) && decide ((i : Int) < 14))
  kAE : ∀ i, i < 17 → PySem.W.kitOne K (.ref (C i)) (.type "ArithmeticError") = some (decide ((13 : Int) < i))
  fr : ∀ i, i < 17 → ∀ f ∈ (["given", "index", "limit", "shown"] : List Str), Free K (C i) f
  g : ∀ i, i < 17 → mg (nm i) = some (.ref (C i))
  gWV : mg "WrongValue" = some (.ref WV)
  gWN : mg "WrongName" = some (.ref WN)
  gNA : mg "NoAnswer" = some (.ref NA)
  D : ∀ i, i < 17 → i ≠ 15 → i ≠ 16 → HasX P w K mg base (nm i) 1 (C i) 1 [fld i] (fun us ws => us ++ ws.reverse) (spIni1 (C i) (fld i))
  D16 : HasX P w K mg base "Broken" 1 (C 16) 2 ["shown", "index"] (fun us ws => us ++ ws.reverse) (spIni2 (C 16) "index" "shown")
  E15 : PySem.W.excIn K (C 15) (mroN 2) (newN 2) = true
  k15 : PySem.W.keepIn K (.ref (C 15)) = true
/-! which truths _law_fault gathers -/
def sortsB (i : Nat) : List Bool := ((((([decide (i = 0), decide (i = 1), decide (i = 2)] ++ [decide (i = 3), decide (i = 4), decide (i = 5)]) ++ [decide (i = 6), decide (i = 7), decide (i = 8)]) ++ [decide (i = 9), decide (i = 10), decide (i = 11)]) ++ [decide (i = 12), decide (i = 13), decide (i = 14)]) ++ [decide (i = 15), decide (i = 16)])
theorem sorts_count : ∀ i, i < 17 → (sortsB i).count true = 1 := by decide +kernel
theorem sorts_at : ∀ i, i < 17 → (sortsB i)[i]? = some true := by decide +kernel
theorem sorts_before : ∀ i, i < 17 → ∀ m, m < i → (sortsB i)[m]? = some false := by decide +kernel
def basesB (i : Int) : List Bool := [decide (i < 12), decide ((11 : Int) < i) && decide (i < 14), decide ((13 : Int) < i)]
theorem bases_ok (i : Int) : SeqAt.shaped (.list ((basesB i).map PyData.bool)) = true ∧ PyData.eqv (.list ((basesB i).map PyData.bool)) (.list ((basesB i).map PyData.bool)) = true := by
  unfold basesB
  cases decide (i < 12) <;> cases decide ((11 : Int) < i) && decide (i < 14) <;> cases decide ((13 : Int) < i) <;> exact ⟨by rfl, by rfl⟩
/-- which fields are told: 0 given, 1 index, 2 limit, 3 none, 4 index and shown -/
def kd (i : Nat) : Nat := if i = 15 then 3 else if i = 16 then 4 else if i = 14 then 2 else if i = 8 ∨ i = 9 ∨ i = 10 ∨ i = 11 ∨ i = 13 then 1 else 0
def told (i : Nat) (v m : V) : List (Str × V) := match kd i with
  | 0 => [("given", v)]
  | 1 => [("index", v)]
  | 2 => [("limit", v)]
  | 3 => []
  | _ => [("shown", m), ("index", v)]
def due (i : Nat) (v m : V) : List V := match kd i with
  | 3 => []
  | 4 => [v, m]
  | _ => [v]
section
variable {P : Program} {w : World} {K : PySem.W.Frag} {mg : Str → Option Value} {base : Heap} {f : Addr} {fd : FuncData} {C : Nat → Addr} {WV WN NA : Addr}
def spFault (C : Nat → Addr) : Sp := fun vs H Q _ => ∃ (a : Addr) (i : Nat) (fs : List (Str × V)), vs = [.ref a] ∧ i < 17 ∧ ExAt H a (C i) fs ∧ ∀ H', Ex H H' → Q (.int (i : Nat)) H'
abbrev s__law_fault : Stmt := top 34
abbrev sc__law_fault_N : List Str := ["_law_e", "_law_sorts", "_law_bases", "_law_own", "_law_at"]
theorem sc__law_fault : FnScope sc__law_fault_N ["_law_e"] (defScope s__law_fault) := ⟨rfl, rfl, rfl, by decide +kernel, rfl, by decide +kernel, by decide +kernel⟩
theorem ok_fault (c : Cl P w K mg base C WV WN NA) (F : FnP K "_law_fault" s__law_fault f fd) (m_isinstance : mg "isinstance" = none) (m_ValueError : mg "ValueError" = none) (m_LookupError : mg "LookupError" = none) (m_ArithmeticError : mg "ArithmeticError" = none) : FnOk P w K mg base CX0 1 f fd ["_law_e"] (spFault C) := by
  refine F.ok sc__law_fault (fun vs H Q E h => by obtain ⟨a, i, fs, rfl, _⟩ := h; rfl) (fun cdv A outer s H vs Q E hr h => ⟨_, PSs.nox
    (pss_cons (ps_set (i := 1) sc__law_fault.nd rfl (Or.inl rfl) (pe_lst (pa_cons (pe_callB call_isX (by rfl) m_isinstance (by decide +kernel) (pa_cons (pv 0) (pa_cons (pe_own (c.g 0 (by decide))) pa_nil))) (pa_cons (pe_callB call_isX (by rfl) m_isinstance (by decide +kernel) (pa_cons (pv 0) (pa_cons (pe_own (c.g 1 (by decide))) pa_nil))) (pa_cons (pe_callB call_isX (by rfl) m_isinstance (by decide +kernel) (pa_cons (pv 0) (pa_cons (pe_own (c.g 2 (by decide))) pa_nil))) pa_nil))))) (pss_cons (ps_set (i := 1) sc__law_fault.nd rfl (Or.inl rfl) (pe_op op_addA (pv 1) (pe_lst (pa_cons (pe_callB call_isX (by rfl) m_isinstance (by decide +kernel) (pa_cons (pv 0) (pa_cons (pe_own (c.g 3 (by decide))) pa_nil))) (pa_cons (pe_callB call_isX (by rfl) m_isinstance (by decide +kernel) (pa_cons (pv 0) (pa_cons (pe_own (c.g 4 (by decide))) pa_nil))) (pa_cons (pe_callB call_isX (by rfl) m_isinstance (by decide +kernel) (pa_cons (pv 0) (pa_cons (pe_own (c.g 5 (by decide))) pa_nil))) pa_nil)))))) (pss_cons (ps_set (i := 1) sc__law_fault.nd rfl (Or.inl rfl) (pe_op op_addA (pv 1) (pe_lst (pa_cons (pe_callB call_isX (by rfl) m_isinstance (by decide +kernel) (pa_cons (pv 0) (pa_cons (pe_own (c.g 6 (by decide))) pa_nil))) (pa_cons (pe_callB call_isX (by rfl) m_isinstance (by decide +kernel) (pa_cons (pv 0) (pa_cons (pe_own (c.g 7 (by decide))) pa_nil))) (pa_cons (pe_callB call_isX (by rfl) m_isinstance (by decide +kernel) (pa_cons (pv 0) (pa_cons (pe_own (c.g 8 (by decide))) pa_nil))) pa_nil)))))) (pss_cons (ps_set (i := 1) sc__law_fault.nd rfl (Or.inl rfl) (pe_op op_addA (pv 1) (pe_lst (pa_cons (pe_callB call_isX (by rfl) m_isinstance (by decide +kernel) (pa_cons (pv 0) (pa_cons (pe_own (c.g 9 (by decide))) pa_nil))) (pa_cons (pe_callB call_isX (by rfl) m_isinstance (by decide +kernel) (pa_cons (pv 0) (pa_cons (pe_own (c.g 10 (by decide))) pa_nil))) (pa_cons (pe_callB call_isX (by rfl) m_isinstance (by decide +kernel) (pa_cons (pv 0) (pa_cons (pe_own (c.g 11 (by decide))) pa_nil))) pa_nil)))))) (pss_cons (ps_set (i := 1) sc__law_fault.nd rfl (Or.inl rfl) (pe_op op_addA (pv 1) (pe_lst (pa_cons (pe_callB call_isX (by rfl) m_isinstance (by decide +kernel) (pa_cons (pv 0) (pa_cons (pe_own (c.g 12 (by decide))) pa_nil))) (pa_cons (pe_callB call_isX (by rfl) m_isinstance (by decide +kernel) (pa_cons (pv 0) (pa_cons (pe_own (c.g 13 (by decide))) pa_nil))) (pa_cons (pe_callB call_isX (by rfl) m_isinstance (by decide +kernel) (pa_cons (pv 0) (pa_cons (pe_own (c.g 14 (by decide))) pa_nil))) pa_nil)))))) (pss_cons (ps_set (i := 1) sc__law_fault.nd rfl (Or.inl rfl) (pe_op op_addA (pv 1) (pe_lst (pa_cons (pe_callB call_isX (by rfl) m_isinstance (by decide +kernel) (pa_cons (pv 0) (pa_cons (pe_own (c.g 15 (by decide))) pa_nil))) (pa_cons (pe_callB call_isX (by rfl) m_isinstance (by decide +kernel) (pa_cons (pv 0) (pa_cons (pe_own (c.g 16 (by decide))) pa_nil))) pa_nil))))) (pss_cons (ps_set (i := 2) sc__law_fault.nd rfl (Or.inl rfl) (pe_lst (pa_cons (pe_callB call_isX (by rfl) m_isinstance (by decide +kernel) (pa_cons (pv 0) (pa_cons (pe_own c.gWV) pa_nil))) (pa_cons (pe_callB call_isX (by rfl) m_isinstance (by decide +kernel) (pa_cons (pv 0) (pa_cons (pe_own c.gWN) pa_nil))) (pa_cons (pe_callB call_isX (by rfl) m_isinstance (by decide +kernel) (pa_cons (pv 0) (pa_cons (pe_own c.gNA) pa_nil))) pa_nil))))) (pss_cons (ps_set (i := 3) sc__law_fault.nd rfl (Or.inl rfl) (pe_lst (pa_cons (pe_callB call_isX (by rfl) m_isinstance (by decide +kernel) (pa_cons (pv 0) (pa_cons (pe_bty (n := "ValueError") m_ValueError) pa_nil))) (pa_cons (pe_callB call_isX (by rfl) m_isinstance (by decide +kernel) (pa_cons (pv 0) (pa_cons (pe_bty (n := "LookupError") m_LookupError) pa_nil))) (pa_cons (pe_callB call_isX (by rfl) m_isinstance (by decide +kernel) (pa_cons (pv 0) (pa_cons (pe_bty (n := "ArithmeticError") m_ArithmeticError) pa_nil))) pa_nil))))) (pss_cons (ps_if (pw_or (pt_cmpR (op_neA hr) (pe_bm PySem.F.plainAttrs_list PySem.F.slot_list_count PySem.F.type_list_count (mt_countB hr) (pv 1) (pa_cons pe_bl pa_nil)) pe_int (nomark _)) (pw_or1 (pt_cmpR (op_neA hr) (pv 3) (pv 2) (nomark _)))).pt (pss_one (ps_ret (pe_un un_neg pe_int))) pss_nil) (pss_cons (ps_set (i := 4) sc__law_fault.nd rfl (Or.inl rfl) (pe_bm PySem.F.plainAttrs_list PySem.F.slot_list_index PySem.F.type_list_index mt_index (pv 1) (pa_cons pe_bl pa_nil))) (pss_one (ps_ret (pe_ifExp (pt_cmpR (op_eqA hr) (pv 2) (pe_lst (pa_cons (pe_cmpR op_lt (pv 4) pe_int (nomark _)) (pa_cons (pe_chain op_lt op_lt pe_int (pv 4) pe_int) (pa_cons (pe_cmpR op_gt (pv 4) pe_int (nomark _)) pa_nil)))) (nomark _)) (pv 4) (pe_un un_neg pe_int)))))))))))))), ?_⟩)
  obtain ⟨a, i, fs, rfl, hi, hx, q⟩ := h
  have I : ∀ (j : Nat), j < 17 → ∀ {σ : L2.St} {H1 : Hp}, σ[0]? = some (some (.ref a)) → Ex H H1 → Ev (tCB (rIsX K) (tCons (tVar 0) (tCons (tC (.ref (C j))) tNil))) σ H1 (.bl (decide (i = j))) := fun j hj σ H1 h0 e => ev_isX (ev_var h0) ev_c (hx.mono e) (c.T i hi) (.own _) (c.kit i hi j hj)
  refine q_asgY (P := LstOf Tru _) (yi_lst tru_mono (ys_cons tru_mono (yi_tru (I 0 (by decide) rfl (Ex.refl _))) (ys_cons tru_mono (yi_tru (I 1 (by decide) rfl (Ex.refl _))) (ys_cons tru_mono (yi_tru (I 2 (by decide) rfl (Ex.refl _))) ys_nil))) (by simp)) fun v1 H1 e1 p1 => ?_
  refine q_asgY (P := LstOf Tru _) (yi_cat tru_mono (yi_var rfl fun H9 e9 => p1.mono tru_mono e9) (yi_lst tru_mono (ys_cons tru_mono (yi_tru (I 3 (by decide) rfl (e1))) (ys_cons tru_mono (yi_tru (I 4 (by decide) rfl (e1))) (ys_cons tru_mono (yi_tru (I 5 (by decide) rfl (e1))) ys_nil))) (by simp)) (by simp)) fun v2 H2 e2 p2 => ?_
  refine q_asgY (P := LstOf Tru _) (yi_cat tru_mono (yi_var rfl fun H9 e9 => p2.mono tru_mono e9) (yi_lst tru_mono (ys_cons tru_mono (yi_tru (I 6 (by decide) rfl ((e1).trans e2))) (ys_cons tru_mono (yi_tru (I 7 (by decide) rfl ((e1).trans e2))) (ys_cons tru_mono (yi_tru (I 8 (by decide) rfl ((e1).trans e2))) ys_nil))) (by simp)) (by simp)) fun v3 H3 e3 p3 => ?_
  refine q_asgY (P := LstOf Tru _) (yi_cat tru_mono (yi_var rfl fun H9 e9 => p3.mono tru_mono e9) (yi_lst tru_mono (ys_cons tru_mono (yi_tru (I 9 (by decide) rfl (((e1).trans e2).trans e3))) (ys_cons tru_mono (yi_tru (I 10 (by decide) rfl (((e1).trans e2).trans e3))) (ys_cons tru_mono (yi_tru (I 11 (by decide) rfl (((e1).trans e2).trans e3))) ys_nil))) (by simp)) (by simp)) fun v4 H4 e4 p4 => ?_
  refine q_asgY (P := LstOf Tru _) (yi_cat tru_mono (yi_var rfl fun H9 e9 => p4.mono tru_mono e9) (yi_lst tru_mono (ys_cons tru_mono (yi_tru (I 12 (by decide) rfl ((((e1).trans e2).trans e3).trans e4))) (ys_cons tru_mono (yi_tru (I 13 (by decide) rfl ((((e1).trans e2).trans e3).trans e4))) (ys_cons tru_mono (yi_tru (I 14 (by decide) rfl ((((e1).trans e2).trans e3).trans e4))) ys_nil))) (by simp)) (by simp)) fun v5 H5 e5 p5 => ?_
  refine q_asgY (P := LstOf Tru _) (yi_cat tru_mono (yi_var rfl fun H9 e9 => p5.mono tru_mono e9) (yi_lst tru_mono (ys_cons tru_mono (yi_tru (I 15 (by decide) rfl (((((e1).trans e2).trans e3).trans e4).trans e5))) (ys_cons tru_mono (yi_tru (I 16 (by decide) rfl (((((e1).trans e2).trans e3).trans e4).trans e5))) ys_nil)) (by simp)) (by simp)) fun v6 H6 e6 p6 => ?_
  have e6' : Ex H H6 := (((((e1).trans e2).trans e3).trans e4).trans e5).trans e6
  obtain ⟨p, rfl, hp⟩ := p6.trus
  have hp : H6 p = some (.lst ((sortsB i).map V.bl)) := hp
  refine q_asgY (P := LstOf Tru (basesB i)) (yi_lst tru_mono (ys_cons tru_mono (yi_tru (ev_isX (ev_var rfl) ev_c (hx.mono e6') (c.T i hi) (.own _) (c.kWV i hi))) (ys_cons tru_mono (yi_tru (ev_isX (ev_var rfl) ev_c (hx.mono e6') (c.T i hi) (.own _) (c.kWN i hi))) (ys_cons tru_mono (yi_tru (ev_isX (ev_var rfl) ev_c (hx.mono e6') (c.T i hi) (.own _) (c.kNA i hi))) ys_nil))) (by unfold basesB; simp)) fun v7 H7 e7 p7 => ?_
  refine q_asgY (P := LstOf Tru (basesB i)) (yi_lst tru_mono (ys_cons tru_mono (yi_tru (ev_isX (ev_var rfl) ev_c (hx.mono (e6'.trans e7)) (c.T i hi) (.ty _) (c.kVE i hi))) (ys_cons tru_mono (yi_tru (ev_isX (ev_var rfl) ev_c (hx.mono (e6'.trans e7)) (c.T i hi) (.ty _) (c.kLE i hi))) (ys_cons tru_mono (yi_tru (ev_isX (ev_var rfl) ev_c (hx.mono (e6'.trans e7)) (c.T i hi) (.ty _) (c.kAE i hi))) ys_nil))) (by unfold basesB; simp)) fun v8 H8 e8 p8 => ?_
  obtain ⟨b, rfl, hb⟩ := (p7.mono tru_mono e8).trus
  obtain ⟨o, rfl, ho⟩ := p8.trus
  have hp8 := e8 _ _ (e7 _ _ hp)
  obtain ⟨sh, eq⟩ := bases_ok i
  refine q_when (b := false) (et_is (et_or (a := false) (b := false) (et_B (ev_is (ev_op (rc_count (ev_var rfl) (sq_of hp8) ev_c) ev_c (rv_l (rv_ne rfl))) (by rw [sorts_count i hi]; rfl))) fun _ => et_B (ev_is (ev_op (ev_var rfl) (ev_var rfl) (rv_neTru ho hb sh sh eq)) rfl)) rfl) (fun z => nomatch z) fun _ H9 e9 => ?_
  refine q_asg (v := .int (i : Nat)) (rc_index (ev_var rfl) (sq_of (e9 _ _ hp8)) ev_c (sorts_at i hi) (sorts_before i hi)) fun H10 e10 => ?_
  refine s_ret (ev_if (b := true) (et_B (ev_eqTru (cs := basesB i) (ev_var rfl) (e10 _ _ (e9 _ _ hb)) (yi_lst tru_mono (ys_cons tru_mono (yi_tru (ev_op (ev_var rfl) ev_c rv_I0)) (ys_cons tru_mono (yi_tru (ev_chainI (f := fun a b => decide (a < b)) (g := fun a b => decide (a < b)) ev_c (ev_var rfl) ev_c)) (ys_cons tru_mono (yi_tru (ev_op (ev_var rfl) ev_c rv_I0)) ys_nil))) (by unfold basesB; simp)) sh sh eq)) (fun _ => ev_var rfl) (fun z => nomatch z)) fun H11 e11 => q _ (((((e6'.trans e7).trans e8).trans e9).trans e10).trans e11)
def spKept (C : Nat → Addr) : Sp := fun vs H Q _ => ∃ (a : Addr) (i : Nat) (v m : V), vs = [.ref a, .int (i : Nat)] ∧ i < 17 ∧ ExAt H a (C i) (told i v m) ∧ ∀ p H', H p = none → Ex H H' → H' p = some (.lst (due i v m)) → Q (.ref p) H'
theorem kd1 : ∀ i : Nat, i < 17 → inV (.int (i : Nat)) [.int 8, .int 9, .int 10, .int 11, .int 13] = decide (kd i = 1) := by decide +kernel
theorem kd2 : ∀ i : Nat, i < 17 → decide (V.int (i : Nat) = V.int 14) = decide (kd i = 2) := by decide +kernel
theorem kd4 : ∀ i : Nat, i < 17 → decide (V.int (i : Nat) = V.int 16) = decide (kd i = 4) := by decide +kernel
theorem kd3 : ∀ i : Nat, i < 17 → inV (.int (i : Nat)) [.int (-1), .int 15] = decide (kd i = 3) := by decide +kernel
theorem kd_le : ∀ i : Nat, i < 17 → kd i ≤ 4 := by decide +kernel
abbrev s__law_kept : Stmt := top 35
abbrev sc__law_kept_N : List Str := ["_law_e", "_law_at"]
theorem sc__law_kept : FnScope sc__law_kept_N ["_law_e", "_law_at"] (defScope s__law_kept) := ⟨rfl, rfl, rfl, by decide +kernel, rfl, by decide +kernel, by decide +kernel⟩
theorem ok_kept (c : Cl P w K mg base C WV WN NA) (F : FnP K "_law_kept" s__law_kept f fd) : FnOk P w K mg base CX0 1 f fd ["_law_e", "_law_at"] (spKept C) := by
  refine F.ok sc__law_kept (fun vs H Q E h => by obtain ⟨a, i, v, m, rfl, _⟩ := h; rfl) (fun cdv A outer s H vs Q E hr h => ⟨_, PSs.nox
    (pss_cons (ps_if (pt_cmpR op_in_seq (pv 1) (pe_lst (pa_cons pe_int (pa_cons pe_int (pa_cons pe_int (pa_cons pe_int (pa_cons pe_int pa_nil)))))) rfl) (pss_one (ps_ret (pe_lst (pa_cons (pe_fldX (pv 0)) pa_nil)))) pss_nil) (pss_cons (ps_if (pt_cmpR (op_eqA hr) (pv 1) pe_int (nomark _)) (pss_one (ps_ret (pe_lst (pa_cons (pe_fldX (pv 0)) pa_nil)))) pss_nil) (pss_cons (ps_if (pt_cmpR (op_eqA hr) (pv 1) pe_int (nomark _)) (pss_one (ps_ret (pe_lst (pa_cons (pe_fldX (pv 0)) (pa_cons (pe_fldX (pv 0)) pa_nil))))) pss_nil) (pss_one (ps_ret (pe_ifExp (pt_cmpR op_in_seq (pv 1) (pe_lst (pa_cons (pe_un un_neg pe_int) (pa_cons pe_int pa_nil))) rfl) (pe_lst pa_nil) (pe_lst (pa_cons (pe_fldX (pv 0)) pa_nil)))))))), ?_⟩)
  obtain ⟨a, i, v, m, rfl, hi, hx, q⟩ := h
  refine q_when (b := decide (kd i = 1)) (et_is (et_B (ev_opL (ev_var rfl) (el_lst (ea_cons ev_c (ea_cons ev_c (ea_cons ev_c (ea_cons ev_c (ea_cons ev_c ea_nil))))) (by simp)) fun p H1 h1 _ => rv_isL (sq_of h1) rfl rfl)) (kd1 i hi)) (fun z H1 e1 => ?_) fun z1 H1 e1 => ?_
  · have z := of_decide_eq_true z
    simp only [told, due, z] at hx q
    exact s_retL (el_lst (ea_cons (ev_fldX (ev_var rfl) (hx.mono e1) (c.T i hi) (c.fr i hi _ (by simp)) rfl) ea_nil) (by simp)) fun p H2 n2 e2 h2 => q p H2 (fresh_back e1 n2) (e1.trans e2) h2
  refine q_when (b := decide (kd i = 2)) (et_is (et_B (ev_op (ev_var rfl) ev_c (rv_l (rv_eq rfl)))) (kd2 i hi)) (fun z H2 e2 => ?_) fun z2 H2 e2 => ?_
  · have z := of_decide_eq_true z
    simp only [told, due, z] at hx q
    exact s_retL (el_lst (ea_cons (ev_fldX (ev_var rfl) (hx.mono (e1.trans e2)) (c.T i hi) (c.fr i hi _ (by simp)) rfl) ea_nil) (by simp)) fun p H3 n3 e3 h3 => q p H3 (fresh_back (e1.trans e2) n3) ((e1.trans e2).trans e3) h3
  refine q_when (b := decide (kd i = 4)) (et_is (et_B (ev_op (ev_var rfl) ev_c (rv_l (rv_eq rfl)))) (kd4 i hi)) (fun z H3 e3 => ?_) fun z3 H3 e3 => ?_
  · have z := of_decide_eq_true z
    simp only [told, due, z] at hx q
    exact s_retL (el_lst (ea_cons (ev_fldX (ev_var rfl) (hx.mono ((e1.trans e2).trans e3)) (c.T i hi) (c.fr i hi _ (by simp)) rfl) (ea_cons (ev_fldX (ev_var rfl) (hx.mono ((e1.trans e2).trans e3)) (c.T i hi) (c.fr i hi _ (by simp)) rfl) ea_nil)) (by simp)) fun p H4 n4 e4 h4 => q p H4 (fresh_back ((e1.trans e2).trans e3) n4) (((e1.trans e2).trans e3).trans e4) h4
  have y1 := of_decide_eq_false z1
  have y2 := of_decide_eq_false z2
  have y4 := of_decide_eq_false z3
  have le := kd_le i hi
  by_cases y3 : kd i = 3
  · simp only [told, due, y3] at hx q
    refine s_retL (xs := []) (el_ifY (b := true) (et_is (et_B (ev_opL (ev_var rfl) (el_lst (ea_cons (ev_un ev_c ru_neg) (ea_cons ev_c ea_nil)) (by simp)) fun p H1 h1 _ => rv_isL (sq_of h1) rfl rfl)) ((kd3 i hi).trans (decide_eq_true y3))) (fun _ => el_lst ea_nil (by simp)) (fun z => nomatch z)) fun p H4 n4 e4 h4 => q p H4 (fresh_back ((e1.trans e2).trans e3) n4) (((e1.trans e2).trans e3).trans e4) h4
  · have y0 : kd i = 0 := by omega
    simp only [told, due, y0] at hx q
    refine s_retL (xs := [v]) (el_ifY (b := false) (et_is (et_B (ev_opL (ev_var rfl) (el_lst (ea_cons (ev_un ev_c ru_neg) (ea_cons ev_c ea_nil)) (by simp)) fun p H1 h1 _ => rv_isL (sq_of h1) rfl rfl)) ((kd3 i hi).trans (decide_eq_false y3))) (fun z => nomatch z) (fun _ => el_lst (ea_cons (ev_fldX (ev_var rfl) (hx.mono ((e1.trans e2).trans e3)) (c.T i hi) (c.fr i hi _ (by simp)) rfl) ea_nil) (by simp))) fun p H4 n4 e4 h4 => q p H4 (fresh_back ((e1.trans e2).trans e3) n4) (((e1.trans e2).trans e3).trans e4) h4
/-- the i-th of the exceptions told of v and m -/
def Told (C : Nat → Addr) (v m : V) (i : Nat) (x : V) (H : Hp) : Prop := ∃ a, x = .ref a ∧ ExAt H a (C i) (told i v m)
theorem told_mono {C : Nat → Addr} {v m : V} (i : Nat) (x : V) (H H' : Hp) (e : Ex H H') (h : Told C v m i x H) : Told C v m i x H' := by
  obtain ⟨a, rfl, z⟩ := h
  exact ⟨a, rfl, z.mono e⟩
def spTold (C : Nat → Addr) : Sp := fun vs H Q _ => ∃ v m : V, vs = [v, m] ∧ ∀ x H', Ex H H' → LstOf (Told C v m) (List.range 17) x H' → Q x H'
abbrev s__law_placed : Stmt := top 36
abbrev sc__law_placed_N : List Str := ["_law_value_here", "_law_mate", "_law_told"]
theorem sc__law_placed : FnScope sc__law_placed_N ["_law_value_here", "_law_mate"] (defScope s__law_placed) := ⟨rfl, rfl, rfl, by decide +kernel, rfl, by decide +kernel, by decide +kernel⟩
theorem ok_placed (c : Cl P w K mg base C WV WN NA) (F : FnP K "_law_placed" s__law_placed f fd) : FnOk P w K mg base CX0 3 f fd ["_law_value_here", "_law_mate"] (spTold C) := by
  refine F.ok sc__law_placed (fun vs H Q E h => by obtain ⟨v, m, rfl, _⟩ := h; rfl) (fun cdv A outer s H vs Q E hr h => ⟨_, PSs.nox
    (pss_cons (ps_set (i := 2) sc__law_placed.nd rfl (Or.inl rfl) (pe_lst (pa_cons (pe_newH (c.D 0 (by decide) (by decide) (by decide)) (hr.mono (by decide)) (pa_cons (pv 0) pa_nil)) (pa_cons (pe_newH (c.D 1 (by decide) (by decide) (by decide)) (hr.mono (by decide)) (pa_cons (pv 0) pa_nil)) (pa_cons (pe_newH (c.D 2 (by decide) (by decide) (by decide)) (hr.mono (by decide)) (pa_cons (pv 0) pa_nil)) (pa_cons (pe_newH (c.D 3 (by decide) (by decide) (by decide)) (hr.mono (by decide)) (pa_cons (pv 0) pa_nil)) (pa_cons (pe_newH (c.D 4 (by decide) (by decide) (by decide)) (hr.mono (by decide)) (pa_cons (pv 0) pa_nil)) pa_nil))))))) (pss_cons (ps_set (i := 2) sc__law_placed.nd rfl (Or.inl rfl) (pe_op op_addA (pv 2) (pe_lst (pa_cons (pe_newH (c.D 5 (by decide) (by decide) (by decide)) (hr.mono (by decide)) (pa_cons (pv 0) pa_nil)) (pa_cons (pe_newH (c.D 6 (by decide) (by decide) (by decide)) (hr.mono (by decide)) (pa_cons (pv 0) pa_nil)) (pa_cons (pe_newH (c.D 7 (by decide) (by decide) (by decide)) (hr.mono (by decide)) (pa_cons (pv 0) pa_nil)) (pa_cons (pe_newH (c.D 8 (by decide) (by decide) (by decide)) (hr.mono (by decide)) (pa_cons (pv 0) pa_nil)) pa_nil))))))) (pss_cons (ps_set (i := 2) sc__law_placed.nd rfl (Or.inl rfl) (pe_op op_addA (pv 2) (pe_lst (pa_cons (pe_newH (c.D 9 (by decide) (by decide) (by decide)) (hr.mono (by decide)) (pa_cons (pv 0) pa_nil)) (pa_cons (pe_newH (c.D 10 (by decide) (by decide) (by decide)) (hr.mono (by decide)) (pa_cons (pv 0) pa_nil)) (pa_cons (pe_newH (c.D 11 (by decide) (by decide) (by decide)) (hr.mono (by decide)) (pa_cons (pv 0) pa_nil)) (pa_cons (pe_newH (c.D 12 (by decide) (by decide) (by decide)) (hr.mono (by decide)) (pa_cons (pv 0) pa_nil)) pa_nil))))))) (pss_one (ps_ret (pe_op op_addA (pv 2) (pe_lst (pa_cons (pe_newH (c.D 13 (by decide) (by decide) (by decide)) (hr.mono (by decide)) (pa_cons (pv 0) pa_nil)) (pa_cons (pe_newH (c.D 14 (by decide) (by decide) (by decide)) (hr.mono (by decide)) (pa_cons (pv 0) pa_nil)) (pa_cons (pe_newX0 PySem.F.excBase_ArithmeticError c.E15 (c.g 15 (by decide)) c.k15 (by rfl)) (pa_cons (pe_newH c.D16 (hr.mono (by decide)) (pa_cons (pv 0) (pa_cons (pv 1) pa_nil))) pa_nil))))))))))), ?_⟩)
  obtain ⟨v, m, rfl, q⟩ := h
  refine q_asgY (P := LstOf (Told C v m) [0, 1, 2, 3, 4]) (yi_lst (F := Told C v m) told_mono (ys_cons (F := Told C v m) (i := 0) told_mono (yi_new1 (ev_var rfl)) (ys_cons (F := Told C v m) (i := 1) told_mono (yi_new1 (ev_var rfl)) (ys_cons (F := Told C v m) (i := 2) told_mono (yi_new1 (ev_var rfl)) (ys_cons (F := Told C v m) (i := 3) told_mono (yi_new1 (ev_var rfl)) (ys_cons (F := Told C v m) (i := 4) told_mono (yi_new1 (ev_var rfl)) (ys_nil (F := Told C v m))))))) (by simp)) fun v1 H1 e1 p1 => ?_
  refine q_asgY (P := LstOf (Told C v m) [0, 1, 2, 3, 4, 5, 6, 7, 8]) (yi_cat (is := [0, 1, 2, 3, 4]) (js := [5, 6, 7, 8]) told_mono (yi_var rfl fun H9 e9 => p1.mono told_mono e9) (yi_lst (F := Told C v m) told_mono (ys_cons (F := Told C v m) (i := 5) told_mono (yi_new1 (ev_var rfl)) (ys_cons (F := Told C v m) (i := 6) told_mono (yi_new1 (ev_var rfl)) (ys_cons (F := Told C v m) (i := 7) told_mono (yi_new1 (ev_var rfl)) (ys_cons (F := Told C v m) (i := 8) told_mono (yi_new1 (ev_var rfl)) (ys_nil (F := Told C v m)))))) (by simp)) (by simp)) fun v2 H2 e2 p2 => ?_
  refine q_asgY (P := LstOf (Told C v m) [0, 1, 2, 3, 4, 5, 6, 7, 8, 9, 10, 11, 12]) (yi_cat (is := [0, 1, 2, 3, 4, 5, 6, 7, 8]) (js := [9, 10, 11, 12]) told_mono (yi_var rfl fun H9 e9 => p2.mono told_mono e9) (yi_lst (F := Told C v m) told_mono (ys_cons (F := Told C v m) (i := 9) told_mono (yi_new1 (ev_var rfl)) (ys_cons (F := Told C v m) (i := 10) told_mono (yi_new1 (ev_var rfl)) (ys_cons (F := Told C v m) (i := 11) told_mono (yi_new1 (ev_var rfl)) (ys_cons (F := Told C v m) (i := 12) told_mono (yi_new1 (ev_var rfl)) (ys_nil (F := Told C v m)))))) (by simp)) (by simp)) fun v3 H3 e3 p3 => ?_
  refine s_retY (P := LstOf (Told C v m) (List.range 17)) (yi_cat (is := [0, 1, 2, 3, 4, 5, 6, 7, 8, 9, 10, 11, 12]) (js := [13, 14, 15, 16]) told_mono (yi_var rfl fun H9 e9 => p3.mono told_mono e9) (yi_lst (F := Told C v m) told_mono (ys_cons (F := Told C v m) (i := 13) told_mono (yi_new1 (ev_var rfl)) (ys_cons (F := Told C v m) (i := 14) told_mono (yi_new1 (ev_var rfl)) (ys_cons (F := Told C v m) (i := 15) told_mono yi_new0 (ys_cons (F := Told C v m) (i := 16) told_mono (yi_new2 (ev_var rfl) (ev_var rfl)) (ys_nil (F := Told C v m)))))) (by simp)) (by simp)) fun x H9 e9 p9 => q x H9 ((((e1).trans e2).trans e3).trans e9) p9
abbrev s__law_named : Stmt := top 37
abbrev sc__law_named_N : List Str := ["_law_value_here", "_law_mate", "_law_told"]
theorem sc__law_named : FnScope sc__law_named_N ["_law_value_here", "_law_mate"] (defScope s__law_named) := ⟨rfl, rfl, rfl, by decide +kernel, rfl, by decide +kernel, by decide +kernel⟩
theorem ok_named (c : Cl P w K mg base C WV WN NA) (F : FnP K "_law_named" s__law_named f fd) : FnOk P w K mg base CX0 3 f fd ["_law_value_here", "_law_mate"] (spTold C) := by
  refine F.ok sc__law_named (fun vs H Q E h => by obtain ⟨v, m, rfl, _⟩ := h; rfl) (fun cdv A outer s H vs Q E hr h => ⟨_, PSs.nox
    (pss_cons (ps_set (i := 2) sc__law_named.nd rfl (Or.inl rfl) (pe_lst (pa_cons (pe_newHK (c.D 0 (by decide) (by decide) (by decide)) (hr.mono (by decide)) (pk_cons (pv 0) pk_nil)) (pa_cons (pe_newHK (c.D 1 (by decide) (by decide) (by decide)) (hr.mono (by decide)) (pk_cons (pv 0) pk_nil)) (pa_cons (pe_newHK (c.D 2 (by decide) (by decide) (by decide)) (hr.mono (by decide)) (pk_cons (pv 0) pk_nil)) pa_nil))))) (pss_cons (ps_set (i := 2) sc__law_named.nd rfl (Or.inl rfl) (pe_op op_addA (pv 2) (pe_lst (pa_cons (pe_newHK (c.D 3 (by decide) (by decide) (by decide)) (hr.mono (by decide)) (pk_cons (pv 0) pk_nil)) (pa_cons (pe_newHK (c.D 4 (by decide) (by decide) (by decide)) (hr.mono (by decide)) (pk_cons (pv 0) pk_nil)) (pa_cons (pe_newHK (c.D 5 (by decide) (by decide) (by decide)) (hr.mono (by decide)) (pk_cons (pv 0) pk_nil)) pa_nil)))))) (pss_cons (ps_set (i := 2) sc__law_named.nd rfl (Or.inl rfl) (pe_op op_addA (pv 2) (pe_lst (pa_cons (pe_newHK (c.D 6 (by decide) (by decide) (by decide)) (hr.mono (by decide)) (pk_cons (pv 0) pk_nil)) (pa_cons (pe_newHK (c.D 7 (by decide) (by decide) (by decide)) (hr.mono (by decide)) (pk_cons (pv 0) pk_nil)) (pa_cons (pe_newHK (c.D 8 (by decide) (by decide) (by decide)) (hr.mono (by decide)) (pk_cons (pv 0) pk_nil)) pa_nil)))))) (pss_cons (ps_set (i := 2) sc__law_named.nd rfl (Or.inl rfl) (pe_op op_addA (pv 2) (pe_lst (pa_cons (pe_newHK (c.D 9 (by decide) (by decide) (by decide)) (hr.mono (by decide)) (pk_cons (pv 0) pk_nil)) (pa_cons (pe_newHK (c.D 10 (by decide) (by decide) (by decide)) (hr.mono (by decide)) (pk_cons (pv 0) pk_nil)) (pa_cons (pe_newHK (c.D 11 (by decide) (by decide) (by decide)) (hr.mono (by decide)) (pk_cons (pv 0) pk_nil)) pa_nil)))))) (pss_cons (ps_set (i := 2) sc__law_named.nd rfl (Or.inl rfl) (pe_op op_addA (pv 2) (pe_lst (pa_cons (pe_newHK (c.D 12 (by decide) (by decide) (by decide)) (hr.mono (by decide)) (pk_cons (pv 0) pk_nil)) (pa_cons (pe_newHK (c.D 13 (by decide) (by decide) (by decide)) (hr.mono (by decide)) (pk_cons (pv 0) pk_nil)) (pa_cons (pe_newHK (c.D 14 (by decide) (by decide) (by decide)) (hr.mono (by decide)) (pk_cons (pv 0) pk_nil)) (pa_cons (pe_newX0 PySem.F.excBase_ArithmeticError c.E15 (c.g 15 (by decide)) c.k15 (by rfl)) pa_nil))))))) (pss_one (ps_ret (pe_op op_addA (pv 2) (pe_lst (pa_cons (pe_newHK c.D16 (hr.mono (by decide)) (pk_cons (pv 1) (pk_cons (pv 0) pk_nil))) pa_nil)))))))))), ?_⟩)
  obtain ⟨v, m, rfl, q⟩ := h
  refine q_asgY (P := LstOf (Told C v m) [0, 1, 2]) (yi_lst (F := Told C v m) told_mono (ys_cons (F := Told C v m) (i := 0) told_mono (yi_newK1 (ev_var rfl)) (ys_cons (F := Told C v m) (i := 1) told_mono (yi_newK1 (ev_var rfl)) (ys_cons (F := Told C v m) (i := 2) told_mono (yi_newK1 (ev_var rfl)) (ys_nil (F := Told C v m))))) (by simp)) fun v1 H1 e1 p1 => ?_
  refine q_asgY (P := LstOf (Told C v m) [0, 1, 2, 3, 4, 5]) (yi_cat (is := [0, 1, 2]) (js := [3, 4, 5]) told_mono (yi_var rfl fun H9 e9 => p1.mono told_mono e9) (yi_lst (F := Told C v m) told_mono (ys_cons (F := Told C v m) (i := 3) told_mono (yi_newK1 (ev_var rfl)) (ys_cons (F := Told C v m) (i := 4) told_mono (yi_newK1 (ev_var rfl)) (ys_cons (F := Told C v m) (i := 5) told_mono (yi_newK1 (ev_var rfl)) (ys_nil (F := Told C v m))))) (by simp)) (by simp)) fun v2 H2 e2 p2 => ?_
  refine q_asgY (P := LstOf (Told C v m) [0, 1, 2, 3, 4, 5, 6, 7, 8]) (yi_cat (is := [0, 1, 2, 3, 4, 5]) (js := [6, 7, 8]) told_mono (yi_var rfl fun H9 e9 => p2.mono told_mono e9) (yi_lst (F := Told C v m) told_mono (ys_cons (F := Told C v m) (i := 6) told_mono (yi_newK1 (ev_var rfl)) (ys_cons (F := Told C v m) (i := 7) told_mono (yi_newK1 (ev_var rfl)) (ys_cons (F := Told C v m) (i := 8) told_mono (yi_newK1 (ev_var rfl)) (ys_nil (F := Told C v m))))) (by simp)) (by simp)) fun v3 H3 e3 p3 => ?_
  refine q_asgY (P := LstOf (Told C v m) [0, 1, 2, 3, 4, 5, 6, 7, 8, 9, 10, 11]) (yi_cat (is := [0, 1, 2, 3, 4, 5, 6, 7, 8]) (js := [9, 10, 11]) told_mono (yi_var rfl fun H9 e9 => p3.mono told_mono e9) (yi_lst (F := Told C v m) told_mono (ys_cons (F := Told C v m) (i := 9) told_mono (yi_newK1 (ev_var rfl)) (ys_cons (F := Told C v m) (i := 10) told_mono (yi_newK1 (ev_var rfl)) (ys_cons (F := Told C v m) (i := 11) told_mono (yi_newK1 (ev_var rfl)) (ys_nil (F := Told C v m))))) (by simp)) (by simp)) fun v4 H4 e4 p4 => ?_
  refine q_asgY (P := LstOf (Told C v m) [0, 1, 2, 3, 4, 5, 6, 7, 8, 9, 10, 11, 12, 13, 14, 15]) (yi_cat (is := [0, 1, 2, 3, 4, 5, 6, 7, 8, 9, 10, 11]) (js := [12, 13, 14, 15]) told_mono (yi_var rfl fun H9 e9 => p4.mono told_mono e9) (yi_lst (F := Told C v m) told_mono (ys_cons (F := Told C v m) (i := 12) told_mono (yi_newK1 (ev_var rfl)) (ys_cons (F := Told C v m) (i := 13) told_mono (yi_newK1 (ev_var rfl)) (ys_cons (F := Told C v m) (i := 14) told_mono (yi_newK1 (ev_var rfl)) (ys_cons (F := Told C v m) (i := 15) told_mono yi_new0 (ys_nil (F := Told C v m)))))) (by simp)) (by simp)) fun v5 H5 e5 p5 => ?_
  refine s_retY (P := LstOf (Told C v m) (List.range 17)) (yi_cat (is := [0, 1, 2, 3, 4, 5, 6, 7, 8, 9, 10, 11, 12, 13, 14, 15]) (js := [16]) told_mono (yi_var rfl fun H9 e9 => p5.mono told_mono e9) (yi_lst (F := Told C v m) told_mono (ys_cons (F := Told C v m) (i := 16) told_mono (yi_newK2 (ev_var rfl) (ev_var rfl)) (ys_nil (F := Told C v m))) (by simp)) (by simp)) fun x H9 e9 p9 => q x H9 ((((((e1).trans e2).trans e3).trans e4).trans e5).trans e9) p9
end
end K01
set_option Elab.async false
set_option linter.all false
set_option maxRecDepth 100000
set_option maxHeartbeats 4000000
namespace K01
open PySem PySem.Spec PyProof.Rows L2 Evl SwX
section
variable {P : Program} {w : World} {K : PySem.W.Frag} {mg : Str → Option Value} {base : Heap} {f : Addr} {fd : FuncData} {C : Nat → Addr} {WV WN NA : Addr}
/-- a value of the menu: data aside of the purse -/
def spValue (K : PySem.W.Frag) : Sp := fun vs H Q _ => ∃ a : Addr, vs = [.ref a] ∧ Pur H a ∧ ∀ x d G H', G a = none → Ex (less a H) G → Ex G H' → Da K G x d → Good d 3 300 → Pur H' a → Q x H'
def menu (n : Int) : List PyData := [.int n, .int (-n), .int 0, .bool true, .bool false, .none, .str "", .str "tin 5", .tuple [], .tuple [.int n, .none], .list [.int n], .list [], .dict [], .dict [(.str "a", .int n)], .tuple [.tuple [.int 1, .tuple []]]]
theorem good_pair {d : PyData} (g : Good d 0 137) : Good (.tuple [d, .none]) 3 300 := by
  obtain ⟨a, b, c, e⟩ := g
  refine ⟨by simp [PyData.showable, PyData.showableAll, a], ?_, by simp [PyData.leavesShort, PyData.leavesShortAll, c], ?_⟩
  · simp [PyData.depth, PyData.depthAll]
    omega
  · simp [PyData.weight, PyData.weightAll]
    omega
theorem good_one {d : PyData} (g : Good d 0 137) : Good (.list [d]) 3 300 := by
  obtain ⟨a, b, c, e⟩ := g
  refine ⟨by simp [PyData.showable, PyData.showableAll, a], ?_, by simp [PyData.leavesShort, PyData.leavesShortAll, c], ?_⟩
  · simp [PyData.depth, PyData.depthAll]
    omega
  · simp [PyData.weight, PyData.weightAll]
    omega
theorem good_dict {d : PyData} (g : Good d 0 137) : Good (.dict [(.str "a", d)]) 3 300 := by
  obtain ⟨a, b, c, e⟩ := g
  have w1 : (PyData.str "a").weight ≤ 10 := by decide
  have s1 : (PyData.str "a").leavesShort 100 = true := by decide
  have s2 : (PyData.str "a").showable = true := rfl
  have s3 : (PyData.str "a").depth = 0 := rfl
  generalize PyData.str "a" = k at w1 s1 s2 s3
  refine ⟨by simp [PyData.showable, PyData.showableKv, a, s2], ?_, by simp [PyData.leavesShort, PyData.leavesShortKv, c, s1], ?_⟩
  · simp [PyData.depth, PyData.depthKv]
    omega
  · simp [PyData.weight, PyData.weightKv]
    omega
theorem good_up {d : PyData} {n w : Nat} (g : Good d n w) (hn : n ≤ 3) (hw : w ≤ 300) : Good d 3 300 := ⟨g.sh, Nat.le_trans g.dp hn, g.lv, Nat.le_trans g.wt hw⟩
theorem menu_good {n : Int} (h : n.natAbs < 10 ^ 41) : ∀ d ∈ menu n, Good d 3 300 := by
  have g := SwX.good_int h
  have g' := SwX.good_int (i := -n) (by rwa [Int.natAbs_neg])
  intro d hd
  unfold menu at hd
  rcases List.mem_cons.mp hd with rfl | hd
  · exact good_up g (by decide) (by decide)
  rcases List.mem_cons.mp hd with rfl | hd
  · exact good_up g' (by decide) (by decide)
  rcases List.mem_cons.mp hd with rfl | hd
  · exact good_up (SwX.good_int (i := 0) (by decide)) (by decide) (by decide)
  rcases List.mem_cons.mp hd with rfl | hd
  · exact ⟨by decide, by decide, by decide, by decide⟩
  rcases List.mem_cons.mp hd with rfl | hd
  · exact ⟨by decide, by decide, by decide, by decide⟩
  rcases List.mem_cons.mp hd with rfl | hd
  · exact ⟨by decide, by decide, by decide, by decide⟩
  rcases List.mem_cons.mp hd with rfl | hd
  · exact ⟨by decide, by decide, by decide, by decide⟩
  rcases List.mem_cons.mp hd with rfl | hd
  · exact ⟨by decide, by decide, by decide, by decide⟩
  rcases List.mem_cons.mp hd with rfl | hd
  · exact ⟨by decide, by decide, by decide, by decide⟩
  rcases List.mem_cons.mp hd with rfl | hd
  · exact good_pair g
  rcases List.mem_cons.mp hd with rfl | hd
  · exact good_one g
  rcases List.mem_cons.mp hd with rfl | hd
  · exact ⟨by decide, by decide, by decide, by decide⟩
  rcases List.mem_cons.mp hd with rfl | hd
  · exact ⟨by decide, by decide, by decide, by decide⟩
  rcases List.mem_cons.mp hd with rfl | hd
  · exact good_dict g
  rcases List.mem_cons.mp hd with rfl | hd
  · exact ⟨by decide +kernel, by decide +kernel, by decide +kernel, by decide +kernel⟩
  cases hd
abbrev s__law_value : Stmt := top 38
abbrev sc__law_value_N : List Str := ["_law_purse_here", "_law_far", "_law_menu"]
theorem sc__law_value : FnScope sc__law_value_N ["_law_purse_here"] (defScope s__law_value) := ⟨rfl, rfl, rfl, by decide +kernel, rfl, by decide +kernel, by decide +kernel⟩
theorem ok_value (D__law_draw : Has P w K mg base "_law_draw" 1 ["_law_purse_here", "_law_many"] spDraw) (F : FnP K "_law_value" s__law_value f fd) (m_len : mg "len" = none) : FnOk P w K mg base CX0 2 f fd ["_law_purse_here"] (spValue K) := by
  refine F.ok sc__law_value (fun vs H Q E h => by obtain ⟨a, rfl, _⟩ := h; rfl) (fun cdv A outer s H vs Q E hr h => ⟨_, PSs.nox
    (pss_cons (ps_set (i := 1) sc__law_value.nd rfl (Or.inl rfl) (pe_op op_mul (pe_ix ix_A (pe_lst (pa_cons pe_int (pa_cons pe_int (pa_cons (pe_op op_pow pe_int pe_int) (pa_cons (pe_op op_pow pe_int pe_int) pa_nil))))) (pe_has D__law_draw (hr.mono (by decide)) (pa_cons (pv 0) (pa_cons pe_int pa_nil))) (fun _ _ => rfl)) (pe_op op_addA pe_int (pe_has D__law_draw (hr.mono (by decide)) (pa_cons (pv 0) (pa_cons pe_int pa_nil)))))) (pss_cons (ps_set (i := 2) sc__law_value.nd rfl (Or.inl rfl) (pe_lst (pa_cons (pv 1) (pa_cons (pe_un un_neg (pv 1)) (pa_cons pe_int (pa_cons pe_bl (pa_cons pe_bl (pa_cons pe_non (pa_cons pe_str (pa_cons pe_str (pa_cons (pe_tup pa_nil) (pa_cons (pe_tup (pa_cons (pv 1) (pa_cons pe_non pa_nil))) (pa_cons (pe_lst (pa_cons (pv 1) pa_nil)) (pa_cons (pe_lst pa_nil) (pa_cons pe_dnewK (pa_cons (pe_disp (pps_cons pe_str (pv 1) pps_nil) rfl rfl (by decide) (by decide)) (pa_cons (pe_tup (pa_cons (pe_tup (pa_cons pe_int (pa_cons (pe_tup pa_nil) pa_nil))) pa_nil)) pa_nil))))))))))))))))) (pss_one (ps_ret (pe_ix ix_A (pv 2) (pe_has D__law_draw (hr.mono (by decide)) (pa_cons (pv 0) (pa_cons (pe_callB call_len_seq (by rfl) m_len (by decide +kernel) (pa_cons (pv 2) pa_nil)) pa_nil))) (fun _ _ => rfl)))))), ?_⟩)
  obtain ⟨a, rfl, p0, q⟩ := h
  have t20 : (10 : Int) ^ (20 : Int).toNat = 100000000000000000000 := by decide
  have t39 : (10 : Int) ^ (39 : Int).toNat = 1000000000000000000000000000000000000000 := by decide
  refine q_asgDr (a := a) (G := less a H) (P := fun v => ∃ n : Int, v = .int n ∧ n.natAbs < 10 ^ 41) (dr_op (P1 := fun v => v ∈ [V.int 1, .int 1000, .int (10 ^ (20 : Int).toNat), .int (10 ^ (39 : Int).toNat)]) (P2 := fun v => ∃ k : Int, v = .int k ∧ 1 ≤ k ∧ k ≤ 9)
    (dr_pick less_at (el_lst (ea_cons ev_c (ea_cons ev_c (ea_cons (ev_op ev_c ev_c (rv_I (by unfold CPow; omega))) (ea_cons (ev_op ev_c ev_c (rv_I (by unfold CPow; omega))) ea_nil)))) (by simp)) fun G' n' _ => dr_draw n' rfl ev_c (by decide) (by decide))
    (dr_op (P1 := fun v => v = .int 1) (P2 := fun v => ∃ k, v = .int k ∧ 0 ≤ k ∧ k < 9) (dr_ev ev_c rfl) (dr_draw less_at rfl ev_c (by decide) (by decide)) fun x y hx hy => ?_) fun x y hx hy => ?_) less_ex p0 fun v H1 pv1 e1 p1 => ?_
  · obtain ⟨k, rfl, k0, k1⟩ := hy
    subst hx
    exact ⟨.int (1 + k), ⟨1 + k, rfl, by omega, by omega⟩, fun H => rv_add⟩
  · obtain ⟨k, rfl, k0, k1⟩ := hy
    obtain ⟨n, rfl, n0, n1⟩ : ∃ n : Int, x = .int n ∧ 1 ≤ n ∧ n ≤ 1000000000000000000000000000000000000000 := by
      simp only [List.mem_cons, List.not_mem_nil, or_false] at hx
      rcases hx with rfl | rfl | rfl | rfl
      · exact ⟨_, rfl, by omega, by omega⟩
      · exact ⟨_, rfl, by omega, by omega⟩
      · exact ⟨_, rfl, by omega, by omega⟩
      · exact ⟨_, rfl, by omega, by omega⟩
    refine ⟨.int (n * k), ⟨n * k, rfl, ?_⟩, fun H => rv_I (Or.inr (by omega))⟩
    have b : n.natAbs * k.natAbs ≤ 1000000000000000000000000000000000000000 * 9 := Nat.mul_le_mul (by omega) (by omega)
    have c : (10 : Nat) ^ 41 = 100000000000000000000000000000000000000000 := by decide
    rw [Int.natAbs_mul]
    omega
  obtain ⟨n, rfl, hn⟩ := pv1
  have at_ : ∃ o, H1 a = some o := let ⟨_, _, _, z, _⟩ := p1; ⟨_, z⟩
  obtain ⟨o, at_⟩ := at_
  refine q_asgY (P := LstOf (DaA K a) (menu n)) (yi_lst daA_mono (ys_cons daA_mono (yi_dat (ev_var rfl) fun _ => .int n) (ys_cons daA_mono (yi_dat (ev_un (ev_var rfl) ru_neg) fun _ => .int (-n)) (ys_cons daA_mono (yi_dat ev_c fun _ => .int 0) (ys_cons daA_mono (yi_dat ev_c fun _ => .bl true) (ys_cons daA_mono (yi_dat ev_c fun _ => .bl false)
    (ys_cons daA_mono (yi_dat ev_c fun _ => .non) (ys_cons daA_mono (yi_dat ev_c fun _ => .str "") (ys_cons daA_mono (yi_dat ev_c fun _ => .str "tin 5") (ys_cons daA_mono (yi_dtup at_ ys_nil (by simp)) (ys_cons daA_mono (yi_dtup at_ (ys_cons daA_mono (yi_dat (ev_var rfl) fun _ => .int n) (ys_cons daA_mono (yi_dat ev_c fun _ => .non) ys_nil)) (by simp))
    (ys_cons daA_mono (yi_dlst at_ (ys_cons daA_mono (yi_dat (ev_var rfl) fun _ => .int n) ys_nil) (by simp)) (ys_cons daA_mono (yi_dlst at_ ys_nil (by simp)) (ys_cons daA_mono (yi_ddic0 at_) (ys_cons daA_mono (yi_ddic1 at_ ev_c (ev_var rfl) fun _ => .int n)
    (ys_cons daA_mono (yi_dtup at_ (ys_cons daA_mono (yi_dtup at_ (ys_cons daA_mono (yi_dat ev_c fun _ => .int 1) (ys_cons daA_mono (yi_dtup at_ ys_nil (by simp)) ys_nil)) (by simp)) ys_nil) (by simp)) ys_nil))))))))))))))) (by unfold menu; simp)) fun v2 H2 e2 l2 => ?_
  obtain ⟨p, vs, rfl, hp, pr⟩ := l2
  have p2 := p1.keep e2
  have ne : p ≠ a := fun z => by
    obtain ⟨_, _, _, z2, _⟩ := p2
    rw [z, z2] at hp
    cases hp
    have l3 := paired_len pr
    simp [menu] at l3
  have len : vs.length = 15 := (paired_len pr).symm
  have hp' : less a H2 p = some (.lst vs) := by rw [less_ne ne]; exact hp
  refine ⟨.ref p, rfl, dr_draw (m := 15) less_at rfl (ev_is (ev_cb (ea_cons (ev_var rfl) ea_nil) fun H4 e4 Q k => ⟨p, vs, rfl, .inl (sq_of (e4 _ _ hp')), k H4 (Ex.refl H4)⟩) (by rw [len]; rfl)) (by decide) (by decide) H2 less_ex p2 _ fun y H3 py e3 p3 => ?_⟩
  obtain ⟨k, rfl, k0, k1⟩ := py
  obtain ⟨v, hv, hv2⟩ := atI_nat (xs := vs) k0 (by rw [len]; exact k1)
  refine .inl ⟨p, vs, k, v, rfl, rfl, sq_of (e3 _ _ hp'), hv, ?_⟩
  have lt : k.toNat < (menu n).length := by rw [paired_len pr, len]; omega
  obtain ⟨v', e4, dv⟩ := paired_get (n := k.toNat) (i := (menu n)[k.toNat]'lt) pr (by simp [lt])
  rw [hv2] at e4
  cases e4
  exact q v _ (less a H2) H3 less_at (ex_less less_at (e1.trans e2)) e3 dv (menu_good hn _ (List.getElem_mem lt)) p3
/-- what is due is told of data -/
def dueD (i : Nat) (d e : PyData) : List PyData := match kd i with
  | 3 => []
  | 4 => [d, e]
  | _ => [d]
theorem good_due {d e : PyData} (i : Nat) (g : Good d 3 300) (g' : Good e 3 300) : Good (.list (dueD i d e)) 10 1000 := by
  obtain ⟨a, b, c, z⟩ := g
  obtain ⟨a', b', c', z'⟩ := g'
  unfold dueD
  split
  · exact ⟨by decide, by decide, by decide, by decide⟩
  · refine ⟨by simp [PyData.showable, PyData.showableAll, a, a'], ?_, by simp [PyData.leavesShort, PyData.leavesShortAll, c, c'], ?_⟩
    · simp [PyData.depth, PyData.depthAll]
      omega
    · simp [PyData.weight, PyData.weightAll]
      omega
  · refine ⟨by simp [PyData.showable, PyData.showableAll, a], ?_, by simp [PyData.leavesShort, PyData.leavesShortAll, c], ?_⟩
    · simp [PyData.depth, PyData.depthAll]
      omega
    · simp [PyData.weight, PyData.weightAll]
      omega
theorem due_da {H : Hp} {v m : V} {d e : PyData} (i : Nat) (h : Da K H v d) (h' : Da K H m e) : Paired (fun d v => Da K H v d) (dueD i d e) (due i v m) := by
  unfold dueD due
  generalize kd i = n
  match n with
  | 3 => exact .nil
  | 4 => exact .cons h (.cons h' .nil)
  | 0 => exact .cons h .nil
  | 1 => exact .cons h .nil
  | 2 => exact .cons h .nil
  | _ + 5 => exact .cons h .nil
theorem due_one {i : Nat} {v m : V} (c : ¬ kd i = 3) (c' : ¬ kd i = 4) : due i v m = [v] := by
  unfold due
  generalize kd i = n at c c' ⊢
  match n, c, c' with
  | 0, _, _ => rfl
  | 1, _, _ => rfl
  | 2, _, _ => rfl
  | 3, c, _ => exact absurd rfl c
  | 4, _, c' => exact absurd rfl c'
  | _ + 5, _, _ => rfl
theorem kd15 : ∀ i : Nat, i < 17 → decide (V.int (i : Nat) = V.int 15) = decide (kd i = 3) := by decide +kernel
def spRight : Sp := fun vs H Q _ => ∃ a : Addr, vs = [.ref a] ∧ Pur H a ∧ ∀ H', Ex (less a H) H' → Q (.bl true) H'
abbrev s__law_right : Stmt := top 39
abbrev sc__law_right_N : List Str := ["_law_purse_here", "_law_value_here", "_law_mate", "_law_told", "_law_at", "_law_due"]
theorem sc__law_right : FnScope sc__law_right_N ["_law_purse_here"] (defScope s__law_right) := ⟨rfl, rfl, rfl, by decide +kernel, rfl, by decide +kernel, by decide +kernel⟩
theorem ok_right (S : SysIn K) (D__law_value : Has P w K mg base "_law_value" 2 ["_law_purse_here"] (spValue K)) (D__law_placed : Has P w K mg base "_law_placed" 3 ["_law_value_here", "_law_mate"] (spTold C)) (D__law_named : Has P w K mg base "_law_named" 3 ["_law_value_here", "_law_mate"] (spTold C))
    (D__law_fault : Has P w K mg base "_law_fault" 1 ["_law_e"] (spFault C)) (D__law_kept : Has P w K mg base "_law_kept" 1 ["_law_e", "_law_at"] (spKept C)) (F : FnP K "_law_right" s__law_right f fd) (m_range : mg "range" = none) (m_repr : mg "repr" = none) : FnG P w K mg base CX0 4 f fd ["_law_purse_here"] spRight := by
  refine SwX.FunD.okG F sc__law_right (fun vs H Q E h => by obtain ⟨a, rfl, _⟩ := h; rfl) (fun cdv A outer s H vs Q E hr calm h => ⟨_, PSs.nox
    (pss_cons (ps_par (i := 1) (j := 2) (by rfl) sc__law_right.nd rfl rfl (by decide) rfl rfl (pa_cons (pe_has D__law_value (hr.mono (by decide)) (pa_cons (pv 0) pa_nil)) (pa_cons (pe_has D__law_value (hr.mono (by decide)) (pa_cons (pv 0) pa_nil)) pa_nil)) (by rfl)) (pss_cons (ps_for PassesOwn.never rfl (pi_list (pe_lst (pa_cons (pe_has D__law_placed (hr.mono (by decide)) (pa_cons (pv 1) (pa_cons (pv 2) pa_nil))) (pa_cons (pe_has D__law_named (hr.mono (by decide)) (pa_cons (pv 1) (pa_cons (pv 2) pa_nil))) pa_nil)))) (pg_name (i := 3) sc__law_right.nd rfl (Or.inl rfl)) (pss_one (ps_for PassesOwn.never rfl (pi_range1 (by rfl) m_range (pa_cons pe_int pa_nil)) (pg_name (i := 4) sc__law_right.nd rfl (Or.inl rfl)) (pss_cons (ps_set (i := 5) sc__law_right.nd rfl (Or.inl rfl) (pe_ifExp (pt_cmpR (op_eqA hr) (pv 4) pe_int (nomark _)) (pe_lst pa_nil) (pe_ifExp (pt_cmpR (op_eqA hr) (pv 4) pe_int (nomark _)) (pe_lst (pa_cons (pv 1) (pa_cons (pv 2) pa_nil))) (pe_lst (pa_cons (pv 1) pa_nil))))) (pss_one (ps_if (pw_or (pt_cmpR (op_neA hr) (pe_has D__law_fault (hr.mono (by decide)) (pa_cons (pe_ix ix_A (pv 3) (pv 4) (fun _ _ => rfl)) pa_nil)) (pv 4) (nomark _)) (pw_or1 (pt_cmpR (op_neA hr) (pe_callB (call_repr S calm hr) (by rfl) m_repr (by decide +kernel) (pa_cons (pe_has D__law_kept (hr.mono (by decide)) (pa_cons (pe_ix ix_A (pv 3) (pv 4) (fun _ _ => rfl)) (pa_cons (pv 4) pa_nil))) pa_nil)) (pe_callB (call_repr S calm hr) (by rfl) m_repr (by decide +kernel) (pa_cons (pv 5) pa_nil)) (nomark _)))).pt (pss_one (ps_ret pe_bl)) pss_nil)))))) (pss_one (ps_ret pe_bl)))), ?_⟩)
  obtain ⟨a, rfl, p0, q⟩ := h
  refine q_par ⟨.ref a, rfl, a, rfl, p0, fun x d G1 H1 n1 g1 e1 dx gx p1 => ⟨.ref a, rfl, a, rfl, p1, fun y e G2 H2 n2 g2 e2 dy gy p2 => ⟨x, y, rfl, ?_⟩⟩⟩
  have x2 : Ex G1 H2 := ((ex_less n1 e1).trans g2).trans e2
  have dx := dx.mono x2
  have dy := dy.mono e2
  have q : ∀ H', Ex H2 H' → Q (.bl true) H' := fun H' z => q H' ((g1.trans x2).trans z)
  clear x2 e2 g2 e1 g1 p2 p1 p0
  refine q_forY (F := fun (_ : Unit) v H => LstOf (Told C x y) (List.range 17) v H) (is := [(), ()]) (fun _ v H H' e h => LstOf.mono told_mono e h) (yi_lst (fun _ v H H' e h => LstOf.mono told_mono e h) (ys_cons (fun _ v H H' e h => LstOf.mono told_mono e h) (fun H3 e3 R k => ⟨x, rfl, y, rfl, x, y, rfl, fun z H4 e4 l => k z H4 e4 l⟩) (ys_cons (fun _ v H H' e h => LstOf.mono told_mono e h) (fun H3 e3 R k => ⟨x, rfl, y, rfl, x, y, rfl, fun z H4 e4 l => k z H4 e4 l⟩) ys_nil)) (by simp))
    (fun _ σ' => ∃ v3 v4 v5, σ' = [some (.ref a), some x, some y, v3, v4, v5]) ⟨_, _, _, rfl⟩ (fun i u t H3 σ' H' _ e3 e4 l z => ?_) fun σ' H' e3 _ => s_ret ev_c fun H4 e4 => q H4 (e3.trans e4)
  obtain ⟨v3, v4, v5, rfl⟩ := z
  obtain ⟨p, vs, rfl, hp, pr⟩ := l
  refine s_forR1 (n := 17) (ea_cons ev_c ea_nil) (by omega) (fun _ σ' H5 => (∃ v4 v5, σ' = [some (.ref a), some x, some y, some (.ref p), v4, v5]) ∧ Ex H' H5) (fun H5 e5 => ⟨⟨_, _, rfl⟩, e5⟩) (fun i σ5 H5 hi z => ?_) fun σ5 H5 z => ?_
  · obtain ⟨⟨v4, v5, rfl⟩, e5⟩ := z
    have hi : i < 17 := by omega
    have E5 : Ex H2 H5 := (e3.trans e4).trans e5
    have D5 : ∀ H6, Ex H5 H6 → Paired (fun d v => Da K H6 v d) (dueD i d e) (due i x y) := fun H6 e6 => due_da i (dx.mono (E5.trans e6)) (dy.mono (E5.trans e6))
    have G5 := good_due i gx gy
    obtain ⟨v, hv, b, rfl, hb⟩ := paired_get (n := i) (i := i) pr (by simp [hi])
    have hv : atI vs (i : Int) = some (.ref b) := by
      have lt := (List.getElem?_eq_some_iff.mp hv).1
      unfold atI
      rw [ixN_nat lt]
      exact hv
    refine q_asgL (xs := due i x y) (el_ifY (b := decide (kd i = 3)) (et_is (et_B (ev_op (ev_var rfl) ev_c (rv_l (rv_eq rfl)))) (kd15 i hi)) (fun c => ?_) fun c => el_ifY (b := decide (kd i = 4)) (et_is (et_B (ev_op (ev_var rfl) ev_c (rv_l (rv_eq rfl)))) (kd4 i hi)) (fun c' => ?_) fun c' => ?_) fun l H6 _ e6 h6 => ?_
    · have c := of_decide_eq_true c
      simp only [due, c]
      exact el_lst ea_nil (by simp)
    · have c' := of_decide_eq_true c'
      simp only [due, c']
      exact el_lst (ea_cons (ev_var rfl) (ea_cons (ev_var rfl) ea_nil)) (by simp)
    · have c := of_decide_eq_false c
      have c' := of_decide_eq_false c'
      rw [due_one c c']
      exact el_lst (ea_cons (ev_var rfl) ea_nil) (by simp)
    · have at6 : ∀ H7, Ex H6 H7 → Ev (tOp (fun x y H Q => rIxL K x y H Q ∨ rIxT K x y H Q) (tVar 3) (tVar 4)) [some (.ref a), some x, some y, some (.ref p), some (.int (i : Nat)), some (.ref l)] H7 (.ref b) := fun H7 e7 => ev_op (ev_var rfl) (ev_var rfl) (rv_at (sq_of (e7 _ _ (e6 _ _ (e5 _ _ hp)))) hv)
      refine s_if (b := false) (et_is (et_or (a := false) (b := false) (et_B (ev_is (ev_op (ev_call (vs := [.ref b]) (ea_cons (at6 _ (Ex.refl _)) ea_nil) fun H7 e7 R k E' => ⟨b, i, _, rfl, hi, hb.mono ((e5.trans e6).trans e7), fun H8 e8 => k H8 e8⟩) (ev_var rfl) (rv_l (rv_ne rfl))) ?_)) fun _ => et_B (ev_is (ev_op
        (ev_reprL (el_call (vs := [.ref b, .int (i : Nat)]) (ea_cons (at6 _ (Ex.refl _)) (ea_cons (ev_var rfl) ea_nil)) fun H7 e7 R k E' => ⟨b, i, x, y, rfl, hi, hb.mono ((e5.trans e6).trans e7), fun r H8 n8 e8 h8 => k r H8 n8 e8 h8⟩) (fun H7 e7 => D5 H7 (e6.trans e7)) G5 (by decide) (by decide))
        (ev_reprV (ev_var rfl) h6 (fun H7 e7 => D5 H7 (e6.trans e7)) G5 (by decide) (by decide)) (rv_l (rv_ne rfl))) ?_)) rfl) (fun z => nomatch z) fun _ H7 e7 => ⟨⟨_, _, rfl⟩, (e5.trans e6).trans e7⟩
      · simp
      · simp
  · obtain ⟨⟨v4, v5, rfl⟩, e5⟩ := z
    exact ⟨⟨_, _, _, rfl⟩, e4.trans e5⟩
end
end K01
set_option Elab.async false
set_option linter.all false
set_option maxRecDepth 100000
set_option maxHeartbeats 4000000
namespace K01
open PySem PySem.Spec PyProof.Rows L2 Evl SwX
section
variable {P : Program} {w : World} {K : PySem.W.Frag} {mg : Str → Option Value} {base : Heap} {f : Addr} {fd : FuncData} {C : Nat → Addr} {WV WN NA : Addr}
/-! ### the inits -/
def ini : Nat → Stmt
  | 0 => inClass (top 2) 0
  | 1 => inClass (top 3) 0
  | 2 => inClass (top 4) 0
  | 3 => inClass (top 5) 0
  | 4 => inClass (top 6) 0
  | 5 => inClass (top 7) 0
  | 6 => inClass (top 8) 0
  | 7 => inClass (top 9) 0
  | 8 => inClass (top 10) 0
  | 9 => inClass (top 11) 0
  | 10 => inClass (top 12) 0
  | 11 => inClass (top 13) 0
  | 12 => inClass (top 15) 0
  | 13 => inClass (top 16) 0
  | 14 => inClass (top 18) 0
  | 16 => inClass (top 20) 0
  | _ => inClass (top 20) 0
abbrev FnI (K : PySem.W.Frag) (q : Str) (st : Stmt) (f : Addr) (fd : FuncData) : Prop := FunD K "__init__" q (defArgs st) (defBody st) (defScope st) [] [] f fd
theorem sci_0 : FnScope ["self", "given"] ["self", "given"] (defScope (ini 0)) := ⟨rfl, rfl, rfl, by decide +kernel, rfl, by decide +kernel, by decide +kernel⟩
theorem has_0 {C : Addr} (T : Oex K C) (n : Free K C "given") (i : Ini K C f) (F : FnI K "InvalidNumber.__init__" (ini 0) f fd) (m : mg "InvalidNumber" = some (.ref C)) : HasX P w K mg base "InvalidNumber" 1 C 1 ["given"] (fun us ws => us ++ ws.reverse) (spIni1 C "given") := by
  refine ⟨f, fd, ["self", "given"], T, i, F.ok sci_0 (fun vs H Q E h => by obtain ⟨a, v, rfl, _⟩ := h; rfl) (fun cdv A outer s H vs Q E hr h => ⟨_, PSs.nox
    (pss_one (ps_setX (pv 0) (pv 1))), ?_⟩), m, kbn_of F 2 [] (fun us ws => us ++ ws.reverse) (fun r z => r.append (vals_rev z)) (fun _ _ _ _ _ _ us ws h1 h2 => match us, ws, h1, h2 with | [_, _], [], _, _ => rfl) |> kbn_pos, kbn_of F 1 ["given"] (fun us ws => us ++ ws.reverse) (fun r z => r.append (vals_rev z)) (fun _ _ _ _ _ _ us ws h1 h2 => match us, ws, h1, h2 with | [_], [_], _, _ => rfl)⟩
  obtain ⟨a, v, rfl, h, q⟩ := h
  exact body_ini1 T n rfl rfl h q
theorem sci_1 : FnScope ["self", "given"] ["self", "given"] (defScope (ini 1)) := ⟨rfl, rfl, rfl, by decide +kernel, rfl, by decide +kernel, by decide +kernel⟩
theorem has_1 {C : Addr} (T : Oex K C) (n : Free K C "given") (i : Ini K C f) (F : FnI K "InvalidText.__init__" (ini 1) f fd) (m : mg "InvalidText" = some (.ref C)) : HasX P w K mg base "InvalidText" 1 C 1 ["given"] (fun us ws => us ++ ws.reverse) (spIni1 C "given") := by
  refine ⟨f, fd, ["self", "given"], T, i, F.ok sci_1 (fun vs H Q E h => by obtain ⟨a, v, rfl, _⟩ := h; rfl) (fun cdv A outer s H vs Q E hr h => ⟨_, PSs.nox
    (pss_one (ps_setX (pv 0) (pv 1))), ?_⟩), m, kbn_of F 2 [] (fun us ws => us ++ ws.reverse) (fun r z => r.append (vals_rev z)) (fun _ _ _ _ _ _ us ws h1 h2 => match us, ws, h1, h2 with | [_, _], [], _, _ => rfl) |> kbn_pos, kbn_of F 1 ["given"] (fun us ws => us ++ ws.reverse) (fun r z => r.append (vals_rev z)) (fun _ _ _ _ _ _ us ws h1 h2 => match us, ws, h1, h2 with | [_], [_], _, _ => rfl)⟩
  obtain ⟨a, v, rfl, h, q⟩ := h
  exact body_ini1 T n rfl rfl h q
theorem sci_2 : FnScope ["self", "given"] ["self", "given"] (defScope (ini 2)) := ⟨rfl, rfl, rfl, by decide +kernel, rfl, by decide +kernel, by decide +kernel⟩
theorem has_2 {C : Addr} (T : Oex K C) (n : Free K C "given") (i : Ini K C f) (F : FnI K "InvalidName.__init__" (ini 2) f fd) (m : mg "InvalidName" = some (.ref C)) : HasX P w K mg base "InvalidName" 1 C 1 ["given"] (fun us ws => us ++ ws.reverse) (spIni1 C "given") := by
  refine ⟨f, fd, ["self", "given"], T, i, F.ok sci_2 (fun vs H Q E h => by obtain ⟨a, v, rfl, _⟩ := h; rfl) (fun cdv A outer s H vs Q E hr h => ⟨_, PSs.nox
    (pss_one (ps_setX (pv 0) (pv 1))), ?_⟩), m, kbn_of F 2 [] (fun us ws => us ++ ws.reverse) (fun r z => r.append (vals_rev z)) (fun _ _ _ _ _ _ us ws h1 h2 => match us, ws, h1, h2 with | [_, _], [], _, _ => rfl) |> kbn_pos, kbn_of F 1 ["given"] (fun us ws => us ++ ws.reverse) (fun r z => r.append (vals_rev z)) (fun _ _ _ _ _ _ us ws h1 h2 => match us, ws, h1, h2 with | [_], [_], _, _ => rfl)⟩
  obtain ⟨a, v, rfl, h, q⟩ := h
  exact body_ini1 T n rfl rfl h q
theorem sci_3 : FnScope ["self", "given"] ["self", "given"] (defScope (ini 3)) := ⟨rfl, rfl, rfl, by decide +kernel, rfl, by decide +kernel, by decide +kernel⟩
theorem has_3 {C : Addr} (T : Oex K C) (n : Free K C "given") (i : Ini K C f) (F : FnI K "InvalidIndex.__init__" (ini 3) f fd) (m : mg "InvalidIndex" = some (.ref C)) : HasX P w K mg base "InvalidIndex" 1 C 1 ["given"] (fun us ws => us ++ ws.reverse) (spIni1 C "given") := by
  refine ⟨f, fd, ["self", "given"], T, i, F.ok sci_3 (fun vs H Q E h => by obtain ⟨a, v, rfl, _⟩ := h; rfl) (fun cdv A outer s H vs Q E hr h => ⟨_, PSs.nox
    (pss_one (ps_setX (pv 0) (pv 1))), ?_⟩), m, kbn_of F 2 [] (fun us ws => us ++ ws.reverse) (fun r z => r.append (vals_rev z)) (fun _ _ _ _ _ _ us ws h1 h2 => match us, ws, h1, h2 with | [_, _], [], _, _ => rfl) |> kbn_pos, kbn_of F 1 ["given"] (fun us ws => us ++ ws.reverse) (fun r z => r.append (vals_rev z)) (fun _ _ _ _ _ _ us ws h1 h2 => match us, ws, h1, h2 with | [_], [_], _, _ => rfl)⟩
  obtain ⟨a, v, rfl, h, q⟩ := h
  exact body_ini1 T n rfl rfl h q
theorem sci_4 : FnScope ["self", "given"] ["self", "given"] (defScope (ini 4)) := ⟨rfl, rfl, rfl, by decide +kernel, rfl, by decide +kernel, by decide +kernel⟩
theorem has_4 {C : Addr} (T : Oex K C) (n : Free K C "given") (i : Ini K C f) (F : FnI K "InvalidClaim.__init__" (ini 4) f fd) (m : mg "InvalidClaim" = some (.ref C)) : HasX P w K mg base "InvalidClaim" 1 C 1 ["given"] (fun us ws => us ++ ws.reverse) (spIni1 C "given") := by
  refine ⟨f, fd, ["self", "given"], T, i, F.ok sci_4 (fun vs H Q E h => by obtain ⟨a, v, rfl, _⟩ := h; rfl) (fun cdv A outer s H vs Q E hr h => ⟨_, PSs.nox
    (pss_one (ps_setX (pv 0) (pv 1))), ?_⟩), m, kbn_of F 2 [] (fun us ws => us ++ ws.reverse) (fun r z => r.append (vals_rev z)) (fun _ _ _ _ _ _ us ws h1 h2 => match us, ws, h1, h2 with | [_, _], [], _, _ => rfl) |> kbn_pos, kbn_of F 1 ["given"] (fun us ws => us ++ ws.reverse) (fun r z => r.append (vals_rev z)) (fun _ _ _ _ _ _ us ws h1 h2 => match us, ws, h1, h2 with | [_], [_], _, _ => rfl)⟩
  obtain ⟨a, v, rfl, h, q⟩ := h
  exact body_ini1 T n rfl rfl h q
theorem sci_5 : FnScope ["self", "given"] ["self", "given"] (defScope (ini 5)) := ⟨rfl, rfl, rfl, by decide +kernel, rfl, by decide +kernel, by decide +kernel⟩
theorem has_5 {C : Addr} (T : Oex K C) (n : Free K C "given") (i : Ini K C f) (F : FnI K "InvalidThing.__init__" (ini 5) f fd) (m : mg "InvalidThing" = some (.ref C)) : HasX P w K mg base "InvalidThing" 1 C 1 ["given"] (fun us ws => us ++ ws.reverse) (spIni1 C "given") := by
  refine ⟨f, fd, ["self", "given"], T, i, F.ok sci_5 (fun vs H Q E h => by obtain ⟨a, v, rfl, _⟩ := h; rfl) (fun cdv A outer s H vs Q E hr h => ⟨_, PSs.nox
    (pss_one (ps_setX (pv 0) (pv 1))), ?_⟩), m, kbn_of F 2 [] (fun us ws => us ++ ws.reverse) (fun r z => r.append (vals_rev z)) (fun _ _ _ _ _ _ us ws h1 h2 => match us, ws, h1, h2 with | [_, _], [], _, _ => rfl) |> kbn_pos, kbn_of F 1 ["given"] (fun us ws => us ++ ws.reverse) (fun r z => r.append (vals_rev z)) (fun _ _ _ _ _ _ us ws h1 h2 => match us, ws, h1, h2 with | [_], [_], _, _ => rfl)⟩
  obtain ⟨a, v, rfl, h, q⟩ := h
  exact body_ini1 T n rfl rfl h q
theorem sci_6 : FnScope ["self", "given"] ["self", "given"] (defScope (ini 6)) := ⟨rfl, rfl, rfl, by decide +kernel, rfl, by decide +kernel, by decide +kernel⟩
theorem has_6 {C : Addr} (T : Oex K C) (n : Free K C "given") (i : Ini K C f) (F : FnI K "NotACatalogue.__init__" (ini 6) f fd) (m : mg "NotACatalogue" = some (.ref C)) : HasX P w K mg base "NotACatalogue" 1 C 1 ["given"] (fun us ws => us ++ ws.reverse) (spIni1 C "given") := by
  refine ⟨f, fd, ["self", "given"], T, i, F.ok sci_6 (fun vs H Q E h => by obtain ⟨a, v, rfl, _⟩ := h; rfl) (fun cdv A outer s H vs Q E hr h => ⟨_, PSs.nox
    (pss_one (ps_setX (pv 0) (pv 1))), ?_⟩), m, kbn_of F 2 [] (fun us ws => us ++ ws.reverse) (fun r z => r.append (vals_rev z)) (fun _ _ _ _ _ _ us ws h1 h2 => match us, ws, h1, h2 with | [_, _], [], _, _ => rfl) |> kbn_pos, kbn_of F 1 ["given"] (fun us ws => us ++ ws.reverse) (fun r z => r.append (vals_rev z)) (fun _ _ _ _ _ _ us ws h1 h2 => match us, ws, h1, h2 with | [_], [_], _, _ => rfl)⟩
  obtain ⟨a, v, rfl, h, q⟩ := h
  exact body_ini1 T n rfl rfl h q
theorem sci_7 : FnScope ["self", "given"] ["self", "given"] (defScope (ini 7)) := ⟨rfl, rfl, rfl, by decide +kernel, rfl, by decide +kernel, by decide +kernel⟩
theorem has_7 {C : Addr} (T : Oex K C) (n : Free K C "given") (i : Ini K C f) (F : FnI K "NotWeights.__init__" (ini 7) f fd) (m : mg "NotWeights" = some (.ref C)) : HasX P w K mg base "NotWeights" 1 C 1 ["given"] (fun us ws => us ++ ws.reverse) (spIni1 C "given") := by
  refine ⟨f, fd, ["self", "given"], T, i, F.ok sci_7 (fun vs H Q E h => by obtain ⟨a, v, rfl, _⟩ := h; rfl) (fun cdv A outer s H vs Q E hr h => ⟨_, PSs.nox
    (pss_one (ps_setX (pv 0) (pv 1))), ?_⟩), m, kbn_of F 2 [] (fun us ws => us ++ ws.reverse) (fun r z => r.append (vals_rev z)) (fun _ _ _ _ _ _ us ws h1 h2 => match us, ws, h1, h2 with | [_, _], [], _, _ => rfl) |> kbn_pos, kbn_of F 1 ["given"] (fun us ws => us ++ ws.reverse) (fun r z => r.append (vals_rev z)) (fun _ _ _ _ _ _ us ws h1 h2 => match us, ws, h1, h2 with | [_], [_], _, _ => rfl)⟩
  obtain ⟨a, v, rfl, h, q⟩ := h
  exact body_ini1 T n rfl rfl h q
theorem sci_8 : FnScope ["self", "index"] ["self", "index"] (defScope (ini 8)) := ⟨rfl, rfl, rfl, by decide +kernel, rfl, by decide +kernel, by decide +kernel⟩
theorem has_8 {C : Addr} (T : Oex K C) (n : Free K C "index") (i : Ini K C f) (F : FnI K "InvalidKinds.__init__" (ini 8) f fd) (m : mg "InvalidKinds" = some (.ref C)) : HasX P w K mg base "InvalidKinds" 1 C 1 ["index"] (fun us ws => us ++ ws.reverse) (spIni1 C "index") := by
  refine ⟨f, fd, ["self", "index"], T, i, F.ok sci_8 (fun vs H Q E h => by obtain ⟨a, v, rfl, _⟩ := h; rfl) (fun cdv A outer s H vs Q E hr h => ⟨_, PSs.nox
    (pss_one (ps_setX (pv 0) (pv 1))), ?_⟩), m, kbn_of F 2 [] (fun us ws => us ++ ws.reverse) (fun r z => r.append (vals_rev z)) (fun _ _ _ _ _ _ us ws h1 h2 => match us, ws, h1, h2 with | [_, _], [], _, _ => rfl) |> kbn_pos, kbn_of F 1 ["index"] (fun us ws => us ++ ws.reverse) (fun r z => r.append (vals_rev z)) (fun _ _ _ _ _ _ us ws h1 h2 => match us, ws, h1, h2 with | [_], [_], _, _ => rfl)⟩
  obtain ⟨a, v, rfl, h, q⟩ := h
  exact body_ini1 T n rfl rfl h q
theorem sci_9 : FnScope ["self", "index"] ["self", "index"] (defScope (ini 9)) := ⟨rfl, rfl, rfl, by decide +kernel, rfl, by decide +kernel, by decide +kernel⟩
theorem has_9 {C : Addr} (T : Oex K C) (n : Free K C "index") (i : Ini K C f) (F : FnI K "InvalidRecipes.__init__" (ini 9) f fd) (m : mg "InvalidRecipes" = some (.ref C)) : HasX P w K mg base "InvalidRecipes" 1 C 1 ["index"] (fun us ws => us ++ ws.reverse) (spIni1 C "index") := by
  refine ⟨f, fd, ["self", "index"], T, i, F.ok sci_9 (fun vs H Q E h => by obtain ⟨a, v, rfl, _⟩ := h; rfl) (fun cdv A outer s H vs Q E hr h => ⟨_, PSs.nox
    (pss_one (ps_setX (pv 0) (pv 1))), ?_⟩), m, kbn_of F 2 [] (fun us ws => us ++ ws.reverse) (fun r z => r.append (vals_rev z)) (fun _ _ _ _ _ _ us ws h1 h2 => match us, ws, h1, h2 with | [_, _], [], _, _ => rfl) |> kbn_pos, kbn_of F 1 ["index"] (fun us ws => us ++ ws.reverse) (fun r z => r.append (vals_rev z)) (fun _ _ _ _ _ _ us ws h1 h2 => match us, ws, h1, h2 with | [_], [_], _, _ => rfl)⟩
  obtain ⟨a, v, rfl, h, q⟩ := h
  exact body_ini1 T n rfl rfl h q
theorem sci_10 : FnScope ["self", "index"] ["self", "index"] (defScope (ini 10)) := ⟨rfl, rfl, rfl, by decide +kernel, rfl, by decide +kernel, by decide +kernel⟩
theorem has_10 {C : Addr} (T : Oex K C) (n : Free K C "index") (i : Ini K C f) (F : FnI K "InvalidMembers.__init__" (ini 10) f fd) (m : mg "InvalidMembers" = some (.ref C)) : HasX P w K mg base "InvalidMembers" 1 C 1 ["index"] (fun us ws => us ++ ws.reverse) (spIni1 C "index") := by
  refine ⟨f, fd, ["self", "index"], T, i, F.ok sci_10 (fun vs H Q E h => by obtain ⟨a, v, rfl, _⟩ := h; rfl) (fun cdv A outer s H vs Q E hr h => ⟨_, PSs.nox
    (pss_one (ps_setX (pv 0) (pv 1))), ?_⟩), m, kbn_of F 2 [] (fun us ws => us ++ ws.reverse) (fun r z => r.append (vals_rev z)) (fun _ _ _ _ _ _ us ws h1 h2 => match us, ws, h1, h2 with | [_, _], [], _, _ => rfl) |> kbn_pos, kbn_of F 1 ["index"] (fun us ws => us ++ ws.reverse) (fun r z => r.append (vals_rev z)) (fun _ _ _ _ _ _ us ws h1 h2 => match us, ws, h1, h2 with | [_], [_], _, _ => rfl)⟩
  obtain ⟨a, v, rfl, h, q⟩ := h
  exact body_ini1 T n rfl rfl h q
theorem sci_11 : FnScope ["self", "index"] ["self", "index"] (defScope (ini 11)) := ⟨rfl, rfl, rfl, by decide +kernel, rfl, by decide +kernel, by decide +kernel⟩
theorem has_11 {C : Addr} (T : Oex K C) (n : Free K C "index") (i : Ini K C f) (F : FnI K "InvalidRows.__init__" (ini 11) f fd) (m : mg "InvalidRows" = some (.ref C)) : HasX P w K mg base "InvalidRows" 1 C 1 ["index"] (fun us ws => us ++ ws.reverse) (spIni1 C "index") := by
  refine ⟨f, fd, ["self", "index"], T, i, F.ok sci_11 (fun vs H Q E h => by obtain ⟨a, v, rfl, _⟩ := h; rfl) (fun cdv A outer s H vs Q E hr h => ⟨_, PSs.nox
    (pss_one (ps_setX (pv 0) (pv 1))), ?_⟩), m, kbn_of F 2 [] (fun us ws => us ++ ws.reverse) (fun r z => r.append (vals_rev z)) (fun _ _ _ _ _ _ us ws h1 h2 => match us, ws, h1, h2 with | [_, _], [], _, _ => rfl) |> kbn_pos, kbn_of F 1 ["index"] (fun us ws => us ++ ws.reverse) (fun r z => r.append (vals_rev z)) (fun _ _ _ _ _ _ us ws h1 h2 => match us, ws, h1, h2 with | [_], [_], _, _ => rfl)⟩
  obtain ⟨a, v, rfl, h, q⟩ := h
  exact body_ini1 T n rfl rfl h q
theorem sci_12 : FnScope ["self", "given"] ["self", "given"] (defScope (ini 12)) := ⟨rfl, rfl, rfl, by decide +kernel, rfl, by decide +kernel, by decide +kernel⟩
theorem has_12 {C : Addr} (T : Oex K C) (n : Free K C "given") (i : Ini K C f) (F : FnI K "UnknownName.__init__" (ini 12) f fd) (m : mg "UnknownName" = some (.ref C)) : HasX P w K mg base "UnknownName" 1 C 1 ["given"] (fun us ws => us ++ ws.reverse) (spIni1 C "given") := by
  refine ⟨f, fd, ["self", "given"], T, i, F.ok sci_12 (fun vs H Q E h => by obtain ⟨a, v, rfl, _⟩ := h; rfl) (fun cdv A outer s H vs Q E hr h => ⟨_, PSs.nox
    (pss_one (ps_setX (pv 0) (pv 1))), ?_⟩), m, kbn_of F 2 [] (fun us ws => us ++ ws.reverse) (fun r z => r.append (vals_rev z)) (fun _ _ _ _ _ _ us ws h1 h2 => match us, ws, h1, h2 with | [_, _], [], _, _ => rfl) |> kbn_pos, kbn_of F 1 ["given"] (fun us ws => us ++ ws.reverse) (fun r z => r.append (vals_rev z)) (fun _ _ _ _ _ _ us ws h1 h2 => match us, ws, h1, h2 with | [_], [_], _, _ => rfl)⟩
  obtain ⟨a, v, rfl, h, q⟩ := h
  exact body_ini1 T n rfl rfl h q
theorem sci_13 : FnScope ["self", "index"] ["self", "index"] (defScope (ini 13)) := ⟨rfl, rfl, rfl, by decide +kernel, rfl, by decide +kernel, by decide +kernel⟩
theorem has_13 {C : Addr} (T : Oex K C) (n : Free K C "index") (i : Ini K C f) (F : FnI K "InUse.__init__" (ini 13) f fd) (m : mg "InUse" = some (.ref C)) : HasX P w K mg base "InUse" 1 C 1 ["index"] (fun us ws => us ++ ws.reverse) (spIni1 C "index") := by
  refine ⟨f, fd, ["self", "index"], T, i, F.ok sci_13 (fun vs H Q E h => by obtain ⟨a, v, rfl, _⟩ := h; rfl) (fun cdv A outer s H vs Q E hr h => ⟨_, PSs.nox
    (pss_one (ps_setX (pv 0) (pv 1))), ?_⟩), m, kbn_of F 2 [] (fun us ws => us ++ ws.reverse) (fun r z => r.append (vals_rev z)) (fun _ _ _ _ _ _ us ws h1 h2 => match us, ws, h1, h2 with | [_, _], [], _, _ => rfl) |> kbn_pos, kbn_of F 1 ["index"] (fun us ws => us ++ ws.reverse) (fun r z => r.append (vals_rev z)) (fun _ _ _ _ _ _ us ws h1 h2 => match us, ws, h1, h2 with | [_], [_], _, _ => rfl)⟩
  obtain ⟨a, v, rfl, h, q⟩ := h
  exact body_ini1 T n rfl rfl h q
theorem sci_14 : FnScope ["self", "limit"] ["self", "limit"] (defScope (ini 14)) := ⟨rfl, rfl, rfl, by decide +kernel, rfl, by decide +kernel, by decide +kernel⟩
theorem has_14 {C : Addr} (T : Oex K C) (n : Free K C "limit") (i : Ini K C f) (F : FnI K "TooMany.__init__" (ini 14) f fd) (m : mg "TooMany" = some (.ref C)) : HasX P w K mg base "TooMany" 1 C 1 ["limit"] (fun us ws => us ++ ws.reverse) (spIni1 C "limit") := by
  refine ⟨f, fd, ["self", "limit"], T, i, F.ok sci_14 (fun vs H Q E h => by obtain ⟨a, v, rfl, _⟩ := h; rfl) (fun cdv A outer s H vs Q E hr h => ⟨_, PSs.nox
    (pss_one (ps_setX (pv 0) (pv 1))), ?_⟩), m, kbn_of F 2 [] (fun us ws => us ++ ws.reverse) (fun r z => r.append (vals_rev z)) (fun _ _ _ _ _ _ us ws h1 h2 => match us, ws, h1, h2 with | [_, _], [], _, _ => rfl) |> kbn_pos, kbn_of F 1 ["limit"] (fun us ws => us ++ ws.reverse) (fun r z => r.append (vals_rev z)) (fun _ _ _ _ _ _ us ws h1 h2 => match us, ws, h1, h2 with | [_], [_], _, _ => rfl)⟩
  obtain ⟨a, v, rfl, h, q⟩ := h
  exact body_ini1 T n rfl rfl h q
theorem sci_16 : FnScope ["self", "index", "shown"] ["self", "index", "shown"] (defScope (ini 16)) := ⟨rfl, rfl, rfl, by decide +kernel, rfl, by decide +kernel, by decide +kernel⟩
theorem has_16 {C : Addr} (T : Oex K C) (n : Free K C "index") (n2 : Free K C "shown") (i : Ini K C f) (F : FnI K "Broken.__init__" (ini 16) f fd) (m : mg "Broken" = some (.ref C)) : HasX P w K mg base "Broken" 1 C 2 ["shown", "index"] (fun us ws => us ++ ws.reverse) (spIni2 C "index" "shown") := by
  refine ⟨f, fd, ["self", "index", "shown"], T, i, F.ok sci_16 (fun vs H Q E h => by obtain ⟨a, v, u, rfl, _⟩ := h; rfl) (fun cdv A outer s H vs Q E hr h => ⟨_, PSs.nox
    (pss_cons (ps_setX (pv 0) (pv 1)) (pss_one (ps_setX (pv 0) (pv 2)))), ?_⟩), m, kbn_of F 3 [] (fun us ws => us ++ ws.reverse) (fun r z => r.append (vals_rev z)) (fun _ _ _ _ _ _ us ws h1 h2 => match us, ws, h1, h2 with | [_, _, _], [], _, _ => rfl) |> kbn_pos, kbn_of F 1 ["shown", "index"] (fun us ws => us ++ ws.reverse) (fun r z => r.append (vals_rev z)) (fun _ _ _ _ _ _ us ws h1 h2 => match us, ws, h1, h2 with | [_], [_, _], _, _ => rfl)⟩
  obtain ⟨a, v, u, rfl, h, q⟩ := h
  exact body_ini2 T n n2 rfl rfl rfl h q
/-! ### the law -/
def cnt (ns : List Int) : Int := if (if (8 : Int) < ns.length then (8 : Int) else ns.length) > 2 then (if (8 : Int) < ns.length then (8 : Int) else ns.length) else 2
theorem cnt_le (ns : List Int) : cnt ns ≤ 8 := by
  unfold cnt
  split <;> (try split) <;> omega
theorem cnt_ok (ns : List Int) : 0 ≤ cnt ns ∧ cnt ns ≤ 40000 := by
  unfold cnt
  split <;> (try split) <;> omega
def spLaw (K : PySem.W.Frag) : Sp := fun vs H Q _ => ∃ (a : Addr) (ns : List Int), vs = [.ref a] ∧ SqL K H a (ns.map V.int) ∧ ∀ H', Q (.bl true) H'
def lims : List PyData := [.int 4, .int 10, .int 3, .int 9, .int 400, .int 1000, .int 100, .int 100, .int 6]
def limsV : List V := [.int 4, .int 10, .int 3, .int 9, .int 400, .int 1000, .int 100, .int 100, .int 6]
theorem lims_da (H : Hp) : Paired (fun d v => Da K H v d) lims limsV := .cons (.int _) (.cons (.int _) (.cons (.int _) (.cons (.int _) (.cons (.int _) (.cons (.int _) (.cons (.int _) (.cons (.int _) (.cons (.int _) .nil))))))))
theorem lims_good : SwX.Good (.list lims) 3 300 := ⟨by decide +kernel, by decide +kernel, by decide +kernel, by decide +kernel⟩
abbrev s_law : Stmt := top 40
abbrev sc_law_N : List Str := ["_law_script", "_law_limits", "_law_k"]
theorem sc_law : FnScope sc_law_N ["_law_script"] (defScope s_law) := ⟨rfl, rfl, rfl, by decide +kernel, rfl, by decide +kernel, by decide +kernel⟩
theorem ok_law (S : SysIn K) (D__law_seed : Has P w K mg base "_law_seed" 1 ["_law_script", "_law_k"] (spSeed K)) (D__law_purse : Has P w K mg base "_law_purse" 1 ["_law_number"] spPurse) (D__law_right : HasG P w K mg base "_law_right" 4 ["_law_purse_here"] spRight) (F : FnP K "law" s_law f fd)
    (g_MOST_KINDS : ∃ t, mg "MOST_KINDS" = some (.int 4 t)) (g_MOST_RECIPES : ∃ t, mg "MOST_RECIPES" = some (.int 10 t)) (g_MOST_PARTS : ∃ t, mg "MOST_PARTS" = some (.int 3 t)) (g_MOST_OWN : ∃ t, mg "MOST_OWN" = some (.int 9 t)) (g_MOST_LENGTH : ∃ t, mg "MOST_LENGTH" = some (.int 400 t)) (g_MOST_TOGETHER : ∃ t, mg "MOST_TOGETHER" = some (.int 1000 t)) (g_MOST_PACKINGS : ∃ t, mg "MOST_PACKINGS" = some (.int 100 t)) (g_MOST_BUILT : ∃ t, mg "MOST_BUILT" = some (.int 100 t)) (g_MOST_TRIED : ∃ t, mg "MOST_TRIED" = some (.int 6 t)) (m_len : mg "len" = none) (m_repr : mg "repr" = none) (m_all : mg "all" = none) (m_range : mg "range" = none) (m_max : mg "max" = none) (m_min : mg "min" = none) : FnG P w K mg base CX0 5 f fd ["_law_script"] (spLaw K) := by
  refine SwX.FunD.okG F sc_law (fun vs H Q E h => by obtain ⟨a, ns, rfl, _⟩ := h; rfl) (fun cdv A outer s H vs Q E hr calm h => ⟨_, PSs.nox
    (pss_cons (ps_set (i := 1) sc_law.nd rfl (Or.inl rfl) (pe_lst (pa_cons (pe_gint g_MOST_KINDS) (pa_cons (pe_gint g_MOST_RECIPES) (pa_cons (pe_gint g_MOST_PARTS) (pa_cons (pe_gint g_MOST_OWN) (pa_cons (pe_gint g_MOST_LENGTH) (pa_cons (pe_gint g_MOST_TOGETHER) (pa_cons (pe_gint g_MOST_PACKINGS) pa_nil))))))))) (pss_cons (ps_if (pt_cmpR (op_neA hr) (pe_callB (call_repr S calm hr) (by rfl) m_repr (by decide +kernel) (pa_cons (pe_op op_addA (pv 1) (pe_lst (pa_cons (pe_gint g_MOST_BUILT) (pa_cons (pe_gint g_MOST_TRIED) pa_nil)))) pa_nil)) (pe_callB (call_repr S calm hr) (by rfl) m_repr (by decide +kernel) (pa_cons (pe_lst (pa_cons pe_int (pa_cons pe_int (pa_cons pe_int (pa_cons pe_int (pa_cons pe_int (pa_cons pe_int (pa_cons pe_int (pa_cons pe_int (pa_cons pe_int pa_nil)))))))))) pa_nil)) (nomark _)) (pss_one (ps_ret pe_bl)) pss_nil) (pss_one (ps_ret (pe_callB (cr_all rfl) (by rfl) m_all (by decide +kernel) (pa_cons (pe_lc (own := [("_law_k", 2)]) (g := gName 2) (tt := tYes) rfl sc_law.nd (pi_range1 (by rfl) m_range (pa_cons (pe_callB (call_max2 rfl) (by rfl) m_max (by decide +kernel) (pa_cons pe_int (pa_cons (pe_callB (call_min2 rfl) (by rfl) m_min (by decide +kernel) (pa_cons (pe_callB call_len_seq (by rfl) m_len (by decide +kernel) (pa_cons (pv 0) pa_nil)) (pa_cons pe_int pa_nil))) pa_nil))) pa_nil)) (blkOk_by (N := sc_law_N) (sc := defScope s_law) (by decide +kernel)) (fun _ _ _ _ _ => pg_name (i := 2) sc_law.nd rfl (Or.inl rfl)) (fun _ _ _ _ _ => pts_nil) (fun _ _ _ _ _ => (pe_hasG D__law_right (hr.mono (by decide)) calm (pa_cons (pe_has D__law_purse (hr.mono (by decide)) (pa_cons (pe_has D__law_seed (hr.mono (by decide)) (pa_cons (pv 0) (pa_cons (pv 2) pa_nil))) pa_nil)) pa_nil)))) pa_nil)))))), ?_⟩)
  obtain ⟨a, ns, rfl, hS, q⟩ := h
  refine q_asgL (xs := [.int 4, .int 10, .int 3, .int 9, .int 400, .int 1000, .int 100]) (el_lst (ea_cons ev_c (ea_cons ev_c (ea_cons ev_c (ea_cons ev_c (ea_cons ev_c (ea_cons ev_c (ea_cons ev_c ea_nil))))))) (by simp)) fun l H1 _ e1 h1 => ?_
  refine q_when (b := false) (et_is (et_B (ev_op (ev_reprL (xs := limsV) (ds := lims) (el_cat (ev_var rfl) h1 (el_lst (ea_cons ev_c (ea_cons ev_c ea_nil)) (by simp)) (by simp [limsV])) (fun H2 _ => lims_da H2) lims_good (by decide) (by decide))
    (ev_reprL (xs := limsV) (ds := lims) (el_lst (ea_cons ev_c (ea_cons ev_c (ea_cons ev_c (ea_cons ev_c (ea_cons ev_c (ea_cons ev_c (ea_cons ev_c (ea_cons ev_c (ea_cons ev_c ea_nil))))))))) (by simp [limsV])) (fun H2 _ => lims_da H2) lims_good (by decide) (by decide)) (rv_l (rv_ne rfl)))) (by simp)) (fun z => nomatch z) fun _ H2 e2 => ?_
  refine s_ret (ev_allT (bs := ((List.range (cnt ns).toNat).map fun _ => true)) (el_is (el_lcR1 (j := 2) (n := cnt ns) (fun _ => true) (fun _ => .bl true) (ea_cons (ev_is (ev_max2 ev_c (ev_min2 (ev_len (ev_var rfl) (ex_l (e1.trans e2) hS)) ev_c)) (by rw [List.length_map]; rfl)) ea_nil) (cnt_ok ns) (fun _ => rfl) (fun i H3 _ _ H4 _ Q' k => k H4 (Ex.refl H4)) fun i H3 e3 lt _ => ?_) (by unfold given; rw [List.filter_eq_self.mpr (fun _ _ => rfl), List.map_map]; rfl))) fun H3 _ => ?_
  · have small := cnt_ok ns
    intro H4 e4 Q' k
    refine ⟨.ref a, rfl, .int i, rfl, a, ns, i, rfl, ex_l (((e1.trans e2).trans e3).trans e4) hS, by omega, by have := cnt_le ns; omega, fun n H5 e5 => ⟨n, rfl, fun b H6 hb e6 p6 => ⟨b, rfl, p6, fun H7 e7 => k H7 (e5.trans ((ex_less hb e6).trans e7))⟩⟩⟩
  · have z : (((List.range (cnt ns).toNat).map fun _ => true).all id) = true := by simp
    rw [z]
    exact q H3
end
end K01
set_option Elab.async false
set_option linter.all false
set_option maxRecDepth 100000
set_option maxHeartbeats 0
namespace K01
open PySem PySem.Spec PyProof.Rows L2 SwX
abbrev R : PySem.W.OpenRow := PySem.W.OpenLaw.row PySem.Challenge.rw_sealedweights_k01_limits_and_errors
def dL (x : Str) (i : Nat) : He.DefD := ⟨(x, none), x, x, defArgs (top i), defBody (top i), defScope (top i), [], []⟩
def dI (c q : Str) (st : Stmt) : He.DefD := ⟨(c, some "__init__"), "__init__", q, defArgs st, defBody st, defScope st, [], []⟩
def fn : List He.DefD := [dL "_law_seed" 31, dL "_law_purse" 32, dL "_law_draw" 33, dL "_law_fault" 34, dL "_law_kept" 35, dL "_law_placed" 36, dL "_law_named" 37, dL "_law_value" 38, dL "_law_right" 39, dL "law" 40, dI "InvalidNumber" "InvalidNumber.__init__" (ini 0), dI "InvalidText" "InvalidText.__init__" (ini 1), dI "InvalidName" "InvalidName.__init__" (ini 2), dI "InvalidIndex" "InvalidIndex.__init__" (ini 3), dI "InvalidClaim" "InvalidClaim.__init__" (ini 4), dI "InvalidThing" "InvalidThing.__init__" (ini 5), dI "NotACatalogue" "NotACatalogue.__init__" (ini 6), dI "NotWeights" "NotWeights.__init__" (ini 7), dI "InvalidKinds" "InvalidKinds.__init__" (ini 8), dI "InvalidRecipes" "InvalidRecipes.__init__" (ini 9), dI "InvalidMembers" "InvalidMembers.__init__" (ini 10), dI "InvalidRows" "InvalidRows.__init__" (ini 11), dI "UnknownName" "UnknownName.__init__" (ini 12), dI "InUse" "InUse.__init__" (ini 13), dI "TooMany" "TooMany.__init__" (ini 14), dI "Broken" "Broken.__init__" (ini 16)]
def fa : List He.Fa := [.glo "InvalidNumber", .glo "InvalidText", .glo "InvalidName", .glo "InvalidIndex", .glo "InvalidClaim", .glo "InvalidThing", .glo "NotACatalogue", .glo "NotWeights", .glo "InvalidKinds", .glo "InvalidRecipes", .glo "InvalidMembers", .glo "InvalidRows", .glo "UnknownName", .glo "InUse", .glo "TooMany", .glo "NothingToUndo", .glo "Broken", .glo "WrongValue", .glo "WrongName", .glo "NoAnswer", .glo "_law_seed", .glo "_law_purse", .glo "_law_draw", .glo "_law_fault", .glo "_law_kept", .glo "_law_placed", .glo "_law_named", .glo "_law_value", .glo "_law_right", .glo "law", .free "len", .free "repr", .free "isinstance", .free "range", .free "all", .free "max", .free "min", .free "int", .free "divmod", .free "ValueError", .free "LookupError", .free "ArithmeticError", .int "MOST_KINDS" 4, .int "MOST_RECIPES" 10, .int "MOST_PARTS" 3, .int "MOST_OWN" 9, .int "MOST_LENGTH" 400, .int "MOST_TOGETHER" 1000, .int "MOST_PACKINGS" 100, .int "MOST_BUILT" 100, .int "MOST_TRIED" 6]
/-! ### what is looked up of the classes -/
def Cx (K : PySem.W.Frag) (i : Nat) : Addr := He.ga K (nm i)
def bsN (i : Nat) : Nat := if i < 12 then 0 else if i < 14 then 1 else 2
def all17 (p : Nat → Bool) : Bool := (List.range 17).all p
theorem all17_ok {p : Nat → Bool} (h : all17 p = true) : ∀ i, i < 17 → p i = true := fun i hi => List.all_eq_true.mp h i (List.mem_range.mpr hi)
def kitB (K : PySem.W.Frag) (i : Nat) (v : Value) (b : Bool) : Bool := oB (PySem.W.kitOne K (.ref (Cx K i)) v) (some b)
theorem kitB_ok {K : PySem.W.Frag} {i : Nat} {v : Value} {b : Bool} (h : kitB K i v b = true) : PySem.W.kitOne K (.ref (Cx K i)) v = some b := of_decide_eq_true h
def freeB (K : PySem.W.Frag) (i : Nat) (f : Str) : Bool := He.eqO (PySem.W.findIn K (.ref (Cx K i)) f) (some none)
def chk1 (K : PySem.W.Frag) : Bool := all17 fun i => oexB K (bsN i) (Cx K i)
def chk2 (K : PySem.W.Frag) : Bool := all17 fun i => all17 fun j => kitB K i (.ref (Cx K j)) (decide (i = j))
def chk3 (K : PySem.W.Frag) : Bool := all17 fun i => kitB K i (.ref (He.ga K "WrongValue")) (decide ((i : Int) < 12)) && (kitB K i (.ref (He.ga K "WrongName")) (decide ((11 : Int) < i) && decide ((i : Int) < 14)) && (kitB K i (.ref (He.ga K "NoAnswer")) (decide ((13 : Int) < i)) &&
  (kitB K i (.type "ValueError") (decide ((i : Int) < 12)) && (kitB K i (.type "LookupError") (decide ((11 : Int) < i) && decide ((i : Int) < 14)) && kitB K i (.type "ArithmeticError") (decide ((13 : Int) < i))))))
def chk4 (K : PySem.W.Frag) : Bool := all17 fun i => (["given", "index", "limit", "shown"] : List Str).all fun f => freeB K i f
def chk5 (K : PySem.W.Frag) : Bool := all17 fun i => decide (i = 15) || iniB K (Cx K i)
def chk6 (K : PySem.W.Frag) : Bool := PySem.W.excIn K (Cx K 15) (mroN 2) (newN 2)
def chk (K : PySem.W.Frag) : Bool := chk1 K && (chk2 K && (chk3 K && (chk4 K && (chk5 K && chk6 K))))
abbrev hk : PySem.W.Hook := hookS 5 fa fn chk
def ob (s : PySem.W.SharedT) : AlS := obsSG 5 fa fn chk (HandSHeadRun.getT s)
theorem ob_eq (s : PySem.W.SharedT) : ob s = hk.obs s.abs := obsSG_eq (HandSHeadRun.getT_eq s)
def names1 : List PySem.Str := ["__name__", "WrongValue", "InvalidNumber", "InvalidText", "InvalidName", "InvalidIndex", "InvalidClaim", "InvalidThing", "NotACatalogue", "NotWeights", "InvalidKinds", "InvalidRecipes", "InvalidMembers", "InvalidRows", "WrongName", "UnknownName", "InUse", "NoAnswer", "TooMany", "NothingToUndo"]
def names2 : List PySem.Str := ["Broken", "MOST_KINDS", "MOST_RECIPES", "MOST_PARTS", "MOST_OWN", "MOST_LENGTH", "MOST_TOGETHER", "MOST_PACKINGS", "MOST_BUILT", "MOST_TRIED", "_law_seed", "_law_purse", "_law_draw", "_law_fault", "_law_kept", "_law_placed", "_law_named", "_law_value", "_law_right"]
def names : List PySem.Str := names1 ++ names2
theorem run (w : World) : HandSHeadRun.RunEq R (PySem.W.view R.prog [40]) hk ob 20000 names w := by
  intro os
  kernel_rfl
end K01
set_option Elab.async false
set_option linter.all false
set_option maxRecDepth 100000
set_option maxHeartbeats 0
namespace K01
open PySem PySem.Spec PyProof.Rows L2 SwX
section
variable {P : Program} {w : World} {K : PySem.W.Frag} {h : Heap} {mg : Str → Option Value} {base : Heap}
theorem cl_of (X : K.In h) (G : h.Ns mainGlobals mg) (ck : chk K = true) (sd : He.SaysD fa fn K) : Cl P w K mg base (Cx K) (He.ga K "WrongValue") (He.ga K "WrongName") (He.ga K "NoAnswer") := by
  unfold chk chk1 chk2 chk3 chk4 chk5 chk6 at ck
  simp only [Bool.and_eq_true] at ck
  obtain ⟨c1, c2, c3, c4, c5, c6⟩ := ck
  have oex : ∀ i, i < 17 → Oex K (Cx K i) := fun i hi => oex_of (all17_ok c1 i hi)
  have fre : ∀ i, i < 17 → ∀ f ∈ (["given", "index", "limit", "shown"] : List Str), Free K (Cx K i) f := fun i hi f hf => free_of (He.eqO_ok (List.all_eq_true.mp (all17_ok c4 i hi) f hf))
  have three : ∀ i, i < 17 → _ := fun i hi => all17_ok c3 i hi
  have nms : ∀ i, i < 17 → mg (nm i) = some (.ref (Cx K i)) := fun i hi => match i, hi with
    | 0, _ => He.glo_ok X G (sd.fact 0 (f := .glo "InvalidNumber") rfl)
    | 1, _ => He.glo_ok X G (sd.fact 1 (f := .glo "InvalidText") rfl)
    | 2, _ => He.glo_ok X G (sd.fact 2 (f := .glo "InvalidName") rfl)
    | 3, _ => He.glo_ok X G (sd.fact 3 (f := .glo "InvalidIndex") rfl)
    | 4, _ => He.glo_ok X G (sd.fact 4 (f := .glo "InvalidClaim") rfl)
    | 5, _ => He.glo_ok X G (sd.fact 5 (f := .glo "InvalidThing") rfl)
    | 6, _ => He.glo_ok X G (sd.fact 6 (f := .glo "NotACatalogue") rfl)
    | 7, _ => He.glo_ok X G (sd.fact 7 (f := .glo "NotWeights") rfl)
    | 8, _ => He.glo_ok X G (sd.fact 8 (f := .glo "InvalidKinds") rfl)
    | 9, _ => He.glo_ok X G (sd.fact 9 (f := .glo "InvalidRecipes") rfl)
    | 10, _ => He.glo_ok X G (sd.fact 10 (f := .glo "InvalidMembers") rfl)
    | 11, _ => He.glo_ok X G (sd.fact 11 (f := .glo "InvalidRows") rfl)
    | 12, _ => He.glo_ok X G (sd.fact 12 (f := .glo "UnknownName") rfl)
    | 13, _ => He.glo_ok X G (sd.fact 13 (f := .glo "InUse") rfl)
    | 14, _ => He.glo_ok X G (sd.fact 14 (f := .glo "TooMany") rfl)
    | 15, _ => He.glo_ok X G (sd.fact 15 (f := .glo "NothingToUndo") rfl)
    | 16, _ => He.glo_ok X G (sd.fact 16 (f := .glo "Broken") rfl)
    | n + 17, z => absurd z (by omega)
  have inis : ∀ i, i < 17 → i ≠ 15 → Ini K (Cx K i) (He.ma K (Cx K i) "__init__") := fun i hi ne => ini_of (by
    have z := all17_ok c5 i hi
    simpa [ne] using z)
  simp only [Bool.and_eq_true] at three
  refine ⟨oex, fun i hi j hj => kitB_ok (all17_ok (all17_ok c2 i hi) j hj), fun i hi => kitB_ok (three i hi).1, fun i hi => kitB_ok (three i hi).2.1, fun i hi => kitB_ok (three i hi).2.2.1, fun i hi => kitB_ok (three i hi).2.2.2.1, fun i hi => kitB_ok (three i hi).2.2.2.2.1, fun i hi => kitB_ok (three i hi).2.2.2.2.2, fre, nms,
    He.glo_ok X G (sd.fact 17 (f := .glo "WrongValue") rfl), He.glo_ok X G (sd.fact 18 (f := .glo "WrongName") rfl), He.glo_ok X G (sd.fact 19 (f := .glo "NoAnswer") rfl), fun i hi n1 n2 => ?_, ?_, c6, (oex 15 (by decide)).kp⟩
  · match i, hi, n1, n2 with
    | 0, hi, _, _ =>
      obtain ⟨fd, F⟩ := sd.def_ 10 (d := dI "InvalidNumber" "InvalidNumber.__init__" (ini 0)) rfl
      exact has_0 (oex 0 hi) (fre 0 hi _ (by simp)) (inis 0 hi (by decide)) F (nms 0 hi)
    | 1, hi, _, _ =>
      obtain ⟨fd, F⟩ := sd.def_ 11 (d := dI "InvalidText" "InvalidText.__init__" (ini 1)) rfl
      exact has_1 (oex 1 hi) (fre 1 hi _ (by simp)) (inis 1 hi (by decide)) F (nms 1 hi)
    | 2, hi, _, _ =>
      obtain ⟨fd, F⟩ := sd.def_ 12 (d := dI "InvalidName" "InvalidName.__init__" (ini 2)) rfl
      exact has_2 (oex 2 hi) (fre 2 hi _ (by simp)) (inis 2 hi (by decide)) F (nms 2 hi)
    | 3, hi, _, _ =>
      obtain ⟨fd, F⟩ := sd.def_ 13 (d := dI "InvalidIndex" "InvalidIndex.__init__" (ini 3)) rfl
      exact has_3 (oex 3 hi) (fre 3 hi _ (by simp)) (inis 3 hi (by decide)) F (nms 3 hi)
    | 4, hi, _, _ =>
      obtain ⟨fd, F⟩ := sd.def_ 14 (d := dI "InvalidClaim" "InvalidClaim.__init__" (ini 4)) rfl
      exact has_4 (oex 4 hi) (fre 4 hi _ (by simp)) (inis 4 hi (by decide)) F (nms 4 hi)
    | 5, hi, _, _ =>
      obtain ⟨fd, F⟩ := sd.def_ 15 (d := dI "InvalidThing" "InvalidThing.__init__" (ini 5)) rfl
      exact has_5 (oex 5 hi) (fre 5 hi _ (by simp)) (inis 5 hi (by decide)) F (nms 5 hi)
    | 6, hi, _, _ =>
      obtain ⟨fd, F⟩ := sd.def_ 16 (d := dI "NotACatalogue" "NotACatalogue.__init__" (ini 6)) rfl
      exact has_6 (oex 6 hi) (fre 6 hi _ (by simp)) (inis 6 hi (by decide)) F (nms 6 hi)
    | 7, hi, _, _ =>
      obtain ⟨fd, F⟩ := sd.def_ 17 (d := dI "NotWeights" "NotWeights.__init__" (ini 7)) rfl
      exact has_7 (oex 7 hi) (fre 7 hi _ (by simp)) (inis 7 hi (by decide)) F (nms 7 hi)
    | 8, hi, _, _ =>
      obtain ⟨fd, F⟩ := sd.def_ 18 (d := dI "InvalidKinds" "InvalidKinds.__init__" (ini 8)) rfl
      exact has_8 (oex 8 hi) (fre 8 hi _ (by simp)) (inis 8 hi (by decide)) F (nms 8 hi)
    | 9, hi, _, _ =>
      obtain ⟨fd, F⟩ := sd.def_ 19 (d := dI "InvalidRecipes" "InvalidRecipes.__init__" (ini 9)) rfl
      exact has_9 (oex 9 hi) (fre 9 hi _ (by simp)) (inis 9 hi (by decide)) F (nms 9 hi)
    | 10, hi, _, _ =>
      obtain ⟨fd, F⟩ := sd.def_ 20 (d := dI "InvalidMembers" "InvalidMembers.__init__" (ini 10)) rfl
      exact has_10 (oex 10 hi) (fre 10 hi _ (by simp)) (inis 10 hi (by decide)) F (nms 10 hi)
    | 11, hi, _, _ =>
      obtain ⟨fd, F⟩ := sd.def_ 21 (d := dI "InvalidRows" "InvalidRows.__init__" (ini 11)) rfl
      exact has_11 (oex 11 hi) (fre 11 hi _ (by simp)) (inis 11 hi (by decide)) F (nms 11 hi)
    | 12, hi, _, _ =>
      obtain ⟨fd, F⟩ := sd.def_ 22 (d := dI "UnknownName" "UnknownName.__init__" (ini 12)) rfl
      exact has_12 (oex 12 hi) (fre 12 hi _ (by simp)) (inis 12 hi (by decide)) F (nms 12 hi)
    | 13, hi, _, _ =>
      obtain ⟨fd, F⟩ := sd.def_ 23 (d := dI "InUse" "InUse.__init__" (ini 13)) rfl
      exact has_13 (oex 13 hi) (fre 13 hi _ (by simp)) (inis 13 hi (by decide)) F (nms 13 hi)
    | 14, hi, _, _ =>
      obtain ⟨fd, F⟩ := sd.def_ 24 (d := dI "TooMany" "TooMany.__init__" (ini 14)) rfl
      exact has_14 (oex 14 hi) (fre 14 hi _ (by simp)) (inis 14 hi (by decide)) F (nms 14 hi)
    | 15, _, z, _ => exact absurd rfl z
    | 16, _, _, z => exact absurd rfl z
    | n + 17, z, _, _ => exact absurd z (by omega)
  · obtain ⟨fd, F⟩ := sd.def_ 25 (d := dI "Broken" "Broken.__init__" (ini 16)) rfl
    exact has_16 (oex 16 (by decide)) (fre 16 (by decide) _ (by simp)) (fre 16 (by decide) _ (by simp)) (inis 16 (by decide) (by decide)) F (nms 16 (by decide))
theorem facts {f : Addr} (X : K.In h) (G : h.Ns mainGlobals mg) (hfa : mg ("law" : Str) = some (.ref f)) (c : obsS fa fn chk K = (true, He.valD fn)) :
    ∃ fd : FuncData, (∀ (s : Shared) (v : Value), BindsTo s fd ⟨[v], []⟩ [("_law_script", v)]) ∧ ∀ base : Heap, K.In base → base.Ns mainGlobals mg → FnG P w K mg base CX0 5 f fd ["_law_script"] (spLaw K) := by
  obtain ⟨S, ck, sd⟩ := saysS c
  obtain ⟨fd0, F0⟩ := sd.def_ 0 (d := dL "_law_seed" 31) rfl
  have m0 := He.glo_ok X G (sd.fact 20 (f := .glo "_law_seed") rfl)
  obtain ⟨fd1, F1⟩ := sd.def_ 1 (d := dL "_law_purse" 32) rfl
  have m1 := He.glo_ok X G (sd.fact 21 (f := .glo "_law_purse") rfl)
  obtain ⟨fd2, F2⟩ := sd.def_ 2 (d := dL "_law_draw" 33) rfl
  have m2 := He.glo_ok X G (sd.fact 22 (f := .glo "_law_draw") rfl)
  obtain ⟨fd3, F3⟩ := sd.def_ 3 (d := dL "_law_fault" 34) rfl
  have m3 := He.glo_ok X G (sd.fact 23 (f := .glo "_law_fault") rfl)
  obtain ⟨fd4, F4⟩ := sd.def_ 4 (d := dL "_law_kept" 35) rfl
  have m4 := He.glo_ok X G (sd.fact 24 (f := .glo "_law_kept") rfl)
  obtain ⟨fd5, F5⟩ := sd.def_ 5 (d := dL "_law_placed" 36) rfl
  have m5 := He.glo_ok X G (sd.fact 25 (f := .glo "_law_placed") rfl)
  obtain ⟨fd6, F6⟩ := sd.def_ 6 (d := dL "_law_named" 37) rfl
  have m6 := He.glo_ok X G (sd.fact 26 (f := .glo "_law_named") rfl)
  obtain ⟨fd7, F7⟩ := sd.def_ 7 (d := dL "_law_value" 38) rfl
  have m7 := He.glo_ok X G (sd.fact 27 (f := .glo "_law_value") rfl)
  obtain ⟨fd8, F8⟩ := sd.def_ 8 (d := dL "_law_right" 39) rfl
  have m8 := He.glo_ok X G (sd.fact 28 (f := .glo "_law_right") rfl)
  obtain ⟨fd9, F9⟩ := sd.def_ 9 (d := dL "law" 40) rfl
  have m9 := He.glo_ok X G (sd.fact 29 (f := .glo "law") rfl)
  have m_len := He.free_ok X G (sd.fact 30 (f := .free "len") rfl)
  have m_repr := He.free_ok X G (sd.fact 31 (f := .free "repr") rfl)
  have m_isinstance := He.free_ok X G (sd.fact 32 (f := .free "isinstance") rfl)
  have m_range := He.free_ok X G (sd.fact 33 (f := .free "range") rfl)
  have m_all := He.free_ok X G (sd.fact 34 (f := .free "all") rfl)
  have m_max := He.free_ok X G (sd.fact 35 (f := .free "max") rfl)
  have m_min := He.free_ok X G (sd.fact 36 (f := .free "min") rfl)
  have m_int := He.free_ok X G (sd.fact 37 (f := .free "int") rfl)
  have m_divmod := He.free_ok X G (sd.fact 38 (f := .free "divmod") rfl)
  have m_ValueError := He.free_ok X G (sd.fact 39 (f := .free "ValueError") rfl)
  have m_LookupError := He.free_ok X G (sd.fact 40 (f := .free "LookupError") rfl)
  have m_ArithmeticError := He.free_ok X G (sd.fact 41 (f := .free "ArithmeticError") rfl)
  have g_MOST_KINDS := He.int_ok X G (sd.fact 42 (f := .int "MOST_KINDS" 4) rfl)
  have g_MOST_RECIPES := He.int_ok X G (sd.fact 43 (f := .int "MOST_RECIPES" 10) rfl)
  have g_MOST_PARTS := He.int_ok X G (sd.fact 44 (f := .int "MOST_PARTS" 3) rfl)
  have g_MOST_OWN := He.int_ok X G (sd.fact 45 (f := .int "MOST_OWN" 9) rfl)
  have g_MOST_LENGTH := He.int_ok X G (sd.fact 46 (f := .int "MOST_LENGTH" 400) rfl)
  have g_MOST_TOGETHER := He.int_ok X G (sd.fact 47 (f := .int "MOST_TOGETHER" 1000) rfl)
  have g_MOST_PACKINGS := He.int_ok X G (sd.fact 48 (f := .int "MOST_PACKINGS" 100) rfl)
  have g_MOST_BUILT := He.int_ok X G (sd.fact 49 (f := .int "MOST_BUILT" 100) rfl)
  have g_MOST_TRIED := He.int_ok X G (sd.fact 50 (f := .int "MOST_TRIED" 6) rfl)
  have e := hfa.symm.trans m9
  cases e
  have b := FunD.bindsA (ps := ["_law_script"]) F9 fun _ _ _ _ _ _ us hl => match us, hl with | [_], _ => rfl
  refine ⟨fd9, fun s v => b s [v] rfl, fun base _ _ => ?_⟩
  have cl : Cl P w K mg base (Cx K) (He.ga K "WrongValue") (He.ga K "WrongName") (He.ga K "NoAnswer") := cl_of X G ck sd
  have h0 : Has P w K mg base "_law_seed" 1 ["_law_script", "_law_k"] (spSeed K) := ⟨_, fd0, ok_seed F0 m_len m_int, m0, F0.kp, FunD.bindsN (ps := ["_law_script", "_law_k"]) F0 fun _ _ _ _ _ _ us hl => match us, hl with | [_, _], _ => rfl⟩
  have h1 : Has P w K mg base "_law_purse" 1 ["_law_number"] (spPurse) := ⟨_, fd1, ok_purse F1 m_int, m1, F1.kp, FunD.bindsN (ps := ["_law_number"]) F1 fun _ _ _ _ _ _ us hl => match us, hl with | [_], _ => rfl⟩
  have h2 : Has P w K mg base "_law_draw" 1 ["_law_purse_here", "_law_many"] (spDraw) := ⟨_, fd2, ok_draw F2 m_int m_divmod, m2, F2.kp, FunD.bindsN (ps := ["_law_purse_here", "_law_many"]) F2 fun _ _ _ _ _ _ us hl => match us, hl with | [_, _], _ => rfl⟩
  have h3 : Has P w K mg base "_law_fault" 1 ["_law_e"] (spFault (Cx K)) := ⟨_, fd3, ok_fault cl F3 m_isinstance m_ValueError m_LookupError m_ArithmeticError, m3, F3.kp, FunD.bindsN (ps := ["_law_e"]) F3 fun _ _ _ _ _ _ us hl => match us, hl with | [_], _ => rfl⟩
  have h4 : Has P w K mg base "_law_kept" 1 ["_law_e", "_law_at"] (spKept (Cx K)) := ⟨_, fd4, ok_kept cl F4, m4, F4.kp, FunD.bindsN (ps := ["_law_e", "_law_at"]) F4 fun _ _ _ _ _ _ us hl => match us, hl with | [_, _], _ => rfl⟩
  have h5 : Has P w K mg base "_law_placed" 3 ["_law_value_here", "_law_mate"] (spTold (Cx K)) := ⟨_, fd5, ok_placed cl F5, m5, F5.kp, FunD.bindsN (ps := ["_law_value_here", "_law_mate"]) F5 fun _ _ _ _ _ _ us hl => match us, hl with | [_, _], _ => rfl⟩
  have h6 : Has P w K mg base "_law_named" 3 ["_law_value_here", "_law_mate"] (spTold (Cx K)) := ⟨_, fd6, ok_named cl F6, m6, F6.kp, FunD.bindsN (ps := ["_law_value_here", "_law_mate"]) F6 fun _ _ _ _ _ _ us hl => match us, hl with | [_, _], _ => rfl⟩
  have h7 : Has P w K mg base "_law_value" 2 ["_law_purse_here"] (spValue K) := ⟨_, fd7, ok_value h2 F7 m_len, m7, F7.kp, FunD.bindsN (ps := ["_law_purse_here"]) F7 fun _ _ _ _ _ _ us hl => match us, hl with | [_], _ => rfl⟩
  have h8 : HasG P w K mg base "_law_right" 4 ["_law_purse_here"] (spRight) := ⟨_, fd8, ok_right S h7 h5 h6 h3 h4 F8 m_range m_repr, m8, F8.kp, FunD.bindsN (ps := ["_law_purse_here"]) F8 fun _ _ _ _ _ _ us hl => match us, hl with | [_], _ => rfl⟩
  exact ok_law S h0 h1 h8 F9 g_MOST_KINDS g_MOST_RECIPES g_MOST_PARTS g_MOST_OWN g_MOST_LENGTH g_MOST_TOGETHER g_MOST_PACKINGS g_MOST_BUILT g_MOST_TRIED m_len m_repr m_all m_range m_max m_min
end
end K01
open PySem PySem.W PySem.Calls PyProof.Rows
theorem PySem.Challenge.cw_sealedweights_k01_limits_and_errors_holds : PySem.Challenge.rw_sealedweights_k01_limits_and_errors.Holds := by
  w_on; o_law
  refine HandSHeadRun.head_any (r := K01.R) (q := view K01.R.prog [40]) (H := K01.hk) (ob := K01.ob) (M := 20000) (loose := K01.names) (d := HandSHeadRun.topDef K01.R.prog 40) (kwd := []) K01.ob_eq
    (by kernel_rfl) (fun s => by kernel_rfl) K01.run (by kernel_rfl) (by kernel_rfl) (by kernel_rfl) (by rfl) (by first | assumption | decide +kernel) (by decide +kernel) ⟨rfl, rfl, rfl, rfl, rfl, by decide +kernel⟩ ?hw ?hc
  case hw => w_witness2
  case hc =>
    refine SwX.walk_ofG (l := PySem.Challenge.rw_sealedweights_k01_limits_and_errors) (n := 63) (k := 5) (x := "_law_script") (CX := L2.CX0) rfl (by decide) (by kernel_rfl) ⟨rfl, by decide, by decide⟩ ?F (fun _ _ _ _ z => z)
    intro w mg fa h Y G hmg0
    obtain ⟨K, KX, c⟩ := Y
    have hmg : mg ("law" : PySem.Str) = some (.ref fa) := by
      have e : (HandSHeadRun.topDef K01.R.prog 40).name = ("law" : PySem.Str) := by kernel_rfl
      rw [← e]
      exact hmg0
    obtain ⟨fd, hb, hF⟩ := K01.facts (P := (PySem.Challenge.rw_sealedweights_k01_limits_and_errors).prog) (w := w) KX G hmg c
    exact ⟨K, fd, K01.spLaw K, KX, hb, fun H a ns hl hS => ⟨a, ns, rfl, hS, fun _ => rfl⟩, hF⟩
