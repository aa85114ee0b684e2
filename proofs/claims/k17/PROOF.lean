import PyProof.Rows.All
import Wide.All
import OpenK.AllK
import Wide.FinOn
import HandS.ForMost
import HandS.ExcInit
import HandS.ExcIs
import HandS.MakeKw
import KE.KExcIs
import HandS.IsInst
import HandS.ExcOwn
import HandS.ExcValue
import PyProof.EqAt
import PyProof.EqKinds
import PyProof.ReprRoads
import HandS.Deep
import HandS.Defaults
import HandS.Evl
import HandS.Exc
import HandS.Head0
import HandS.Head1
import HandS.Head2
import HandS.HeadHook1
import HandS.HeadHook2
import HandS.WideBits
import PyProof.ReprLen
import PyProof.FitsInt
import PyProof.InstNe
import OpenK.KMeth
import OpenK.KOps
import KE.KCallOwn
import HandS.OwnEq
import KE.GoesEnum
import HandS.More
import HandS.ClsMeth
import HandS.CallLocal
import HandS.FStr
import PyProof.P3In
import HandS.TupAny
import HandS.RaiseMore
import HandS.Codes
import HandS.JoinGen
import HandS.Walk
import HandS.Star
import PyProof.Conv_bool
import KE.KRevSl
import HandS.Style
import HandS.HeadNt
import KE.KTryMore
import HandS.HotCalls
import HandS.Lambda
import PyProof.FactsAll.dict
import HandS.EndTab
import HandS.HeadHook3
import HandS.HeadHook4
import PySem.Challenge.RW_sealedweights_k17_catalogues_refused
import HandS.MakeKwOnly
import KE.KStateDown
import HandS.HeadEnd
set_option Elab.async false
set_option linter.all false
set_option maxRecDepth 100000
set_option maxHeartbeats 4000000
/-! own exceptions made by a call with keywords, over any of the built-in bases -/
namespace SwX
open PySem PySem.W
/-- C is a class of the text whose bases end in a built-in exception's -/
structure Born (h : Heap) (C : Addr) (newId : String) (bm : List Value) : Prop where
  ex : ∃ nm q N bs hd sn sub ab col dd k0 k1 k2 k3 k5, h.get? C = some (excClassObj nm q C N bs bm hd sn sub ab col dd k0 k1 k2 k3 k5 newId)
local macro_rules | `(tactic| walk_at "sw ask") => `(tactic| repeat (first
  | refine wpAny_loadPart_at ‹_› ?_
  | (refine wpAny_isSubtype_exc ‹_› ?_; first | rw [show List.contains (_ :: _) _ = true from ‹_›] | rw [show List.contains (_ :: _) _ = false from ‹_›])
  | refine wpAny_staticBase_exc ‹_› ?_
  | refine wpAny_madeBy_exc ‹_› ?_
  | simp only [bne_self_eq_false, Bool.false_eq_true, if_false]
  | wp_step))
local macro_rules | `(tactic| walk_at "sw ask1") => `(tactic| first
  | refine wpAny_loadPart_at ‹_› ?_
  | (refine wpAny_isSubtype_exc ‹_› ?_; first | rw [show List.contains (_ :: _) _ = true from ‹_›] | rw [show List.contains (_ :: _) _ = false from ‹_›])
  | wp_step)
section
variable {prog : Program} {w : World} {A : Around} {R : Result → Shared → Prop} {E : Value → Shared → Prop} {h : Heap} {g : Array GenState} {d : Drawn} {t : Nat} {os : OsState}
variable {C fI : Addr} {bm bmB : List Value} {B newId initId : String} {pos : List Value} {kw : List (Str × Value)}
/-- what of the bases is asked -/
structure Line (bm bmB : List Value) (B : String) : Prop where
  own : ∀ C : Addr, (Value.ref C :: bm).contains (.type B) = true
  noA : ∀ C : Addr, (Value.ref C :: bm).contains (.type "AttributeError") = false
  noN : ∀ C : Addr, (Value.ref C :: bm).contains (.type "NameError") = false
theorem line_of (F : ExcBaseFacts B newId initId bmB) (same : ∀ T : String, bm.contains (.type T) = bmB.contains (.type T)) : Line bm bmB B :=
  ⟨fun C => by rw [List.contains_cons, same, F.hasB]; exact Bool.or_true _, fun C => by rw [List.contains_cons, same, F.noAttr]; rfl, fun C => by rw [List.contains_cons, same, F.noName]; rfl⟩
/-- the two objects that a call lays: the arguments' tuple, the exception -/
abbrev laid2 (h : Heap) (C : Addr) (pos : List Value) : Heap := (h.push (kdv_tup pos)).push (PySem.HandSPX.excO C h.objs.size)
theorem look_new (F : ExcBaseFacts B newId initId bmB) (l : Line bm bmB B) (c : Born h C newId bm) {Q : Unit → Shared → Prop} (q : Q () ⟨h, g, d, t, os⟩) :
    wpAny (model prog w) A (checkBuiltinCall newId ⟨.ref C :: pos, kw⟩) Q E ⟨h, g, d, t, os⟩ := by
  obtain ⟨nm, qn, N, bs, hd, sn, sub, ab, col, dd, k0, k1, k2, k3, k5, hC⟩ := c.ex
  have own := l.own C
  have hs := F.noStar
  simp only [checkBuiltinCall, F.newKind, F.newSplit, F.newRow]
  walk_at "sw ask"
  exact q

/-- BaseException.__new__: keywords are not asked -/
theorem run_new (F : ExcBaseFacts B newId initId bmB) (l : Line bm bmB B) (c : Born h C newId bm) (hz : pos.length ≤ sizeLine) (q : R (.ok (.ret (.ref (h.objs.size + 1)))) ⟨laid2 h C pos, g, d, t, os⟩) :
    codeAny (model prog w) A (.builtin newId ⟨.ref C :: pos, kw⟩) R ⟨h, g, d, t, os⟩ := by
  obtain ⟨nm, qn, N, bs, hd, sn, sub, ab, col, dd, k0, k1, k2, k3, k5, hC⟩ := c.ex
  have e1 := l.own C
  have e2 := l.noA C
  have e3 := l.noN C
  have e4 := F.ends
  refine codeAny_builtinAt F.entry ?_
  unfold Builtin.«BaseException.__new__»
  refine PySem.wpAt_bind ?_
  show PySem.wpAt _ _ _ (stack >>= _) _ _ _
  refine PySem.wpAt_bind (wpAt_stack fun p below => PySem.wpAt_of_wpAny ?_)
  wp_walk
  refine PySem.wpAt_of_wpAny ?_
  rw [F.owner]
  repeat (first | with_reducible refine wpAny_madeHere_exc F.canon hC ?_ | walk_at "sw ask1")
  show R _ _
  rw [Heap.size_push]
  exact q

/-- a call of the class: the arguments' tuple and the exception are laid, __init__ runs -/
theorem run_class (F : ExcBaseFacts B newId initId bmB) (l : Line bm bmB B) (c : Born h C newId bm) (hz : pos.length ≤ sizeLine) (hi : Looks (model prog w) h (typeLookup (.ref C) "__init__") (some (.ref fI)))
    (hb : ∀ self, Looks (model prog w) h (bindSpecial (.ref fI) self) (.ref fI, [self]))
    (q : codeAny (model prog w) (A.under (.builtin "type.__call__" ⟨.ref C :: pos, kw⟩)) (.call (.ref fI) ⟨.ref (h.objs.size + 1) :: pos, kw⟩) (InitBack (h.objs.size + 1) R) ⟨laid2 h C pos, g, d, t, os⟩) :
    codeAny (model prog w) A (.call (.ref C) ⟨pos, kw⟩) R ⟨h, g, d, t, os⟩ := by
  obtain ⟨nm, qn, N, bs, hd, sn, sub, ab, col, dd, k0, k1, k2, k3, k5, hC⟩ := id c.ex
  have up : ∀ b o, h.get? b = some o → (laid2 h C pos).get? b = some o := fun b o z => Heap.get?_push_of_some _ (Heap.get?_push_of_some _ z)
  have hC' := up _ _ hC
  have it : (laid2 h C pos).get? (h.objs.size + 1) = some (PySem.HandSPX.excO C h.objs.size) := by heap_get
  have self : (Value.ref C :: bm).contains (.ref C) = true := by simp
  have isT : Looks (model prog w) h (isInstance (.ref C) (.type "type")) true := fun A' Q' E' s' k z => by
    have hC1 := k _ _ hC
    have sub1 := tc_sub
    obtain ⟨h1, g1, d1, t1, os1⟩ := s'
    unfold isInstance
    repeat (first | assumption | with_reducible refine wpAny_loadPart_at hC1 ?_ | wp_step)
  have i1 := hi.keeps up
  have b1 := (hb (.ref (h.objs.size + 1))).keeps up
  have c1 := tc_lookup
  have c2 := tc_bind (.ref C)
  have ty : (⟨h, g, d, t, os⟩ : Shared).TypeIs (.ref C) "type" := ⟨_, hC, rfl⟩
  refine codeAny_of_tree ?_
  show wpAny _ _ (callAny (.ref C) _) _ _ _
  repeat (any_goals (first | assumption | with_reducible refine wpAny_loadPart_at hC ?_ | wp_step))
  refine And.intro rfl ?_
  refine codeAny_call_builtin_at (Code.quiet_builtin _ (by decide +kernel)) entry_typeCall (check_slot tc_kind tc_split isT (tc_args _ _ _) ?_)
  unfold Builtin.«type.__call__»
  repeat (first | with_reducible refine wpAny_loadPart_at hC ?_ | with_reducible refine wpAny_madeBy_exc hC ?_ | wp_step)
  refine codeAny_call_builtin_code (Code.quiet_builtin _ F.quiet) (look_new F l c (run_new F l c hz ?_))
  show wpAny _ _ _ _ _ _
  unfold isInstance
  repeat (first | with_reducible refine wpAny_loadPart_at it ?_ | wp_step)
  show wpAny _ _ (isSubtype (.ref C) (.ref C)) _ _ _
  refine wpAny_isSubtype_exc hC' ?_
  rw [self]
  repeat (first | with_reducible refine wpAny_loadPart_at it ?_ | wp_step)
  show wpAny _ _ (typeLookup (.ref C) "__init__") _ _ _
  refine i1.at (wpAny_holding (wpAny_bind (b1.at ?_)))
  refine wpAny_bind (wpAny_call (codeAny_mono q fun r s' z => ?_))
  cases r with
  | error e => exact z
  | ok f =>
    cases f with
    | ret v =>
      obtain ⟨rfl, z⟩ := z
      first | exact wpAny_pure (wpAny_pure z) | (wp_walk; exact z)
    | next => exact z
    | brk => exact z
    | cont => exact z
end
end SwX
set_option Elab.async false
set_option linter.all false
set_option maxRecDepth 100000
set_option maxHeartbeats 4000000
/-! own exceptions as values: made, their fields stored and read, isinstance; over any of the built-in bases -/
namespace SwX
open PySem PySem.Spec PyProof.Rows L2
/-- a built-in base: its facts at calls and at stores -/
structure Base (B newId initId : String) (bmB : List Value) : Prop where
  call : ExcBaseFacts B newId initId bmB
  sto : StoreFacts B bmB "object.__setattr__" "object"
/-- what the written part says of an own exception class over one of them -/
structure Oex (K : PySem.W.Frag) (C : Addr) : Prop where
  base : ∃ B newId initId bmB, Base B newId initId bmB ∧ PySem.W.excOver K C bmB = true ∧
    ∃ nm q N bs bm hd sn sub ab col dd k0 k1 k2 k3 k5, K.lookup C = some (excClassObj nm q C N bs bm hd sn sub ab col dd k0 k1 k2 k3 k5 newId) ∧ PySem.W.excTail bmB bm = true
  set : PySem.W.findIn K (.ref C) "__setattr__" = some (some (.builtin "object.__setattr__"))
  get : PySem.W.findIn K (.ref C) "__getattribute__" = some (some (.builtin "BaseException.__getattribute__"))
  miss : PySem.W.findIn K (.ref C) "__getattr__" = some none
  exc : PySem.W.subIn K (.ref C) (.type "BaseException") = some true
  dct : PySem.W.hasDictIn K C = true
  cl : PySem.W.findIn K (.ref C) "__class__" = some (some (.builtin "object.__class__"))
  clg : PySem.W.specialIn K (.builtin "object.__class__") "__get__" = some (some (.builtin "getset_descriptor.__get__"))
  clt : PySem.W.takesIn K (.builtin "object.__class__") = some true
  top : PySem.W.mroIn K C (.type "object") = some true
  kp : PySem.W.keepIn K (.ref C) = true
/-- a field's name that the class has not -/
structure Free (K : PySem.W.Frag) (C : Addr) (f : Str) : Prop where
  no : PySem.W.findIn K (.ref C) f = some none
  tk : PySem.W.takerIn K C f = some none
section
variable {prog : Program} {w : World} {A : Around} {R : Result → Shared → Prop} {hp : Heap} {g : Array GenState} {d : Drawn} {t : Nat} {os : OsState}
open PySem.W Builtin Builtin.ObjectAttr in
/-- the first field of an exception: its dict is laid -/
theorem put_first {K : Frag} {f : Str} {tk : Tok} {v : Value} {x C t1 : Addr} (T : Oex K C) (no : Free K C f) (X : K.In hp) (hx : hp.get? x = some (PySem.HandSPX.excO C t1))
    (q : ∀ h' tk' dx, (∀ b o, b ≠ x → hp.get? b = some o → h'.get? b = some o) → hp.objs.size ≤ dx → dx ≠ x → h'.get? x = some { PySem.HandSPX.excO C t1 with dict := some dx } → h'.Ns1 dx (fun y => if y = f then some v else none) → R (.ok (.ret .none)) ⟨h', g, d, tk', os⟩) :
    codeAny (model prog w) A (.call (.builtin "object.__setattr__") ⟨[.ref x, .str f tk, v], []⟩) R ⟨hp, g, d, t, os⟩ := by
  obtain ⟨B, newId, initId, bmB, base, over, _⟩ := T.base
  obtain ⟨cd, hcd, hdc⟩ := any_some T.dct
  have cls : Looks (model prog w) hp (classData C) cd := looks_clsIn X hcd
  have far : x ≠ hp.objs.size := Nat.ne_of_lt (Heap.lt_size hx)
  refine osa_openX (s := ⟨hp, g, d, t, os⟩) (ox := PySem.HandSPX.excO C t1) (od := none) (r := none) base.sto X ⟨hx, rfl, rfl, trivial⟩ over no.tk fun b => ?_
  obtain ⟨nm, bs, mro, ns, qn, hasD, sn, sb, ab, col, del⟩ := cd
  dsimp only at hdc
  subst hdc
  show wpAny _ _ (storeInOwnDict _ _ _ _ _ _) _ _ _
  unfold storeInOwnDict ownDictForStores
  repeat (first | with_reducible refine PySem.HandSPX.store_in_new ?_ ?_ | with_reducible refine wpAny_loadPart_at hx ?_ | with_reducible refine cls.at ?_ | wp_step)
  · refine ⟨_, #[], _, (Heap.get?_update_ne _ _ _ _ (Ne.symm far)).trans (Heap.get?_push_at rfl rfl), rfl, ?_, fun _ => rfl⟩
    intro e he
    simp at he
  · intro h' tk' hn hs
    have old : ∀ {b : Addr} {o : Obj}, b ≠ x → hp.get? b = some o → h'.get? b = some o := fun {b o} ne ho => by
      rw [hs.2 b (Nat.ne_of_lt (Heap.lt_size ho)), Heap.get?_update_ne _ _ _ _ ne]
      exact Heap.get?_push_of_some _ ho
    refine q h' tk' _ (fun b o => old) (Nat.le_refl _) (Ne.symm far) ?_ hn
    rw [hs.2 x far, Heap.get?_update_self _ (Heap.get?_push_of_some _ hx) rfl]
open PySem.W Builtin Builtin.ObjectAttr in
/-- a further field -/
theorem put_next {K : Frag} {f : Str} {tk : Tok} {v : Value} {x C t1 dx : Addr} {m0 : Str → Option Value} {nl : List Str} (T : Oex K C) (no : Free K C f) (X : K.In hp) (hx : hp.get? x = some { PySem.HandSPX.excO C t1 with dict := some dx })
    (hns : hp.Ns1 dx m0) (hw : Within m0 nl) (hz : nl.length ≤ 1000) (q : ∀ h' tk', (∀ b o, b ≠ dx → hp.get? b = some o → h'.get? b = some o) → h'.Ns1 dx (fun y => if y = f then some v else m0 y) → R (.ok (.ret .none)) ⟨h', g, d, tk', os⟩) :
    codeAny (model prog w) A (.call (.builtin "object.__setattr__") ⟨[.ref x, .str f tk, v], []⟩) R ⟨hp, g, d, t, os⟩ := by
  obtain ⟨B, newId, initId, bmB, base, over, _⟩ := T.base
  obtain ⟨cd, hcd, hdc⟩ := any_some T.dct
  have cls : Looks (model prog w) hp (classData C) cd := looks_clsIn X hcd
  obtain ⟨oD, _, _, hoD, _, _⟩ := hns.count hw
  refine osa_openX (s := ⟨hp, g, d, t, os⟩) (ox := { PySem.HandSPX.excO C t1 with dict := some dx }) (od := some oD) (r := none) base.sto X ⟨hx, rfl, rfl, hoD⟩ over no.tk fun b => ?_
  obtain ⟨nm, bs, mro, ns, qn, hasD, sn, sb, ab, col, del⟩ := cd
  dsimp only at hdc
  subst hdc
  show wpAny _ _ (storeInOwnDict _ _ _ _ _ _) _ _ _
  unfold storeInOwnDict ownDictForStores
  repeat (first | with_reducible refine PySem.OEX.store_in_old hns hw hz ?_ | with_reducible refine wpAny_loadPart_at hx ?_ | with_reducible refine cls.at ?_ | wp_step)
  exact fun h' tk' hn hs => q h' tk' (fun b o ne ho => (hs.2 b ne).trans ho) hn
end
/-- the exception at a: of the class at C, its fields fs (its dict is not made while there is none) -/
def ExAt (H : Hp) (a C : Addr) (fs : List (Str × V)) : Prop := (H a = some (exo a C none) ∧ fs = []) ∨ ∃ d, H a = some (exo a C (some d)) ∧ H d = some (exd d fs)
section
variable {X : Cx} {pins : List (Addr × Obj)} {σ : L2.St} {H : Hp} {s : Shared} {a C d : Addr} {f : Str} {y v : V} {u : Value} {fs : List (Str × V)}
theorem ex_at_none (I : Inv X pins σ H s) (e : H a = some (exo a C none)) : ∃ t1, s.heap.get? a = some (PySem.HandSPX.excO C t1) := exo_at I.hok e
theorem ex_at_some (I : Inv X pins σ H s) (e : H a = some (exo a C (some d))) : ∃ t1, s.heap.get? a = some { PySem.HandSPX.excO C t1 with dict := some d } := exo_at I.hok e
theorem no_own {b c : Addr} {o : HO} (e : H b = some o) (h : H c = some (.own b)) (n : o ≠ .own b) : c ≠ b := fun z => n (Option.some.inj (e.symm.trans (z ▸ h)))
/-- what is tracked as something else stands elsewhere -/
theorem apart {b c : Addr} {o o' : HO} (e : H b = some o) (h : H c = some o') (n : o ≠ o') : c ≠ b := fun z => n (Option.some.inj (e.symm.trans (z ▸ h)))
theorem gone_apart {b c : Addr} {o : HO} (e : H b = some o) (h : H c = none) : c ≠ b := fun z => by rw [z, e] at h; cases h
/-- x.f = u, the first field of the exception at x -/
theorem set_first {A : Around} {E : Value → Shared → Prop} {Q : Unit → Shared → Prop} (T : Oex X.K C) (no : Free X.K C f) (I : Inv X pins σ H s) (e : H a = some (exo a C none)) (r : RelV y u)
    (k : ∀ d s', H d = none → d ≠ a → Inv X pins σ (upd (upd H d (exd d [(f, y)])) a (exo a C (some d))) s' → Q () s') : wpAny (model X.prog X.w) A (setAttr (.ref a) f u) Q E s := by
  obtain ⟨t1, ho⟩ := ex_at_none I e
  obtain ⟨hp, g, dr, t, os⟩ := s
  refine PySem.W.set_plain I.kIn (od := none) ⟨ho, rfl, rfl, trivial⟩ T.set (put_first T no I.kIn ho fun h' tk' d old dn dne hx hn => ?_)
  have fresh : H d = none := I.hok.fresh dn
  have far : ∀ {b : Addr} {o : Obj}, hp.get? b = some o → b ≠ d := fun z => Nat.ne_of_lt (Nat.lt_of_lt_of_le (Heap.lt_size z) dn)
  have same : ∀ {b : Addr} {o : HO}, H b = some o → exo a C none ≠ o → upd (upd H d (exd d [(f, y)])) a (exo a C (some d)) b = some o := fun {b o} z n => by
    rw [upd_ne (apart e z n), upd_ne (ne_of_none z fresh)]
    exact z
  have un : Un X.fs [] H (upd (upd H d (exd d [(f, y)])) a (exo a C (some d))) hp h' :=
    ⟨fun b o z n _ _ => old b o (gone_apart e n) z, fun b o z n _ _ => ⟨o.slots, old b o (gone_apart e n) z⟩, fun b o z n _ => by rw [upd_ne (gone_apart e n), upd_ne (far z)]; exact n,
      fun b o z _ => if hb : b = a then ⟨_, hb ▸ hx⟩ else ⟨o, old b o hb z⟩, fun b xs z => same z exo_tup, fun b o w z => same z exo_frz, fun b ps z => ⟨#[], by rw [same z exo_tbl]; simp⟩⟩
  refine k d _ fresh dne (I.un (t' := tk') un fun b o z => ?_)
  by_cases hb : b = a
  · subst hb
    rw [upd_same] at z
    cases z
    exact exo_ok hx
  rw [upd_ne hb] at z
  by_cases hd : b = d
  · subst hd
    rw [upd_same] at z
    cases z
    exact exd_ok hn (relO_put (fs := []) r fun _ => True.intro)
  rw [upd_ne hd] at z
  refine (I.hok b o z).stay (fun c w hc z' => old c w ?_ z') (fun c hc => same hc exo_own) (fun c xs hc => same hc exo_tup)
  rcases hc with hc | hc
  · exact hc ▸ hb
  · exact apart e hc exo_own
/-- a further field -/
theorem set_next {A : Around} {E : Value → Shared → Prop} {Q : Unit → Shared → Prop} (T : Oex X.K C) (no : Free X.K C f) (I : Inv X pins σ H s) (e : H a = some (exo a C (some d))) (ed : H d = some (exd d fs)) (hl : fs.length ≤ 900) (r : RelV y u)
    (k : ∀ s', Inv X pins σ (upd H d (exd d ((f, y) :: fs))) s' → Q () s') : wpAny (model X.prog X.w) A (setAttr (.ref a) f u) Q E s := by
  obtain ⟨t1, ho⟩ := ex_at_some I e
  obtain ⟨mA, hns, rel⟩ := exd_at I.hok ed
  obtain ⟨hp, g, dr, t, os⟩ := s
  obtain ⟨oD, _, _, hoD, _, _⟩ := hns.count (within_of rel)
  refine PySem.W.set_plain I.kIn (od := some oD) ⟨ho, rfl, rfl, hoD⟩ T.set (put_next T no I.kIn ho hns (within_of rel) (by rw [List.length_map]; omega) fun h' tk' old hn => ?_)
  have there : ∃ o, h'.get? d = some o := let ⟨o, _, _, z, _⟩ := hn; ⟨o, z⟩
  exact k _ (I.write (t' := tk') (x := d) (e := d) (by rw [ed]; exact True.intro) (.inl rfl) old there (exd_ok hn (relO_put r rel)))
/-- such an exception as the library's rules see it -/
theorem ExAt.seen (I : Inv X pins σ H s) (h : ExAt H a C fs) : ∃ ox od, PySem.W.InstAt s.heap a ox C od ∧ ∀ f v, fs.lookup f = some v → ∃ o u, od = some o ∧ PySem.W.lookIn f o = some (some u) ∧ RelV v u := by
  rcases h with ⟨e, rfl⟩ | ⟨d, e, ed⟩
  · obtain ⟨t1, ho⟩ := ex_at_none I e
    exact ⟨_, none, ⟨ho, rfl, rfl, trivial⟩, fun f v z => by cases z⟩
  · obtain ⟨t1, ho⟩ := ex_at_some I e
    obtain ⟨mA, hns, rel⟩ := exd_at I.hok ed
    obtain ⟨o, hod, look⟩ := lookIn_ns hns
    refine ⟨_, some o, ⟨ho, rfl, rfl, hod⟩, fun f v z => ?_⟩
    have ro := rel f
    rw [z] at ro
    cases q : mA f with
    | none => rw [q] at ro; exact ro.elim
    | some u => rw [q] at ro; exact ⟨o, u, rfl, (look f).trans (congrArg some q), ro⟩
end
/-- x.f = e, x an exception that is being made -/
def tSetX (K : PySem.W.Frag) (f : Str) (to te : TE) : TS := fun D σ H => te σ H fun y H1 => to σ H1 fun x H2 => ∃ a C : Addr, x = .ref a ∧ Oex K C ∧ Free K C f ∧
  ((H2 a = some (exo a C none) ∧ ∀ d, H2 d = none → d ≠ a → D.nx σ (upd (upd H2 d (exd d [(f, y)])) a (exo a C (some d)))) ∨
    ∃ (d : Addr) (fs : List (Str × V)), H2 a = some (exo a C (some d)) ∧ H2 d = some (exd d fs) ∧ fs.length ≤ 900 ∧ D.nx σ (upd H2 d (exd d ((f, y) :: fs))))
theorem ps_setX {X : Cx} {o e : Expr} {to te : TE} {f : Str} {p' pos : Pos} (ho : PE X o to) (he : PE X e te) (hs : swapsWith e (some (.Attribute o f p')) pos.line X.env = pure false := by rfl) : PS X (.Assign [.Attribute o f p'] e pos) (tSetX X.K f to te) := by
  refine ⟨fun pins s σ H D I h => plainObj_wpAny_Assign_Attribute (thn (he.run pins s σ H _ I h) fun v s1 hv => ?_) hs⟩
  obtain ⟨y, H1, I1, r1, q1⟩ := hv
  refine thn (ho.run pins s1 σ H1 _ I1 q1) fun u s2 hu => ?_
  obtain ⟨x, H2, I2, r2, a, C, rfl, T, no, q⟩ := hu
  obtain rfl : u = Value.ref a := r2
  rcases q with ⟨e2, q⟩ | ⟨d, fs, e2, ed, hl, q⟩
  · exact set_first T no I2 e2 r1 fun d s' n ne J => ⟨σ, _, J, q d n ne⟩
  · exact set_next T no I2 e2 ed hl r1 fun s' J => ⟨σ, _, J, q⟩
/-- isinstance(e, c), e such an exception -/
def rIsX (K : PySem.W.Frag) : List V → Hp → VK → Prop := fun xs H Q => ∃ (a C : Addr) (fs : List (Str × V)) (c : V) (u : Value) (b : Bool), xs = [.ref a, c] ∧ ExAt H a C fs ∧ Oex K C ∧ ClsV c u ∧ PySem.W.kitOne K (.ref C) u = some b ∧ Q (.bl b) H
theorem call_isX {X : Cx} : CallR X (.builtin "isinstance") (rIsX X.K) := fun pins s σ H xs us Q I r h => by
  obtain ⟨a, C, fs, c, u, b, rfl, at_, T, k, ans, q⟩ := h
  obtain ⟨u1, u2, rfl, r1, r2⟩ := vals2 r
  obtain rfl : u1 = Value.ref a := r1
  obtain rfl : u2 = u := k.eq r2
  obtain ⟨ox, od, J, _⟩ := at_.seen I
  obtain ⟨cd, hcd, _⟩ := PySem.W.any_some T.dct
  exact PySem.W.kia_one (PySem.W.kitx_exc (by rw [hcd]; rfl) T.get T.miss T.exc T.cl T.clg T.clt T.top) I.kIn J ans (fun z => nomatch z) fun tk => ⟨.bl b, H, I.tok tk, rfl, q⟩
/-- e.f, e such an exception -/
def tFldX (K : PySem.W.Frag) (f : Str) (te : TE) : TE := fun σ H Q => te σ H fun x H1 => ∃ (a C : Addr) (fs : List (Str × V)) (v : V), x = .ref a ∧ ExAt H1 a C fs ∧ Oex K C ∧ Free K C f ∧ fs.lookup f = some v ∧ Q v H1
theorem pe_fldX {X : Cx} {e : Expr} {te : TE} {f : Str} {pos : Pos} (he : PE X e te) (hb : attributeBase e f X.env (eval e X.env) = eval e X.env := by rfl) : PE X (.Attribute e f pos) (tFldX X.K f te) := by
  refine ⟨fun pins s σ H Q I h => attr_of hb (thn (he.run pins s σ H _ I h) fun u s1 hu => ?_)⟩
  obtain ⟨x, H1, I1, rx, a, C, fs, v, rfl, at_, T, no, hl, q⟩ := hu
  obtain rfl : u = Value.ref a := rx
  obtain ⟨ox, od, J, z⟩ := at_.seen I1
  obtain ⟨o, w, rfl, hw, rw'⟩ := z f v hl
  exact PySem.HandSPX.exc_get I1.kIn J T.get T.miss T.exc (PySem.W.findObj_own T.dct no.no rfl hw) (handed_of rw') ⟨v, H1, I1.tok _, rw', q⟩
/-- C(e, .., k = v, ..) as a value: a new exception, then __init__, which keeps sp -/
def tNewX (C : Addr) (n m : Nat) (sp : Sp) (gV : List V → List V → List V) (E : XK) (t tk : TA) : TE := fun σ H Q => t σ H fun vs H1 => tk σ H1 fun zs H2 => (vs.length = n ∧ zs.length = m ∧ n ≤ 1000) ∧
  ∀ a, H2 a = none → sp (gV (.ref a :: vs) zs) (upd H2 a (exo a C none)) (fun v H3 => v = .non ∧ Q (.ref a) H3) E
/-- the class at C has the def at fI for its __init__ -/
structure Ini (K : PySem.W.Frag) (C fI : Addr) : Prop where
  at_ : PySem.W.findIn K (.ref C) "__init__" = some (some (.ref fI))
  ty : PySem.W.typeIn K (.ref fI) = some (.type "function")
section
variable {X : Cx} {CX : CXT} {k n : Nat} {fI C : Addr} {fd : FuncData} {ps ks : List Str} {sp : Sp} {E : XK} {x : Str} {p pos : Pos} {e : Expr} {es : List Expr} {kws : List Keyword} {t tk : TA} {g : List Value → List Value → List Value} {gV : List V → List V → List V}
theorem new_runs {pins : List (Addr × Obj)} {σ : L2.St} {H : Hp} {s : Shared} {Q : VK} {us ws : List Value} {vs zs : List V} (T : Oex X.K C) (i : Ini X.K C fI) (F : FnOk X.prog X.w X.K X.mg X.base CX k fI fd ps sp) (room : Room (k + 1) X.A) (b : KBn X.K fd ps (n + 1) ks g gV) (out : Passes CX X E)
    (I : Inv X pins σ H s) (r : Vals vs us) (rz : Vals zs ws) (len : vs.length = n ∧ zs.length = ks.length ∧ n ≤ 1000) (h : ∀ a, H a = none → sp (gV (.ref a :: vs) zs) (upd H a (exo a C none)) (fun v H2 => v = .non ∧ Q (.ref a) H2) E) :
    wpAny (model X.prog X.w) X.A (call (.ref C) us (ks.zip ws)) (EP X pins σ Q) X.xe s := by
  obtain ⟨B, newId, initId, bmB, base, _, nm, qn, N, bs, bm, hd, sn, sub, ab, col, dd, k0, k1, k2, k3, k5, hC, tail⟩ := T.base
  obtain ⟨l1, l2, l3⟩ := len
  obtain ⟨hp, gs, dr, tok, os⟩ := s
  have new : H (hp.objs.size + 1) = none := I.hok.fresh (Nat.le_succ _)
  have there : (laid2 hp C us).get? (hp.objs.size + 1) = some (PySem.HandSPX.excO C hp.objs.size) := by heap_get
  have J : Inv X pins σ (upd H (hp.objs.size + 1) (exo (hp.objs.size + 1) C none)) ⟨laid2 hp C us, gs, dr, tok, os⟩ := I.laid (t' := tok) (fun _ _ z => Heap.get?_push_of_some _ (Heap.get?_push_of_some _ z)) (Nat.le_succ _) (exo_ok there)
  have ra : Vals (V.ref (hp.objs.size + 1) :: vs) (Value.ref (hp.objs.size + 1) :: us) := .cons rfl r
  have small : us.length ≤ sizeLine := by have := r.length; rw [sizeLine_eq]; omega
  refine wpAny_call (run_class base.call (line_of base.call fun Y => PySem.W.excTail_contains Y bm tail) ⟨_, _, _, _, _, _, _, _, _, _, _, _, _, _, _, I.kIn _ _ hC⟩ small (PySem.W.looks_findIn I.kIn i.at_) (fun self => PySem.W.bind_fn I.kIn self i.ty) ?_)
  refine codeAny_mono (F.run _ X.stack _ _ ⟨Value.ref (hp.objs.size + 1) :: us, ks.zip ws⟩ (g (Value.ref (hp.objs.size + 1) :: us) ws) _ _ E (room.make C us (ks.zip ws)) (J.env0.make C us (ks.zip ws)) (b.to _ (_ :: us) ws J.kIn ?_ ?_) (b.rel ra rz) (h _ new)) fun r s' z => ?_
  · exact ra.length.symm.trans (congrArg Nat.succ l1)
  · exact rz.length.symm.trans l2
  cases r with
  | error er => exact out pins σ _ _ er s' J z
  | ok fl =>
    cases fl with
    | ret u =>
      obtain ⟨v, H', I3, rv, ev, q3⟩ := J.after z
      subst ev
      exact ⟨rv, V.ref (hp.objs.size + 1), H', I3, rfl, q3⟩
    | next => exact z.elim
    | brk => exact z.elim
    | cont => exact z.elim
theorem pe_newX (T : Oex X.K C) (i : Ini X.K C fI) (F : FnOk X.prog X.w X.K X.mg X.base CX k fI fd ps sp) (room : Room (k + 1) X.A) (hg : Gl X x) (hm : X.mg x = some (.ref C)) (b : KBn X.K fd ps (n + 1) [] g gV) (out : Passes CX X E) (ha : PA X (e :: es) t)
    (hdb : (x == ("__debug__" : Str)) = false := by decide) (he : starEach (e :: es) X.env = (false, eval e X.env) :: starEach es X.env := by rfl) (hpl : (backTo pos (starEach es X.env)).any (·.1) = false := by rfl) :
    PE X (.Call (.Name x p) (e :: es) [] pos) (tNewX C n 0 sp gV E t tNil) := by
  refine ⟨fun pins s σ H Q I h => wpAny_Call_Name_kw (ld_glob I hg hm ?_ hdb)⟩
  refine PySem.W.callWith_K (h₀ := X.base) I.ok.mod.kin T.kp (thn (ha.run pos pins s σ H _ I h) fun us s1 hu => ?_) he hpl
  obtain ⟨vs, H1, I1, r, len, q⟩ := hu
  exact ⟨I1.kIn, new_runs (ks := []) (ws := []) (zs := []) T i F room b out I1 r .nil len q⟩
theorem pe_newXK (T : Oex X.K C) (i : Ini X.K C fI) (F : FnOk X.prog X.w X.K X.mg X.base CX k fI fd ps sp) (room : Room (k + 1) X.A) (hg : Gl X x) (hm : X.mg x = some (.ref C)) (b : KBn X.K fd ps 1 ks g gV) (out : Passes CX X E) (hkw : PK X kws tk)
    (hall : (backToKw pos (keywordEach kws X.env)).all (·.1.isSome) = true := by rfl) (hks : (backToKw pos (keywordEach kws X.env)).filterMap (·.1) = ks := by rfl) (hdb : (x == ("__debug__" : Str)) = false := by decide)
    (hpl : ((backTo pos (starEach [] X.env)).any (·.1) || (backToKw pos (keywordEach kws X.env)).any (·.1.isNone)) = false := by rfl) : PE X (.Call (.Name x p) [] kws pos) (tNewX C 0 ks.length sp gV E tNil tk) := by
  refine ⟨fun pins s σ H Q I h => wpAny_Call_Name_kw (ld_glob I hg hm ?_ hdb)⟩
  refine PySem.W.callWith_KW0 (h₀ := X.base) I.ok.mod.kin T.kp hall (thn (hkw.run pos pins s σ H _ I h) fun ws s2 hu => ?_) hpl
  obtain ⟨zs, H2, I2, rz, len, q2⟩ := hu
  rw [hks]
  exact ⟨I2.kIn, new_runs (us := []) (vs := []) T i F room b out I2 .nil rz len q2⟩
/-- C(), C without an __init__ of its own -/
theorem pe_newX0 {C : Addr} {bmB : List Value} {B newId initId : String} {x : Str} {p pos : Pos} (F : ExcBaseFacts B newId initId bmB) (ok : PySem.W.excIn X.K C bmB newId = true) (hm : X.mg x = some (.ref C)) (kC : PySem.W.keepIn X.K (.ref C) = true) (hg : Gl X x) (hdb : (x == ("__debug__" : Str)) = false := by decide) :
    PE X (.Call (.Name x p) [] [] pos) (fun _ H Q => ∀ a, H a = none → Q (.ref a) (upd H a (exo a C none))) := by
  refine ⟨fun pins s σ H Q I h => wpAny_Call_Name_kw (ld_glob I hg hm (PySem.W.callWith_K0 I.kIn kC ?_) hdb)⟩
  obtain ⟨bm, N, nm, qn, bs, hdct, sn, sub, ab, col, dd, k0, k1, k2, k3, k5, mN, hC, hN, hni, same⟩ := exc_obj I.kIn ok
  refine wpAny_call_exc_subT F same hC hN hni (fun h' a new => ?_) (Nat.zero_le _)
  have free : H a = none := I.hok.gone new.new
  obtain ⟨t1, ht, _, _⟩ := new.there
  exact ⟨.ref a, _, I.laidN new.keeps new.new free (exo_ok ht), rfl, h a free⟩
end
end SwX
set_option Elab.async false
set_option linter.all false
set_option maxRecDepth 100000
set_option maxHeartbeats 4000000
/-! defs whose frames stand outside of every repr (so that repr tells the whole text), from the law's call on; repr, count over data -/
namespace SwX
open PySem PySem.Spec PyProof.Rows L2
/-- no repr is under way around A -/
def Calm (A : Around) : Prop := A.guards = some []
/-- a def's promise, where no repr is under way -/
structure FnG (P : Program) (w : World) (K : PySem.W.Frag) (mg : Str → Option Value) (base : Heap) (CX : CXT) (k : Nat) (f : Addr) (fd : FuncData) (ps : List Str) (sp : Sp) : Prop where
  len : ∀ vs H Q E, sp vs H Q E → vs.length = ps.length
  run : ∀ (A : Around) (outer : List Env) (s : Shared) (H : Hp) (args : Args) (us : List Value) (vs : List V) (Q : VK) (E : XK), Room k A → Calm A → Env0 P w K mg base A outer s H → BindsTo s fd args (ps.zip us) → Vals vs us → sp vs H Q E →
    codeAny (model P w) A (.call (.ref f) args) (CR CX outer P w H s Q E) s
section
variable {P : Program} {w : World} {K : PySem.W.Frag} {mg : Str → Option Value} {base : Heap} {CX : CXT} {k : Nat} {f : Addr} {fd : FuncData} {N ps : List Str} {sp : Sp}
theorem FnOk.calm (F : FnOk P w K mg base CX k f fd ps sp) : FnG P w K mg base CX k f fd ps sp := ⟨F.len, fun A outer s H args us vs Q E hr _ => F.run A outer s H args us vs Q E hr⟩
variable {x qual : Str} {params : Arguments} {body : List Stmt} {scope : Scope} {dvs : List V} {kws : List (Str × V)}
/-- the rule of such a def -/
theorem FunD.okG (F : FunD K x qual params body scope dvs kws f fd) (S : FnScope N ps scope) (len : ∀ vs H Q E, sp vs H Q E → vs.length = ps.length)
    (hb : ∀ (cdv : Value) (A : Around) (outer : List Env) (s : Shared) (H : Hp) (vs : List V) (Q : VK) (E : XK), Room k (A.deeper (envOfC qual scope s.heap.objs.size f cdv)) → Calm A → sp vs H Q E →
      ∃ t, PSs (cxOf CX P w K mg base N qual scope f cdv A outer s H E) body t ∧ t { nx := fun _ H' => Q .non H', rt := Q } (start N vs) H) : FnG P w K mg base CX (k + 1) f fd ps sp := by
  obtain ⟨oc, od, dV, kV, doc, pm, an, cdv, ct, osl, rfl, lk, hcd, _, _⟩ := F.ex
  refine ⟨len, fun A outer s H args us vs Q E hr calm e0 bind r hsp => ?_⟩
  have base_in : ∀ b o, base.get? b = some o → s.heap.get? b = some o := fun b o z => (e0.bs b o z).1
  have KX : K.In s.heap := e0.mod.kin.keeps base_in
  have par : ∀ y ∈ ps.zip us, scope.names.lookup y.1 = some .local ∨ (scope.names.lookup y.1 = some .cell ∧ ((cellsFrom (s.heap.objs.size + 1) scope.names []).lookup y.1).isSome = true) := fun y hy => by
    cases S.par y.1 (List.of_mem_zip hy).1 with
    | inl q => exact Or.inl q
    | inr q => exact Or.inr ⟨q, PySem.W.cellsFrom_some _ _ _ (Or.inl q)⟩
  refine codeAny_call_function hr.depth (KX _ _ lk) rfl S.co S.gen rfl (PySem.W.codeRec_of KX hcd) (bind _ _ _ _ (wpAny_newFunctionEnv_cells S.kind par fun env he s1 made => ?_))
  subst he
  refine And.intro ((e0.mod.nolimit.keeps base_in).keeps made.toInCall.keep) (codeAny_func ?_)
  obtain ⟨t, ht, hq⟩ := hb cdv A outer s H vs Q E (hr.deeper _) calm hsp
  refine wpAny_mono (ht.run [] s1 (start N vs) H _ (inv_start S hr.hd e0 (len _ _ _ _ hsp) r made) hq) (fun fl s' z => ?_) fun _ _ z => z
  cases fl with
  | ret u =>
    obtain ⟨v, σ', H', J, rv, q⟩ := z
    exact ⟨v, H', J.os, J.bare, J.base, J.hok, rv, q⟩
  | next =>
    obtain ⟨σ', H', J, q⟩ := z
    exact ⟨V.non, H', J.os, J.bare, J.base, J.hok, rfl, q⟩
  | brk =>
    obtain ⟨_, _, _, q⟩ := z
    exact q.elim
  | cont =>
    obtain ⟨_, _, _, q⟩ := z
    exact q.elim
end
/-! ### calls of such defs -/
section
variable {X : Cx} {CX : CXT} {k : Nat} {f : Addr} {fd : FuncData} {ps : List Str} {sp : Sp} {dvs : List V} {ds : List Value} {E : XK} {x : Str} {p pos : Pos} {e : Expr} {es : List Expr} {t : TA}
theorem pe_callG (F : FnG X.prog X.w X.K X.mg X.base CX k f fd ps sp) (hr : Room k X.A) (calm : Calm X.A) (hg : Gl X x) (hm : X.mg x = some (.ref f)) (hk : PySem.W.keepIn X.K (.ref f) = true) (hb : Binds X.K fd ps ds) (hd : Vals dvs ds) (hx : Passes CX X E) (ha : PA X (e :: es) t)
    (hdb : (x == ("__debug__" : Str)) = false := by decide) (he : starEach (e :: es) X.env = (false, eval e X.env) :: starEach es X.env := by rfl) (hpl : (backTo pos (starEach es X.env)).any (·.1) = false := by rfl) :
    PE X (.Call (.Name x p) (e :: es) [] pos) (tCall sp dvs E t) := by
  refine ⟨fun pins s σ H Q I h => wpAny_Call_Name_kw (ld_glob I hg hm ?_ hdb)⟩
  refine PySem.W.callWith_K (h₀ := X.base) I.ok.mod.kin hk (thn (ha.run pos pins s σ H _ I h) fun us s1 hu => ?_) he hpl
  obtain ⟨vs, H1, I1, r, q⟩ := hu
  have all := r.append hd
  refine ⟨I1.kIn, wpAny_call (codeAny_mono (F.run X.A X.stack s1 H1 ⟨us, []⟩ (us ++ ds) (vs ++ dvs) Q E hr calm I1.env0 (hb s1 us I1.kIn ?_) all q) fun res s' z => ?_)⟩
  · rw [← all.length]
    exact F.len _ _ _ _ q
  cases res with
  | error er => exact hx pins σ H1 s1 er s' I1 z
  | ok fl =>
    cases fl with
    | ret u => exact I1.after z
    | next => exact z.elim
    | brk => exact z.elim
    | cont => exact z.elim
end
/-! ### the law's call -/
/-- the abstract heap ahead of the law: the script alone, where it is none of the module's own -/
def scriptH (K : PySem.W.Frag) (a : Addr) (o : Obj) (ns : List Int) : Hp := fun b => if b = a ∧ K.lookup a = none then some (.frz o (.lst (ns.map V.int))) else none
theorem scriptH_some {K : PySem.W.Frag} {a b : Addr} {o : Obj} {ns : List Int} {u : HO} (h : scriptH K a o ns b = some u) : b = a ∧ K.lookup a = none ∧ u = .frz o (.lst (ns.map V.int)) := by
  unfold scriptH at h
  split at h
  · rename_i c
    exact ⟨c.1, c.2, (Option.some.inj h).symm⟩
  · cases h
theorem law_runG {P : Program} {w : World} {K : PySem.W.Frag} {mg mb : Str → Option Value} {CX : CXT} {k : Nat} {fa a : Addr} {fd : FuncData} {x : Str} {sp : Sp} {s1 : Shared} {vs : List Value} {ns : List Int}
    (KX : K.In s1.heap) (gl : s1.heap.Ns mainGlobals mg) (bl : s1.heap.Ns builtinsNs mb) (bb : ∀ x : Str, x ≠ "__name__" → mb x = bootBuiltins x) (lim : s1.heap.NoLimit) (gens : s1.gens = #[])
    (ha : s1.heap.get? a = some { cls := .type "list", data := .seq vs.toArray }) (hi : IntsAre vs ns) (hl : ns.length ≤ sizeLine) (room : Room k callerA)
    (F : ∀ base : Heap, K.In base → base.Ns mainGlobals mg → FnG P w K mg base CX k fa fd [x] sp) (bind : ∀ (s : Shared) (u : Value), BindsTo s fd ⟨[u], []⟩ [(x, u)])
    (hsp : ∀ H : Hp, SqL K H a (ns.map V.int) → sp [.ref a] H (fun v _ => v = .bl true) fun _ _ _ => False) (out : ∀ H e s', CX [] H s1 (fun _ _ _ => False) e s' → False) :
    codeAny (model P w) callerA (.call (.ref fa) ⟨[.ref a], []⟩) (fun r s' => r = .ok (.ret (.bool true)) ∧ OldK s1.heap s'.heap ∧ s'.os = s1.os ∧ AllBare s'.gens) s1 := by
  let o : Obj := { cls := .type "list", data := .seq vs.toArray }
  let H : Hp := scriptH K a o ns
  have rv := vals_ints hi
  have short : (ns.map V.int).length ≤ sizeLine := by rw [List.length_map]; exact hl
  have seen : SqL K H a (ns.map V.int) := by
    cases q : K.lookup a with
    | none => exact Or.inl (Or.inr ⟨o, if_pos ⟨rfl, q⟩⟩)
    | some u =>
      have z := KX a u q
      rw [ha] at z
      cases z
      exact Or.inr ⟨_, vs.toArray, _, q, rfl, rfl, rfl, by rw [List.size_toArray, hi.length]; exact hl, by simpa using rv⟩
  have held : HOk P w H s1.heap := fun b u z => by
    obtain ⟨rfl, _, rfl⟩ := scriptH_some z
    exact ⟨ha, short, vs, _, rv, ha⟩
  -- nothing of the written part and no table of names is tracked
  have part : ∀ b u, K.lookup b = some u → H b = none := fun b u z => by
    cases q : H b with
    | none => rfl
    | some c =>
      obtain ⟨rfl, n, _⟩ := scriptH_some q
      rw [n] at z
      cases z
  have table : ∀ {b : Addr} {m : Str → Option Value}, s1.heap.Ns b m → (hidT s1.heap H).Ns b m := fun {b m} z => by
    obtain ⟨ob, es, ep, e1, e2, rest⟩ := z
    refine ⟨ob, es, ep, hidT_get e1 ?_, e2, rest⟩
    cases q : H b with
    | none => rfl
    | some c =>
      obtain ⟨rfl, _, _⟩ := scriptH_some q
      rw [ha] at e1
      cases e1
      exact nomatch (show Data.seq vs.toArray _ = Data.dict es ep from e2)
  have kin : K.In (hidT s1.heap H) := fun b u z => hidT_get (KX b u z) (part b u z)
  have env : Env0 P w K mg (hidT s1.heap H) callerA [] s1 H := by
    refine ⟨rfl, ⟨kin, table gl, ⟨mb, table bl, bb⟩, ?_⟩, fun b u z => of_hidT z, Nat.le_of_eq (hidT_size _ _), trivial, fun b z => ?_, held, .of_eq gens⟩
    · obtain ⟨mc, h1, h2⟩ := lim
      exact ⟨mc, table h1, h2⟩
    · exact absurd (show b ∈ ([] : List Addr) from z) List.not_mem_nil
  refine codeAny_mono ((F _ kin (table gl)).run callerA [] s1 H ⟨[.ref a], []⟩ [.ref a] [.ref a] _ _ room rfl env (bind s1 (.ref a)) (.cons rfl .nil) (hsp H seen)) fun r s' z => ?_
  cases r with
  | error e => exact (out H e s' z).elim
  | ok fl =>
    cases fl with
    | next => exact z.elim
    | brk => exact z.elim
    | cont => exact z.elim
    | ret u =>
      obtain ⟨v, H', os, bare, un, held', r', rfl⟩ := z
      obtain rfl : u = Value.bool true := r'
      refine ⟨rfl, OldK.of_keep fun b ob e => ?_, os, bare⟩
      cases q : H b with
      | none => exact un.keep b ob e q (fun z => absurd (show b ∈ ([] : List Addr) from z) List.not_mem_nil) (fun z => absurd z List.not_mem_nil)
      | some c =>
        obtain ⟨rfl, _, rfl⟩ := scriptH_some q
        have z1 := (held b _ q).1
        have z2 := (held' b _ (un.frzs b _ _ q)).1
        rw [e] at z1
        cases z1
        exact z2
/-- the end of a law's row over a head by facts: the law's def keeps its promise where no repr is under way -/
theorem walk_ofG {l : PySem.W.OpenLaw} {n k : Nat} {q : Program} {loose : List Str} {XP : (Str → Option Value) → Heap → Prop} {YP : World → Heap → Prop} {d : DefRec} {CX : CXT} {x : Str}
    (hn : l.most = some n) (hn2 : n ≤ sizeLine) (hdf : d.params.defaults = []) (room : Room k callerA)
    (F : ∀ (w : World) (mg : Str → Option Value) (fa : Addr) (h : Heap), YP w h → h.Ns mainGlobals mg → mg d.name = some (.ref fa) →
      ∃ (K : PySem.W.Frag) (fd : FuncData) (sp : Sp), K.In h ∧ (∀ (s : Shared) (u : Value), BindsTo s fd ⟨[u], []⟩ [(x, u)]) ∧
        (∀ (H : Hp) (a : Addr) (ns : List Int), ns.length ≤ n → SqL K H a (ns.map V.int) → sp [.ref a] H (fun v _ => v = .bl true) fun _ _ _ => False) ∧
        ∀ base : Heap, K.In base → base.Ns mainGlobals mg → FnG l.prog w K mg base CX k fa fd [x] sp)
    (out : ∀ (H : Hp) (s : Shared) (e : Value) (s' : Shared), CX [] H s (fun _ _ _ => False) e s' → False) : PySem.W.WalkO q loose XP YP l.row.toRowW d [] (fun f vs => PySem.call f vs) := by
  refine Att.attach_call hn hdf fun w s0 s1 mg mb fa o pm cd doc a vs ns G Y _ _ _ hm hobj hints hlen hg => ?_
  obtain ⟨K, fd, sp, KX, bind, hsp, hF⟩ := F w mg fa _ Y G.T.g hm
  exact law_runG KX G.T.g G.T.b G.T.builtins G.T.nolimit hg hobj hints (Nat.le_trans hlen hn2) room hF bind (fun H z => hsp H a ns hlen z) fun H e s' => out H s1 e s'
end SwX
set_option Elab.async false
set_option linter.all false
set_option maxRecDepth 100000
set_option maxHeartbeats 4000000
/-! data in the abstract heap, dicts with flat keys among it; its repr; counting truths -/
namespace SwX
open PySem PySem.Spec PyProof.Rows L2
def keyD : Key → PyData
  | .inl i => .int i
  | .inr x => .str x
/-- v stands for the data d -/
inductive Da (K : PySem.W.Frag) (H : Hp) : V → PyData → Prop
  | non : Da K H .non .none
  | bl (b : Bool) : Da K H (.bl b) (.bool b)
  | int (i : Int) : Da K H (.int i) (.int i)
  | str (x : Str) : Da K H (.str x) (.str x)
  | lst {a : Addr} {xs : List V} {ds : List PyData} (h : H a = some (.lst xs)) (l : xs.length = ds.length) (each : ∀ (i : Nat) x d, xs[i]? = some x → ds[i]? = some d → Da K H x d) : Da K H (.ref a) (.list ds)
  | tup {a : Addr} {xs : List V} {ds : List PyData} (h : SqT K H a xs) (l : xs.length = ds.length) (each : ∀ (i : Nat) x d, xs[i]? = some x → ds[i]? = some d → Da K H x d) : Da K H (.ref a) (.tuple ds)
  | dic {a : Addr} {kvs : List (Key × V)} {ds : List PyData} (h : H a = some (.dK kvs)) (l : kvs.length = ds.length) (each : ∀ (i : Nat) kv d, kvs[i]? = some kv → ds[i]? = some d → Da K H kv.2 d) :
      Da K H (.ref a) (.dict ((kvs.map fun q => keyD q.1).zip ds))
theorem Da.mono {K : PySem.W.Frag} {H H' : Hp} (e : Evl.Ex H H') {v : V} {d : PyData} (h : Da K H v d) : Da K H' v d := by
  induction h with
  | non => exact .non
  | bl b => exact .bl b
  | int i => exact .int i
  | str x => exact .str x
  | lst h l _ ih => exact .lst (e _ _ h) l ih
  | tup h l _ ih => exact .tup (Evl.ex_t e h) l ih
  | dic h l _ ih => exact .dic (e _ _ h) l ih
/-- what the written part holds of sys.modules -/
def SysIn (K : PySem.W.Frag) : Prop := ∃ o, K.lookup sysModules = some o
section
variable {X : Cx} {pins : List (Addr × Obj)} {σ : L2.St} {H : Hp} {s : Shared}
theorem reads_each {h : Heap} : ∀ {us : List Value} {ds : List PyData}, us.length = ds.length → (∀ (i : Nat) u d, us[i]? = some u → ds[i]? = some d → ∃ as, Reads h u d as ∧ sysModules ∉ as) → ∃ as, ReadsAll h us ds as ∧ sysModules ∉ as
  | [], [], _, _ => ⟨[], .nil, List.not_mem_nil⟩
  | [], _ :: _, l, _ => by cases l
  | _ :: _, [], l, _ => by cases l
  | u :: us, d :: ds, l, k => by
    obtain ⟨as, r, n⟩ := k 0 u d rfl rfl
    obtain ⟨bs, rs, ns⟩ := reads_each (us := us) (ds := ds) (Nat.succ.inj l) fun i u' d' e1 e2 => k (i + 1) u' d' (by simpa using e1) (by simpa using e2)
    exact ⟨as ++ bs, .cons r rs, fun z => (List.mem_append.mp z).elim n ns⟩
/-- the other way: an item of the values is one of what is paired -/
theorem Vals.back : ∀ {xs : List V} {us : List Value} {i : Nat} {u : Value}, Vals xs us → us[i]? = some u → ∃ x, xs[i]? = some x ∧ RelV x u
  | _, _, _, _, .nil, e => by simp at e
  | _, _, 0, _, .cons r _, e => by
    simp at e
    subst e
    exact ⟨_, rfl, r⟩
  | _, _, i + 1, u, .cons _ t, e => by
    obtain ⟨x, e1, r⟩ := Vals.back (i := i) (u := u) t (by simpa using e)
    exact ⟨x, by simpa using e1, r⟩
theorem kv_back : ∀ {kvs : List (Key × V)} {vs : List (Key × Value)}, KV kvs vs → vs.length = kvs.length ∧ vs.map (·.1) = kvs.map (·.1) ∧ ∀ (i : Nat) q, vs[i]? = some q → ∃ p, kvs[i]? = some p ∧ RelV p.2 q.2
  | _, _, .nil => ⟨rfl, rfl, fun i q e => by simp at e⟩
  | _, _, .cons (a := p) (b := q) r t => by
    obtain ⟨l, m, k⟩ := kv_back t
    refine ⟨congrArg Nat.succ l, by rw [List.map_cons, List.map_cons, m, r.1], fun i q' e => ?_⟩
    cases i with
    | zero =>
      simp at e
      subst e
      exact ⟨p, rfl, r.2⟩
    | succ i =>
      obtain ⟨p', e1, r'⟩ := k i q' (by simpa using e)
      exact ⟨p', by simpa using e1, r'⟩
theorem keys_read {h : Heap} {knd : PySem.KeyKind X.prog X.w Key} (hk : ∀ k v, knd.is k v = keyIs k v) : ∀ {es : List DictEntry} {vs : List (Key × Value)}, Pairs knd es vs → ReadsAll h (es.map (·.key)) (vs.map fun q => keyD q.1) [] ∧ es.map (·.val) = vs.map (·.2)
  | _, _, .nil => ⟨.nil, rfl⟩
  | _, _, .cons (e := e) (kv := kv) i v t => by
    obtain ⟨r, m⟩ := keys_read hk t
    refine ⟨?_, by rw [List.map_cons, List.map_cons, m, v]⟩
    rw [hk] at i
    have one : Reads h e.key (keyD kv.1) [] := by
      rcases keyIs_shape i with ⟨j, tk, e1, e2⟩ | ⟨x, tk, e1, e2⟩
      · rw [e1, e2]
        exact .int j tk
      · rw [e1, e2]
        exact .str x tk
    exact ReadsAll.cons (as := []) (bs := []) one r
theorem not_sys (I : Inv X pins σ H s) (S : SysIn X.K) {a : Addr} {o : HO} (h : H a = some o) : sysModules ≠ a := fun e => by
  obtain ⟨ob, z⟩ := S
  have n := (I.bs _ _ (I.ok.mod.kin _ _ z)).2
  rw [e, h] at n
  cases n
theorem Da.reads (I : Inv X pins σ H s) (S : SysIn X.K) {v : V} {d : PyData} (h : Da X.K H v d) : ∀ u, RelV v u → ∃ as, Reads s.heap u d as ∧ sysModules ∉ as := by
  induction h with
  | non => intro u r; cases r; exact ⟨_, .none, List.not_mem_nil⟩
  | bl b => intro u r; cases r; exact ⟨_, .bool b, List.not_mem_nil⟩
  | int i =>
    intro u r
    obtain ⟨t, rfl⟩ := r
    exact ⟨_, .int i t, List.not_mem_nil⟩
  | str x =>
    intro u r
    obtain ⟨t, rfl⟩ := r
    exact ⟨_, .str x t, List.not_mem_nil⟩
  | @lst a xs ds h l _ ih =>
    intro u r
    cases r
    obtain ⟨its, rv, ⟨o, n, ho, hc, _, hd⟩, _⟩ := I.list (Evl.sq_of h)
    obtain ⟨as, ra, na⟩ := reads_each (h := s.heap) (us := its) (ds := ds) (rv.length.symm.trans l) fun i u d e1 e2 => by
      obtain ⟨x, e3, r⟩ := Vals.back rv e1
      exact ih i x d e3 e2 u r
    exact ⟨_, .list ho hc hd ra, fun z => (List.mem_cons.mp z).elim (not_sys I S h) na⟩
  | @tup a xs ds h l _ ih =>
    intro u r
    cases r
    obtain ⟨its, rv, ⟨o, ho, hc, n, hd⟩, _⟩ := I.tuple h
    obtain ⟨as, ra, na⟩ := reads_each (h := s.heap) (us := its) (ds := ds) (rv.length.symm.trans l) fun i u d e1 e2 => by
      obtain ⟨x, e3, r⟩ := Vals.back rv e1
      exact ih i x d e3 e2 u r
    exact ⟨_, .tuple ho hc hd ra, na⟩
  | @dic a kvs ds h l _ ih =>
    intro u r
    cases r
    have ok : ObjOk X.prog X.w H s.heap a (.dK kvs) := I.hok a _ h
    obtain ⟨_, _, vs, kv, o, es, ep, ho, hx, hd, _, hp, _⟩ := ok
    obtain ⟨l2, m2, k2⟩ := kv_back kv
    obtain ⟨rk, mv⟩ := keys_read (X := X) (h := s.heap) (mixKind_is X.prog X.w) hp
    have lk : (kvs.map fun q => keyD q.1).length = ds.length := by rw [List.length_map]; exact l
    obtain ⟨as, ra, na⟩ := reads_each (h := s.heap) (us := es.toList.map (·.val)) (ds := ds) (by rw [mv, List.length_map, l2]; exact l) fun i u d e1 e2 => by
      rw [mv, List.getElem?_map] at e1
      cases q : vs[i]? with
      | none => rw [q] at e1; cases e1
      | some p =>
        rw [q] at e1
        obtain ⟨p', e3, r⟩ := k2 i p q
        cases e1
        exact ih i p' d e3 e2 p.2 r
    have f1 : ((kvs.map fun q => keyD q.1).zip ds).map (·.1) = vs.map fun q => keyD q.1 := by
      rw [List.map_fst_zip (Nat.le_of_eq lk)]
      have z := congrArg (List.map keyD) m2
      rw [List.map_map, List.map_map] at z
      exact z.symm
    have f2 : ((kvs.map fun q => keyD q.1).zip ds).map (·.2) = ds := List.map_snd_zip (Nat.le_of_eq lk.symm)
    refine ⟨_, .dict (as := []) (bs := as) ho hx.1 hd (by rw [f1]; exact rk) (by rw [f2]; exact ra), fun z => ?_⟩
    rcases List.mem_cons.mp (show sysModules ∈ a :: as from z) with z | z
    · exact not_sys I S h z
    · exact na z
end
/-- repr(x), x a list or a tuple that is data -/
def rRepr (K : PySem.W.Frag) : List V → Hp → VK → Prop := fun xs H Q => ∃ (a : Addr) (d : PyData), xs = [.ref a] ∧ Da K H (.ref a) d ∧ d.showable = true ∧ d.depth ≤ 150 ∧ d.shown.length ≤ sizeLine ∧ Q (.str d.shown) H
theorem call_repr {X : Cx} {k : Nat} (S : SysIn X.K) (calm : Calm X.A) (hr : Room k X.A) : CallR X (.builtin "repr") (rRepr X.K) := fun pins s σ H xs us Q I r h => by
  obtain ⟨a, d, rfl, da, sh, dp, len, q⟩ := h
  obtain ⟨u, rfl, ru⟩ := Vals.one r
  obtain ⟨as, rd, ns⟩ := da.reads I S u ru
  cases ru
  have un := hr.un
  exact repr_of_reads' rd sh (fun _ => ns) calm (by omega) (fun _ _ e => e) (fun h' u tk keep => ⟨.str d.shown, H, I.kept keep, ⟨u, rfl⟩, q⟩) len
/-- xs.count(b), xs a list of truths -/
def rCountB (K : PySem.W.Frag) : V → List V → Hp → VK → Prop := fun x xs H Q => ∃ (p : Addr) (bs : List Bool) (b : Bool), x = .ref p ∧ xs = [.bl b] ∧ SqL K H p (bs.map V.bl) ∧ Q (.int (bs.count b : Nat)) H
theorem bools_of : ∀ {bs : List Bool} {its : List Value}, Vals (bs.map V.bl) its → its = bs.map Value.bool
  | [], _, r => by cases r; rfl
  | b :: bs, _, r => by
    cases r with
    | cons r t => rw [bools_of t, List.map_cons, show _ = Value.bool b from r]
def isB (b : Bool) : Value → Bool
  | .bool c => c == b
  | _ => false
theorem isB_count (b : Bool) : ∀ bs : List Bool, (bs.map Value.bool).countP (isB b) = bs.count b
  | [] => rfl
  | c :: bs => by rw [List.map_cons, List.countP_cons, List.count_cons, isB_count b bs]; rfl
theorem mt_countB {X : Cx} {k : Nat} (hr : Room k X.A) : MtR X "list.count" (rCountB X.K) := fun pins s σ H x xs v us Q I rx rxs h => by
  obtain ⟨p, bs, b, rfl, rfl, hs, q⟩ := h
  cases rx
  obtain ⟨u, rfl, ru⟩ := Vals.one rxs
  obtain rfl : u = Value.bool b := ru
  obtain ⟨its, rv, ⟨⟨cls, dd, data, sl⟩, n, ho, hc, hdn, hd⟩, _⟩ := I.list hs
  simp only at hc hd
  subst hc hd
  have e := bools_of rv
  subst e
  have un := hr.un
  refine call_meets PySem.F.slot_list_count ⟨_, ho, rfl⟩ PySem.F.entry_list_count (PySem.F.args_list_count_2 _ _) (SeqAt.list_countAt p _ n dd sl (.bool b) (isB b)) ⟨ho, fun y hy => ?_, ?_⟩
  · obtain ⟨c, _, rfl⟩ := List.mem_map.mp (show y ∈ bs.map Value.bool by simpa using hy)
    exact SeqAt.eqAt_reads (.bool c) (.bool b) _ _ _ _ [] [] (.bool c) (.bool b) rfl rfl (by show X.A.units + 1 + min _ _ < cLine; simp only [PyData.depth]; omega)
  · refine ⟨.int (bs.count b : Nat), H, I.tok _, ⟨s.toks, ?_⟩, q⟩
    rw [isB_count]
end SwX
set_option Elab.async false
set_option linter.all false
set_option maxRecDepth 100000
set_option maxHeartbeats 4000000
/-! what a head tells of own exception classes, and a Hook with a further look -/
namespace SwX
open PySem PySem.Spec PyProof.Rows L2 He
/-- the bases: 0 ValueError, 1 LookupError, else ArithmeticError -/
def baseN : Nat → String
  | 0 => "ValueError"
  | 1 => "LookupError"
  | _ => "ArithmeticError"
def newN (i : Nat) : String := match i with
  | 0 => "ValueError.__new__"
  | 1 => "LookupError.__new__"
  | _ => "ArithmeticError.__new__"
def mroN (i : Nat) : List Value := [.type (baseN i), .type "Exception", .type "BaseException", .type "object"]
theorem base_of (i : Nat) : ∃ initId, Base (baseN i) (newN i) initId (mroN i) := match i with
  | 0 => ⟨_, PySem.F.excBase_ValueError, PySem.F.store_ValueError⟩
  | 1 => ⟨_, PySem.F.excBase_LookupError, PySem.F.store_LookupError⟩
  | _ + 2 => ⟨_, PySem.F.excBase_ArithmeticError, PySem.F.store_ArithmeticError⟩
def oB (a b : Option Bool) : Bool := decide (a = b)
/-- the class at C is an own exception over base i -/
def oexB (K : PySem.W.Frag) (i : Nat) (C : Addr) : Bool :=
  PySem.W.excOver K C (mroN i) && (PySem.W.excInitIn K C (mroN i) (newN i) && (eqO (PySem.W.findIn K (.ref C) "__setattr__") (some (some (.builtin "object.__setattr__"))) &&
  (eqO (PySem.W.findIn K (.ref C) "__getattribute__") (some (some (.builtin "BaseException.__getattribute__"))) && (eqO (PySem.W.findIn K (.ref C) "__getattr__") (some none) &&
  (oB (PySem.W.subIn K (.ref C) (.type "BaseException")) (some true) && (PySem.W.hasDictIn K C && (eqO (PySem.W.findIn K (.ref C) "__class__") (some (some (.builtin "object.__class__"))) &&
  (eqO (PySem.W.specialIn K (.builtin "object.__class__") "__get__") (some (some (.builtin "getset_descriptor.__get__"))) && (oB (PySem.W.takesIn K (.builtin "object.__class__")) (some true) &&
  (oB (PySem.W.mroIn K C (.type "object")) (some true) && PySem.W.keepIn K (.ref C)))))))))))
theorem born_in {K : PySem.W.Frag} {C : Addr} {bmB : List Value} {newId : String} (q : PySem.W.excInitIn K C bmB newId = true) :
    ∃ nm qn N bs bm hd sn sub ab col dd k0 k1 k2 k3 k5, K.lookup C = some (excClassObj nm qn C N bs bm hd sn sub ab col dd k0 k1 k2 k3 k5 newId) ∧ PySem.W.excTail bmB bm = true := by
  unfold PySem.W.excInitIn at q
  split at q
  · rename_i dd cd sl at_
    obtain ⟨nm, bs, mro, ns, qn, hd, sn, sub, ab, col, del⟩ := cd
    obtain ⟨l⟩ := sl
    cases mro with
    | nil => cases q
    | cons c bm =>
      cases c with
      | ref C' =>
        match l, q with
        | [k0, k1, k2, k3, some (.builtin n), k5], q =>
          have q' : (C' == C && n == newId && !del && PySem.W.excTail bmB bm) = true := q
          simp only [Bool.and_eq_true, beq_iff_eq, Bool.not_eq_true'] at q'
          obtain ⟨⟨⟨rfl, rfl⟩, rfl⟩, tail⟩ := q'
          exact ⟨nm, qn, ns, bs, bm, hd, sn, sub, ab, col, dd, k0, k1, k2, k3, k5, at_, tail⟩
      | _ => cases q
  · cases q
theorem oex_of {K : PySem.W.Frag} {i : Nat} {C : Addr} (h : oexB K i C = true) : Oex K C := by
  simp only [oexB, Bool.and_eq_true, eqO, oB, decide_eq_true_eq] at h
  obtain ⟨over, ini, set, get, miss, exc, dct, cl, clg, clt, top, kp⟩ := h
  obtain ⟨initId, base⟩ := base_of i
  obtain ⟨nm, qn, N, bs, bm, hd, sn, sub, ab, col, dd, k0, k1, k2, k3, k5, at_, tail⟩ := born_in ini
  exact ⟨⟨_, _, initId, _, base, over, nm, qn, N, bs, bm, hd, sn, sub, ab, col, dd, k0, k1, k2, k3, k5, at_, tail⟩, set, get, miss, exc, dct, cl, clg, clt, top, kp⟩
theorem free_of {K : PySem.W.Frag} {C : Addr} {f : Str} (h : PySem.W.findIn K (.ref C) f = some none) : Free K C f := ⟨h, by unfold PySem.W.takerIn; rw [h] <;> rfl⟩
/-- the class at C has the def at fI for its __init__ -/
def iniB (K : PySem.W.Frag) (C : Addr) : Bool := eqO (PySem.W.findIn K (.ref C) "__init__") (some (some (.ref (ma K C "__init__")))) && decide (PySem.W.typeIn K (.ref (ma K C "__init__")) = some (.type "function"))
theorem ini_of {K : PySem.W.Frag} {C : Addr} (h : iniB K C = true) : Ini K C (ma K C "__init__") := by
  simp only [iniB, Bool.and_eq_true, eqO, decide_eq_true_eq] at h
  exact ⟨h.1, h.2⟩
/-! ### a Hook with a further look; sys.modules is among what is seen -/
def asS (g : Addr → Option Obj) (n : Nat) : List Addr := sysModules :: asD g n
abbrev AlS : Type := Bool × AlD
def obsS (fa : List Fa) (fn : List DefD) (chk : PySem.W.Frag → Bool) (K : PySem.W.Frag) : AlS := ((K.lookup sysModules).isSome && chk K, obsD fa fn K)
def obsSG (n : Nat) (fa : List Fa) (fn : List DefD) (chk : PySem.W.Frag → Bool) (g : Addr → Option Obj) : AlS := obsS fa fn chk (frG g (asS g n))
def hookS (n : Nat) (fa : List Fa) (fn : List DefD) (chk : PySem.W.Frag → Bool) : PySem.W.Hook where
  α := AlS
  obs := fun s => obsSG n fa fn chk s.heap.get?
  val := fun _ => (true, valD fn)
  says := fun _ h => ∃ K : PySem.W.Frag, K.In h ∧ obsS fa fn chk K = (true, valD fn)
  of := fun _ _ e => ⟨_, frG_in, e⟩
  keeps := fun _ _ _ ⟨K, hK, c⟩ k => ⟨K, PySem.W.Frag.In.keeps hK k, c⟩
theorem obsSG_eq {n : Nat} {fa : List Fa} {fn : List DefD} {chk : PySem.W.Frag → Bool} {g : Addr → Option Obj} {s : Shared} (h : ∀ a, g a = s.heap.get? a) : obsSG n fa fn chk g = (hookS n fa fn chk).obs s := by
  rw [show g = s.heap.get? from funext h] <;> rfl
theorem saysS {fa : List Fa} {fn : List DefD} {chk : PySem.W.Frag → Bool} {K : PySem.W.Frag} (h : obsS fa fn chk K = (true, valD fn)) : SysIn K ∧ chk K = true ∧ SaysD fa fn K := by
  have h1 : ((K.lookup sysModules).isSome && chk K) = true := congrArg (fun z : AlS => z.1) h
  have h2 : obsD fa fn K = valD fn := congrArg (fun z : AlS => z.2) h
  obtain ⟨a, b⟩ := Bool.and_eq_true_iff.mp h1
  exact ⟨Option.isSome_iff_exists.mp a, b, h2⟩
end SwX
set_option Elab.async false
set_option linter.all false
set_option maxRecDepth 100000
set_option maxHeartbeats 4000000
/-! a def by its name; joined rules, so that a body's term needs no types; heaps that grow -/
namespace SwX
open PySem PySem.Spec PyProof.Rows L2
/-- the module's name x is a def that keeps sp -/
structure Has (P : Program) (w : World) (K : PySem.W.Frag) (mg : Str → Option Value) (base : Heap) (x : Str) (k : Nat) (ps : List Str) (sp : Sp) : Prop where
  ex : ∃ f fd, FnOk P w K mg base CX0 k f fd ps sp ∧ mg x = some (.ref f) ∧ PySem.W.keepIn K (.ref f) = true ∧ Binds K fd ps []
/-- the same where no repr is under way -/
structure HasG (P : Program) (w : World) (K : PySem.W.Frag) (mg : Str → Option Value) (base : Heap) (x : Str) (k : Nat) (ps : List Str) (sp : Sp) : Prop where
  ex : ∃ f fd, FnG P w K mg base CX0 k f fd ps sp ∧ mg x = some (.ref f) ∧ PySem.W.keepIn K (.ref f) = true ∧ Binds K fd ps []
/-- the module's name x is an own exception class, its __init__ keeps sp; m keywords ks -/
structure HasX (P : Program) (w : World) (K : PySem.W.Frag) (mg : Str → Option Value) (base : Heap) (x : Str) (k : Nat) (C : Addr) (n : Nat) (ks : List Str) (g : {α : Type} → List α → List α → List α) (sp : Sp) : Prop where
  ex : ∃ fI fd ps, Oex K C ∧ Ini K C fI ∧ FnOk P w K mg base CX0 k fI fd ps sp ∧ mg x = some (.ref C) ∧ KBn K fd ps (n + 1) [] (fun us _ => us) (fun vs _ => vs) ∧ KBn K fd ps 1 ks (fun us ws => g us ws) (fun vs zs => g vs zs)
section
variable {X : Cx} {k n : Nat} {C : Addr} {ps ks : List Str} {sp : Sp} {x : Str} {p pos : Pos} {e : Expr} {es : List Expr} {kws : List Keyword} {t tk : TA} {gg : {α : Type} → List α → List α → List α}
theorem pe_has (D : Has X.prog X.w X.K X.mg X.base x k ps sp) (hr : Room k X.A) (ha : PA X (e :: es) t) (hg : Gl X x := by rfl) (hdb : (x == ("__debug__" : Str)) = false := by decide)
    (he : starEach (e :: es) X.env = (false, eval e X.env) :: starEach es X.env := by rfl) (hpl : (backTo pos (starEach es X.env)).any (·.1) = false := by rfl) : PE X (.Call (.Name x p) (e :: es) [] pos) (tCall sp [] E0 t) := by
  obtain ⟨f, fd, F, hm, hk, hb⟩ := D.ex
  exact pe_call F hr hg hm hk hb .nil pass0 ha hdb he hpl
theorem pe_hasG (D : HasG X.prog X.w X.K X.mg X.base x k ps sp) (hr : Room k X.A) (calm : Calm X.A) (ha : PA X (e :: es) t) (hg : Gl X x := by rfl) (hdb : (x == ("__debug__" : Str)) = false := by decide)
    (he : starEach (e :: es) X.env = (false, eval e X.env) :: starEach es X.env := by rfl) (hpl : (backTo pos (starEach es X.env)).any (·.1) = false := by rfl) : PE X (.Call (.Name x p) (e :: es) [] pos) (tCall sp [] E0 t) := by
  obtain ⟨f, fd, F, hm, hk, hb⟩ := D.ex
  exact pe_callG F hr calm hg hm hk hb .nil pass0 ha hdb he hpl
theorem pe_newH (D : HasX X.prog X.w X.K X.mg X.base x k C n ks gg sp) (hr : Room (k + 1) X.A) (ha : PA X (e :: es) t) (hg : Gl X x := by rfl) (hdb : (x == ("__debug__" : Str)) = false := by decide)
    (he : starEach (e :: es) X.env = (false, eval e X.env) :: starEach es X.env := by rfl) (hpl : (backTo pos (starEach es X.env)).any (·.1) = false := by rfl) :
    PE X (.Call (.Name x p) (e :: es) [] pos) (tNewX C n 0 sp (fun vs _ => vs) E0 t tNil) := by
  obtain ⟨fI, fd, ps, T, i, F, hm, b, _⟩ := D.ex
  exact pe_newX T i F hr hg hm b pass0 ha hdb he hpl
theorem pe_newHK (D : HasX X.prog X.w X.K X.mg X.base x k C n ks gg sp) (hr : Room (k + 1) X.A) (hkw : PK X kws tk) (hg : Gl X x := by rfl)
    (hall : (backToKw pos (keywordEach kws X.env)).all (·.1.isSome) = true := by rfl) (hks : (backToKw pos (keywordEach kws X.env)).filterMap (·.1) = ks := by rfl) (hdb : (x == ("__debug__" : Str)) = false := by decide)
    (hpl : ((backTo pos (starEach [] X.env)).any (·.1) || (backToKw pos (keywordEach kws X.env)).any (·.1.isNone)) = false := by rfl) : PE X (.Call (.Name x p) [] kws pos) (tNewX C 0 ks.length sp (fun vs zs => gg vs zs) E0 tNil tk) := by
  obtain ⟨fI, fd, ps, T, i, F, hm, _, b⟩ := D.ex
  exact pe_newXK T i F hr hg hm b pass0 hkw hall hks hdb hpl
end
/-! ### joined rules -/
section
variable {X : Cx} {k : Nat}
theorem op_join {f : Value → Value → Sem Value} {r r' : R2} (h : OpR X f r) (h' : OpR X f r') : OpR X f (fun x y H Q => r x y H Q ∨ r' x y H Q) := fun pins s σ H x y v u Q I rx ry z => z.elim (h pins s σ H x y v u Q I rx ry) (h' pins s σ H x y v u Q I rx ry)
theorem ix_join {r r' : R2} (h : IxR X r) (h' : IxR X r') : IxR X (fun x y H Q => r x y H Q ∨ r' x y H Q) := fun a b pins s σ H x y v u Q I rx ry z hs => z.elim (fun z => h a b pins s σ H x y v u Q I rx ry z hs) fun z => h' a b pins s σ H x y v u Q I rx ry z hs
theorem cr_join {f : Value} {r r' : List V → Hp → VK → Prop} (h : CallR X f r) (h' : CallR X f r') : CallR X f (fun xs H Q => r xs H Q ∨ r' xs H Q) := fun pins s σ H xs us Q I rx z => z.elim (h pins s σ H xs us Q I rx) (h' pins s σ H xs us Q I rx)
/-- a + b: ints | lists -/
theorem op_addA : OpR X (binaryOp .Add) (fun x y H Q => rI0 (fun i j => .int (i + j)) x y H Q ∨ rCat x y H Q) := op_join op_add op_cat
/-- a == b: flat things | data -/
theorem op_eqA (hr : Room k X.A) : OpR X (compareOp .Eq) (fun x y H Q => rEq x y H Q ∨ rEqD X.K x y H Q) := op_join op_eq (op_eqD (by have := hr.un; omega))
theorem op_neA (hr : Room k X.A) : OpR X (compareOp .NotEq) (fun x y H Q => rNe x y H Q ∨ rNeD X.K x y H Q) := op_join op_ne (op_neD (by have := hr.un; omega))
/-- a[i]: lists | tuples -/
theorem ix_A : IxR X (fun x y H Q => rIxL X.K x y H Q ∨ rIxT X.K x y H Q) := ix_join ix_list ix_tup
end
/-! ### heaps that grow -/
open Evl (Ex)
theorem ex_new {H : Hp} {p : Addr} {o : HO} (h : H p = none) : Ex H (upd H p o) := Evl.Ex.new h
theorem ExAt.mono {H H' : Hp} {a C : Addr} {fs : List (Str × V)} (e : Ex H H') (h : ExAt H a C fs) : ExAt H' a C fs := by
  rcases h with ⟨h1, h2⟩ | ⟨d, h1, h2⟩
  · exact .inl ⟨e _ _ h1, h2⟩
  · exact .inr ⟨d, e _ _ h1, e _ _ h2⟩
/-- te gives, over any greater heap, a value of which P holds in a greater heap still -/
def Yi (te : TE) (σ : L2.St) (H : Hp) (P : V → Hp → Prop) : Prop := ∀ H1, Ex H H1 → ∀ Q : VK, (∀ v H2, Ex H1 H2 → P v H2 → Q v H2) → te σ H1 Q
/-- the same of an argument list -/
def Ys (ta : TA) (σ : L2.St) (H : Hp) (P : List V → Hp → Prop) : Prop := ∀ H1, Ex H H1 → ∀ Q : List V → Hp → Prop, (∀ vs H2, Ex H1 H2 → P vs H2 → Q vs H2) → ta σ H1 Q
section
variable {σ : L2.St} {H : Hp} {te : TE} {ta : TA} {P : V → Hp → Prop} {R : List V → Hp → Prop}
theorem Yi.mono {H' : Hp} (h : Yi te σ H P) (e : Ex H H') : Yi te σ H' P := fun H1 e1 => h H1 (e.trans e1)
theorem Ys.mono {H' : Hp} (h : Ys ta σ H R) (e : Ex H H') : Ys ta σ H' R := fun H1 e1 => h H1 (e.trans e1)
/-- items of a list, one predicate each -/
theorem ys_nil {α : Type} {F : α → V → Hp → Prop} : Ys tNil σ H fun vs H' => Paired (fun i v => F i v H') [] vs := fun H1 _ Q q => q [] H1 (Evl.Ex.refl H1) .nil
theorem ys_cons {α : Type} {F : α → V → Hp → Prop} {i : α} {is : List α} (mono : ∀ i v H H', Ex H H' → F i v H → F i v H') (h : Yi te σ H (F i)) (t : Ys ta σ H fun vs H' => Paired (fun i v => F i v H') is vs) :
    Ys (tCons te ta) σ H fun vs H' => Paired (fun i v => F i v H') (i :: is) vs := fun H1 e1 Q q =>
  h H1 e1 _ fun v H2 e2 p => t H2 (e1.trans e2) _ fun vs H3 e3 r => q (v :: vs) H3 (e2.trans e3) (.cons (mono i v H2 H3 e3 p) r)
theorem paired_mono {α : Type} {F : α → V → Hp → Prop} {H H' : Hp} (e : Ex H H') (mono : ∀ i v H H', Ex H H' → F i v H → F i v H') : ∀ {is : List α} {vs : List V}, Paired (fun i v => F i v H) is vs → Paired (fun i v => F i v H') is vs
  | _, _, .nil => .nil
  | _, _, .cons h t => .cons (mono _ _ _ _ e h) (paired_mono e mono t)
theorem paired_append {α β : Type} {F : α → β → Prop} : ∀ {is js : List α} {vs ws : List β}, Paired F is vs → Paired F js ws → Paired F (is ++ js) (vs ++ ws)
  | _, _, _, _, .nil, t => t
  | _, _, _, _, .cons h r, t => .cons h (paired_append r t)
theorem paired_get {α β : Type} {F : α → β → Prop} : ∀ {is : List α} {vs : List β} {n : Nat} {i : α}, Paired F is vs → is[n]? = some i → ∃ v, vs[n]? = some v ∧ F i v
  | _, _, n, _, .nil, e => by simp at e
  | _, _, 0, _, .cons h _, e => by
    simp at e
    subst e
    exact ⟨_, rfl, h⟩
  | _, _, n + 1, i, .cons _ t, e => by
    obtain ⟨v, e1, h⟩ := paired_get (n := n) (i := i) t (by simpa using e)
    exact ⟨v, by simpa using e1, h⟩
theorem paired_len {α β : Type} {F : α → β → Prop} {is : List α} {vs : List β} (h : Paired F is vs) : is.length = vs.length := Paired.length h
end
end SwX
set_option Elab.async false
set_option linter.all false
set_option maxRecDepth 100000
set_option maxHeartbeats 4000000
/-! readings of joined rules evaluated; the purse of the laws' draws -/
namespace SwX
open PySem PySem.Spec PyProof.Rows L2 Evl
section
variable {K : PySem.W.Frag} {σ : L2.St} {H : Hp} {x y z v : V} {r r' : R2} {te : TE}
theorem rv_l (h : RV r x y H z) : RV (fun x y H Q => r x y H Q ∨ r' x y H Q) x y H z := fun H1 e Q q => .inl (h H1 e Q q)
theorem rv_r (h : RV r' x y H z) : RV (fun x y H Q => r x y H Q ∨ r' x y H Q) x y H z := fun H1 e Q q => .inr (h H1 e Q q)
theorem rv_add {i j : Int} : RV (fun x y H Q => rI0 (fun i j => .int (i + j)) x y H Q ∨ rCat x y H Q) (.int i) (.int j) H (.int (i + j)) := rv_l rv_I0
theorem rv_at {p : Addr} {xs : List V} {i : Int} (h : SqL K H p xs) (ha : atI xs i = some v) : RV (fun x y H Q => rIxL K x y H Q ∨ rIxT K x y H Q) (.ref p) (.int i) H v := rv_l (rv_ixL h ha)
theorem rv_atT {p : Addr} {xs : List V} {i : Int} (h : SqT K H p xs) (ha : atI xs i = some v) : RV (fun x y H Q => rIxL K x y H Q ∨ rIxT K x y H Q) (.ref p) (.int i) H v := rv_r (rv_ixT h ha)
/-- a statement, then the rest -/
theorem s_seq {t u : TS} {D : Ends} (h : t { D with nx := u D } σ H) : tSeq t u D σ H := h
/-- int(i) -/
def rInt1 : List V → Hp → VK → Prop := fun xs H Q => (∃ i, xs = [.int i] ∧ Q (.int i) H) ∨ ∃ k, xs = [.bl k] ∧ Q (.int (if k then 1 else 0)) H
theorem ev_int1 {i : Int} (h : Ev te σ H (.int i)) : Ev (tCB rInt1 (tCons te tNil)) σ H (.int i) := ev_cb (ea_cons h ea_nil) fun H1 _ _ q => .inl ⟨i, rfl, q H1 (Ex.refl H1)⟩
end
/-- the purse at a: its state, what is left of a great number, its count -/
def Pur (H : Hp) (a : Addr) : Prop := ∃ x y z : Int, H a = some (.lst [.int x, .int y, .int z]) ∧ 0 ≤ x ∧ x < 2147483629 ∧ 0 ≤ y
/-- the heap without what stands at a -/
def less (a : Addr) (H : Hp) : Hp := fun b => if b = a then none else H b
theorem less_at {a : Addr} {H : Hp} : less a H a = none := if_pos rfl
theorem less_ne {a b : Addr} {H : Hp} (h : b ≠ a) : less a H b = H b := if_neg h
theorem less_ex {a : Addr} {H : Hp} : Ex (less a H) H := fun b o e => by
  unfold less at e
  split at e
  · cases e
  · exact e
theorem ex_less {a : Addr} {G H : Hp} (n : G a = none) (e : Ex G H) : Ex G (less a H) := fun b o h => by
  rw [less_ne (fun z => by rw [z, n] at h; cases h)]
  exact e b o h
theorem less_upd {a : Addr} {H H1 : Hp} {o : HO} (e : Ex (less a H) H1) : Ex (less a H) (upd H1 a o) := e.mut less_at
/-- what was known aside of the purse is known still -/
theorem ex_past {a : Addr} {G H H' : Hp} (n : G a = none) (e : Ex G H) (e' : Ex (less a H) H') : Ex G H' := (ex_less n e).trans e'
theorem Pur.keep {a : Addr} {H H' : Hp} (h : Pur H a) (e : Ex H H') : Pur H' a := by
  obtain ⟨x, y, z, q, r⟩ := h
  exact ⟨x, y, z, e _ _ q, r⟩
/-! promises of the three defs that draw -/
def spSeed (K : PySem.W.Frag) : Sp := fun vs H Q _ => ∃ (a : Addr) (ns : List Int) (k : Int), vs = [.ref a, .int k] ∧ SqL K H a (ns.map V.int) ∧ 0 ≤ k ∧ k ≤ 1000 ∧ ∀ n H', Ex H H' → Q (.int n) H'
def spPurse : Sp := fun vs H Q _ => ∃ n : Int, vs = [.int n] ∧ ∀ a H', H a = none → Ex H H' → Pur H' a → Q (.ref a) H'
def spDraw : Sp := fun vs H Q _ => ∃ (a : Addr) (m : Int), vs = [.ref a, .int m] ∧ 0 < m ∧ m ≤ 1000000 ∧ Pur H a ∧ ∀ k H', 0 ≤ k → k < m → Pur H' a → Ex (less a H) H' → Q (.int k) H'
theorem pylong_small {i j : Int} (h : 0 < j) (h2 : j ≤ 1000000) : CDivP i j := by
  refine ⟨h, ?_⟩
  have e : (2 : Nat) ^ 20 = 1048576 := by decide
  have l : j.natAbs.log2 < 20 := (Nat.log2_lt (by omega)).mpr (by omega)
  have n : j ≠ 0 := by omega
  simp [Builtin.divisionGoesByPylong, n]
  intro q
  omega
theorem cut_mem {xs : List V} {lo hi : Option Int} {i : Nat} {x : V} (h : (cutV xs lo hi)[i]? = some x) : x ∈ xs := List.mem_of_mem_drop (List.mem_of_mem_take (List.mem_of_getElem? h))
end SwX
set_option Elab.async false
set_option linter.all false
set_option maxRecDepth 100000
set_option maxHeartbeats 4000000
/-! own exceptions and lists of things, evaluated over heaps that grow -/
namespace SwX
open PySem PySem.Spec PyProof.Rows L2 Evl
/-! ### keywords without defaults -/
theorem kbn_of {K : PySem.W.Frag} {x qual : Str} {params : Arguments} {body : List Stmt} {scope : Scope} {kws : List (Str × V)} {f : Addr} {fd : FuncData} {ps : List Str} (F : FunD K x qual params body scope [] kws f fd) (n : Nat) (ks : List Str) (g : {α : Type} → List α → List α → List α)
    (hrel : ∀ {vs zs : List V} {us ws : List Value}, Vals vs us → Vals zs ws → Vals (g vs zs) (g us ws))
    (h : ∀ (kV doc pm : Value) (an : Option Addr) (cdv ct : Value) (us ws : List Value), us.length = n → ws.length = ks.length → bindArgs (PySem.W.fnOf x qual params body scope .none kV doc pm an cdv ct) ⟨us, ks.zip ws⟩ = pure (ps.zip (g us ws))) : KBn K fd ps n ks (fun us ws => g us ws) (fun vs zs => g vs zs) := by
  obtain ⟨oc, od, dV, kV, doc, pm, an, cdv, ct, osl, rfl, lk, hcd, hD, hK⟩ := F.ex
  rcases hD with ⟨_, rfl⟩ | ⟨e, _⟩
  · exact ⟨fun s us ws _ l1 l2 => .of_eq (h kV doc pm an cdv ct us ws l1 l2), fun r1 r2 => hrel r1 r2⟩
  · exact absurd rfl e
theorem vals_rev : ∀ {vs : List V} {us : List Value}, Vals vs us → Vals vs.reverse us.reverse
  | _, _, .nil => .nil
  | _, _, .cons r t => by
    rw [List.reverse_cons, List.reverse_cons]
    exact (vals_rev t).append (.cons r .nil)
/-! ### things over growing heaps -/
section
variable {K : PySem.W.Frag} {σ : L2.St} {H H' : Hp} {te ta' tb' : TE} {ta : TA} {P P' : V → Hp → Prop} {D : Ends} {tz : TS} {v : V}
theorem Yi.imp (h : Yi te σ H P) (i : ∀ v H', Ex H H' → P v H' → P' v H') : Yi te σ H P' := fun H1 e1 Q q => h H1 e1 Q fun v H2 e2 p => q v H2 e2 (i v H2 (e1.trans e2) p)
theorem yi_ev (h : Ev te σ H v) : Yi te σ H fun x _ => x = v := fun H1 e1 Q q => h H1 e1 Q fun H2 e2 => q v H2 e2 rfl
theorem yi_var {i : Nat} (h : σ[i]? = some (some v)) (m : ∀ H1, Ex H H1 → P v H1) : Yi (tVar i) σ H P := fun H1 e1 Q q => ⟨v, h, q v H1 (Ex.refl H1) (m H1 e1)⟩
theorem q_asgY {i : Nat} (h : Yi te σ H P) (k : ∀ v H1, Ex H H1 → P v H1 → tz D (σ.set i (some v)) H1) : tSeq (tAsg te (gName i)) tz D σ H := h H (Ex.refl H) _ k
theorem s_retY (h : Yi te σ H P) (k : ∀ v H1, Ex H H1 → P v H1 → D.rt v H1) : tRet te D σ H := h H (Ex.refl H) _ k
/-- a list, each of its items as F says of its index's datum -/
def LstOf {α : Type} (F : α → V → Hp → Prop) (is : List α) (x : V) (H : Hp) : Prop := ∃ p vs, x = .ref p ∧ H p = some (.lst vs) ∧ Paired (fun i v => F i v H) is vs
section
variable {α : Type} {F : α → V → Hp → Prop} {is js : List α}
theorem LstOf.mono {x : V} (m : ∀ i v H H', Ex H H' → F i v H → F i v H') (e : Ex H H') (h : LstOf F is x H) : LstOf F is x H' := by
  obtain ⟨p, vs, rfl, hp, q⟩ := h
  exact ⟨p, vs, rfl, e _ _ hp, paired_mono e m q⟩
theorem yi_lst (m : ∀ i v H H', Ex H H' → F i v H → F i v H') (h : Ys ta σ H fun vs H' => Paired (fun i v => F i v H') is vs) (l : is.length ≤ 100000) : Yi (tLst ta) σ H (LstOf F is) := fun H1 e1 Q q =>
  h H1 e1 _ fun vs H2 e2 p => ⟨sz_of (by rw [← paired_len p]; exact l), fun a ha => q (.ref a) _ (e2.trans (Ex.new ha)) ⟨a, vs, rfl, upd_same, paired_mono (Ex.new ha) m p⟩⟩
theorem yi_cat (m : ∀ i v H H', Ex H H' → F i v H → F i v H') (ha : Yi ta' σ H (LstOf F is)) (hb : Yi tb' σ H (LstOf F js)) (l : is.length + js.length ≤ 100000) :
    Yi (tOp (fun x y H Q => rI0 (fun i j => .int (i + j)) x y H Q ∨ rCat x y H Q) ta' tb') σ H (LstOf F (is ++ js)) := fun H1 e1 Q q =>
  ha H1 e1 _ fun x H2 e2 p => hb H2 (e1.trans e2) _ fun y H3 e3 p' => by
    obtain ⟨a, vs, rfl, ha, pa⟩ := p.mono m e3
    obtain ⟨b, ws, rfl, hb, pb⟩ := p'
    refine .inr ⟨a, b, vs, ws, rfl, rfl, ha, hb, sz_of (by rw [← paired_len pa, ← paired_len pb]; exact l), fun c hc => ?_⟩
    exact q _ _ ((e2.trans e3).trans (Ex.new hc)) ⟨c, _, rfl, upd_same, paired_mono (Ex.new hc) m (paired_append pa pb)⟩
end
/-! truths in a list -/
def Tru (b : Bool) (v : V) (_ : Hp) : Prop := v = .bl b
theorem tru_mono (i : Bool) (v : V) (H H' : Hp) (_ : Ex H H') (h : Tru i v H) : Tru i v H' := h
theorem trus : ∀ {bs : List Bool} {vs : List V} {H : Hp}, Paired (fun b v => Tru b v H) bs vs → vs = bs.map V.bl
  | _, _, _, .nil => rfl
  | _, _, _, .cons h t => by rw [trus t, List.map_cons, show _ = V.bl _ from h]
theorem LstOf.trus {bs : List Bool} {x : V} (h : LstOf Tru bs x H) : ∃ p, x = .ref p ∧ H p = some (.lst (bs.map V.bl)) := by
  obtain ⟨p, vs, rfl, hp, q⟩ := h
  rw [SwX.trus q] at hp
  exact ⟨p, rfl, hp⟩
theorem dpAll_bl : ∀ bs : List Bool, DpAll K H (bs.map V.bl) (bs.map PyData.bool)
  | [] => .nil
  | b :: r => .cons (.bl b) (dpAll_bl r)
/-! isinstance -/
theorem ev_isX {a C : Addr} {fs : List (Str × V)} {c : V} {u : Value} {b : Bool} (h : Ev te σ H (.ref a)) (hc : Ev tb' σ H c) (x : ExAt H a C fs) (T : Oex K C) (k : ClsV c u) (e : PySem.W.kitOne K (.ref C) u = some b) : Ev (tCB (rIsX K) (tCons te (tCons tb' tNil))) σ H (.bl b) := fun H1 e1 Q q =>
  h H1 e1 _ fun H2 e2 => hc H2 (e1.trans e2) _ fun H3 e3 => ⟨a, C, fs, c, u, b, rfl, x.mono ((e1.trans e2).trans e3), T, k, e, q H3 (e2.trans e3)⟩
theorem ev_fldX {a C : Addr} {fs : List (Str × V)} {f : Str} {v : V} (h : Ev te σ H (.ref a)) (x : ExAt H a C fs) (T : Oex K C) (n : Free K C f) (l : fs.lookup f = some v) : Ev (tFldX K f te) σ H v := fun H1 e1 Q q =>
  h H1 e1 _ fun H2 e2 => ⟨a, C, fs, v, rfl, x.mono (e1.trans e2), T, n, l, q H2 e2⟩
theorem yi_tru {b : Bool} (h : Ev te σ H (.bl b)) : Yi te σ H (Tru b) := yi_ev h
theorem dp_trus {bs : List Bool} {p : Addr} (h : H p = some (.lst (bs.map V.bl))) : Dp K H (.ref p) (.list (bs.map PyData.bool)) := .lst (sq_of h) (dpAll_bl bs)
/-- two lists of truths -/
theorem rv_neTru {bs cs : List Bool} {p q : Addr} {z : Bool} (hp : H p = some (.lst (bs.map V.bl))) (hq : H q = some (.lst (cs.map V.bl))) (s1 : SeqAt.shaped (.list (bs.map PyData.bool)) = true) (s2 : SeqAt.shaped (.list (cs.map PyData.bool)) = true) (e : PyData.eqv (.list (bs.map PyData.bool)) (.list (cs.map PyData.bool)) = z) :
    RV (fun x y H Q => rNe x y H Q ∨ rNeD K x y H Q) (.ref p) (.ref q) H (.bl (!z)) := fun H1 e1 Q k => .inr ⟨_, _, dp_trus (e1 _ _ hp), dp_trus (e1 _ _ hq), s1, s2, by rw [e]; exact k H1 (Ex.refl H1)⟩
theorem ev_eqTru {bs cs : List Bool} {p : Addr} {z : Bool} (ha : Ev te σ H (.ref p)) (hp : H p = some (.lst (bs.map V.bl))) (hb : Yi tb' σ H (LstOf Tru cs)) (s1 : SeqAt.shaped (.list (bs.map PyData.bool)) = true) (s2 : SeqAt.shaped (.list (cs.map PyData.bool)) = true) (e : PyData.eqv (.list (bs.map PyData.bool)) (.list (cs.map PyData.bool)) = z) :
    Ev (tOp (fun x y H Q => rEq x y H Q ∨ rEqD K x y H Q) te tb') σ H (.bl z) := fun H1 e1 Q k => ha H1 e1 _ fun H2 e2 => hb H2 (e1.trans e2) _ fun y H3 e3 l => by
  obtain ⟨q, rfl, hq⟩ := l.trus
  exact .inr ⟨_, _, dp_trus (((e1.trans e2).trans e3) _ _ hp), dp_trus hq, s1, s2, by rw [e]; exact k H3 (e2.trans e3)⟩
theorem ev_chainI {f g : Int → Int → Bool} {i j l : Int} {tc : TE} (ha : Ev te σ H (.int i)) (hb : Ev ta' σ H (.int j)) (hc : Ev tc σ H (.int l)) : Ev (tChain (rI0 fun a b => .bl (f a b)) (rI0 fun a b => .bl (g a b)) te ta' tc) σ H (.bl (f i j && g j l)) := fun H1 e1 Q k =>
  ha H1 e1 _ fun H2 e2 => hb H2 (e1.trans e2) _ fun H3 e3 => ⟨i, j, rfl, rfl, f i j, rfl, by
    have fin : ∀ H4, Ex H3 H4 → Q (.bl (f i j && g j l)) H4 := fun H4 e4 => k H4 ((e2.trans e3).trans e4)
    cases c : f i j with
    | false =>
      rw [c] at fin
      exact fin H3 (Ex.refl H3)
    | true =>
      rw [c] at fin
      exact hc H3 ((e1.trans e2).trans e3) _ fun H4 e4 => ⟨j, l, rfl, rfl, fin H4 e4⟩⟩
theorem el_ifY {b : Bool} {tt : TT} {xs : List V} (h : EvT tt σ H b) (h1 : b = true → EvL ta' σ H xs) (h2 : b = false → EvL tb' σ H xs) : EvL (tIf tt ta' tb') σ H xs := fun H1 e1 Q k => h H1 e1 _ fun H2 e2 => by
  have k2 : ∀ p H3, H2 p = none → Ex H2 H3 → H3 p = some (.lst xs) → Q (.ref p) H3 := fun p H3 n e3 h3 => k p H3 (fresh_back e2 n) (e2.trans e3) h3
  cases b with
  | true =>
    show ta' σ H2 Q
    exact h1 rfl H2 (e1.trans e2) Q k2
  | false =>
    show tb' σ H2 Q
    exact h2 rfl H2 (e1.trans e2) Q k2
/-! making one -/
def spIni1 (C : Addr) (f : Str) : Sp := fun vs H Q _ => ∃ a v, vs = [.ref a, v] ∧ H a = some (exo a C none) ∧ ∀ d, H d = none → d ≠ a → Q .non (upd (upd H d (exd d [(f, v)])) a (exo a C (some d)))
def spIni2 (C : Addr) (f g : Str) : Sp := fun vs H Q _ => ∃ a v u, vs = [.ref a, v, u] ∧ H a = some (exo a C none) ∧ ∀ d, H d = none → d ≠ a → ∀ H', H' = upd (upd (upd H d (exd d [(f, v)])) a (exo a C (some d))) d (exd d [(g, u), (f, v)]) → Q .non H'
theorem exAt_new {a C d : Addr} {H : Hp} {fs : List (Str × V)} (h : H a = none) (hd : upd H a (exo a C none) d = none) : Ex H (upd (upd (upd H a (exo a C none)) d (exd d fs)) a (exo a C (some d))) ∧ ExAt (upd (upd (upd H a (exo a C none)) d (exd d fs)) a (exo a C (some d))) a C fs := by
  have ne : d ≠ a := fun z => by rw [z, upd_same] at hd; cases hd
  have hd' : H d = none := by rwa [upd_ne ne] at hd
  exact ⟨((Ex.refl H).mut h).mut hd' |>.mut h, .inr ⟨d, upd_same, by rw [upd_ne ne, upd_same]⟩⟩
section
variable {C : Addr} {E : XK} {f g : Str} {tv tu : TE} {u : V} {gV : List V → List V → List V}
theorem yi_new1 (h : Ev tv σ H v) (hg : ∀ x, gV [x, v] [] = [x, v] := by intros; rfl) : Yi (tNewX C 1 0 (spIni1 C f) gV E (tCons tv tNil) tNil) σ H fun x H' => ∃ a, x = .ref a ∧ ExAt H' a C [(f, v)] := fun H1 e1 Q q =>
  h H1 e1 _ fun H2 e2 => ⟨⟨rfl, rfl, by decide⟩, fun a ha => ⟨a, v, hg _, upd_same, fun d hd ne => ⟨rfl, q _ _ (e2.trans (exAt_new ha hd).1) ⟨a, rfl, (exAt_new ha hd).2⟩⟩⟩⟩
theorem yi_newK1 (h : Ev tv σ H v) (hg : ∀ x, gV [x] [v] = [x, v] := by intros; rfl) : Yi (tNewX C 0 1 (spIni1 C f) gV E tNil (tCons tv tNil)) σ H fun x H' => ∃ a, x = .ref a ∧ ExAt H' a C [(f, v)] := fun H1 e1 Q q =>
  h H1 e1 _ fun H2 e2 => ⟨⟨rfl, rfl, by decide⟩, fun a ha => ⟨a, v, hg _, upd_same, fun d hd ne => ⟨rfl, q _ _ (e2.trans (exAt_new ha hd).1) ⟨a, rfl, (exAt_new ha hd).2⟩⟩⟩⟩
theorem exAt_new2 {a d : Addr} {H : Hp} (h : H a = none) (hd : upd H a (exo a C none) d = none) :
    Ex H (upd (upd (upd (upd H a (exo a C none)) d (exd d [(f, v)])) a (exo a C (some d))) d (exd d [(g, u), (f, v)])) ∧ ExAt (upd (upd (upd (upd H a (exo a C none)) d (exd d [(f, v)])) a (exo a C (some d))) d (exd d [(g, u), (f, v)])) a C [(g, u), (f, v)] := by
  have ne : d ≠ a := fun z => by rw [z, upd_same] at hd; cases hd
  have hd' : H d = none := by rwa [upd_ne ne] at hd
  exact ⟨(exAt_new h hd).1.mut hd', .inr ⟨d, by rw [upd_ne (Ne.symm ne), upd_same], upd_same⟩⟩
theorem yi_new2 (h : Ev tv σ H v) (hu : Ev tu σ H u) (hg : ∀ x, gV [x, v, u] [] = [x, v, u] := by intros; rfl) : Yi (tNewX C 2 0 (spIni2 C f g) gV E (tCons tv (tCons tu tNil)) tNil) σ H fun x H' => ∃ a, x = .ref a ∧ ExAt H' a C [(g, u), (f, v)] := fun H1 e1 Q q =>
  h H1 e1 _ fun H2 e2 => hu H2 (e1.trans e2) _ fun H3 e3 => ⟨⟨rfl, rfl, by decide⟩, fun a ha => ⟨a, v, u, hg _, upd_same, fun d hd ne H' e => by
    subst e
    exact ⟨rfl, q _ _ ((e2.trans e3).trans (exAt_new2 ha hd).1) ⟨a, rfl, (exAt_new2 ha hd).2⟩⟩⟩⟩
theorem yi_newK2 (h : Ev tv σ H v) (hu : Ev tu σ H u) (hg : ∀ x, gV [x] [u, v] = [x, v, u] := by intros; rfl) : Yi (tNewX C 0 2 (spIni2 C f g) gV E tNil (tCons tu (tCons tv tNil))) σ H fun x H' => ∃ a, x = .ref a ∧ ExAt H' a C [(g, u), (f, v)] := fun H1 e1 Q q =>
  hu H1 e1 _ fun H2 e2 => h H2 (e1.trans e2) _ fun H3 e3 => ⟨⟨rfl, rfl, by decide⟩, fun a ha => ⟨a, v, u, hg _, upd_same, fun d hd ne H' e => by
    subst e
    exact ⟨rfl, q _ _ ((e2.trans e3).trans (exAt_new2 ha hd).1) ⟨a, rfl, (exAt_new2 ha hd).2⟩⟩⟩⟩
theorem yi_new0 : Yi (fun _ H Q => ∀ a, H a = none → Q (.ref a) (upd H a (exo a C none))) σ H fun x H' => ∃ a, x = .ref a ∧ ExAt H' a C [] := fun H1 e1 Q q a ha => q _ _ (Ex.new ha) ⟨a, rfl, .inl ⟨upd_same, rfl⟩⟩
/-- the bodies of the two inits -/
theorem body_ini1 {D : Ends} {a C : Addr} {f : Str} {v : V} {H : Hp} {σ : L2.St} (T : Oex K C) (n : Free K C f) (h0 : σ[0]? = some (some (.ref a))) (h1 : σ[1]? = some (some v)) (h : H a = some (exo a C none)) (k : ∀ d, H d = none → d ≠ a → D.nx σ (upd (upd H d (exd d [(f, v)])) a (exo a C (some d)))) :
    tSetX K f (tVar 0) (tVar 1) D σ H := ⟨v, h1, .ref a, h0, a, C, rfl, T, n, .inl ⟨h, k⟩⟩
end
end
/-! ### names of the module, of the builtins -/
theorem pe_own {X : Cx} {x : Str} {C : Addr} {pos : Pos} (hm : X.mg x = some (.ref C)) (hg : Gl X x := by rfl) (hd : (x == ("__debug__" : Str)) = false := by decide) : PE X (.Name x pos) (tC (.ref C)) := pe_glob hg hm rfl hd
theorem pe_gint {X : Cx} {x : Str} {i : Int} {pos : Pos} (hm : ∃ t, X.mg x = some (.int i t)) (hg : Gl X x := by rfl) (hd : (x == ("__debug__" : Str)) = false := by decide) : PE X (.Name x pos) (tC (.int i)) := by
  obtain ⟨t, h⟩ := hm
  exact pe_glob hg h ⟨t, rfl⟩ hd
theorem pe_bty {X : Cx} {x : Str} {n : String} {pos : Pos} (hm : X.mg x = none) (hv : bootBuiltins x = some (.type n) := by decide +kernel) (hg : Gl X x := by rfl) (hn : x ≠ "__name__" := by decide) (hd : (x == ("__debug__" : Str)) = false := by decide) : PE X (.Name x pos) (tC (.ty n)) := pe_bltn hg hm hv rfl hn hd
/-! ### the rules of a list's count and index -/
section
variable {X : Cx} {k : Nat} {o e : Expr} {to te : TE} {apos cpos : Pos}
theorem rc_count {K : PySem.W.Frag} {σ : L2.St} {H : Hp} {p : Addr} {bs : List Bool} {b : Bool} {to te : TE} (ho : Ev to σ H (.ref p)) (hs : SqL K H p (bs.map V.bl)) (he : Ev te σ H (.bl b)) : Ev (tBM K "list" (rCountB K) to (tCons te tNil)) σ H (.int (bs.count b : Nat)) := fun H1 e1 Q q =>
  ho H1 e1 _ fun H2 e2 => ⟨.inl ⟨rfl, _, ex_l (e1.trans e2) hs⟩, he H2 (e1.trans e2) _ fun H3 e3 => ⟨p, bs, b, rfl, rfl, ex_l ((e1.trans e2).trans e3) hs, q H3 (e2.trans e3)⟩⟩
theorem rc_index {K : PySem.W.Frag} {σ : L2.St} {H : Hp} {p : Addr} {bs : List Bool} {j : Nat} {to te : TE} (ho : Ev to σ H (.ref p)) (hs : SqL K H p (bs.map V.bl)) (he : Ev te σ H (.bl true)) (h1 : bs[j]? = some true) (h2 : ∀ m, m < j → bs[m]? = some false) :
    Ev (tBM K "list" (rIndex K) to (tCons te tNil)) σ H (.int (j : Nat)) := fun H1 e1 Q q =>
  ho H1 e1 _ fun H2 e2 => ⟨.inl ⟨rfl, _, ex_l (e1.trans e2) hs⟩, he H2 (e1.trans e2) _ fun H3 e3 => ⟨p, bs.map V.bl, .bl true, j, .bl true, rfl, rfl, ex_l ((e1.trans e2).trans e3) hs, rfl, by
    rw [List.all_eq_true]
    intro x hx
    obtain ⟨c, _, rfl⟩ := List.mem_map.mp hx
    rfl, by rw [List.getElem?_map, h1]; rfl, rfl, fun m z hm hz => by
    rw [List.getElem?_map, h2 m hm] at hz
    cases hz
    rfl, q H3 (e2.trans e3)⟩⟩
end
end SwX
set_option Elab.async false
set_option linter.all false
set_option maxRecDepth 100000
set_option maxHeartbeats 4000000
/-! draws in readings; data beside the purse; repr of lists that are data -/
namespace SwX
open PySem PySem.Spec PyProof.Rows L2 Evl
/-! ### what repr can show shortly -/
structure Good (d : PyData) (n w : Nat) : Prop where
  sh : d.showable = true
  dp : d.depth ≤ n
  lv : d.leavesShort 100 = true
  wt : d.weight ≤ w
theorem Good.len {d : PyData} {n w : Nat} (h : Good d n w) (hw : w ≤ 100000) : d.shown.length ≤ sizeLine := by
  have z := PyData.shown_le 100 (by decide) d h.lv
  have y := h.wt
  exact Nat.le_trans z (Nat.le_trans (show (100 + 2) * d.weight + 100 ≤ 11000000 by omega) (by decide))
theorem good_int {i : Int} (h : i.natAbs < 10 ^ 41) : Good (.int i) 0 137 := by
  have big : (10 : Nat) ^ 41 < 2 ^ 137 := by decide
  refine ⟨?_, Nat.le_refl _, ?_, ?_⟩
  · show decide (i.natAbs.log2 < 1920) = true
    have p : (2 : Nat) ^ 137 ≤ 2 ^ 1920 := Nat.pow_le_pow_right (by decide) (by decide)
    have l : i.natAbs.log2 < 1920 := by
      by_cases z : i.natAbs = 0
      · rw [z]
        decide
      · exact (Nat.log2_lt z).mpr (by omega)
    exact decide_eq_true l
  · show decide ((PyData.shown (.int i)).length ≤ 100) = true
    rw [PyData.shown_int]
    have l := int_text_length_le10 (a := i) (k := 41) (by decide) h
    refine decide_eq_true ?_
    rw [PySem.ofString_length]
    omega
  · show (if (i == 0) = true then 0 else i.natAbs.log2 + 1) ≤ 137
    split
    · omega
    · rename_i c
      have z : i.natAbs ≠ 0 := by simpa using c
      have l := (Nat.log2_lt z).mpr (show i.natAbs < 2 ^ 137 by omega)
      omega
/-! ### repr of a new list that is data -/
section
variable {K : PySem.W.Frag} {σ : L2.St} {H : Hp} {te : TE} {v : V}
theorem da_list {xs : List V} {ds : List PyData} {p : Addr} (h : H p = some (.lst xs)) (q : Paired (fun d v => Da K H v d) ds xs) : Da K H (.ref p) (.list ds) :=
  .lst h (paired_len q).symm fun i x d e1 e2 => by
    obtain ⟨y, e3, r⟩ := paired_get q e2
    rw [e1] at e3
    cases e3
    exact r
theorem da_tuple {xs : List V} {ds : List PyData} {p : Addr} (h : SqT K H p xs) (q : Paired (fun d v => Da K H v d) ds xs) : Da K H (.ref p) (.tuple ds) :=
  .tup h (paired_len q).symm fun i x d e1 e2 => by
    obtain ⟨y, e3, r⟩ := paired_get q e2
    rw [e1] at e3
    cases e3
    exact r
theorem ev_reprL {xs : List V} {ds : List PyData} {n w : Nat} (h : EvL te σ H xs) (da : ∀ H1, Ex H H1 → Paired (fun d v => Da K H1 v d) ds xs) (g : Good (.list ds) n w) (hn : n ≤ 150) (hw : w ≤ 100000) : Ev (tCB (rRepr K) (tCons te tNil)) σ H (.str (PyData.shown (.list ds))) := fun H1 e1 Q q =>
  h H1 e1 _ fun p H2 _ e2 h2 => ⟨p, .list ds, rfl, da_list h2 (da H2 (e1.trans e2)), g.sh, Nat.le_trans g.dp hn, g.len hw, q H2 e2⟩
theorem ev_reprV {p : Addr} {xs : List V} {ds : List PyData} {n w : Nat} (h : Ev te σ H (.ref p)) (hp : H p = some (.lst xs)) (da : ∀ H1, Ex H H1 → Paired (fun d v => Da K H1 v d) ds xs) (g : Good (.list ds) n w) (hn : n ≤ 150) (hw : w ≤ 100000) : Ev (tCB (rRepr K) (tCons te tNil)) σ H (.str (PyData.shown (.list ds))) := fun H1 e1 Q q =>
  h H1 e1 _ fun H2 e2 => ⟨p, .list ds, rfl, da_list (e2 _ _ (e1 _ _ hp)) (da H2 (e1.trans e2)), g.sh, Nat.le_trans g.dp hn, g.len hw, q H2 e2⟩
end
/-! ### draws: te gives a value of which P holds, the purse at a is kept, all else grows -/
def Dr (a : Addr) (te : TE) (σ : L2.St) (G : Hp) (P : V → Prop) : Prop := ∀ H1, Ex G H1 → Pur H1 a → ∀ Q : VK, (∀ v H2, P v → Ex G H2 → Pur H2 a → Q v H2) → te σ H1 Q
section
variable {K : PySem.W.Frag} {σ : L2.St} {G H : Hp} {a : Addr} {te ta tb : TE} {v : V} {P P1 P2 : V → Prop} {D : Ends} {tz : TS}
theorem dr_ev (h : Ev te σ G v) (hp : P v) : Dr a te σ G P := fun H1 e p Q q => h H1 e Q fun H2 e2 => q v H2 hp (e.trans e2) (p.keep e2)
theorem dr_op {r : R2} (ha : Dr a ta σ G P1) (hb : Dr a tb σ G P2) (hr : ∀ x y, P1 x → P2 y → ∃ z, P z ∧ ∀ H, RV r x y H z) : Dr a (tOp r ta tb) σ G P := fun H1 e p Q q =>
  ha H1 e p _ fun x H2 px e2 p2 => hb H2 e2 p2 _ fun y H3 py e3 p3 => by
    obtain ⟨z, pz, rv⟩ := hr x y px py
    exact rv H3 H3 (Ex.refl _) Q fun H4 e4 => q z H4 pz (e3.trans e4) (p3.keep e4)
theorem dr_draw {m : Int} {E : XK} {tm : TE} (n : G a = none) (h : σ[0]? = some (some (.ref a))) (hm : Ev tm σ G (.int m)) (m0 : 0 < m) (m1 : m ≤ 1000000) : Dr a (tCall spDraw [] E (tCons (tVar 0) (tCons tm tNil))) σ G fun v => ∃ k, v = .int k ∧ 0 ≤ k ∧ k < m := fun H1 e p Q q =>
  ⟨.ref a, h, hm H1 e _ fun H2 e2 => ⟨a, m, rfl, m0, m1, p.keep e2, fun k H3 k0 k1 p3 e3 => q _ H3 ⟨k, rfl, k0, k1⟩ ((ex_less n (e.trans e2)).trans e3) p3⟩⟩
theorem atI_nat {xs : List V} {k : Int} (h0 : 0 ≤ k) (h1 : k < xs.length) : ∃ v, atI xs k = some v ∧ xs[k.toNat]? = some v := by
  obtain ⟨j, rfl⟩ := Int.eq_ofNat_of_zero_le h0
  have hj : j < xs.length := by omega
  refine ⟨xs[j], ?_, by simp [hj]⟩
  unfold atI
  rw [ixN_nat hj]
  simp
/-- a new list's item by a draw -/
theorem dr_pick {xs : List V} (n : G a = none) (ha : EvL ta σ G xs) (hb : ∀ G', G' a = none → Ex G G' → Dr a tb σ G' fun v => ∃ k, v = .int k ∧ 0 ≤ k ∧ k < xs.length) : Dr a (tOp (fun x y H Q => rIxL K x y H Q ∨ rIxT K x y H Q) ta tb) σ G fun v => v ∈ xs := fun H1 e p Q q =>
  ha H1 e _ fun l H2 hl e2 h2 => by
    obtain ⟨x, y, z, hp, _⟩ := p
    have ne : l ≠ a := fun w => by rw [w, hp] at hl; cases hl
    refine hb (less a H2) less_at (ex_less n (e.trans e2)) H2 less_ex (Pur.keep ⟨x, y, z, hp, by assumption⟩ e2) _ fun k H3 pk e3 p3 => ?_
    obtain ⟨k, rfl, k0, k1⟩ := pk
    obtain ⟨v, hv, hv2⟩ := atI_nat k0 k1
    refine .inl ⟨l, xs, k, v, rfl, rfl, sq_of (e3 _ _ (by rw [less_ne ne]; exact h2)), hv, q v H3 (List.mem_of_getElem? hv2) ((ex_less n (e.trans e2)).trans e3) p3⟩
theorem q_asgDr {i : Nat} (h : Dr a te σ G P) (e : Ex G H) (p : Pur H a) (k : ∀ v H1, P v → Ex G H1 → Pur H1 a → tz D (σ.set i (some v)) H1) : tSeq (tAsg te (gName i)) tz D σ H := h H e p _ k
theorem s_retDr (h : Dr a te σ G P) (e : Ex G H) (p : Pur H a) (k : ∀ v H1, P v → Ex G H1 → Pur H1 a → D.rt v H1) : tRet te D σ H := h H e p _ k
end
/-! ### data beside the purse -/
def DaA (K : PySem.W.Frag) (a : Addr) (d : PyData) (v : V) (H : Hp) : Prop := Da K (less a H) v d
theorem less_mono {a : Addr} {H H' : Hp} (e : Ex H H') : Ex (less a H) (less a H') := ex_less less_at (less_ex.trans e)
theorem daA_mono {K : PySem.W.Frag} {a : Addr} (d : PyData) (v : V) (H H' : Hp) (e : Ex H H') (h : DaA K a d v H) : DaA K a d v H' := Da.mono (less_mono e) h
section
variable {K : PySem.W.Frag} {σ : L2.St} {H : Hp} {a : Addr} {te : TE} {ta : TA} {ds : List PyData} {o : HO}
theorem yi_dat {v : V} {d : PyData} (h : Ev te σ H v) (q : ∀ G, Da K G v d) : Yi te σ H (DaA K a d) := (yi_ev h).imp fun x H' _ e => by
  subst e
  exact q _
theorem yi_dtup (at_ : H a = some o) (h : Ys ta σ H fun vs H' => Paired (fun d v => DaA K a d v H') ds vs) (l : ds.length ≤ 100000) : Yi (tTup ta) σ H (DaA K a (.tuple ds)) := fun H1 e1 Q q =>
  h H1 e1 _ fun vs H2 e2 p => ⟨sz_of (by rw [← paired_len p]; exact l), fun c hc => by
    have ne : c ≠ a := fun z => by rw [z, (e1.trans e2) _ _ at_] at hc; cases hc
    have p' : Paired (fun d v => DaA K a d v (upd H2 c (.tup vs))) ds vs := paired_mono (Ex.new hc) daA_mono p
    exact q (.ref c) _ (e2.trans (Ex.new hc)) (da_tuple (.inl (.inl (by rw [less_ne ne, upd_same]))) p')⟩
theorem yi_dlst (at_ : H a = some o) (h : Ys ta σ H fun vs H' => Paired (fun d v => DaA K a d v H') ds vs) (l : ds.length ≤ 100000) : Yi (tLst ta) σ H (DaA K a (.list ds)) := fun H1 e1 Q q =>
  h H1 e1 _ fun vs H2 e2 p => ⟨sz_of (by rw [← paired_len p]; exact l), fun c hc => by
    have ne : c ≠ a := fun z => by rw [z, (e1.trans e2) _ _ at_] at hc; cases hc
    have p' : Paired (fun d v => DaA K a d v (upd H2 c (.lst vs))) ds vs := paired_mono (Ex.new hc) daA_mono p
    exact q (.ref c) _ (e2.trans (Ex.new hc)) (da_list (by rw [less_ne ne, upd_same]) p')⟩
theorem yi_ddic0 (at_ : H a = some o) : Yi tDNewK σ H (DaA K a (.dict [])) := fun H1 e1 Q q c hc => by
  have ne : c ≠ a := fun z => by rw [z, e1 _ _ at_] at hc; cases hc
  exact q (.ref c) _ (Ex.new hc) (.dic (kvs := []) (ds := []) (by rw [less_ne ne, upd_same]) rfl (fun i kv d e => by simp at e))
theorem yi_ddic1 {x : Str} {v : V} {d : PyData} {tk tv : TE} (at_ : H a = some o) (hk : Ev tk σ H (.str x)) (hv : Ev tv σ H v) (q : ∀ G, Da K G v d) : Yi (tDisp [(tk, tv)]) σ H (DaA K a (.dict [(.str x, d)])) := fun H1 e1 Q k c hc => by
  have ne : c ≠ a := fun z => by rw [z, e1 _ _ at_] at hc; cases hc
  refine hk _ (e1.trans (Ex.new hc)) _ fun H2 e2 => hv H2 ((e1.trans (Ex.new hc)).trans e2) _ fun H3 e3 => ⟨e3 _ _ (e2 _ _ upd_same), [(.inr x, v)], rfl, by simp, ?_⟩
  refine k (.ref c) _ ((show Ex H1 H3 from ((Ex.new hc).trans e2).trans e3).mut hc) (.dic (kvs := [(.inr x, v)]) (ds := [d]) (by rw [less_ne ne, upd_same]; rfl) rfl fun i kv d' h1 h2 => ?_)
  · cases i with
    | zero =>
      cases h1
      cases h2
      exact q _
    | succ i => simp at h1
end
theorem q_par {i j : Nat} {ta : TA} {u : TS} {D : Ends} {σ : L2.St} {H : Hp} (h : ta σ H fun vs H1 => ∃ v w, vs = [v, w] ∧ u D ((σ.set i (some v)).set j (some w)) H1) : tSeq (tPar i j ta) u D σ H := h
/-! ### a loop over a new list of such things -/
section
variable {α : Type} {F : α → V → Hp → Prop} {is : List α} {K : PySem.W.Frag} {σ : L2.St} {H : Hp} {tl : TE} {g : TG} {tu tz : TS} {D : Ends}
theorem q_forY (m : ∀ i v H H', Ex H H' → F i v H → F i v H') (h : Yi tl σ H (LstOf F is)) (Pv : Nat → L2.St → Prop) (h0 : Pv 0 σ)
    (hs : ∀ i d x H1 σ' H', is[i]? = some d → Ex H H1 → Ex H1 H' → F d x H' → Pv i σ' → g x σ' H' fun σ2 H2 => tu { D with nx := fun σ3 H3 => Pv (i + 1) σ3 ∧ Ex H1 H3, ct := fun σ3 H3 => Pv (i + 1) σ3 ∧ Ex H1 H3, bk := tz D } σ2 H2)
    (hd : ∀ σ' H', Ex H H' → Pv is.length σ' → tz D σ' H') : tSeq (tFor (iList K tl) g tu) tz D σ H := h H (Ex.refl H) _ fun x H1 e1 l => by
  obtain ⟨p, vs, rfl, hp, q⟩ := l
  refine ⟨p, rfl, ⟨vs, sq_of hp⟩, for_list (fun i σ' H' => Pv i σ' ∧ Ex H1 H') ⟨h0, Ex.refl H1⟩ (fun i σ' H' _ z => sq_of (z.2 _ _ hp)) (fun i x σ' H' hx z => ?_) fun σ' H' z => ?_⟩
  · have lt : i < is.length := by
      have := (List.getElem?_eq_some_iff.mp hx).1
      rw [← paired_len q] at this
      exact this
    have e2 : is[i]? = some is[i] := by simp [lt]
    obtain ⟨y, e3, f⟩ := paired_get q e2
    rw [hx] at e3
    cases e3
    exact hs i _ x H1 σ' H' e2 e1 z.2 (m _ _ _ _ z.2 f) z.1
  · rw [← paired_len q] at z
    exact hd σ' H' (e1.trans z.2) z.1
end
theorem kbn_pos {K : PySem.W.Frag} {fd : FuncData} {ps : List Str} {n : Nat} (h : KBn K fd ps n [] (fun us ws => us ++ ws.reverse) (fun vs zs => vs ++ zs.reverse)) : KBn K fd ps n [] (fun us _ => us) (fun vs _ => vs) :=
  ⟨fun s us ws X l1 l2 => (by
    cases ws with
    | nil =>
      have z := h.to s us [] X l1 rfl
      rw [List.reverse_nil, List.append_nil] at z
      exact z
    | cons _ _ => cases l2), fun {vs us zs ws} r1 _ => r1⟩
section
variable {K : PySem.W.Frag} {σ : L2.St} {H : Hp} {te ta tb : TE} {D : Ends}
theorem body_ini2 {a C : Addr} {f g : Str} {v u : V} (T : Oex K C) (n : Free K C f) (n2 : Free K C g) (h0 : σ[0]? = some (some (.ref a))) (h1 : σ[1]? = some (some v)) (h2 : σ[2]? = some (some u)) (h : H a = some (exo a C none))
    (k : ∀ d, H d = none → d ≠ a → ∀ H', H' = upd (upd (upd H d (exd d [(f, v)])) a (exo a C (some d))) d (exd d [(g, u), (f, v)]) → D.nx σ H') : tSeq (tSetX K f (tVar 0) (tVar 1)) (tSetX K g (tVar 0) (tVar 2)) D σ H :=
  ⟨v, h1, .ref a, h0, a, C, rfl, T, n, .inl ⟨h, fun d hd ne => ⟨u, h2, .ref a, h0, a, C, rfl, T, n2, .inr ⟨d, [(f, v)], upd_same, by rw [upd_ne ne, upd_same], by simp, k d hd ne _ rfl⟩⟩⟩⟩
theorem el_cat {l : Addr} {xs ys : List V} (ha : Ev ta σ H (.ref l)) (hl : H l = some (.lst xs)) (hb : EvL tb σ H ys) (z : xs.length + ys.length ≤ 100000) : EvL (tOp (fun x y H Q => rI0 (fun i j => .int (i + j)) x y H Q ∨ rCat x y H Q) ta tb) σ H (xs ++ ys) := fun H1 e1 Q q =>
  ha H1 e1 _ fun H2 e2 => hb H2 (e1.trans e2) _ fun p H3 _ e3 h3 => .inr ⟨l, p, xs, ys, rfl, rfl, e3 _ _ (e2 _ _ (e1 _ _ hl)), h3, sz_of z, fun c hc => q c _ (fresh_back (e2.trans e3) hc) ((e2.trans e3).trans (Ex.new hc)) upd_same⟩
theorem el_is {xs ys : List V} (h : EvL te σ H xs) (e : xs = ys) : EvL te σ H ys := e ▸ h
theorem ev_allT {bs : List Bool} (h : EvL te σ H (bs.map V.bl)) : Ev (tCB (rAll K) (tCons te tNil)) σ H (.bl (bs.all id)) := fun H1 e1 Q q => h H1 e1 _ fun p H2 _ e2 h2 => ⟨p, bs, rfl, sq_of h2, q H2 e2⟩
def rMin2 : List V → Hp → VK → Prop := fun xs H Q => ∃ i j, xs = [.int i, .int j] ∧ Q (.int (if j < i then j else i)) H
theorem ev_min2 {i j : Int} (ha : Ev ta σ H (.int i)) (hb : Ev tb σ H (.int j)) : Ev (tCB rMin2 (tCons ta (tCons tb tNil))) σ H (.int (if j < i then j else i)) := fun H1 e Q q =>
  ha H1 e _ fun H2 e2 => hb H2 (e.trans e2) _ fun H3 e3 => ⟨i, j, rfl, q H3 (e2.trans e3)⟩
end
end SwX
set_option Elab.async false
set_option linter.all false
set_option maxRecDepth 100000
set_option maxHeartbeats 4000000
/-! own +, ==, !=, str, len, bool of instances; statements that are never come to -/
namespace SwX
open PySem PySem.Spec PyProof.Rows L2
/-! ### what is never come to -/
theorem ps_never {X : Cx} {st : Stmt} : PS X st (fun _ _ _ => False) := ⟨fun _ _ _ _ _ _ z => z.elim⟩
theorem pss_never {X : Cx} {ss : List Stmt} : PSs X ss (fun _ _ _ => False) := ⟨fun _ _ _ _ _ _ z => z.elim⟩
theorem pe_never {X : Cx} {e : Expr} : PE X e (fun _ _ _ => False) := ⟨fun _ _ _ _ _ _ z => z.elim⟩
theorem rel_ref (a : Addr) : RelV (.ref a) (.ref a) := rfl
theorem rel_bl (k : Bool) : RelV (.bl k) (.bool k) := rfl
/-! ### a def called by the machine, at an around of its own -/
section
variable {X : Cx} {CX : CXT} {n : Nat} {f C : Addr} {fd : FuncData} {ps : List Str} {sp : Sp} {E : XK}
theorem by_machine {A' : Around} {pins : List (Addr × Obj)} {σ : L2.St} {H : Hp} {s : Shared} {Q : VK} {us : List Value} {vs : List V} (F : FnOk X.prog X.w X.K X.mg X.base CX n f fd ps sp) (room : Room n A') (same : A'.frames = X.A.frames) (b : Binds X.K fd ps []) (out : Passes CX X E)
    (I : Inv X pins σ H s) (r : Vals vs us) (h : sp vs H Q E) : wpAny (model X.prog X.w) A' (call (.ref f) us) (fun u s' => ∃ v H', Inv X pins σ H' s' ∧ RelV v u ∧ Q v H') X.xe s := by
  obtain ⟨fr, md, bs, bz, fu, ff, ho, ba⟩ := I.env0
  have z := b s us I.kIn (by simpa [← r.length] using F.len _ _ _ _ h)
  simp only [List.append_nil] at z
  refine wpAny_call (codeAny_mono (F.run A' X.stack s H ⟨us, []⟩ us vs Q E room ⟨same ▸ fr, md, bs, bz, fu, ff, ho, ba⟩ z r h) fun res s' q => ?_)
  cases res with
  | error er => exact out pins σ H s er s' I q
  | ok fl =>
    cases fl with
    | ret u =>
      obtain ⟨v, H', J, rv, q'⟩ := I.after q
      exact ⟨v, H', J, rv, q'⟩
    | next => exact q.elim
    | brk => exact q.elim
    | cont => exact q.elim
/-- the class at C has the def at f for its m -/
structure Spc (K : PySem.W.Frag) (C : Addr) (m : Str) (f : Addr) : Prop where
  at_ : PySem.W.findIn K (.ref C) m = some (some (.ref f))
  fn : PySem.W.isFn K (.ref f) = true
/-- an instance of the class at C in the abstract heap -/
def IsI (H : Hp) (a C : Addr) : Prop := ∃ dx fs, H a = some (.ins C dx fs)
theorem IsI.look {pins : List (Addr × Obj)} {σ : L2.St} {H : Hp} {s : Shared} {a : Addr} (I : Inv X pins σ H s) (h : IsI H a C) : ∃ ox od, PySem.W.InstAt s.heap a ox C od := by
  obtain ⟨dx, fs, e⟩ := h
  obtain ⟨mA, J, _⟩ := ins_get I.hok e
  obtain ⟨od, J, _⟩ := J.look
  exact ⟨_, _, J⟩
theorem IsI.mono {H H' : Hp} {a : Addr} (e : Evl.Ex H H') (h : IsI H a C) : IsI H' a C := by
  obtain ⟨dx, fs, z⟩ := h
  exact ⟨dx, fs, e _ _ z⟩
/-- a op b, both of the class at C -/
def rOwn (C : Addr) (sp : Sp) (E : XK) : R2 := fun x y H Q => ∃ a b, x = .ref a ∧ y = .ref b ∧ IsI H a C ∧ IsI H b C ∧ sp [.ref a, .ref b] H (fun v H' => (∃ c, v = .ref c) ∧ Q v H') E
theorem op_own {op : Operator} (F : FnOk X.prog X.w X.K X.mg X.base CX n f fd ps sp) (S : Spc X.K C (PySem.dunder op.info.2) f) (first : PySem.W.selfFirst X.K C = true) (b : Binds X.K fd ps []) (out : Passes CX X E) (room : Room n X.A) : OpR X (binaryOp op) (rOwn C sp E) := by
  intro pins s σ H x y v u Q I rx ry h
  obtain ⟨a, c, rfl, rfl, ia, ic, q⟩ := h
  cases rx
  cases ry
  obtain ⟨ox, od, J⟩ := ia.look I
  obtain ⟨oy, oe, J'⟩ := ic.look I
  obtain ⟨m, fr⟩ := I.fr
  refine PySem.W.binop_K fr I.ok.mod.kin J J'.type first S.at_ S.fn (wpAny_mono (by_machine F room rfl b out I (.cons (rel_ref _) (.cons (rel_ref _) .nil)) q) (fun r s' z => ?_) fun _ _ z => z)
  obtain ⟨v, H', K', rv, ⟨w, rfl⟩, q'⟩ := z
  cases rv
  exact ⟨_, H', K', rel_ref _, q'⟩
/-- a == b, both of the class at C -/
def rOwnB (C : Addr) (sp : Sp) (E : XK) (g : Bool → Bool) : R2 := fun x y H Q => ∃ a b, x = .ref a ∧ y = .ref b ∧ IsI H a C ∧ IsI H b C ∧ sp [.ref a, .ref b] H (fun v H' => ∃ k, v = .bl k ∧ Q (.bl (g k)) H') E
theorem op_eqOwn (F : FnOk X.prog X.w X.K X.mg X.base CX n f fd ps sp) (S : Spc X.K C "__eq__" f) (b : Binds X.K fd ps []) (out : Passes CX X E) (room : Room n X.A) : OpR X (compareOp .Eq) (rOwnB C sp E id) := by
  intro pins s σ H x y v u Q I rx ry h
  obtain ⟨a, c, rfl, rfl, ia, ic, q⟩ := h
  cases rx
  cases ry
  obtain ⟨ox, od, J⟩ := ia.look I
  obtain ⟨oy, oe, J'⟩ := ic.look I
  obtain ⟨m, fr⟩ := I.fr
  have un := room.un
  show wpAny (model X.prog X.w) X.A (richCompare .Eq _ _) _ _ _
  refine PySem.W.cmp_K (op := .Eq) (tb := .ref C) (by omega) fr I.ok.mod.kin J J'.type (by simp [PySem.W.notFirst]) S.at_ S.fn (wpAny_mono (by_machine F room rfl b out I (.cons (rel_ref _) (.cons (rel_ref _) .nil)) q) (fun r s' z => ?_) fun _ _ z => z)
  obtain ⟨v, H', K', rv, k, rfl, q'⟩ := z
  cases rv
  exact ⟨_, H', K', rel_bl _, q'⟩
/-! != of a class that has == alone -/
/-- the class at C: over object alone, the def at f for its ==, no != -/
def eqOnly (K : PySem.W.Frag) (C f : Addr) : Bool := match K.lookup C with
  | some ⟨ty, _, .cls ⟨_, _, mro, N, _, _, _, _, _, _, del⟩, ⟨[_, _, _, _, some (.builtin _), _]⟩⟩ => decide (ty = .type "type") && (decide (mro = [.ref C, .type "object"]) && (!del && (PySem.W.nsOkIn K N && (He.eqO (PySem.W.nsIn K N "__eq__") (some (some (.ref f))) && (He.eqO (PySem.W.nsIn K N "__ne__") (some none) &&
    (match K.lookup f with
    | some o => decide (o.cls = .type "function")
    | none => false))))))
  | _ => false
theorem ns_some_of {K : PySem.W.Frag} {h : Heap} {N : Addr} {mp : Str → Option Value} {x : Str} {v : Value} (L : K.In h) (G : h.Ns N mp) (e : PySem.W.nsIn K N x = some (some v)) : mp x = some v := by
  obtain ⟨o, es, ep, ho, hd, _, look⟩ := G
  unfold PySem.W.nsIn at e
  split at e
  · rename_i c d es' n' sl at_
    have z := L _ _ at_
    rw [ho] at z
    cases z
    cases hd
    split at e
    · rename_i en found
      cases e
      have y := look x
      unfold nsFind findBy at y
      rw [← Array.find?_toList, found] at y
      exact y.symm
    · split at e <;> cases e
  · cases e
theorem eqOnly_of {K : PySem.W.Frag} {h : Heap} {a : Addr} {ox : Obj} {od : Option Obj} (L : K.In h) (J : PySem.W.InstAt h a ox C od) (e : eqOnly K C f = true) : h.OwnEqNoNe a C f "object" [.type "object"] := by
  unfold eqOnly at e
  split at e
  · rename_i ty dd nm bs mro N qn hd sn sub ab col del k0 k1 k2 k3 nid k5 at_
    simp only [Bool.and_eq_true, decide_eq_true_eq, Bool.not_eq_true', He.eqO] at e
    obtain ⟨rfl, rfl, rfl, ok, eq, ne, fn⟩ := e
    split at fn
    · rename_i o lk
      have G := Heap.Ns.of_isNs (PySem.W.isNs_of_in L ok)
      exact ⟨ox, o, nm, qn, N, bs, hd, sn, sub, ab, col, dd, k0, k1, k2, k3, k5, nid, _, _, J.at_, J.cls, L _ _ at_, G, ns_some_of L G eq, L _ _ lk, of_decide_eq_true fn, PySem.F.mro_object, PySem.F.cmp_object.eq.lookup, PySem.W.ns_none_of L G ne⟩
    · cases fn
  · cases e
theorem op_neOwn (F : FnOk X.prog X.w X.K X.mg X.base CX n f fd ps sp) (S : eqOnly X.K C f = true) (b : Binds X.K fd ps []) (out : Passes CX X E) (room : Room n X.A.in1) : OpR X (compareOp .NotEq) (rOwnB C sp E not) := by
  intro pins s σ H x y v u Q I rx ry h
  obtain ⟨a, c, rfl, rfl, ia, ic, q⟩ := h
  cases rx
  cases ry
  obtain ⟨ox, od, J⟩ := ia.look I
  obtain ⟨oy, oe, J'⟩ := ic.look I
  have un := room.un
  have Y := eqOnly_of I.kIn J S
  obtain ⟨hh, g, d, t, os⟩ := s
  have more : X.A.in1.units = X.A.units + 1 := rfl
  refine compareOp_ne_ownEq PySem.F.cmp_object Y J'.at_ J'.cls (by omega) (wpAny_mono (by_machine F room rfl b out I (.cons (rel_ref _) (.cons (rel_ref _) .nil)) q) (fun r s' z => ?_) fun _ _ z => z)
  obtain ⟨v, H', K', rv, k, rfl, q'⟩ := z
  cases rv
  exact ⟨k, rfl, .bl (!k), H', K', rel_bl _, q'⟩
/-! len, bool, str -/
def rLenOwn (C : Addr) (sp : Sp) (E : XK) : List V → Hp → VK → Prop := fun xs H Q => ∃ a, xs = [.ref a] ∧ IsI H a C ∧ sp [.ref a] H (fun v H' => ∃ k : Int, v = .int k ∧ 0 ≤ k ∧ k < 2 ^ 63 ∧ Q (.int k) H') E
theorem call_lenOwn (F : FnOk X.prog X.w X.K X.mg X.base CX n f fd ps sp) (S : Spc X.K C "__len__" f) (b : Binds X.K fd ps []) (out : Passes CX X E) (room : Room n X.A.in1) : CallR X (.builtin "len") (rLenOwn C sp E) := by
  intro pins s σ H xs us Q I r h
  obtain ⟨a, rfl, ia, q⟩ := h
  obtain ⟨u, rfl, ru⟩ := Vals.one r
  cases ru
  obtain ⟨ox, od, J⟩ := ia.look I
  obtain ⟨m, fr⟩ := I.fr
  refine PySem.W.len_K fr I.ok.mod.kin J S.at_ S.fn (wpAny_mono (by_machine F room rfl b out I (.cons (rel_ref _) .nil) q) (fun r s' z => ?_) fun _ _ z => z)
  obtain ⟨v, H', K', rv, k, rfl, k0, k1, q'⟩ := z
  obtain ⟨t, rfl⟩ := rv
  exact ⟨⟨k0, k1⟩, .int k, H', K'.tok _, ⟨_, rfl⟩, q'⟩
def rStrOwn (C : Addr) (sp : Sp) (E : XK) : List V → Hp → VK → Prop := fun xs H Q => ∃ a, xs = [.ref a] ∧ IsI H a C ∧ sp [.ref a] H (fun v H' => ∃ z : Str, v = .str z ∧ Q (.str z) H') E
theorem call_strOwn (F : FnOk X.prog X.w X.K X.mg X.base CX n f fd ps sp) (S : Spc X.K C "__str__" f) (b : Binds X.K fd ps []) (out : Passes CX X E) (room : Room n X.A.in1.in1) : CallR X (.type "str") (rStrOwn C sp E) := by
  intro pins s σ H xs us Q I r h
  obtain ⟨a, rfl, ia, q⟩ := h
  obtain ⟨u, rfl, ru⟩ := Vals.one r
  cases ru
  obtain ⟨ox, od, J⟩ := ia.look I
  have un := room.un
  refine PySem.W.kso_call (by omega) I.kIn J S.at_ S.fn (wpAny_mono (by_machine F room rfl b out I (.cons (rel_ref _) .nil) q) (fun r s' z => ?_) fun _ _ z => z)
  obtain ⟨v, H', K', rv, k, rfl, q'⟩ := z
  obtain ⟨t, rfl⟩ := rv
  exact ⟨.str k, H', K', ⟨_, rfl⟩, q'⟩
end
end SwX
set_option Elab.async false
set_option linter.all false
set_option maxRecDepth 100000
set_option maxHeartbeats 4000000
/-! for i, x in enumerate(a tuple) -/
namespace SwX
open PySem PySem.Spec PyProof.Rows L2
theorem enum_made {v : Value} {o : Obj} {Ok : Heap → Prop} (B : Begins v o Ok) : Meets (Builtin.«enumerate.__new__» ⟨[.type "enumerate", v], []⟩) (fun _ R s => Ok s.heap ∧
    R (.ok (.ret (.ref (s.heap.push o).objs.size))) { s with heap := (s.heap.push o).push { cls := .type "enumerate", data := .fields #[.none, .bool false, .ref s.heap.objs.size, rawInt 0, .none, .none] } }) :=
  .of_wp fun prog w A R s z => by
    obtain ⟨ok, fin⟩ := z
    obtain ⟨hp, gs, dr, tk, os⟩ := s
    have sub := sub_enumerate
    have starts : ∀ {A' : Around} {E Q : Value → Shared → Prop}, Q (.ref hp.objs.size) ⟨hp.push o, gs, dr, tk, os⟩ → wpAny (model prog w) A' (pyIter v) Q E ⟨hp, gs, dr, tk, os⟩ := fun q => B.iter prog w _ _ ⟨hp, gs, dr, tk, os⟩ _ ok q
    wp_walk using starts
    refine wpAny_stack_any fun st => wpAny_pure ?_
    split
    · rename_i c _ _ _ _ _
      cases (c == Value.type "enumerate") <;> (wp_walk using starts; exact ⟨_, rfl, fin⟩)
    · wp_walk using starts
      exact ⟨_, rfl, fin⟩
section
variable {prog : Program} {w : World} {A : Around} {E : Value → Shared → Prop} {s : Shared}
theorem call_enum1 {v : Value} {o : Obj} {Ok : Heap → Prop} {Q : Value → Shared → Prop} (B : Begins v o Ok) (ok : Ok s.heap)
    (k : ∀ h', IsEnum h' (s.heap.objs.size + 1) s.heap.objs.size 0 .none → h'.get? s.heap.objs.size = some o → (∀ b u, s.heap.get? b = some u → h'.get? b = some u) → Q (.ref (s.heap.objs.size + 1)) { s with heap := h' }) : wpAny (model prog w) A (call (.type "enumerate") [v]) Q E s := by
  have size1 : (s.heap.push o).objs.size = s.heap.objs.size + 1 := Heap.size_push ..
  have made := Heap.get?_push_size (s.heap.push o) (o := { cls := .type "enumerate", data := .fields #[.none, .bool false, .ref s.heap.objs.size, rawInt 0, .none, .none] }) rfl
  rw [size1] at made
  refine callType_new F.called_enumerate (by decide) (F.typeCall_enumerate_1 _) (F.newCall_enumerate_1 _) (fun z => F.args_object_init_2 z _) F.entry_enumerate_new (enum_made B) ⟨ok, ?_⟩
  rw [size1]
  exact ⟨⟨_, made, rfl⟩, k _ made (Heap.get?_push_of_some _ (Heap.get?_push_size _ B.free)) fun b u e => Heap.get?_push_of_some _ (Heap.get?_push_of_some _ e)⟩
end
/-- the tuple at a, each item in a new pair with its place -/
def Itu (K : PySem.W.Frag) (a : Addr) : It :=
  ⟨fun i H => ∃ (xs : List V) (x : V), SqT K H a xs ∧ xs[i]? = some x, fun i H v H' => ∃ T x, v = .ref T ∧ H T = none ∧ H' = upd H T (.tup [.int (i : Nat), x]) ∧ ∀ xs, SqT K H a xs → xs[i]? = some x, fun i H => ∃ xs : List V, SqT K H a xs ∧ i = xs.length⟩
theorem tuple_same {X : Cx} {pins : List (Addr × Obj)} {σ : L2.St} {H : Hp} {s : Shared} {a : Addr} {xs ys : List V} (I : Inv X pins σ H s) (h : SqT X.K H a xs) (h' : SqT X.K H a ys) : xs = ys := I.tuple_inj h h'
theorem turn_enumT {P : Program} {w : World} {K : PySem.W.Frag} {elts : List Expr} {kk : Nat} {tpos : Pos} (a e it : Addr) :
    Turn P w K (.Tuple elts kk tpos) (Itu K a) [e, it] e (fun i h => (∃ old, IsEnum h e it ((i : Nat) : Int) old) ∧ h.IsTupleIter it a i ∧ e ≠ it) where
  mem := List.mem_cons_self
  obj := fun i h st b hb => by
    obtain ⟨⟨old, he⟩, ⟨o, ho, _, hd⟩, _⟩ := st
    rcases (show b = e ∨ b = it by simpa using hb) with rfl | rfl
    · exact ⟨_, he, fun v q => nomatch q⟩
    · exact ⟨o, ho, fun v q => by rw [hd] at q; cases q⟩
  keep := fun i h h' st k => by
    obtain ⟨⟨old, he⟩, hi, ne⟩ := st
    exact ⟨⟨old, k e (by simp) _ he⟩, hi.at fun o q => k it (by simp) o q, ne⟩
  item := by
    rintro X rfl rfl rfl hc i pins s σ H E I hf ⟨⟨old, he⟩, hit, ne⟩ ⟨xs, x, hq, hx⟩
    obtain ⟨its, rv, tup, _⟩ := I.tuple hq
    obtain ⟨u, hu, ru⟩ := rv.get hx
    have el : e < s.heap.objs.size := Heap.lt_size he
    have il : it < s.heap.objs.size := by
      obtain ⟨_, q, _⟩ := hit
      exact Heap.lt_size q
    have ah : a ≠ e ∧ a ≠ it := by
      obtain ⟨o, ho, hcl, _⟩ := tup
      refine ⟨fun z => ?_, fun z => ?_⟩
      · rw [z, he] at ho
        cases ho
        simp at hcl
      · obtain ⟨o', ho', hcl', _⟩ := hit
        rw [z, ho'] at ho
        cases ho
        rw [hcl] at hcl'
        simp at hcl'
    have hlt : i < its.toArray.size := by
      rw [List.size_toArray]
      exact (List.getElem?_eq_some_iff.mp hu).1
    refine wpAny_pyNext_enum_itemD (Draws.tuple (show X.A.in1.handled = none from I.ok.hd hc) it a ah.2 its.toArray) he ⟨hit, tup⟩ hlt ne (by simp [ne, Ne.symm ah.1]) fun x' h' tk px out st' tT sz keep => ?_
    have ex : x' = u := by
      have px : its.toArray[i]? = some x' := px
      rw [List.getElem?_toArray, hu] at px
      exact (Option.some.inj px).symm
    subst ex
    refine ⟨_, rfl, wpAny_letOwnedTupleGo_enum (s := { s with heap := h', toks := tk + 1 }) out fun h2 he2 sb => ?_⟩
    have tT2 := (sb.2 _ (Nat.ne_of_gt el)).trans tT
    have fresh : H s.heap.objs.size = none := I.hok.fresh (Nat.le_refl _)
    have J : Inv X pins σ (upd H s.heap.objs.size (.tup [.int (i : Nat), x])) { s with heap := h2, toks := tk + 1 } :=
      I.turnedNew (ch := [e, it]) (fun b ob hb q => (sb.2 b fun z => hb (by simp [z])).trans (keep b ob (fun z => hb (by simp [z])) (fun z => hb (by simp [z])) q)) hf (Nat.le_refl _)
        ⟨show 2 ≤ sizeLine by decide, [.int i tk, x'], .cons ⟨_, rfl⟩ (.cons ru .nil), ⟨_, tT2, rfl, _, rfl⟩⟩
    refine ⟨.ref s.heap.objs.size, _, J, rfl, ⟨_, x, rfl, fresh, rfl, fun ys hy => by rw [tuple_same I hy hq]; exact hx⟩, ⟨⟨x', ?_⟩, st'.1.at fun o q => (sb.2 it (Ne.symm ne)).trans q, ne⟩, fun b hb => ?_⟩
    · rw [show (((i + 1 : Nat) : Int)) = (i : Int) + 1 by omega]
      exact he2
    · have hb' : b < s.heap.objs.size := by
        rcases (show b = e ∨ b = it by simpa using hb) with rfl | rfl
        · exact el
        · exact il
      rw [upd_ne (Nat.ne_of_lt hb')]
      exact (hf b hb).1
  done := by
    rintro X rfl rfl rfl hc i pins s σ H E I hf ⟨⟨old, he⟩, hit, ne⟩ ⟨xs, hq, hx⟩
    obtain ⟨its, rv, tup, _⟩ := I.tuple hq
    obtain ⟨f0, f1, f2, f3, f4, f5⟩ := hf it (by simp)
    have len := rv.length
    have ah : a ≠ it := by
      obtain ⟨o, ho, hcl, _⟩ := tup
      intro z
      obtain ⟨o', ho', hcl', _⟩ := hit
      rw [z, ho'] at ho
      cases ho
      rw [hcl] at hcl'
      simp at hcl'
    have eq : i = its.toArray.size := by
      rw [List.size_toArray]
      omega
    subst eq
    exact wpAny_pyNext_enum_endD (Draws.tuple (show X.A.in1.handled = none from I.ok.hd hc) it a ah its.toArray) he ⟨hit, tup⟩ fun h' eb => ⟨rfl, I.turned (t' := s.toks) (fun b o hb q => eb b o hb q) f0 f1 f3 f4 f5⟩
  self := fun A i s Q E st h => by
    obtain ⟨⟨_, he⟩, _⟩ := st
    exact wpAny_pyIter_enum he h
def iEnumT (K : PySem.W.Frag) (ta : TA) : TI := fun σ H R => ta σ H fun vs H1 => ∃ a xs, vs = [.ref a] ∧ SqT K H1 a xs ∧ R (Itu K a) H1
theorem pi_enumT {X : Cx} {e : Expr} {ta : TA} {p pos tpos : Pos} {elts : List Expr} {kk : Nat} (hg : Gl X "enumerate") (hm : X.mg "enumerate" = none) (ha : PA X [e] ta) (hs : starEach [e] X.env = [(false, eval e X.env)] := by rfl) :
    PI X (.Tuple elts kk tpos) (.Call (.Name "enumerate" p) [e] [] pos) (iEnumT X.K ta) := by
  refine ⟨fun pins s σ H R I h => Call_ (ld_blt I hg hm boot_enumerate (PyProof.Rows.callWith_type1 (thn (ha.run pos pins s σ H _ I h) fun us s1 z => ?_) hs rfl))⟩
  obtain ⟨vs, H1, I1, r1, a, xs, rfl, hq, q⟩ := z
  obtain ⟨u, rfl, ru⟩ := Vals.one r1
  cases ru
  obtain ⟨its, rv, tup, _⟩ := I1.tuple hq
  refine call_enum1 (begins_tuple a its.toArray) tup fun h' he hit keep => wpAny_pyIter_enum he ?_
  have J : Inv X pins σ H1 { s1 with heap := h' } := I1.kept (t' := s1.toks) keep
  refine ⟨s1.heap.objs.size + 1, [s1.heap.objs.size + 1, s1.heap.objs.size], _, _, H1, rfl, J, turn_enumT a (s1.heap.objs.size + 1) s1.heap.objs.size, ⟨⟨.none, he⟩, ⟨_, hit, rfl, rfl⟩, Nat.succ_ne_self _⟩, fun b hb => ?_, q⟩
  have le : s1.heap.objs.size ≤ b := by
    rcases (show b = s1.heap.objs.size + 1 ∨ b = s1.heap.objs.size by simpa using hb) with rfl | rfl
    · exact Nat.le_succ _
    · exact Nat.le_refl _
  exact I1.fpOk le (I1.hok.fresh le)
/-- for i, x in enumerate(the tuple at a): by a word of the turn -/
theorem for_enumT {K : PySem.W.Frag} {a : Addr} {xs : List V} {g : TG} {tb : TS} {D : Ends} {σ : L2.St} {H : Hp} (Pv : Nat → L2.St → Hp → Prop) (h0 : Pv 0 σ H) (hl : ∀ i σ H, i ≤ xs.length → Pv i σ H → SqT K H a xs)
    (hs : ∀ i x T σ H, xs[i]? = some x → H T = none → Pv i σ H → g (.ref T) σ (upd H T (.tup [.int (i : Nat), x])) fun σ2 H2 => tb { D with nx := Pv (i + 1), ct := Pv (i + 1), bk := D.nx } σ2 H2) (hd : ∀ σ H, Pv xs.length σ H → D.nx σ H) :
    ∃ W : Nat → Nat → L2.St → Hp → Prop, (∃ m, W 0 m σ H) ∧ ∀ i m σ H, W i m σ H →
      ((Itu K a).stop i H ∧ D.nx σ H) ∨ ((Itu K a).go i H ∧ ∃ N : L2.St → Hp → Prop, (∀ σ' H', N σ' H' → ∃ m', m' < m ∧ W (i + 1) m' σ' H') ∧ ∀ x H', (Itu K a).yld i H x H' → g x σ H' fun σ2 H2 => tb { D with nx := N, ct := N, bk := D.nx } σ2 H2) := by
  refine ⟨fun i m σ H => m + i = xs.length ∧ Pv i σ H, ⟨xs.length, rfl, h0⟩, fun i m σ H w => ?_⟩
  obtain ⟨le, p⟩ := w
  have q := hl i σ H (by omega) p
  rcases Nat.lt_or_ge i xs.length with lt | ge
  · have some_ : xs[i]? = some xs[i] := List.getElem?_eq_getElem lt
    refine .inr ⟨⟨xs, _, q, some_⟩, Pv (i + 1), fun σ' H' p' => ⟨m - 1, by omega, by omega, p'⟩, fun x H' y => ?_⟩
    obtain ⟨T, x, rfl, fresh, rfl, at_⟩ := y
    exact hs i x T σ H (at_ xs q) fresh p
  · have eq : i = xs.length := by omega
    subst eq
    exact .inl ⟨⟨xs, q, rfl⟩, hd σ H p⟩
end SwX
set_option Elab.async false
set_option linter.all false
set_option maxRecDepth 100000
set_option maxHeartbeats 4000000
/-! fields as targets in a tuple; a class held by a local name called -/
namespace SwX
open PySem PySem.Spec PyProof.Rows L2
/-- .., o.f, .. = .. -/
def gFld (K : PySem.W.Frag) (to : TE) (f : Str) : TG := fun v σ H Q => to σ H fun x H1 => ∃ a C dx fs, x = .ref a ∧ H1 a = some (.ins C dx fs) ∧ Cls K C ∧ NoAttr K C f ∧ fs.length < 1000 ∧ Q σ (upd H1 a (.ins C dx (putF f v fs)))
theorem pg_fldT {X : Cx} {o : Expr} {to : TE} {f : Str} {pos : Pos} (ho : PE X o to) : PG X (.Attribute o f pos) (gFld X.K to f) := by
  refine ⟨fun pins s σ H v u Q I r h => ?_⟩
  rw [arm_assign_Attribute]
  refine wpAny_bind (wpAny_holding (thn (ho.run pins s σ H _ I h) fun ov s1 z => ?_))
  obtain ⟨x, H1, I1, rx, a, C, dx, fs, rfl, ea, c, n, l, q⟩ := z
  cases rx
  refine wpAny_bind (wpAny_standAt (wpAny_bind (wpAny_holding (setattr_ok I1 ea c n l r fun s3 I3 => ?_))))
  first
    | exact wpAny_release ⟨σ, _, I3, q⟩
    | exact wpAny_pure ⟨σ, _, I3, q⟩
/-- x(e, ..), x a local name that holds the class at C -/
def tMakeL (i : Nat) (C : Addr) (sp : Sp) (dvs : List V) (E : XK) (t : TA) : TE := fun σ H Q => σ[i]? = some (some (.ref C)) ∧ tMake C sp dvs E t σ H Q
theorem pe_makeL {X : Cx} {CX : CXT} {k i : Nat} {f C : Addr} {fd : FuncData} {ps : List Str} {sp : Sp} {E : XK} {dvs : List V} {ds : List Value} {x : Str} {p pos : Pos} {e : Expr} {es : List Expr} {t : TA} (M : Mk X.K C f) (F : FnOk X.prog X.w X.K X.mg X.base CX k f fd ps sp) (room : Room (k + 1) X.A) (hN : X.N[i]? = some x) (hv : Vis X.env.scope x) (hb : Binds X.K fd ps ds) (hd : Vals dvs ds) (out : Passes CX X E) (ha : PA X (e :: es) t)
    (hdb : (x == ("__debug__" : Str)) = false := by decide) (hcd : (x == ("__classdict__" : Str)) = false := by decide) (he : starEach (e :: es) X.env = (false, eval e X.env) :: starEach es X.env := by rfl) (hpl : (backTo pos (starEach es X.env)).any (·.1) = false := by rfl) :
    PE X (.Call (.Name x p) (e :: es) [] pos) (tMakeL i C sp dvs E t) := by
  refine ⟨fun pins s σ H Q I h => ?_⟩
  have look := (pe_var (pos := p) hN hv hdb hcd).run pins s σ H (fun v H1 => v = .ref C ∧ H1 = H) I ⟨.ref C, h.1, rfl, rfl⟩
  refine wpAny_Call_Name_kw (thn look fun u s1 z => ?_)
  obtain ⟨v, H1, I1, r1, rfl, rfl⟩ := z
  cases r1
  refine PySem.W.callWith_K (h₀ := X.base) I1.ok.mod.kin M.kp (thn (ha.run pos pins s1 σ _ _ I1 h.2) fun us s2 z => ?_) he hpl
  obtain ⟨vs, H2, I2, r, q⟩ := z
  exact ⟨I2.kIn, run_make M F room hb hd out I2 r q⟩
end SwX
set_option Elab.async false
set_option linter.all false
set_option maxRecDepth 100000
set_option maxHeartbeats 4000000
/-! data compared, looked for; texts, tuples, lists by joined rules -/
namespace SwX
open PySem PySem.Spec PyProof.Rows L2 Evl
/-! ### data without dicts -/
theorem dpAll_of {K : PySem.W.Frag} {H : Hp} : ∀ {xs : List V} {ds : List PyData}, xs.length = ds.length → (∀ (i : Nat) x d, xs[i]? = some x → ds[i]? = some d → Dp K H x d) → DpAll K H xs ds
  | [], [], _, _ => .nil
  | [], _ :: _, l, _ => by cases l
  | _ :: _, [], l, _ => by cases l
  | x :: xs, d :: ds, l, k => .cons (k 0 x d rfl rfl) (dpAll_of (Nat.succ.inj l) fun i x' d' e1 e2 => k (i + 1) x' d' (by simpa using e1) (by simpa using e2))
theorem noDict_at : ∀ {ds : List PyData} {i : Nat} {d : PyData}, PyData.hasDictAll ds = false → ds[i]? = some d → d.hasDict = false
  | [], _, _, _, e => by simp at e
  | x :: xs, 0, d, n, e => by
    simp at e
    subst e
    simp only [PyData.hasDictAll, Bool.or_eq_false_iff] at n
    exact n.1
  | x :: xs, i + 1, d, n, e => by
    simp only [PyData.hasDictAll, Bool.or_eq_false_iff] at n
    exact noDict_at (i := i) n.2 (by simpa using e)
theorem Da.dp {K : PySem.W.Frag} {H : Hp} {v : V} {d : PyData} (h : Da K H v d) : d.hasDict = false → Dp K H v d := by
  induction h with
  | non => exact fun _ => .non
  | bl b => exact fun _ => .bl b
  | int i => exact fun _ => .int i
  | str x => exact fun _ => .str x
  | lst h l _ ih => exact fun n => .lst (sq_of h) (dpAll_of l fun i x d e1 e2 => ih i x d e1 e2 (noDict_at (by simpa only [PyData.hasDict] using n) e2))
  | tup h l _ ih => exact fun n => .tup h (dpAll_of l fun i x d e1 e2 => ih i x d e1 e2 (noDict_at (by simpa only [PyData.hasDict] using n) e2))
  | dic h l _ _ => exact fun n => by simp [PyData.hasDict] at n
/-- plain enough for == -/
structure Pl (d : PyData) : Prop where
  nd : d.hasDict = false
  sh : SeqAt.shaped d = true
section
variable {X : Cx} {k : Nat}
/-- x in y, y a list | a tuple that is data -/
def rInDat (K : PySem.W.Frag) (neg : Bool) : R2 := fun x y H Q => ∃ d c ds, (c = .list ds ∨ c = .tuple ds) ∧ Da K H x d ∧ Da K H y c ∧ Pl d ∧ Pl c ∧ Q (.bl (if neg then !ds.any fun z => PyData.eqv z d else ds.any fun z => PyData.eqv z d)) H
theorem op_inDat (hr : Room k X.A) : OpR X (compareOp .In) (rInDat X.K false) := by
  intro pins s σ H x y v u Q I rx ry h
  obtain ⟨d, c, ds, hc, hx, hy, px, py, q⟩ := h
  obtain ⟨as, r1⟩ := Dp.reads I d x v (hx.dp px.nd) rx
  obtain ⟨bs, r2⟩ := Dp.reads I c y u (hy.dp py.nd) ry
  have un := hr.un
  rcases hc with rfl | rfl
  · exact SeqAt.in_list_reads r2 r1 (SeqAt.canLay_of_shaped py.sh) (SeqAt.canLay_of_shaped px.sh) (room_in_shaped px.sh (by omega)) ⟨.bl _, H, I, rel_bl _, q⟩
  · exact SeqAt.in_tuple_reads r2 r1 (SeqAt.canLay_of_shaped py.sh) (SeqAt.canLay_of_shaped px.sh) (room_in_shaped px.sh (by omega)) ⟨.bl _, H, I, rel_bl _, q⟩
theorem op_niDat (hr : Room k X.A) : OpR X (compareOp .NotIn) (rInDat X.K true) := by
  intro pins s σ H x y v u Q I rx ry h
  obtain ⟨d, c, ds, hc, hx, hy, px, py, q⟩ := h
  obtain ⟨as, r1⟩ := Dp.reads I d x v (hx.dp px.nd) rx
  obtain ⟨bs, r2⟩ := Dp.reads I c y u (hy.dp py.nd) ry
  have un := hr.un
  rcases hc with rfl | rfl
  · exact SeqAt.notIn_list_reads r2 r1 (SeqAt.canLay_of_shaped py.sh) (SeqAt.canLay_of_shaped px.sh) (room_in_shaped px.sh (by omega)) ⟨.bl _, H, I, rel_bl _, q⟩
  · exact SeqAt.notIn_tuple_reads r2 r1 (SeqAt.canLay_of_shaped py.sh) (SeqAt.canLay_of_shaped px.sh) (room_in_shaped px.sh (by omega)) ⟨.bl _, H, I, rel_bl _, q⟩
/-- x == y, both data -/
def rEqDat (K : PySem.W.Frag) (g : Bool → Bool) : R2 := fun x y H Q => ∃ d e, Da K H x d ∧ Da K H y e ∧ Pl d ∧ Pl e ∧ Q (.bl (g (PyData.eqv d e))) H
theorem op_eqDat (hr : Room k X.A) : OpR X (compareOp .Eq) (rEqDat X.K id) := fun pins s σ H x y v u Q I rx ry ⟨d, e, hx, hy, px, py, q⟩ =>
  op_eqD (by have := hr.un; omega) pins s σ H x y v u Q I rx ry ⟨d, e, hx.dp px.nd, hy.dp py.nd, px.sh, py.sh, q⟩
theorem op_neDat (hr : Room k X.A) : OpR X (compareOp .NotEq) (rEqDat X.K not) := fun pins s σ H x y v u Q I rx ry ⟨d, e, hx, hy, px, py, q⟩ =>
  op_neD (by have := hr.un; omega) pins s σ H x y v u Q I rx ry ⟨d, e, hx.dp px.nd, hy.dp py.nd, px.sh, py.sh, q⟩
/-- text + text -/
def rCatZ : R2 := fun x y H Q => ∃ i j, x = .str i ∧ y = .str j ∧ i.length + j.length ≤ sizeLine ∧ Q (.str (i ++ j)) H
/-- a + b: ints | lists | texts | tuples -/
def rAddX (K : PySem.W.Frag) : R2 := fun x y H Q => rI0 (fun i j => .int (i + j)) x y H Q ∨ rCat x y H Q ∨ rCatZ x y H Q ∨ rCatA K x y H Q
theorem op_addX : OpR X (binaryOp .Add) (rAddX X.K) := op_join op_add (op_join op_cat (op_join op_add_str op_catA))
/-- x in y: a sign in a text | data in data -/
theorem op_inX (hr : Room k X.A) : OpR X (compareOp .In) (fun x y H Q => (∃ (c : Nat) (z : Str), x = .str ⟨#[c]⟩ ∧ y = .str z ∧ Q (.bl (decide (c ∈ z.cps.toList))) H) ∨ rInDat X.K false x y H Q) := op_join op_in_sign (op_inDat hr)
theorem op_niX (hr : Room k X.A) : OpR X (compareOp .NotIn) (fun x y H Q => (∃ (c : Nat) (z : Str), x = .str ⟨#[c]⟩ ∧ y = .str z ∧ Q (.bl (!decide (c ∈ z.cps.toList))) H) ∨ rInDat X.K true x y H Q) := op_join op_notIn_sign (op_niDat hr)
/-- x == y: flat things | data -/
theorem op_eqX (hr : Room k X.A) : OpR X (compareOp .Eq) (fun x y H Q => rEq x y H Q ∨ rEqDat X.K id x y H Q) := op_join op_eq (op_eqDat hr)
theorem op_neX (hr : Room k X.A) : OpR X (compareOp .NotEq) (fun x y H Q => rNe x y H Q ∨ rEqDat X.K not x y H Q) := op_join op_ne (op_neDat hr)
/-- lo:hi of a list | a tuple | a text -/
def rSlY (K : PySem.W.Frag) : V → Option Int → Option Int → Hp → VK → Prop := fun x lo hi H Q => rSlL K x lo hi H Q ∨ rSlA K x lo hi H Q ∨ rSlS x lo hi H Q
theorem sl_Y : SlR X (rSlY X.K) := SlR.or sl_list (SlR.or sl_tupA sl_str)
/-- len of a list, a tuple | a text -/
def rLenY (K : PySem.W.Frag) : List V → Hp → VK → Prop := fun xs H Q => (∃ p ys, xs = [.ref p] ∧ (SqL K H p ys ∨ SqT K H p ys) ∧ Q (.int ys.length) H) ∨ ∃ z, xs = [.str z] ∧ z.length ≤ sizeLine ∧ Q (.int z.length) H
theorem call_lenY : CallR X (.builtin "len") (rLenY X.K) := cr_join call_len_seq call_len_str
/-- str(x): an int | a text -/
def rStrY : List V → Hp → VK → Prop := fun xs H Q => (∃ i, xs = [.int i] ∧ i.natAbs.log2 < 1920 ∧ Q (.str (toString i)) H) ∨ ∃ a, xs = [.str a] ∧ Q (.str a) H
theorem call_strY : CallR X (.type "str") rStrY := cr_join call_str_int SkE.call_str_str
end
end SwX
set_option Elab.async false
set_option linter.all false
set_option maxRecDepth 100000
set_option maxHeartbeats 4000000
/-! names, rules of a catalogue: plain, and as data -/
namespace SwX
open PySem PySem.Spec PyProof.Rows L2 Evl
abbrev Nm := List Nat
abbrev Rul := Nm × Nat × List Nm
def okSign (c : Nat) : Prop := (97 ≤ c ∧ c ≤ 122) ∨ (48 ≤ c ∧ c ≤ 57)
structure NameOk (n : Nm) : Prop where
  hd : ∃ c r, n = c :: r ∧ 97 ≤ c ∧ c ≤ 122
  len : n.length ≤ 8
  sg : ∀ c ∈ n, okSign c
structure NamesOk (ns : List Nm) : Prop where
  ne : ns ≠ []
  len : ns.length ≤ 4
  nd : ns.Nodup
  ok : ∀ n ∈ ns, NameOk n
structure RulOk (ns : List Nm) (r : Rul) : Prop where
  wd : r.1 ∈ ns
  lo : 1 ≤ r.2.1
  hi : r.2.1 ≤ 9
  len : r.2.2.length ≤ 3
  pt : ∀ p ∈ r.2.2, p ∈ ns
structure RulesOk (ns : List Nm) (rs : List Rul) : Prop where
  len : rs.length ≤ 10
  nd : rs.Nodup
  ok : ∀ r ∈ rs, RulOk ns r
def nmD (n : Nm) : PyData := .str (SX.S n)
def nmsD (ns : List Nm) : PyData := .tuple (ns.map nmD)
def rulD (r : Rul) : PyData := .tuple [nmD r.1, .int (r.2.1 : Nat), nmsD r.2.2]
def rulsD (rs : List Rul) : PyData := .tuple (rs.map rulD)
theorem nmD_eqv (a b : Nm) : PyData.eqv (nmD a) (nmD b) = decide (a = b) := by
  show (SX.S a == SX.S b) = _
  exact SX.S_beq_eq
theorem nms_eqv : ∀ a b : List Nm, PyData.eqvAll (a.map nmD) (b.map nmD) = decide (a = b)
  | [], [] => by simp [PyData.eqvAll]
  | [], _ :: _ => by simp [PyData.eqvAll]
  | _ :: _, [] => by simp [PyData.eqvAll]
  | x :: a, y :: b => by
    have h1 := nmD_eqv x y
    have h2 := nms_eqv a b
    simp only [List.map_cons, PyData.eqvAll, h1, h2]
    rw [Bool.eq_iff_iff]
    simp
theorem nmsD_eqv (a b : List Nm) : PyData.eqv (nmsD a) (nmsD b) = decide (a = b) := by
  show PyData.eqv (.tuple _) (.tuple _) = _
  simp only [PyData.eqv]
  exact nms_eqv a b
theorem rulD_eqv (a b : Rul) : PyData.eqv (rulD a) (rulD b) = decide (a = b) := by
  obtain ⟨w, o, p⟩ := a
  obtain ⟨w', o', p'⟩ := b
  unfold rulD
  simp only [PyData.eqv, PyData.eqvAll, nmD_eqv, nmsD_eqv]
  rw [Bool.eq_iff_iff]
  simp [Prod.ext_iff]
  omega
theorem ruls_eqv : ∀ a b : List Rul, PyData.eqvAll (a.map rulD) (b.map rulD) = decide (a = b)
  | [], [] => by simp [PyData.eqvAll]
  | [], _ :: _ => by simp [PyData.eqvAll]
  | _ :: _, [] => by simp [PyData.eqvAll]
  | x :: a, y :: b => by
    have h1 := rulD_eqv x y
    have h2 := ruls_eqv a b
    simp only [List.map_cons, PyData.eqvAll, h1, h2]
    rw [Bool.eq_iff_iff]
    simp
theorem any_rul (rs : List Rul) (r : Rul) : (rs.map rulD).any (fun z => PyData.eqv z (rulD r)) = decide (r ∈ rs) := by
  rw [Bool.eq_iff_iff]
  simp only [List.any_map, List.any_eq_true, Function.comp, rulD_eqv, decide_eq_true_eq]
  exact ⟨fun ⟨x, h, e⟩ => e ▸ h, fun h => ⟨r, h, rfl⟩⟩
theorem any_nm (ns : List Nm) (n : Nm) : (ns.map nmD).any (fun z => PyData.eqv z (nmD n)) = decide (n ∈ ns) := by
  rw [Bool.eq_iff_iff]
  simp only [List.any_map, List.any_eq_true, Function.comp, nmD_eqv, decide_eq_true_eq]
  exact ⟨fun ⟨x, h, e⟩ => e ▸ h, fun h => ⟨n, h, rfl⟩⟩
/-! they are plain -/
theorem lay_all {α : Type} {f : α → PyData} : ∀ {l : List α}, (∀ a ∈ l, (f a).canLay0 = true) → PyData.canLayAll0 (l.map f) = true
  | [], _ => by simp [PyData.canLayAll0]
  | x :: l, h => by
    simp only [List.map_cons, PyData.canLayAll0, Bool.and_eq_true]
    exact ⟨h x List.mem_cons_self, lay_all fun a ha => h a (List.mem_cons_of_mem _ ha)⟩
theorem depth_all {α : Type} {f : α → PyData} {n : Nat} : ∀ {l : List α}, (∀ a ∈ l, (f a).depth ≤ n) → PyData.depthAll (l.map f) ≤ n
  | [], _ => by simp [PyData.depthAll]
  | x :: l, h => by
    simp only [List.map_cons, PyData.depthAll]
    exact Nat.max_le.mpr ⟨h x List.mem_cons_self, depth_all fun a ha => h a (List.mem_cons_of_mem _ ha)⟩
theorem nodict_all {α : Type} {f : α → PyData} : ∀ {l : List α}, (∀ a ∈ l, (f a).hasDict = false) → PyData.hasDictAll (l.map f) = false
  | [], _ => by simp [PyData.hasDictAll]
  | x :: l, h => by
    simp only [List.map_cons, PyData.hasDictAll, Bool.or_eq_false_iff]
    exact ⟨h x List.mem_cons_self, nodict_all fun a ha => h a (List.mem_cons_of_mem _ ha)⟩
end SwX
set_option Elab.async false
set_option linter.all false
set_option maxRecDepth 100000
set_option maxHeartbeats 4000000
/-! lists of draws -/
namespace SwX
open PySem PySem.Spec PyProof.Rows L2 Evl
theorem Pur.ne {H : Hp} {a p : Addr} (h : Pur H a) (n : H p = none) : p ≠ a := fun z => by
  obtain ⟨_, _, _, e, _⟩ := h
  rw [z, e] at n
  cases n
theorem Pur.other {H : Hp} {a p : Addr} {o : HO} (h : Pur H a) (e : H p = some o) (ne : ∀ x y z : Int, o ≠ .lst [.int x, .int y, .int z]) : p ≠ a := fun w => by
  obtain ⟨x, y, z, e', _⟩ := h
  rw [w, e'] at e
  exact ne x y z (Option.some.inj e).symm
theorem pur_new {H : Hp} {a p : Addr} {o : HO} (h : Pur H a) (n : H p = none) : Pur (upd H p o) a := h.keep (Ex.new n)
/-- a list of at most m things of which P holds -/
def DrL (a : Addr) (te : TE) (σ : L2.St) (G : Hp) (m : Nat) (P : V → Prop) : Prop := ∀ H1, Ex G H1 → Pur H1 a → ∀ Q : VK, (∀ p xs H2, xs.length ≤ m → (∀ x ∈ xs, P x) → H2 p = some (.lst xs) → p ≠ a → Ex G H2 → Pur H2 a → Q (.ref p) H2) → te σ H1 Q
section
variable {K : PySem.W.Frag} {σ : L2.St} {G H : Hp} {a : Addr} {te ta tb t0 : TE} {v : V} {P P1 P2 : V → Prop} {D : Ends} {tz : TS} {m : Nat}
theorem drl_lc {j : Nat} {vs : List Nat} (n : G a = none) (h0 : Dr a t0 σ G fun v => ∃ k : Int, v = .int k ∧ 0 ≤ k ∧ k ≤ m) (hm : m ≤ 1000) (hw : ∀ x, wipe ((wipe σ vs).set j (some x)) vs = wipe σ vs)
    (he : ∀ (i : Int) G', G' a = none → Ex G G' → Dr a te ((wipe σ vs).set j (some (.int i))) G' P) : DrL a (tLc (iRng1 (tCons t0 tNil)) (gName j) tYes te vs) σ G m P := fun H1 e1 p1 Q q =>
  h0 H1 e1 p1 _ fun v H2 pv e2 p2 => by
    obtain ⟨k, rfl, k0, k1⟩ := pv
    refine ⟨k, rfl, by omega, by omega, fun D' hD => ?_⟩
    have ne := p2.ne hD
    refine lc_range (lo := 0) (n := k.toNat) (fun i H' => ∃ acc, H' D' = some (.lst acc) ∧ acc.length = i ∧ (∀ x ∈ acc, P x) ∧ Ex G H' ∧ Pur H' a) ⟨[], upd_same, rfl, (fun _ h => nomatch h), e2.trans (Ex.new hD), pur_new p2 hD⟩ (fun i H' hi z => ⟨hw _, ?_⟩) fun H' z => ?_
    · obtain ⟨acc, ha, la, pa, ea, pu⟩ := z
      show te ((wipe σ vs).set j (some (.int (0 + (i : Int))))) H' fun y H4 => ∃ acc, H4 D' = some (.lst acc) ∧ acc.length < sizeLine ∧ ∃ acc', upd H4 D' (.lst (acc ++ [y])) D' = some (.lst acc') ∧ acc'.length = i + 1 ∧ (∀ x ∈ acc', P x) ∧ Ex G (upd H4 D' (.lst (acc ++ [y]))) ∧ Pur (upd H4 D' (.lst (acc ++ [y]))) a
      refine he _ (less a H') less_at (ex_less n ea) H' less_ex pu _ fun y H4 py e4 p4 => ?_
      refine ⟨acc, e4 _ _ (by rw [less_ne ne]; exact ha), sz_lt (by omega), _, upd_same, by simp [la], fun x hx => ?_, ?_, ?_⟩
      · rcases List.mem_append.mp hx with hx | hx
        · exact pa x hx
        · rw [List.mem_singleton.mp hx]
          exact py
      · intro b o hb
        by_cases z : b = D'
        · subst z
          have := e2 _ _ hb
          rw [hD] at this
          cases this
        · rw [upd_ne z]
          exact e4 _ _ (by rw [less_ne (fun w => by rw [w, n] at hb; cases hb)]; exact ea _ _ hb)
      · obtain ⟨x, y', z, e, r⟩ := p4
        exact ⟨x, y', z, by rw [upd_ne (Ne.symm ne)]; exact e, r⟩
    · obtain ⟨acc, ha, la, pa, ea, pu⟩ := z
      exact q D' acc H' (by omega) pa ha ne ea pu
theorem Dr.imp (h : Dr a te σ G P) (i : ∀ v, P v → P1 v) : Dr a te σ G P1 := fun H1 e p Q q => h H1 e p Q fun v H2 pv => q v H2 (i v pv)
/-! texts of one sign, joined -/
theorem join_ones : ∀ cs : List Nat, TL.joinL [] (cs.map fun c => [c]) = cs
  | [] => rfl
  | [c] => rfl
  | c :: d :: r => by
    have h := join_ones (d :: r)
    simp only [List.map_cons] at h ⊢
    show [c] ++ ([] ++ TL.joinL [] ([d] :: r.map fun c => [c])) = c :: d :: r
    rw [h] <;> rfl
theorem ones_of {R : Nat → Prop} : ∀ {xs : List V}, (∀ x ∈ xs, ∃ c, x = .str ⟨#[c]⟩ ∧ R c) → ∃ cs : List Nat, xs = ((cs.map fun c => [c]).map SX.S).map V.str ∧ (∀ c ∈ cs, R c) ∧ cs.length = xs.length
  | [], _ => ⟨[], rfl, (fun _ h => nomatch h), rfl⟩
  | x :: xs, h => by
    obtain ⟨c, rfl, rc⟩ := h x List.mem_cons_self
    obtain ⟨cs, rfl, rs, l⟩ := ones_of (xs := xs) fun y hy => h y (List.mem_cons_of_mem _ hy)
    exact ⟨c :: cs, rfl, fun d hd => (List.mem_cons.mp hd).elim (fun e => e ▸ rc) (rs d), congrArg Nat.succ l⟩
/-- "".join(a list of signs drawn) -/
def rJoin (K : PySem.W.Frag) : V → List V → Hp → VK → Prop := fun x xs H Q => ∃ a p, ∃ ys : List Str, x = .str a ∧ xs = [.ref p] ∧ (SqL K H p (ys.map V.str) ∨ SqT K H p (ys.map V.str)) ∧ (ys.map (·.length)).sum + ys.length * a.length ≤ 16777216 ∧ Q (.str (Txt.join a ys)) H
theorem sum_ones : ∀ cs : List Nat, (((cs.map fun c => [c]).map SX.S).map (·.length)).sum = cs.length
  | [] => rfl
  | c :: cs => by
    have h := sum_ones cs
    simp only [List.map_cons, List.sum_cons, List.length_cons]
    rw [h]
    show 1 + _ = _
    omega
theorem dr_join {R : Nat → Prop} {to : TE} (hm : m ≤ 1000) (ho : Ev to σ G (.str (SX.S []))) (h : DrL a te σ G m fun v => ∃ c, v = .str ⟨#[c]⟩ ∧ R c) : Dr a (tM1 (rJoin K) to te) σ G fun v => ∃ cs : List Nat, v = .str (SX.S cs) ∧ cs.length ≤ m ∧ ∀ c ∈ cs, R c := fun H1 e1 p1 Q q =>
  ho H1 e1 _ fun H2 e2 => ⟨⟨_, rfl⟩, h H2 (e1.trans e2) (p1.keep e2) _ fun p xs H3 l3 px h3 _ e3 p3 => by
    obtain ⟨cs, rfl, rc, lc⟩ := ones_of px
    refine ⟨SX.S [], p, _, rfl, rfl, .inl (sq_of h3), ?_, ?_⟩
    · rw [sum_ones]
      simp only [List.length_map]
      have z : (SX.S []).length = 0 := rfl
      rw [z]
      omega
    · rw [SX.join_S, join_ones]
      exact q _ H3 ⟨cs, rfl, by omega, rc⟩ e3 p3⟩
end
/-! ### the joined rules, the written part named -/
section
variable {X : Cx} {k : Nat} (K : PySem.W.Frag)
theorem ixK (h : X.K = K := by rfl) : IxR X (rIx K) := h ▸ ix_seq
theorem addK (h : X.K = K := by rfl) : OpR X (binaryOp .Add) (rAddX K) := h ▸ op_addX
theorem eqK (hr : Room k X.A) (h : X.K = K := by rfl) : OpR X (compareOp .Eq) (fun x y H Q => rEq x y H Q ∨ rEqDat K id x y H Q) := h ▸ op_eqX hr
theorem neK (hr : Room k X.A) (h : X.K = K := by rfl) : OpR X (compareOp .NotEq) (fun x y H Q => rNe x y H Q ∨ rEqDat K not x y H Q) := h ▸ op_neX hr
theorem inK (hr : Room k X.A) (h : X.K = K := by rfl) : OpR X (compareOp .In) (fun x y H Q => (∃ (c : Nat) (z : Str), x = .str ⟨#[c]⟩ ∧ y = .str z ∧ Q (.bl (decide (c ∈ z.cps.toList))) H) ∨ rInDat K false x y H Q) := h ▸ op_inX hr
theorem niK (hr : Room k X.A) (h : X.K = K := by rfl) : OpR X (compareOp .NotIn) (fun x y H Q => (∃ (c : Nat) (z : Str), x = .str ⟨#[c]⟩ ∧ y = .str z ∧ Q (.bl (!decide (c ∈ z.cps.toList))) H) ∨ rInDat K true x y H Q) := h ▸ op_niX hr
theorem slK (h : X.K = K := by rfl) : SlR X (rSlY K) := h ▸ sl_Y
theorem lenK (h : X.K = K := by rfl) : CallR X (.builtin "len") (rLenY K) := h ▸ call_lenY
end
end SwX
set_option Elab.async false
set_option linter.all false
set_option maxRecDepth 100000
set_option maxHeartbeats 4000000
/-! names and rules drawn: evaluation -/
namespace SwX
open PySem PySem.Spec PyProof.Rows L2 Evl
def nmV (n : Nm) : V := .str (SX.S n)
/-! ### plain data -/
theorem okSign_lt {c : Nat} (h : okSign c) : c < 0x110000 := by
  unfold okSign at h
  omega
theorem nm_lay {n : Nm} (h : ∀ c ∈ n, okSign c) : (nmD n).canLay0 = true := by
  show PyData.strOk (SX.S n) = true
  unfold PyData.strOk
  rw [← Array.all_toList]
  show n.all _ = true
  rw [List.all_eq_true]
  exact fun c hc => decide_eq_true (okSign_lt (h c hc))
theorem shaped_of {d : PyData} (a : d.canLay0 = true) (b : d.depth ≤ 64) : SeqAt.shaped d = true := by
  unfold SeqAt.shaped
  rw [a, Bool.true_and]
  exact decide_eq_true b
theorem pl_nm {n : Nm} (h : NameOk n) : Pl (nmD n) := ⟨rfl, shaped_of (nm_lay h.sg) (Nat.zero_le _)⟩
theorem dep_l (xs : List PyData) : (PyData.list xs).depth = PyData.depthAll xs + 1 := by simp only [PyData.depth]
theorem dep_t (xs : List PyData) : (PyData.tuple xs).depth = PyData.depthAll xs + 1 := by simp only [PyData.depth]
theorem nms_lay {ns : List Nm} (h : ∀ n ∈ ns, NameOk n) : PyData.canLayAll0 (ns.map nmD) = true := lay_all fun n hn => nm_lay (h n hn).sg
theorem nms_dep (ns : List Nm) : PyData.depthAll (ns.map nmD) ≤ 0 := depth_all fun n _ => Nat.le_refl _
theorem nms_nod (ns : List Nm) : PyData.hasDictAll (ns.map nmD) = false := nodict_all fun n _ => rfl
theorem pl_nmL {ns : List Nm} (h : ∀ n ∈ ns, NameOk n) : Pl (.list (ns.map nmD)) := ⟨by simp only [PyData.hasDict]; exact nms_nod ns, shaped_of (by simp only [PyData.canLay0]; exact nms_lay h) (by rw [dep_l]; have := nms_dep ns; omega)⟩
theorem pl_nms {ns : List Nm} (h : ∀ n ∈ ns, NameOk n) : Pl (nmsD ns) := ⟨by unfold nmsD; simp only [PyData.hasDict]; exact nms_nod ns, shaped_of (by unfold nmsD; simp only [PyData.canLay0]; exact nms_lay h) (by unfold nmsD; rw [dep_t]; have := nms_dep ns; omega)⟩
/-- a rule's texts are names -/
def RulNm (r : Rul) : Prop := NameOk r.1 ∧ ∀ p ∈ r.2.2, NameOk p
theorem RulOk.nm {ns : List Nm} {r : Rul} (h : RulOk ns r) (n : ∀ m ∈ ns, NameOk m) : RulNm r := ⟨n _ h.wd, fun p hp => n _ (h.pt p hp)⟩
theorem rul_parts {r : Rul} (h : RulNm r) : (rulD r).canLay0 = true ∧ (rulD r).depth ≤ 2 ∧ (rulD r).hasDict = false := by
  have z := nms_dep r.2.2
  unfold rulD nmsD
  refine ⟨?_, ?_, ?_⟩
  · simp only [PyData.canLay0, PyData.canLayAll0, nm_lay h.1.sg, nms_lay h.2, Bool.and_self]
  · have e : (nmD r.1).depth = 0 := rfl
    simp only [PyData.depth, PyData.depthAll, e]
    omega
  · have e : (nmD r.1).hasDict = false := rfl
    simp only [PyData.hasDict, PyData.hasDictAll, nms_nod, e, Bool.or_self]
theorem pl_rul {r : Rul} (h : RulNm r) : Pl (rulD r) := by
  obtain ⟨a, b, c⟩ := rul_parts h
  refine ⟨c, ?_⟩
  unfold SeqAt.shaped
  rw [a, Bool.true_and]
  exact decide_eq_true (by omega)
theorem ruls_dep {rs : List Rul} (h : ∀ r ∈ rs, RulNm r) : PyData.depthAll (rs.map rulD) ≤ 2 := depth_all fun r hr => (rul_parts (h r hr)).2.1
theorem pl_rulL {rs : List Rul} (h : ∀ r ∈ rs, RulNm r) : Pl (.list (rs.map rulD)) := ⟨by simp only [PyData.hasDict]; exact nodict_all fun r hr => (rul_parts (h r hr)).2.2, shaped_of (by simp only [PyData.canLay0]; exact lay_all fun r hr => (rul_parts (h r hr)).1) (by rw [dep_l]; have := ruls_dep h; omega)⟩
theorem pl_ruls {rs : List Rul} (h : ∀ r ∈ rs, RulNm r) : Pl (rulsD rs) := ⟨by unfold rulsD; simp only [PyData.hasDict]; exact nodict_all fun r hr => (rul_parts (h r hr)).2.2, shaped_of (by unfold rulsD; simp only [PyData.canLay0]; exact lay_all fun r hr => (rul_parts (h r hr)).1) (by unfold rulsD; rw [dep_t]; have := ruls_dep h; omega)⟩
/-! ### in the heap -/
section
variable {K : PySem.W.Frag} {H : Hp} {p : Addr}
theorem nms_pair (ns : List Nm) : Paired (fun d v => Da K H v d) (ns.map nmD) (ns.map nmV) := by
  induction ns with
  | nil => exact .nil
  | cons n ns ih => exact .cons (.str _) ih
theorem da_nmL {ns : List Nm} (h : H p = some (.lst (ns.map nmV))) : Da K H (.ref p) (.list (ns.map nmD)) := da_list h (nms_pair ns)
theorem da_nms {ns : List Nm} (h : SqT K H p (ns.map nmV)) : Da K H (.ref p) (nmsD ns) := da_tuple h (nms_pair ns)
end
/-! ### evaluation -/
section
variable {K : PySem.W.Frag} {σ : L2.St} {G H : Hp} {a : Addr} {te ta tb t0 : TE} {v : V} {P P1 P2 : V → Prop} {D : Ends} {tz tu : TS} {m : Nat} {t u : TT}
theorem el_catX {l : Addr} {xs ys : List V} (ha : Ev ta σ H (.ref l)) (hl : H l = some (.lst xs)) (hb : EvL tb σ H ys) (z : xs.length + ys.length ≤ 100000) : EvL (tOp (rAddX K) ta tb) σ H (xs ++ ys) := fun H1 e1 Q q =>
  ha H1 e1 _ fun H2 e2 => hb H2 (e1.trans e2) _ fun p H3 _ e3 h3 => .inr (.inl ⟨l, p, xs, ys, rfl, rfl, e3 _ _ (e2 _ _ (e1 _ _ hl)), h3, sz_of z, fun c hc => q c _ (fresh_back (e2.trans e3) hc) ((e2.trans e3).trans (Ex.new hc)) upd_same⟩)
theorem rv_niDat {x y : V} {d c : PyData} {ds : List PyData} {b : Bool} (hc : c = .list ds ∨ c = .tuple ds) (hx : Da K H x d) (hy : Da K H y c) (px : Pl d) (py : Pl c) (e : (ds.any fun z => PyData.eqv z d) = b) :
    RV (fun x y H Q => (∃ (c : Nat) (z : Str), x = .str ⟨#[c]⟩ ∧ y = .str z ∧ Q (.bl (!decide (c ∈ z.cps.toList))) H) ∨ rInDat K true x y H Q) x y H (.bl (!b)) := fun H1 e1 Q q => .inr ⟨d, c, ds, hc, hx.mono e1, hy.mono e1, px, py, by subst e; exact q H1 (Ex.refl H1)⟩
theorem rv_inDat {x y : V} {d c : PyData} {ds : List PyData} {b : Bool} (hc : c = .list ds ∨ c = .tuple ds) (hx : Da K H x d) (hy : Da K H y c) (px : Pl d) (py : Pl c) (e : (ds.any fun z => PyData.eqv z d) = b) :
    RV (fun x y H Q => (∃ (c : Nat) (z : Str), x = .str ⟨#[c]⟩ ∧ y = .str z ∧ Q (.bl (decide (c ∈ z.cps.toList))) H) ∨ rInDat K false x y H Q) x y H (.bl b) := fun H1 e1 Q q => .inr ⟨d, c, ds, hc, hx.mono e1, hy.mono e1, px, py, by subst e; exact q H1 (Ex.refl H1)⟩
theorem rv_neDat {x y : V} {d e : PyData} {b : Bool} (hx : Da K H x d) (hy : Da K H y e) (px : Pl d) (py : Pl e) (z : PyData.eqv d e = b) : RV (fun x y H Q => rNe x y H Q ∨ rEqDat K not x y H Q) x y H (.bl (!b)) := fun H1 e1 Q q =>
  .inr ⟨d, e, hx.mono e1, hy.mono e1, px, py, by subst z; exact q H1 (Ex.refl H1)⟩
theorem rv_eqDat {x y : V} {d e : PyData} {b : Bool} (hx : Da K H x d) (hy : Da K H y e) (px : Pl d) (py : Pl e) (z : PyData.eqv d e = b) : RV (fun x y H Q => rEq x y H Q ∨ rEqDat K id x y H Q) x y H (.bl b) := fun H1 e1 Q q =>
  .inr ⟨d, e, hx.mono e1, hy.mono e1, px, py, by subst z; exact q H1 (Ex.refl H1)⟩
theorem rv_addI {i j : Int} : RV (rAddX K) (.int i) (.int j) H (.int (i + j)) := fun H1 _ _ q => .inl ⟨i, j, rfl, rfl, q H1 (Ex.refl H1)⟩
theorem rv_addS {x y : List Nat} (h : x.length + y.length ≤ 100000) : RV (rAddX K) (.str (SX.S x)) (.str (SX.S y)) H (.str (SX.S (x ++ y))) := fun H1 _ _ q => .inr (.inr (.inl ⟨_, _, rfl, rfl, by rw [SX.S_len, SX.S_len]; exact sz_of h, by rw [SX.S_cat]; exact q H1 (Ex.refl H1)⟩))
theorem rv_ixLX {p : Addr} {xs : List V} {i : Int} (h : SqL K H p xs) (ha : atI xs i = some v) : RV (rIx K) (.ref p) (.int i) H v := fun H1 e _ q => .inl ⟨p, xs, i, v, rfl, rfl, ex_l e h, ha, q H1 (Ex.refl H1)⟩
theorem rv_ixTX {p : Addr} {xs : List V} {i : Int} (h : SqT K H p xs) (ha : atI xs i = some v) : RV (rIx K) (.ref p) (.int i) H v := fun H1 e _ q => .inr (.inl ⟨p, xs, i, v, rfl, rfl, ex_t e h, ha, q H1 (Ex.refl H1)⟩)
/-- a test that may draw -/
def DrT (a : Addr) (tt : TT) (σ : L2.St) (G : Hp) (R : Bool → Prop) : Prop := ∀ H1, Ex G H1 → Pur H1 a → ∀ Q : Bool → Hp → Prop, (∀ b H2, R b → Ex G H2 → Pur H2 a → Q b H2) → tt σ H1 Q
theorem dt_ev {R : Bool → Prop} {b : Bool} (h : EvT t σ G b) (r : R b) : DrT a t σ G R := fun H1 e p Q q => h H1 e Q fun H2 e2 => q b H2 r (e.trans e2) (p.keep e2)
theorem dt_B {R : Bool → Prop} (h : Dr a te σ G fun v => ∃ b, v = .bl b ∧ R b) : DrT a (tTest te) σ G R := fun H1 e p Q q => h H1 e p _ fun v H2 pv e2 p2 => by
  obtain ⟨b, rfl, r⟩ := pv
  exact ⟨b, rfl, q b H2 r e2 p2⟩
theorem dt_and {R R1 R2 : Bool → Prop} (h1 : DrT a t σ G R1) (h2 : R1 true → DrT a u σ G R2) (f : R1 false → R false) (g : ∀ b, R1 true → R2 b → R b) : DrT a (tAnd t u) σ G R := fun H1 e p Q q => h1 H1 e p _ fun b H2 r e2 p2 => by
  cases b with
  | true =>
    show u σ H2 Q
    exact h2 r H2 e2 p2 Q fun b H3 r' e3 p3 => q b H3 (g b r r') e3 p3
  | false =>
    show Q false H2
    exact q false H2 (f r) e2 p2
theorem dr_if {R : Bool → Prop} (h : DrT a t σ G R) (h1 : R true → Dr a ta σ G P) (h2 : R false → Dr a tb σ G P) : Dr a (tIf t ta tb) σ G P := fun H1 e p Q q => h H1 e p _ fun b H2 r e2 p2 => by
  cases b with
  | true =>
    show ta σ H2 Q
    exact h1 r H2 e2 p2 Q q
  | false =>
    show tb σ H2 Q
    exact h2 r H2 e2 p2 Q q
/-- for i in range(a drawn number) -/
theorem q_forDr {j : Nat} {R : Int → Prop} (h0 : Dr a t0 σ G fun v => ∃ k : Int, v = .int k ∧ 0 ≤ k ∧ k ≤ m ∧ R k) (hm : m ≤ 1000) (e : Ex G H) (p : Pur H a) (Pv : Nat → L2.St → Hp → Prop) (hp : ∀ H1, Ex G H1 → Pur H1 a → Pv 0 σ H1)
    (hs : ∀ (i : Nat) σ' H', i < m → Pv i σ' H' → tu { D with nx := Pv (i + 1), ct := Pv (i + 1), bk := tz D } (σ'.set j (some (.int (i : Int)))) H') (hd : ∀ (k : Int) σ' H', R k → 0 ≤ k → Pv k.toNat σ' H' → tz D σ' H') : tSeq (tFor (iRng1 (tCons t0 tNil)) (gName j) tu) tz D σ H :=
  h0 H e p _ fun v H1 pv e1 p1 => by
    obtain ⟨k, rfl, k0, k1, r⟩ := pv
    refine ⟨k, rfl, by omega, by omega, for_range (lo := 0) (n := k.toNat) Pv (hp H1 e1 p1) (fun i σ' H' hi z => ?_) fun σ' H' z => hd k σ' H' r k0 z⟩
    show tu { D with nx := Pv (i + 1), ct := Pv (i + 1), bk := tz D } (σ'.set j (some (.int (0 + (i : Int))))) H'
    rw [Int.zero_add]
    exact hs i σ' H' (by omega) z
end
section
variable {K : PySem.W.Frag} {σ : L2.St} {G H : Hp} {a : Addr} {te ta tb t0 : TE} {v : V} {P P1 P2 : V → Prop} {D : Ends} {tz tu : TS} {m : Nat}
theorem dr_opG {r : R2} (ha : Dr a ta σ G P1) (hb : Dr a tb σ G P2) (hr : ∀ x y, P1 x → P2 y → ∃ z, P z ∧ RV r x y G z) : Dr a (tOp r ta tb) σ G P := fun H1 e p Q q =>
  ha H1 e p _ fun x H2 px e2 p2 => hb H2 e2 p2 _ fun y H3 py e3 p3 => by
    obtain ⟨z, pz, rv⟩ := hr x y px py
    exact rv H3 e3 Q fun H4 e4 => q z H4 pz (e3.trans e4) (p3.keep e4)
def rTupOf (K : PySem.W.Frag) : List V → Hp → VK → Prop := fun xs H Q => ∃ p ys, xs = [.ref p] ∧ ((SqL K H p ys ∧ ∀ l, H l = none → Q (.ref l) (upd H l (.tup ys))) ∨ (SqT K H p ys ∧ Q (.ref p) H))
theorem q_asgTupL {i : Nat} (h : DrL a te σ G m P) (e : Ex G H) (p : Pur H a) (k : ∀ q xs H1, xs.length ≤ m → (∀ x ∈ xs, P x) → H1 q = some (.tup xs) → q ≠ a → Ex G H1 → Pur H1 a → tz D (σ.set i (some (.ref q))) H1) : tSeq (tAsg (tCB (rTupOf K) (tCons te tNil)) (gName i)) tz D σ H :=
  h H e p _ fun l xs H1 lx px hl _ e1 p1 => ⟨l, xs, rfl, .inl ⟨sq_of hl, fun c hc => k c xs _ lx px upd_same (p1.ne hc) (e1.trans (Ex.new hc)) (pur_new p1 hc)⟩⟩
theorem ev_lenL {p : Addr} {xs : List V} (ha : Ev te σ H (.ref p)) (h : SqL K H p xs ∨ SqT K H p xs) : Ev (tCB (rLenY K) (tCons te tNil)) σ H (.int (xs.length : Int)) := fun H1 e Q q =>
  ha H1 e _ fun H2 e2 => .inl ⟨p, xs, rfl, h.imp (ex_l (e.trans e2)) (ex_t (e.trans e2)), q H2 e2⟩
theorem ev_lenS {x : List Nat} (ha : Ev te σ H (.str (SX.S x))) (h : x.length ≤ 100000) : Ev (tCB (rLenY K) (tCons te tNil)) σ H (.int (x.length : Int)) := fun H1 e Q q =>
  ha H1 e _ fun H2 e2 => .inr ⟨SX.S x, rfl, by rw [SX.S_len]; exact sz_of h, by rw [SX.S_len]; exact q H2 e2⟩
end
end SwX
set_option Elab.async false
set_option linter.all false
set_option maxRecDepth 100000
set_option maxHeartbeats 4000000
/-! texts of catalogues -/
namespace SwX
open PySem PySem.Spec PyProof.Rows L2 Evl
theorem isiK {X : Cx} (K : PySem.W.Frag) (h : X.K = K := by rfl) : CallR X (.builtin "isinstance") (rIsi K) := h ▸ call_isi
theorem pe_gstr {X : Cx} {x z : Str} {pos : Pos} (hm : ∃ t, X.mg x = some (.str z t)) (hg : Gl X x := by rfl) (hd : (x == ("__debug__" : Str)) = false := by decide) : PE X (.Name x pos) (tC (.str z)) := by
  obtain ⟨t, h⟩ := hm
  exact pe_glob hg h ⟨t, rfl⟩ hd
/-! ### plain texts -/
def kindsL : List Nat := [107, 105, 110, 100, 115]
def tailL (ps : List Nm) : List Nat := if ps = [] then [] else [58, 32] ++ TL.joinL [32] ps
def rowL (r : Rul) : List Nat := r.1 ++ ([32] ++ (TL.numL r.2.1 ++ tailL r.2.2))
def headL (ns : List Nm) : List Nat := TL.joinL [32] (kindsL :: ns)
def textL (ns : List Nm) (rs : List Rul) : List Nat := TL.joinL [10] (headL ns :: rs.map rowL)
theorem numS (o : Nat) : (Str.ofString (toString ((o : Nat) : Int))) = SX.S (TL.numL o) := (SX.S_tl _).symm.trans (congrArg SX.S (TL.tl_num o))
/-! ### data told apart -/
section
variable {K : PySem.W.Frag} {H : Hp} {v : V}
theorem da_pairs : ∀ {xs : List V} {ds : List PyData}, xs.length = ds.length → (∀ (i : Nat) x d, xs[i]? = some x → ds[i]? = some d → Da K H x d) → Paired (fun d x => Da K H x d) ds xs
  | [], [], _, _ => .nil
  | [], _ :: _, l, _ => by cases l
  | _ :: _, [], l, _ => by cases l
  | x :: xs, d :: ds, l, k => .cons (k 0 x d rfl rfl) (da_pairs (Nat.succ.inj l) fun i x' d' e1 e2 => k (i + 1) x' d' (by simpa using e1) (by simpa using e2))
theorem da_tupI {ds : List PyData} (h : Da K H v (.tuple ds)) : ∃ q xs, v = .ref q ∧ SqT K H q xs ∧ Paired (fun d x => Da K H x d) ds xs := by
  cases h with
  | tup h l k => exact ⟨_, _, rfl, h, da_pairs l k⟩
theorem paired_unmap {α β γ : Type} {F : γ → β → Prop} {g : α → γ} : ∀ {is : List α} {vs : List β}, Paired F (is.map g) vs → Paired (fun i v => F (g i) v) is vs
  | [], _, .nil => .nil
  | _ :: _, _, .cons h t => .cons h (paired_unmap t)
theorem da_ruls (rs : List Rul) (h : Da K H v (rulsD rs)) : ∃ q xs, v = .ref q ∧ SqT K H q xs ∧ Paired (fun r x => Da K H x (rulD r)) rs xs := by
  obtain ⟨q, xs, e, s, p⟩ := da_tupI h
  exact ⟨q, xs, e, s, paired_unmap p⟩
theorem da_strI {z : Str} (h : Da K H v (.str z)) : v = .str z := by
  cases h
  rfl
theorem da_intI {i : Int} (h : Da K H v (.int i)) : v = .int i := by
  cases h
  rfl
theorem nms_vals : ∀ {ns : List Nm} {xs : List V}, Paired (fun n x => Da K H x (nmD n)) ns xs → xs = ns.map nmV
  | [], _, .nil => rfl
  | n :: ns, _, .cons h t => by rw [nms_vals t, List.map_cons, da_strI h] <;> rfl
theorem da_nmsI {ns : List Nm} (h : Da K H v (nmsD ns)) : ∃ q, v = .ref q ∧ SqT K H q (ns.map nmV) := by
  obtain ⟨q, xs, e, s, p⟩ := da_tupI h
  rw [nms_vals (paired_unmap p)] at s
  exact ⟨q, e, s⟩
theorem paired3 {α β : Type} {F : α → β → Prop} {a b c : α} : ∀ {xs : List β}, Paired F [a, b, c] xs → ∃ x y z, xs = [x, y, z] ∧ F a x ∧ F b y ∧ F c z
  | _, .cons h1 (.cons h2 (.cons h3 .nil)) => ⟨_, _, _, rfl, h1, h2, h3⟩
theorem da_rul {r : Rul} (h : Da K H v (rulD r)) : ∃ b c, v = .ref b ∧ SqT K H b [nmV r.1, .int (r.2.1 : Nat), .ref c] ∧ SqT K H c (r.2.2.map nmV) := by
  obtain ⟨q, xs, e, s, p⟩ := da_tupI h
  obtain ⟨x, y, z, rfl, h1, h2, h3⟩ := paired3 p
  obtain ⟨c, rfl, sc⟩ := da_nmsI h3
  rw [da_strI h1, da_intI h2] at s
  exact ⟨q, c, e, s, sc⟩
end
/-! ### evaluation of texts -/
section
variable {K : PySem.W.Frag} {σ : L2.St} {H : Hp} {te ta tb to : TE} {v : V} {D : Ends} {tz tu : TS}
theorem S_map (l : List Nm) : l.map nmV = (l.map SX.S).map V.str := by rw [List.map_map] <;> rfl
theorem sum_small {B : Nat} : ∀ {l : List (List Nat)}, (∀ x ∈ l, x.length ≤ B) → ((l.map SX.S).map (·.length)).sum ≤ B * l.length
  | [], _ => Nat.zero_le _
  | x :: l, h => by
    have z := sum_small (l := l) fun y hy => h y (List.mem_cons_of_mem _ hy)
    have y := h x List.mem_cons_self
    simp only [List.map_cons, List.sum_cons, List.length_cons]
    rw [SX.S_len, Nat.mul_add]
    omega
/-- sep.join(a list | a tuple of texts) -/
theorem ev_joinS {sep : List Nat} {l : List (List Nat)} {p : Addr} {B : Nat} (ho : Ev to σ H (.str (SX.S sep))) (he : Ev te σ H (.ref p)) (hp : SqL K H p ((l.map SX.S).map V.str) ∨ SqT K H p ((l.map SX.S).map V.str)) (hB : ∀ x ∈ l, x.length ≤ B) (small : B ≤ 1000 ∧ l.length ≤ 1000 ∧ sep.length ≤ 10) :
    Ev (tM1 (rJoin K) to te) σ H (.str (SX.S (TL.joinL sep l))) := fun H1 e1 Q q => ho H1 e1 _ fun H2 e2 => ⟨⟨_, rfl⟩, he H2 (e1.trans e2) _ fun H3 e3 => by
  refine ⟨SX.S sep, p, _, rfl, rfl, hp.imp (ex_l ((e1.trans e2).trans e3)) (ex_t ((e1.trans e2).trans e3)), ?_, by rw [SX.join_S]; exact q H3 (e2.trans e3)⟩
  have z := sum_small hB
  obtain ⟨b, c, d⟩ := small
  have m1 : B * l.length ≤ 1000 * 1000 := Nat.mul_le_mul b c
  have m2 : (l.map SX.S).length * (SX.S sep).length ≤ 1000 * 10 := Nat.mul_le_mul (by rw [List.length_map]; exact c) (by rw [SX.S_len]; exact d)
  omega⟩
theorem ev_fmtS {x : List Nat} (h : Ev te σ H (.str (SX.S x))) (l : x.length ≤ 100000) : Ev (tFmt te) σ H (.str (SX.S x)) := fun H1 e1 Q q => h H1 e1 _ fun H2 e2 => .inl ⟨_, rfl, by rw [SX.S_len]; exact sz_of l, q H2 e2⟩
theorem ev_fmtI {o : Nat} (h : Ev te σ H (.int (o : Int))) (l : o < 1000) : Ev (tFmt te) σ H (.str (SX.S (TL.numL o))) := fun H1 e1 Q q => h H1 e1 _ fun H2 e2 => .inr ⟨o, rfl, by
  have : (o : Int).natAbs.log2 < 10 := by
    by_cases z : o = 0
    · subst z
      decide
    · exact (Nat.log2_lt (by omega)).mpr (by omega)
  omega, by rw [numS]; exact q H2 e2⟩
theorem q_appX {l : Addr} {xs : List V} (hl : H l = some (.lst xs)) (ha : Ev ta σ H (.ref l)) (h : Ev te σ H v) (hz : xs.length < 100000) (k : ∀ H1, Ex H H1 → D.nx σ (upd H1 l (.lst (xs ++ [v])))) : tDrop (tBM K "list" rAppend ta (tCons te tNil)) D σ H := s_app hl ha h hz k
end
end SwX
set_option Elab.async false
set_option linter.all false
set_option maxRecDepth 100000
set_option maxHeartbeats 4000000
/-! isinstance of data, comprehensions over texts and tuples, enumerate: evaluation -/
namespace SwX
open PySem PySem.Spec PyProof.Rows L2 Evl
section
variable {K : PySem.W.Frag} {σ : L2.St} {H : Hp} {te ta tb to : TE} {v x : V} {D : Ends} {tz tu : TS} {t : TT}
theorem ty_tup {p : Addr} {xs : List V} (h : SqT K H p xs) : TyX K H (.ref p) (.type "tuple") := by
  rcases h with (h | ⟨o, h⟩) | ⟨o, its, n, h, c, _⟩
  · exact .base (.tup h)
  · exact .fTuple h
  · exact .kTuple h c
theorem ev_isi {T n : String} {b : Bool} (h : Ev te σ H x) (ty : ∀ H', Ex H H' → TyX K H' x (.type T)) (k : kitB T n = some b) : Ev (tCB (rIsi K) (tCons te (tCons (tC (.ty n)) tNil))) σ H (.bl b) := fun H1 e1 Q q =>
  h H1 e1 _ fun H2 e2 => ⟨x, .ty n, .type T, .type n, b, rfl, .ty n, ty H2 (e1.trans e2), kit_ty k, q H2 e2⟩
/-- [te for x in a tuple] -/
theorem el_lcT {a : Addr} {xs : List V} {tl : TE} {j : Nat} {vs : List Nat} (f : Nat → V) (h : Ev tl σ H (.ref a)) (hx : SqT K H a xs) (hz : xs.length ≤ 40000) (hw : ∀ x, wipe ((wipe σ vs).set j (some x)) vs = wipe σ vs)
    (he : ∀ (i : Nat) (x : V) H1, Ex H H1 → xs[i]? = some x → Ev te ((wipe σ vs).set j (some x)) H1 (f i)) : EvL (tLc (iTup K tl) (gName j) tYes te vs) σ H (given xs.length (fun _ => true) f) := fun H0 e Q q => h H0 e _ fun H1 e1 => ⟨a, rfl, ⟨xs, ex_t (e.trans e1) hx⟩, fun Dl hD =>
  lc_tup (xs := xs) (Cw H1 (fun _ => true) f Dl) ⟨hD, Ex.new hD, upd_same⟩ (fun i H' _ p => ex_t ((e.trans e1).trans p.2.1) hx) (fun i x H' hi p => ⟨hw x, cw_turn p (by have := (List.getElem?_eq_some_iff.mp hi).1; omega) (fun H4 _ Q' k => k H4 (Ex.refl H4)) (fun _ => he i x H1 (e.trans e1) hi)⟩)
    (fun H' p => q Dl H' (fresh_back e1 p.1) (e1.trans p.2.1) p.2.2)⟩
/-- [te for c in a text] -/
theorem el_lcZ {l : List Nat} {tl : TE} {j : Nat} {vs : List Nat} (f : Nat → V) (h : Ev tl σ H (.str (SX.S l))) (hz : l.length ≤ 40000) (hw : ∀ x, wipe ((wipe σ vs).set j (some x)) vs = wipe σ vs)
    (he : ∀ (i c : Nat) H1, Ex H H1 → l[i]? = some c → Ev te ((wipe σ vs).set j (some (.str ⟨#[c]⟩))) H1 (f i)) : EvL (tLc (iStr tl) (gName j) tYes te vs) σ H (given l.length (fun _ => true) f) := fun H0 e Q q => h H0 e _ fun H1 e1 => ⟨SX.S l, rfl, fun Dl hD => by
  have sz : (SX.S l).cps.size = l.length := by simp [SX.S]
  have w := walk_str (z := SX.S l)
  rw [sz] at w
  refine lc_it w (Cw H1 (fun _ => true) f Dl) ⟨hD, Ex.new hD, upd_same⟩ (fun _ _ _ _ => trivial) (fun i x H' H2 hi p y => ?_) (fun H' p => q Dl H' (fresh_back e1 p.1) (e1.trans p.2.1) p.2.2)
  obtain ⟨rfl, c, hc, rfl⟩ := y
  exact ⟨hw _, cw_turn p (by omega) (fun H4 _ Q' k => k H4 (Ex.refl H4)) (fun _ => he i c H1 (e.trans e1) (by simpa [SX.S] using hc))⟩⟩
theorem given_trues (n : Nat) : given n (fun _ => true) (fun _ => .bl true) = ((List.range n).map fun _ => true).map V.bl := by
  unfold given
  rw [List.filter_eq_self.mpr (fun _ _ => rfl), List.map_map] <;> rfl
theorem ev_allG {n : Nat} (h : EvL te σ H (given n (fun _ => true) (fun _ => .bl true))) : Ev (tCB (rAll K) (tCons te tNil)) σ H (.bl true) := by
  have z := ev_allT (K := K) (el_is h (given_trues n))
  have e : (((List.range n).map fun _ => true).all id) = true := by simp
  rw [e] at z
  exact z
theorem q_retE (h : Ev te σ H v) (k : ∀ H1, Ex H H1 → D.rt v H1) : tRet te D σ H := s_ret h k
theorem rv_signIn {c : Nat} {l : List Nat} {b : Bool} (h : decide (c ∈ l) = b) : RV (fun x y H Q => (∃ (c : Nat) (z : Str), x = .str ⟨#[c]⟩ ∧ y = .str z ∧ Q (.bl (decide (c ∈ z.cps.toList))) H) ∨ rInDat K false x y H Q) (.str ⟨#[c]⟩) (.str (SX.S l)) H (.bl b) := fun H1 _ Q q =>
  .inl ⟨c, SX.S l, rfl, rfl, by rw [show (SX.S l).cps.toList = l from rfl, h]; exact q H1 (Ex.refl H1)⟩
theorem rv_signNi {c : Nat} {l : List Nat} {b : Bool} (h : decide (c ∈ l) = b) : RV (fun x y H Q => (∃ (c : Nat) (z : Str), x = .str ⟨#[c]⟩ ∧ y = .str z ∧ Q (.bl (!decide (c ∈ z.cps.toList))) H) ∨ rInDat K true x y H Q) (.str ⟨#[c]⟩) (.str (SX.S l)) H (.bl (!b)) := fun H1 _ Q q =>
  .inl ⟨c, SX.S l, rfl, rfl, by rw [show (SX.S l).cps.toList = l from rfl, h]; exact q H1 (Ex.refl H1)⟩
theorem rv_ixZ {l : List Nat} {c : Nat} {i : Nat} (h : l[i]? = some c) (hl : l.length ≤ 100000) : RV (rIx K) (.str (SX.S l)) (.int (i : Int)) H (.str ⟨#[c]⟩) := fun H1 _ Q q => .inr (.inr ⟨SX.S l, i, c, rfl, rfl, by rw [SX.S_len]; exact sz_of hl, by
  show atI l (i : Int) = some c
  unfold atI
  rw [ixN_nat (List.getElem?_eq_some_iff.mp h).1]
  exact h, q H1 (Ex.refl H1)⟩)
theorem rv_ixTn {p : Addr} {xs : List V} {i : Nat} (h : SqT K H p xs) (ha : xs[i]? = some v) : RV (rIx K) (.ref p) (.int (i : Int)) H v := rv_ixTX h (by
  unfold atI
  rw [ixN_nat (List.getElem?_eq_some_iff.mp ha).1]
  exact ha)
theorem rv_ixLn {p : Addr} {xs : List V} {i : Nat} (h : SqL K H p xs) (ha : xs[i]? = some v) : RV (rIx K) (.ref p) (.int (i : Int)) H v := rv_ixLX h (by
  unfold atI
  rw [ixN_nat (List.getElem?_eq_some_iff.mp ha).1]
  exact ha)
/-- a slice of a tuple -/
theorem yi_slT {p : Addr} {xs : List V} {lo hi : Option Int} {tl th : TO} (ha : Ev te σ H (.ref p)) (hp : SqT K H p xs) (hl : EvO tl σ H lo) (hh : EvO th σ H hi) : Yi (tSl (rSlY K) te tl th) σ H fun v H' => ∃ q, v = .ref q ∧ SqT K H' q (cutV xs lo hi) := fun H1 e1 Q q =>
  ha H1 e1 _ fun H2 e2 => hl H2 (e1.trans e2) _ fun H3 e3 => hh H3 ((e1.trans e2).trans e3) _ fun H4 e4 => by
    have hp4 := ex_t (((e1.trans e2).trans e3).trans e4) hp
    refine .inr (.inl ⟨p, xs, rfl, hp4, fun w => ?_, fun w c hc => ?_⟩)
    · refine q _ H4 ((e2.trans e3).trans e4) ⟨p, rfl, ?_⟩
      unfold cutV
      rw [w.1, w.2, List.drop_zero, Nat.sub_zero, List.take_length]
      exact hp4
    · exact q _ _ (((e2.trans e3).trans e4).trans (Ex.new hc)) ⟨c, rfl, .inl (.inl upd_same)⟩
theorem cut_take (xs : List V) (n : Nat) : cutV xs none (some (n : Int)) = xs.take n := by
  unfold cutV
  rw [HT.sIx_nat, HT.sIx_none, List.drop_zero, Nat.sub_zero]
  rcases Nat.le_total n xs.length with h | h
  · rw [Nat.min_eq_left h]
  · rw [Nat.min_eq_right h, List.take_length, List.take_of_length_le h]
theorem cut_drop (xs : List V) (n : Nat) : cutV xs (some (n : Int)) none = xs.drop n := by
  unfold cutV
  rw [HT.sIx_nat, HT.sIx_none]
  rcases Nat.le_total n xs.length with h | h
  · rw [Nat.min_eq_left h, List.take_of_length_le (by rw [List.length_drop]; exact Nat.le_refl _)]
  · rw [Nat.min_eq_right h, List.drop_of_length_le (Nat.le_refl _), List.drop_of_length_le h, List.take_nil]
theorem el_slL {p : Addr} {xs : List V} {lo hi : Option Int} {tl th : TO} (ha : Ev te σ H (.ref p)) (hp : SqL K H p xs) (hl : EvO tl σ H lo) (hh : EvO th σ H hi) : EvL (tSl (rSlY K) te tl th) σ H (cutV xs lo hi) := fun H1 e1 Q q =>
  ha H1 e1 _ fun H2 e2 => hl H2 (e1.trans e2) _ fun H3 e3 => hh H3 ((e1.trans e2).trans e3) _ fun H4 e4 =>
    .inl ⟨p, xs, rfl, ex_l (((e1.trans e2).trans e3).trans e4) hp, fun c hc => q c _ (fresh_back ((e2.trans e3).trans e4) hc) (((e2.trans e3).trans e4).trans (Ex.new hc)) upd_same⟩
/-- x in a thing made on the way -/
theorem ev_inY {d c : PyData} {ds : List PyData} {b : Bool} (hc : c = .list ds ∨ c = .tuple ds) (ha : Ev ta σ H x) (hx : ∀ H', Ex H H' → Da K H' x d) (hb : Yi tb σ H fun v H' => Da K H' v c) (px : Pl d) (py : Pl c) (e : (ds.any fun z => PyData.eqv z d) = b) :
    Ev (tOp (fun x y H Q => (∃ (c : Nat) (z : Str), x = .str ⟨#[c]⟩ ∧ y = .str z ∧ Q (.bl (decide (c ∈ z.cps.toList))) H) ∨ rInDat K false x y H Q) ta tb) σ H (.bl b) := fun H1 e1 Q q => ha H1 e1 _ fun H2 e2 => hb H2 (e1.trans e2) _ fun y H3 e3 hy =>
  .inr ⟨d, c, ds, hc, hx H3 ((e1.trans e2).trans e3), hy, px, py, by subst e; exact q H3 (e2.trans e3)⟩
/-- for i, x in enumerate(a tuple) -/
theorem q_forEnumT {p : Addr} {xs : List V} {tl : TE} {i1 i2 : Nat} (h : Ev tl σ H (.ref p)) (hp : SqT K H p xs) (Pv : Nat → L2.St → Hp → Prop) (h0 : ∀ H1, Ex H H1 → Pv 0 σ H1) (hl : ∀ i σ' H', i ≤ xs.length → Pv i σ' H' → SqT K H' p xs)
    (hs : ∀ i x σ' H' T, xs[i]? = some x → H' T = none → Pv i σ' H' → tu { D with nx := Pv (i + 1), ct := Pv (i + 1), bk := tz D } ((σ'.set i1 (some (.int (i : Nat)))).set i2 (some x)) (upd H' T (.tup [.int (i : Nat), x]))) (hd : ∀ σ' H', Pv xs.length σ' H' → tz D σ' H') :
    tSeq (tFor (iEnumT K (tCons tl tNil)) (gTup K 2 (gCons (gName i1) (gCons (gName i2) gNil))) tu) tz D σ H := h H (Ex.refl H) _ fun H1 e1 =>
  ⟨p, xs, rfl, ex_t e1 hp, for_enumT Pv (h0 H1 e1) hl (fun i x T σ' H' hx hT z => ⟨T, _, rfl, .inl (.inl upd_same), rfl, _, _, rfl, _, _, rfl, rfl, hs i x σ' H' T hx hT z⟩) hd⟩
end
end SwX
set_option Elab.async false
set_option linter.all false
set_option maxRecDepth 100000
set_option maxHeartbeats 4000000
/-! comprehensions that make objects; split, partition -/
namespace SwX
open PySem PySem.Spec PyProof.Rows L2 Evl
theorem less_upd_same {D : Addr} {H : Hp} {o : HO} : less D (upd H D o) = less D H := by
  funext b
  unfold less
  split
  · rfl
  · rename_i n
    exact upd_ne n
section
variable {K : PySem.W.Frag} {σ : L2.St} {H : Hp} {te tl ta to : TE} {v x : V} {α : Type} {F : α → V → Hp → Prop} {is : List α} {xs : List V}
/-- [te for x in a list], each a new thing of which F holds aside of whatever stood before -/
theorem yi_lcL {j : Nat} {vs : List Nat} (m : ∀ i v H H', Ex H H' → F i v H → F i v H') (h : EvL tl σ H xs) (l : xs.length = is.length) (hz : xs.length ≤ 1000) (hw : ∀ x, wipe ((wipe σ vs).set j (some x)) vs = wipe σ vs)
    (he : ∀ (i : Nat) (x : V) (d : α) H1, Ex H H1 → xs[i]? = some x → is[i]? = some d → ∀ Q : VK, (∀ v H2, Ex H1 H2 → (∀ a, H1 a ≠ none → F d v (less a H2)) → Q v H2) → te ((wipe σ vs).set j (some x)) H1 Q) : Yi (tLc (iList K tl) (gName j) tYes te vs) σ H (LstOf F is) := fun H0 e0 Q q =>
  h H0 e0 _ fun p H1 n1 e1 h1 => ⟨p, rfl, ⟨xs, sq_of h1⟩, fun D hD => by
    have ne : p ≠ D := fun z => by rw [z, hD] at h1; cases h1
    refine lc_list (xs := xs) (fun i H' => ∃ acc, H' D = some (.lst acc) ∧ Paired (fun d v => F d v (less D H')) (is.take i) acc ∧ Ex H1 H') ⟨[], upd_same, by rw [List.take_zero]; exact .nil, Ex.new hD⟩ (fun i H' _ z => sq_of (z.choose_spec.2.2 _ _ h1)) (fun i x H' hx z => ⟨hw x, ?_⟩) fun H' z => ?_
    · obtain ⟨acc, ha, pa, ea⟩ := z
      have lt : i < is.length := by
        rw [← l]
        exact (List.getElem?_eq_some_iff.mp hx).1
      have at_ : is[i]? = some is[i] := by simp [lt]
      show te ((wipe σ vs).set j (some x)) H' fun y H4 => ∃ acc, H4 D = some (.lst acc) ∧ acc.length < sizeLine ∧ ∃ acc', upd H4 D (.lst (acc ++ [y])) D = some (.lst acc') ∧ Paired (fun d v => F d v (less D (upd H4 D (.lst (acc ++ [y]))))) (is.take (i + 1)) acc' ∧ Ex H1 (upd H4 D (.lst (acc ++ [y])))
      refine he i x is[i] H' ((e0.trans e1).trans ea) hx at_ _ fun y H4 e4 fy => ?_
      have ln := paired_len pa
      rw [List.length_take] at ln
      refine ⟨acc, e4 _ _ ha, sz_lt (by omega), _, upd_same, ?_, ?_⟩
      · rw [less_upd_same, List.take_succ, at_]
        exact paired_append (paired_mono (F := fun d v H => F d v H) (less_mono e4) m pa) (.cons (fy D (by rw [ha]; exact fun z => nomatch z)) .nil)
      · intro b o hb
        have nb : b ≠ D := fun z => by rw [z, hD] at hb; cases hb
        rw [upd_ne nb]
        exact e4 _ _ (ea _ _ hb)
    · obtain ⟨acc, ha, pa, ea⟩ := z
      rw [l, List.take_length] at pa
      exact q (.ref D) H' (e1.trans ea) ⟨D, acc, rfl, ha, paired_mono (F := fun d v H => F d v H) less_ex m pa⟩⟩
/-- s.split(sep), of a joined text -/
theorem el_split {c : Nat} {sep : List Nat} {parts : List (List Nat)} (ho : Ev to σ H (.str (SX.S (TL.joinL (c :: sep) parts)))) (he : Ev te σ H (.str (SX.S (c :: sep)))) (ne : parts ≠ []) (free : ∀ p ∈ parts, c ∉ p) (small : (TL.joinL (c :: sep) parts).length ≤ 100000) (lo : (c :: sep).all (· < 256) = true) :
    EvL (tM1 (fun x xs H Q => ∃ a b, x = .str a ∧ xs = [.str b] ∧ (b.length == 0) = false ∧ a.length + 2 ≤ sizeLine ∧ rNewStrs (Txt.split a b) H Q) to te) σ H ((parts.map SX.S).map V.str) := fun H1 e1 Q q =>
  ho H1 e1 _ fun H2 e2 => ⟨⟨_, rfl⟩, he H2 (e1.trans e2) _ fun H3 e3 => ⟨_, _, rfl, rfl, by rw [SX.S_len]; rfl, by
    rw [SX.S_len]
    exact Nat.le_trans (show _ ≤ 100002 by omega) (by decide), fun p hp => by
    rw [SX.split_S (List.cons_ne_nil _ _) lo, SX.spl_join ne free]
    exact q p _ (fresh_back (e2.trans e3) hp) ((e2.trans e3).trans (Ex.new hp)) upd_same⟩⟩
/-- s.partition(sep): (p, sep, q) | (s, "", "") -/
theorem yu_part {c : Nat} {sep a p m q : List Nat} (ho : Ev to σ H (.str (SX.S a))) (he : Ev te σ H (.str (SX.S (c :: sep)))) (h : (a = p ++ (c :: sep ++ q) ∧ c ∉ p ∧ m = c :: sep) ∨ (c ∉ a ∧ p = a ∧ m = [] ∧ q = [])) (small : a.length ≤ 100000) :
    EvU (tM1 (fun x xs H Q => ∃ a b, x = .str a ∧ xs = [.str b] ∧ (b.length == 0) = false ∧ a.length ≤ sizeLine ∧ ∀ p, H p = none → Q (.ref p) (upd H p (.tup [.str (Txt.partition a b).1, .str (Txt.partition a b).2.1, .str (Txt.partition a b).2.2]))) to te) σ H [.str (SX.S p), .str (SX.S m), .str (SX.S q)] := fun H1 e1 Q k =>
  ho H1 e1 _ fun H2 e2 => ⟨⟨_, rfl⟩, he H2 (e1.trans e2) _ fun H3 e3 => ⟨_, _, rfl, rfl, by rw [SX.S_len]; rfl, by rw [SX.S_len]; exact sz_of small, fun r hr => by
    refine k r _ (fresh_back (e2.trans e3) hr) ((e2.trans e3).trans (Ex.new hr)) ?_
    rcases h with ⟨rfl, f, rfl⟩ | ⟨f, rfl, rfl, rfl⟩
    · rw [upd_same, SX.partition_some (List.cons_ne_nil _ _) (SX.par_head q f)]
    · rw [upd_same, SX.partition_none (List.cons_ne_nil _ _) (SX.par_head_none f)]⟩⟩
/-- tuple(a new list) -/
theorem eu_tupOf (h : EvL te σ H xs) : EvU (tCB (rTupOf K) (tCons te tNil)) σ H xs := fun H1 e1 Q q => h H1 e1 _ fun p H2 n2 e2 h2 => ⟨p, xs, rfl, .inl ⟨sq_of h2, fun c hc => q c _ (fresh_back e2 hc) (e2.trans (Ex.new hc)) upd_same⟩⟩
theorem yi_tupOf (m : ∀ i v H H', Ex H H' → F i v H → F i v H') (h : Yi te σ H (LstOf F is)) : Yi (tCB (rTupOf K) (tCons te tNil)) σ H fun v H' => ∃ p vs, v = .ref p ∧ H' p = some (.tup vs) ∧ Paired (fun i v => F i v H') is vs := fun H1 e1 Q q => h H1 e1 _ fun v H2 e2 z => by
  obtain ⟨p, vs, rfl, hp, pr⟩ := z
  exact ⟨p, vs, rfl, .inl ⟨sq_of hp, fun c hc => q _ _ (e2.trans (Ex.new hc)) ⟨c, vs, rfl, upd_same, paired_mono (Ex.new hc) m pr⟩⟩⟩
end
end SwX
set_option Elab.async false
set_option linter.all false
set_option maxRecDepth 100000
set_option maxHeartbeats 4000000
/-! comprehensions with a test over tuples -/
namespace SwX
open PySem PySem.Spec PyProof.Rows L2 Evl
theorem fldK {X : Cx} (K : PySem.W.Frag) {e : Expr} {f : Str} {pos : Pos} {ta : TE} (he : PE X e ta) (hb : attributeBase e f X.env (eval e X.env) = eval e X.env) (h : X.K = K := by rfl) : PE X (.Attribute e f pos) (tFld K ta f) := h ▸ pe_fld he hb
section
variable {K : PySem.W.Frag} {σ : L2.St} {H : Hp} {te tl ta to : TE} {tt : TT} {v x : V} {α : Type} {F : α → V → Hp → Prop} {is : List α} {xs : List V}
/-- [x for x in a tuple if ..] -/
theorem yi_lcTF {j : Nat} {vs : List Nat} (b : α → Bool) (m : ∀ i v H H', Ex H H' → F i v H → F i v H') (h : Yi tl σ H fun v H' => ∃ a xs, v = .ref a ∧ SqT K H' a xs ∧ Paired (fun i v => F i v H') is xs) (hz : is.length ≤ 1000) (hw : ∀ x, wipe ((wipe σ vs).set j (some x)) vs = wipe σ vs) (hj : ∀ x : V, ((wipe σ vs).set j (some x))[j]? = some (some x))
    (ht : ∀ (i : α) (x : V) H1, Ex H H1 → i ∈ is → F i x H1 → EvT tt ((wipe σ vs).set j (some x)) H1 (b i)) : Yi (tLc (iTup K tl) (gName j) tt (tVar j) vs) σ H (LstOf F (is.filter b)) := fun H0 e0 Q q =>
  h H0 e0 _ fun w H1 e1 z => by
    obtain ⟨p, xs, rfl, hp, pr⟩ := z
    have len := paired_len pr
    refine ⟨p, rfl, ⟨xs, hp⟩, fun D hD => ?_⟩
    refine lc_tup (xs := xs) (fun i H' => ∃ acc, H' D = some (.lst acc) ∧ Paired (fun d v => F d v H1) ((is.take i).filter b) acc ∧ Ex H1 H') ⟨[], upd_same, by rw [List.take_zero]; exact .nil, Ex.new hD⟩ (fun i H' _ z => ex_t z.choose_spec.2.2 hp) (fun i x H' hx z => ⟨hw x, ?_⟩) fun H' z => ?_
    · obtain ⟨acc, ha, pa, ea⟩ := z
      have lt : i < is.length := by
        rw [len]
        exact (List.getElem?_eq_some_iff.mp hx).1
      have at_ : is[i]? = some is[i] := by simp [lt]
      obtain ⟨x', hx', fx⟩ := SwX.paired_get pr at_
      rw [hx] at hx'
      cases hx'
      have ln := paired_len pa
      have le : acc.length ≤ is.length := by
        rw [← ln]
        exact Nat.le_trans (List.length_filter_le _ _) (by rw [List.length_take]; omega)
      have add : (is.take (i + 1)).filter b = (is.take i).filter b ++ (if b is[i] = true then [is[i]] else []) := by
        rw [List.take_succ, at_, List.filter_append]
        show _ ++ List.filter b [is[i]] = _
        by_cases z : b is[i] = true
        · rw [if_pos z, List.filter_cons_of_pos z] <;> rfl
        · rw [if_neg z, List.filter_cons_of_neg z] <;> rfl
      refine ht is[i] x H' ((e0.trans e1).trans ea) (List.getElem_mem lt) (m _ _ _ _ ea fx) H' (Ex.refl _) _ fun H3 e3 => ?_
      cases hb : b is[i] with
      | true =>
        show tVar j ((wipe σ vs).set j (some x)) H3 fun y H4 => ∃ acc, H4 D = some (.lst acc) ∧ acc.length < sizeLine ∧ ∃ acc', upd H4 D (.lst (acc ++ [y])) D = some (.lst acc') ∧ Paired (fun d v => F d v H1) ((is.take (i + 1)).filter b) acc' ∧ Ex H1 (upd H4 D (.lst (acc ++ [y])))
        refine ⟨x, hj x, acc, e3 _ _ ha, sz_lt (by omega), _, upd_same, ?_, ?_⟩
        · rw [add, if_pos hb]
          exact paired_append pa (.cons fx .nil)
        · intro c o hc
          have nc : c ≠ D := fun z => by rw [z, hD] at hc; cases hc
          rw [upd_ne nc]
          exact e3 _ _ (ea _ _ hc)
      | false =>
        show ∃ acc', H3 D = some (.lst acc') ∧ Paired (fun d v => F d v H1) ((is.take (i + 1)).filter b) acc' ∧ Ex H1 H3
        refine ⟨acc, e3 _ _ ha, ?_, ea.trans e3⟩
        rw [add, if_neg (by rw [hb]; decide), List.append_nil]
        exact pa
    · obtain ⟨acc, ha, pa, ea⟩ := z
      rw [← len, List.take_length] at pa
      exact q (.ref D) H' (e1.trans ea) ⟨D, acc, rfl, ha, paired_mono ea m pa⟩
end
end SwX
set_option Elab.async false
set_option linter.all false
set_option maxRecDepth 100000
set_option maxHeartbeats 4000000
/-! comprehensions over enumerate(a tuple) with a test; bool of an own instance -/
namespace SwX
open PySem PySem.Spec PyProof.Rows L2 Evl
theorem walk_enumT {K : PySem.W.Frag} {a : Addr} {xs : List V} : Walk (Itu K a) xs.length (fun H => SqT K H a xs) (fun i H v H' => ∃ T x, v = .ref T ∧ H T = none ∧ H' = upd H T (.tup [.int (i : Nat), x]) ∧ xs[i]? = some x) :=
  ⟨fun i H hi q => ⟨xs, xs[i], q, List.getElem?_eq_getElem hi⟩, fun H q => ⟨xs, q, rfl⟩, fun i H v H' hi q y => by
    obtain ⟨T, x, rfl, n, rfl, at_⟩ := y
    exact ⟨T, x, rfl, n, rfl, at_ xs q⟩⟩
/-- those whose places b wants, from place k on -/
def keepAt {α : Type} (b : Nat → Bool) : Nat → List α → List α
  | _, [] => []
  | k, x :: r => if b k = true then x :: keepAt b (k + 1) r else keepAt b (k + 1) r
theorem keepAt_snoc {α : Type} (b : Nat → Bool) (x : α) : ∀ (l : List α) (k : Nat), keepAt b k (l ++ [x]) = keepAt b k l ++ if b (k + l.length) = true then [x] else []
  | [], k => by
    show (if b k = true then x :: [] else []) = _
    simp [keepAt]
  | y :: l, k => by
    have z := keepAt_snoc b x l (k + 1)
    rw [show k + 1 + l.length = k + (y :: l).length by simp; omega] at z
    show (if b k = true then y :: keepAt b (k + 1) (l ++ [x]) else keepAt b (k + 1) (l ++ [x])) = (if b k = true then y :: keepAt b (k + 1) l else keepAt b (k + 1) l) ++ _
    rw [z]
    split <;> rfl
theorem keepAt_len {α : Type} (b : Nat → Bool) : ∀ (l : List α) (k : Nat), (keepAt b k l).length ≤ l.length
  | [], _ => Nat.le_refl _
  | y :: l, k => by
    have z := keepAt_len b l (k + 1)
    show (if b k = true then y :: keepAt b (k + 1) l else keepAt b (k + 1) l).length ≤ _
    split <;> simp only [List.length_cons] <;> omega
section
variable {K : PySem.W.Frag} {σ : L2.St} {H : Hp} {te tl ta to : TE} {tt : TT} {v x : V} {α : Type} {F : α → V → Hp → Prop} {is : List α} {xs : List V}
/-- [x for i, x in enumerate(a tuple) if ..] -/
theorem yi_lcET {j1 j2 : Nat} {vs : List Nat} (b : Nat → Bool) (m : ∀ i v H H', Ex H H' → F i v H → F i v H') (h : Yi tl σ H fun v H' => ∃ a xs, v = .ref a ∧ SqT K H' a xs ∧ Paired (fun i v => F i v H') is xs) (hz : is.length ≤ 1000)
    (hw : ∀ x y, wipe (((wipe σ vs).set j1 (some x)).set j2 (some y)) vs = wipe σ vs) (hj : ∀ x y : V, (((wipe σ vs).set j1 (some x)).set j2 (some y))[j2]? = some (some y))
    (ht : ∀ (i : Nat) (x : V) H1, Ex H H1 → i < is.length → EvT tt (((wipe σ vs).set j1 (some (.int (i : Nat)))).set j2 (some x)) H1 (b i)) : Yi (tLc (iEnumT K (tCons tl tNil)) (gTup K 2 (gCons (gName j1) (gCons (gName j2) gNil))) tt (tVar j2) vs) σ H (LstOf F (keepAt b 0 is)) := fun H0 e0 Q q =>
  h H0 e0 _ fun w H1 e1 z => by
    obtain ⟨p, xs, rfl, hp, pr⟩ := z
    have len := paired_len pr
    refine ⟨p, xs, rfl, hp, fun D hD => ?_⟩
    refine lc_it (walk_enumT (K := K) (a := p) (xs := xs)) (fun i H' => ∃ acc, H' D = some (.lst acc) ∧ Paired (fun d v => F d v H1) (keepAt b 0 (is.take i)) acc ∧ Ex H1 H') ⟨[], upd_same, by rw [List.take_zero]; exact .nil, Ex.new hD⟩ (fun i H' _ z => ex_t z.choose_spec.2.2 hp) (fun i x H' H2 hi z y => ?_) fun H' z => ?_
    · obtain ⟨acc, ha, pa, ea⟩ := z
      obtain ⟨T, x, rfl, nT, rfl, hx⟩ := y
      have lt : i < is.length := by omega
      have at_ : is[i]? = some is[i] := by simp [lt]
      obtain ⟨x', hx', fx⟩ := SwX.paired_get pr at_
      rw [hx] at hx'
      cases hx'
      have eT : Ex H' (upd H' T (.tup [.int (i : Nat), x])) := Ex.new nT
      refine ⟨T, _, rfl, .inl (.inl upd_same), rfl, _, _, rfl, _, _, rfl, rfl, hw _ _, ?_⟩
      have ln := paired_len pa
      have le : acc.length ≤ is.length := by
        rw [← ln]
        exact Nat.le_trans (keepAt_len _ _ _) (by rw [List.length_take]; omega)
      have add : keepAt b 0 (is.take (i + 1)) = keepAt b 0 (is.take i) ++ (if b i = true then [is[i]] else []) := by
        rw [List.take_succ, at_]
        show keepAt b 0 (is.take i ++ [is[i]]) = _
        rw [keepAt_snoc, List.length_take, Nat.min_eq_left (Nat.le_of_lt lt), Nat.zero_add]
      refine ht i x _ (((e0.trans e1).trans ea).trans eT) lt _ (Ex.refl _) _ fun H3 e3 => ?_
      cases hb : b i with
      | true =>
        show tVar j2 _ H3 fun y H4 => ∃ acc, H4 D = some (.lst acc) ∧ acc.length < sizeLine ∧ ∃ acc', upd H4 D (.lst (acc ++ [y])) D = some (.lst acc') ∧ Paired (fun d v => F d v H1) (keepAt b 0 (is.take (i + 1))) acc' ∧ Ex H1 (upd H4 D (.lst (acc ++ [y])))
        refine ⟨x, hj _ x, acc, e3 _ _ (eT _ _ ha), sz_lt (by omega), _, upd_same, ?_, ?_⟩
        · rw [add, if_pos hb]
          exact paired_append pa (.cons fx .nil)
        · intro c o hc
          have nc : c ≠ D := fun z => by rw [z, hD] at hc; cases hc
          rw [upd_ne nc]
          exact e3 _ _ (eT _ _ (ea _ _ hc))
      | false =>
        show ∃ acc', H3 D = some (.lst acc') ∧ Paired (fun d v => F d v H1) (keepAt b 0 (is.take (i + 1))) acc' ∧ Ex H1 H3
        refine ⟨acc, e3 _ _ (eT _ _ ha), ?_, (ea.trans eT).trans e3⟩
        rw [add, if_neg (by rw [hb]; decide), List.append_nil]
        exact pa
    · obtain ⟨acc, ha, pa, ea⟩ := z
      rw [← len, List.take_length] at pa
      exact q (.ref D) H' (e1.trans ea) ⟨D, acc, rfl, ha, paired_mono ea m pa⟩
end
end SwX
set_option Elab.async false
set_option linter.all false
set_option maxRecDepth 100000
set_option maxHeartbeats 1000000
/-! bool of an own instance -/
namespace SwX
open PySem PySem.Spec PyProof.Rows L2 Evl
theorem bool_made {prog : Program} {w : World} {A : Around} {E : Value → Shared → Prop} {s : Shared} {x : Addr} {Q : Value → Shared → Prop} (h : wpAny (model prog w) A.in1.in1 (truthy (.ref x)) (fun b s' => Q (.bool b) s') E s) : wpAny (model prog w) A (call (.type "bool") [.ref x]) Q E s := by
  refine callType_codes (T := "bool") (Bi := Builtin.«object.__init__») (Q₁ := fun r s₁ => ∃ b, r = .bool b ∧ Q r s₁) PySem.F.called_bool (PySem.F.typeCall_bool_1 _) PySem.F.entry_object_init ?_ ?_
  · refine codeAny_of_tree ?_
    show wpAny _ A.in1.in1 (do checkBuiltinCall "bool.__new__" ⟨[.type "bool", .ref x], []⟩; again (.builtin "bool.__new__" ⟨[.type "bool", .ref x], []⟩)) _ _ s
    refine wpAny_bind (wpAny_of_eq (PySem.F.newCall_bool_1 _) (wpAny_pure ⟨plainId_quiet (by decide +kernel) _, codeAny_builtin PySem.F.entry_bool_new ?_⟩))
    rw [Around.under_plainId (by decide +kernel) _]
    unfold Builtin.«bool.__new__»
    have sub := F.conv_sub_bool
    obtain ⟨hp, gs, dr, tk, os⟩ := s
    repeat (any_goals (first | assumption | (refine wpAny_bind (m := truthy (.ref x)) (wpAny_mono h (fun b s' hb => ?_) fun _ _ z => z)) | wp_step))
    exact ⟨_, rfl, hb⟩
  · rintro obj s₁ ⟨b, rfl, q⟩
    have ty : s₁.TypeIs (.bool b) "bool" := by first | exact rfl | exact typeIs_bool _ _
    exact ⟨ty, PySem.F.args_object_init_2 _ _, object_init_meets PySem.F.called_bool.init.lookup PySem.F.called_bool.made (by decide) prog w A.in1 _ s₁ ⟨ty, rfl, q⟩⟩
def rBoolOwn (C : Addr) (sp : Sp) (E : XK) : List V → Hp → VK → Prop := fun xs H Q => ∃ a, xs = [.ref a] ∧ IsI H a C ∧ sp [.ref a] H (fun v H' => ∃ k : Bool, v = .bl k ∧ Q (.bl k) H') E
theorem call_boolOwn {X : Cx} {CX : CXT} {n : Nat} {f C : Addr} {fd : FuncData} {ps : List Str} {sp : Sp} {E : XK} (F : FnOk X.prog X.w X.K X.mg X.base CX n f fd ps sp) (S : Spc X.K C "__bool__" f) (b : Binds X.K fd ps []) (out : Passes CX X E) (room : Room n X.A.in1.in1) : CallR X (.type "bool") (rBoolOwn C sp E) := by
  intro pins s σ H xs us Q I r h
  obtain ⟨a, rfl, ia, q⟩ := h
  obtain ⟨u, rfl, ru⟩ := Vals.one r
  cases ru
  obtain ⟨ox, od, J⟩ := ia.look I
  obtain ⟨m, fr⟩ := I.fr
  refine bool_made (PySem.W.truthy_K fr I.ok.mod.kin J S.at_ S.fn (wpAny_mono (by_machine F room rfl b out I (.cons (rel_ref _) .nil) q) (fun r s' z => ?_) fun _ _ z => z))
  obtain ⟨v, H', K', rv, k, rfl, q'⟩ := z
  cases rv
  exact ⟨.bl k, H', K', rel_bl _, q'⟩
end SwX
set_option Elab.async false
set_option linter.all false
set_option maxRecDepth 100000
set_option maxHeartbeats 1000000
/-! t[::-1] of a tuple -/
namespace SwX
open PySem PySem.Spec PyProof.Rows L2 Evl HT
section
variable {prog : Program} {w : World} {A : Around} {E : Value → Shared → Prop} {s : Shared}
theorem adjust_back (n : Nat) : Builtin.Slice.sliceAdjust none none (-1) (n : Int) = ((n : Int) - 1, -1) := by
  unfold Builtin.Slice.sliceAdjust
  simp
theorem places_back (n : Nat) : Builtin.Slice.slicePlaces ((n : Int) - 1) (-1) (-1) = n := by
  unfold Builtin.Slice.slicePlaces
  simp
  omega
theorem slice_back {sl : Addr} {vl vu vs : Value} {n : Nat} {Q : Int × Int × Nat → Shared → Prop} (hs : s.heap.IsSliceOf sl vl vu vs) (pl : IsPart vl none) (pu : IsPart vu none) (ps : IsPart vs (some (-1))) (h : Q ((n : Int) - 1, -1, n) s) : wpAny (model prog w) A (Builtin.Slice.sliceApplied (.ref sl) (pure (n : Int))) Q E s := by
  obtain ⟨os, at_, _, dat⟩ := hs
  unfold Builtin.Slice.sliceApplied Builtin.Slice.sliceFields
  refine wpAny_bind (wpAny_bind (wpAny_field at_ dat (x := vl) rfl (wpAny_bind (wpAny_field at_ dat (x := vu) rfl (wpAny_bind (wpAny_field at_ dat (x := vs) rfl (wpAny_pure ?_)))))))
  refine wpAny_bind (slicePart_ ps ?_)
  show wpAny _ _ (if ((-1 : Int) == 0) = true then _ else _) _ _ s
  rw [if_neg (by decide)]
  refine wpAny_bind (slicePart_ pl (wpAny_bind (slicePart_ pu (wpAny_bind (wpAny_pure ?_)))))
  show wpAny _ _ (match Builtin.Slice.sliceAdjust none none (-1) (n : Int) with | (lo, hi) => pure (lo, (-1 : Int), Builtin.Slice.slicePlaces lo hi (-1))) _ _ s
  rw [adjust_back]
  show wpAny _ _ (pure ((n : Int) - 1, (-1 : Int), Builtin.Slice.slicePlaces ((n : Int) - 1) (-1) (-1))) _ _ s
  rw [places_back]
  exact wpAny_pure h
theorem pick_back (xs : Array Value) : ((List.range xs.size).filterMap fun (k : Nat) => xs[(((xs.size : Int) - 1) + (k : Int) * (-1)).toNat]?).toArray = xs.toList.reverse.toArray := by
  have e : (fun (k : Nat) => xs[(((xs.size : Int) - 1) + (k : Int) * (-1)).toNat]?) = fun (k : Nat) => xs[(((xs.size : Int) - 1) - (k : Int)).toNat]? := by
    funext k
    rw [show ((xs.size : Int) - 1) + (k : Int) * (-1) = ((xs.size : Int) - 1) - (k : Int) by omega]
  rw [e]
  apply congrArg
  apply List.ext_getElem?
  intro i
  have key : ∀ m, m ≤ xs.size → ((List.range m).filterMap fun (k : Nat) => xs[(((xs.size : Int) - 1) - (k : Int)).toNat]?) = xs.toList.reverse.take m := by
    intro m
    induction m with
    | zero => intro _; simp
    | succ m ih =>
      intro hm
      have lt : xs.size - 1 - m < xs.size := by omega
      rw [List.range_succ, List.filterMap_append, ih (by omega), List.take_succ]
      congr 1
      have e1 : (((xs.size : Int) - 1) - (m : Int)).toNat = xs.size - 1 - m := by omega
      simp only [List.filterMap_cons, List.filterMap_nil, e1]
      rw [Array.getElem?_eq_getElem lt, List.getElem?_reverse (by simpa using (show m < xs.size by omega))]
      simp
      rw [Array.getElem?_eq_getElem lt] <;> rfl
  rw [key xs.size (Nat.le_refl _), List.take_of_length_le (by simp)]
theorem item_back {t sl : Addr} {items : Array Value} {vl vu vs : Value} {Q : Value → Shared → Prop} (ht : IsTup s.heap t items) (hs : s.heap.IsSliceOf sl vl vu vs) (pl : IsPart vl none) (pu : IsPart vu none) (ps : IsPart vs (some (-1)))
    (h : Q (.ref s.heap.objs.size) { s with heap := s.heap.push { cls := .type "tuple", data := .seq items.toList.reverse.toArray } }) (small : items.size ≤ sizeLine) : wpAny (model prog w) A (getItem (.ref t) (.ref sl)) Q E s := by
  have fits : sizeOk (.seq items.toList.reverse.toArray) := by
    show items.toList.reverse.toArray.size ≤ sizeLine
    rw [List.size_toArray, List.length_reverse, Array.length_toList]
    exact small
  have isS : s.TypeIs (.ref sl) "slice" := let ⟨os, at_, c, _⟩ := hs; ⟨os, at_, c⟩
  unfold getItem
  try with_reducible refine wpAny_holding ?_
  first | refine wpAny_bind (wpAny_pure ?_) | skip
  refine wpAny_bind (wpAny_sequenceKey ht.typeIs (by decide) ?_)
  refine wpAny_bind (wpAny_callSpecial?_slot (name := Str.ofString "__getitem__") ht.typeIs PyProof.Rows.slot_tuple_getitem (wpAny_call_entry PyProof.Rows.slot_tuple_getitem ht.typeIs entry_tuple_getitem ?_ (args_tuple_getitem _ _)))
  show wpAny _ _ (Builtin.Tuple.tupleItemsOf (.ref t) >>= _) _ _ s
  refine wpAny_bind (tupleItemsOf_ ht (wpAny_bind (wpAny_typeOf isS ?_)))
  rw [if_pos (by decide)]
  refine wpAny_bind (slice_back hs pl pu ps ?_)
  have never : ¬ ((((items.size : Int) - 1 : Int) == 0 && (-1 : Int) == 1 && items.size == items.size) = true) := by simp
  show wpAny _ _ (if (((items.size : Int) - 1 : Int) == 0 && (-1 : Int) == 1 && items.size == items.size) = true then _ else _) _ _ s
  rw [if_neg never, pick_back]
  first
    | exact wpAny_bind (m := Builtin.Tuple.tupleExact _) (wpAny_newObj_type (wpAny_pure ⟨_, rfl, wpAny_pure h⟩) fits)
    | exact wpAny_bind (m := Builtin.Tuple.tupleExact _) (wpAny_newObj_type (wpAny_bind (wpAny_pure (wpAny_pure ⟨_, rfl, wpAny_pure h⟩))) fits)
    | exact wpAny_bind (wpAny_bind (m := Builtin.Tuple.tupleExact _) (wpAny_newObj_type (wpAny_pure (wpAny_pure ⟨_, rfl, wpAny_pure h⟩)) fits))
    | exact wpAny_bind (wpAny_bind (m := Builtin.Tuple.tupleExact _) (wpAny_newObj_type (wpAny_pure ⟨_, rfl, wpAny_pure h⟩) fits))
end
def tRevT (K : PySem.W.Frag) (te : TE) : TE := fun σ H Q => te σ H fun x H1 => ∃ a xs, x = .ref a ∧ SqT K H1 a xs ∧ ∀ p, H1 p = none → Q (.ref p) (upd H1 p (.tup xs.reverse))
theorem pe_revT {X : Cx} {e : Expr} {te : TE} {k : Nat} {p1 p2 p3 pos : Pos} (he : PE X e te) : PE X (.Subscript e (.Slice none none (some (.UnaryOp .USub (.Constant (.int 1) k p1) p2)) p3) pos) (tRevT X.K te) := by
  refine ⟨fun pins s σ H Q I h => Subscript_ (thn (he.run pins s σ H _ I h) fun v s1 z => ?_)⟩
  obtain ⟨x, H1, I1, r1, a, xs, rfl, hx, q⟩ := z
  cases r1
  have step : PO X (some (.UnaryOp .USub (.Constant (.int 1) k p1) p2)) (tPart (tUn (rU fun i => .int (-i)) (tC (.int 1)))) := po_some (pe_un un_neg pe_int)
  refine wpAny_Slice (thn (po_none.run pins s1 σ H1 (fun o H2 => o = none ∧ H2 = H1) I1 ⟨rfl, rfl⟩) fun vl s2 z => ?_)
  obtain ⟨l, H2, I2, pl, rfl, e2⟩ := z
  rw [e2] at I2
  clear e2
  refine thn (po_none.run pins s2 σ _ (fun o H3 => o = none ∧ H3 = H1) I2 ⟨rfl, rfl⟩) fun vu s3 z => ?_
  obtain ⟨u, H3, I3, pu, rfl, e3⟩ := z
  rw [e3] at I3
  clear e3
  refine thn (step.run pins s3 σ _ (fun o H4 => o = some (-1) ∧ H4 = H1) I3 ⟨1, rfl, -1, rfl, rfl, rfl⟩) fun vs s4 z => ?_
  obtain ⟨o, H4, I4, ps, rfl, e4⟩ := z
  rw [e4] at I4
  have I5 : Inv X pins σ H1 { s4 with heap := s4.heap.push { cls := .type "slice", data := .fields #[vl, vu, vs] } } := I4.kept (t' := s4.toks) fun b ob q => Heap.get?_push_of_some _ q
  obtain ⟨its, r, ht, hz⟩ := I5.tuple hx
  have len := r.length
  show wpAny (model X.prog X.w) X.A (subscriptTail e (.Slice none none (some (.UnaryOp .USub (.Constant (.int 1) k p1) p2)) p3) (.ref a) (.ref s4.heap.objs.size)) (EP X pins σ Q) X.xe { s4 with heap := s4.heap.push { cls := .type "slice", data := .fields #[vl, vu, vs] } }
  refine tail_any (ops := [.ref a, .ref s4.heap.objs.size]) ht.typeIs PyProof.Rows.slot_tuple_getitem.lookup ?_ (by with_unfolding_all rfl)
  refine item_back ht (Heap.IsSliceOf.new _ vl vu vs) pl pu ps ?_ (by rw [List.size_toArray]; omega)
  refine ⟨.ref _, _, I5.laid (t' := s4.toks) (o := .tup xs.reverse) (fun b ob q => Heap.get?_push_of_some _ q) (Nat.le_refl _) ⟨by rw [List.length_reverse]; exact hz, _, r.reverse, ⟨_, Heap.get?_push_size _ rfl, rfl, _, rfl⟩⟩, rel_ref _, q _ (I5.hok.fresh (Nat.le_refl _))⟩
end SwX
set_option Elab.async false
set_option linter.all false
set_option maxRecDepth 100000
set_option maxHeartbeats 2000000
/-! a hook: facts, defs at any address, a further look of ours -/
namespace SwX
open PySem PySem.Spec PyProof.Rows L2
abbrev AlE : Type := Bool × He.AlD
def obsE (fa : List He.Fa) (fn : List He5.DefA) (ex : PySem.W.Frag → Bool) (K : PySem.W.Frag) : AlE := (ex K, He5.obsA fa fn K)
def valE (fn : List He5.DefA) : AlE := (true, He5.valA fn)
def obsEG (n : Nat) (fa : List He.Fa) (fn : List He5.DefA) (ex : PySem.W.Frag → Bool) (g : Addr → Option Obj) : AlE := obsE fa fn ex (He.frG g (He5.asA g n))
def hookE (n : Nat) (fa : List He.Fa) (fn : List He5.DefA) (ex : PySem.W.Frag → Bool) : PySem.W.Hook where
  α := AlE
  obs := fun s => obsEG n fa fn ex s.heap.get?
  val := fun _ => valE fn
  says := fun _ h => ∃ K : PySem.W.Frag, K.In h ∧ obsE fa fn ex K = valE fn
  of := fun _ _ e => ⟨_, He.frG_in, e⟩
  keeps := fun _ _ _ ⟨K, hK, c⟩ k => ⟨K, PySem.W.Frag.In.keeps hK k, c⟩
theorem obsEG_eq {n : Nat} {fa : List He.Fa} {fn : List He5.DefA} {ex : PySem.W.Frag → Bool} {g : Addr → Option Obj} {s : Shared} (h : ∀ a, g a = s.heap.get? a) : obsEG n fa fn ex g = (hookE n fa fn ex).obs s := by
  have e : g = s.heap.get? := funext h
  rw [e] <;> rfl
theorem saysE {fa : List He.Fa} {fn : List He5.DefA} {ex : PySem.W.Frag → Bool} {K : PySem.W.Frag} (c : obsE fa fn ex K = valE fn) : ex K = true ∧ He5.SaysA fa fn K := ⟨congrArg (fun z : AlE => z.1) c, congrArg (fun z : AlE => z.2) c⟩
end SwX
set_option Elab.async false
set_option linter.all false
set_option maxRecDepth 100000
set_option maxHeartbeats 4000000
/-! try: .. except (A, B, C) as n: .. -/
namespace SwX
open PySem PySem.Spec PyProof.Rows L2
/-- in flight still, when a heap has grown -/
theorem flying_kept {B h h' : Heap} {l : List Env} {a : Addr} {Z : Obj → Prop} (x : HandSPX.FlyingZ B l a Z h) (k : ∀ b o, h.get? b = some o → h'.get? b = some o) : HandSPX.FlyingZ B l a Z h' := by
  obtain ⟨st, new, fr, oe, vs, T, oT, ts, t1, t2, t3, t4, t5, t6, t7, t8, t9⟩ := x
  exact ⟨fun b o e => k b o (st b o e), new, fr.of_keeps fun b o e _ => ⟨o, k b o e, rfl⟩, oe, vs, T, oT, ts, k _ _ t1, t2, t3, t4, t5, t6, k _ _ t7, t8, t9⟩
/-- what the clause wishes of an exception of the body: it is of one of the classes cs -/
def wAsT (K : PySem.W.Frag) (cs : List Value) (i n : Nat) (ts : Addr → Value → Option Addr → TS) (D : Ends) : WX := fun cls d σ H => PySem.W.exmAny K cls cs = some true ∧ ∀ a, H a = none → σ.length = n →
  ts a cls d { nx := fun z Y => D.nx (z.set i none) Y, rt := D.rt, bk := fun z Y => D.bk (z.set i none) Y, ct := fun z Y => D.ct (z.set i none) Y } (σ.set i (some (.ref a))) H
abbrev tupO (cs : List Value) : Obj := { cls := .type "tuple", data := .seq cs.toArray }
/-- the clause's classes are evaluated: a new tuple of them -/
def ClsT (X : Cx) (ty : Expr) (cs : List Value) : Prop :=
  (∀ (a : Addr) (pn pins : List (Addr × Obj)) (σ : L2.St) (H : Hp) (s : Shared) (Q : Value → Shared → Prop) (E : Value → Shared → Prop), Inv (X.suite a pn) pins σ H s → Q (.ref s.heap.objs.size) { s with heap := s.heap.push (tupO cs) } →
    wpAny (model X.prog X.w) (X.A.mark (some (.ref a))) (eval ty X.env) Q E s) ∧
  ∀ (h : Heap) (tp e : Addr) (cls : Value) (b : Bool), X.K.In h → PySem.W.Looks (model X.prog X.w) h (typeOf (.ref e)) cls → h.get? tp = some (tupO cs) → PySem.W.exmAny X.K cls cs = some b → PySem.W.Looks (model X.prog X.w) h (excMatches (.ref e) (.ref tp)) b
theorem ld_name {X : Cx} {pins : List (Addr × Obj)} {σ : L2.St} {H : Hp} {s : Shared} {x : Str} {c : Value} {p : Pos} {Q : Value → Shared → Prop} {E : Value → Shared → Prop} (I : Inv X pins σ H s) (n : Names X x c) (q : Q c s) : wpAny (model X.prog X.w) X.A (eval (.Name x p) X.env) Q E s := by
  obtain ⟨g, db, h | ⟨h1, h2, h3⟩⟩ := n
  · exact ld_glob I g h q db
  · exact ld_blt I g h1 h2 q h3 db
theorem clsT3 {X : Cx} {x y z : Str} {c d e : Value} {p1 p2 p3 pt : Pos} {k} (hx : Names X x c) (hy : Names X y d) (hz : Names X z e) : ClsT X (.Tuple [.Name x p1, .Name y p2, .Name z p3] k pt) [c, d, e] := by
  refine ⟨fun a pn pins σ H s Q E I q => ?_, fun h tp w cls b K L g m => PySem.W.exm_tup3 K L g m⟩
  refine wpAny_Tuple_spliced ?_
  refine Calls.spliced_cons (ld_name (X := X.suite a pn) I hx (Calls.spliced_cons (ld_name (X := X.suite a pn) I hy (Calls.spliced_cons (ld_name (X := X.suite a pn) I hz (Calls.spliced_nil ⟨show 3 ≤ sizeLine by decide, q⟩))))))
theorem clsT2 {X : Cx} {x y : Str} {c d : Value} {p1 p2 pt : Pos} {k} (hx : Names X x c) (hy : Names X y d) : ClsT X (.Tuple [.Name x p1, .Name y p2] k pt) [c, d] := by
  refine ⟨fun a pn pins σ H s Q E I q => ?_, fun h tp w cls b K L g m => PySem.W.exm_tup2 K L g m⟩
  refine wpAny_Tuple_spliced ?_
  refine Calls.spliced_cons (ld_name (X := X.suite a pn) I hx (Calls.spliced_cons (ld_name (X := X.suite a pn) I hy (Calls.spliced_nil ⟨show 2 ≤ sizeLine by decide, q⟩))))
section
variable {X : Cx} {n : Str} {cs : List Value} {i : Nat} {body suite : List Stmt} {b₀ : Stmt} {ty : Expr} {pos cpos : Pos} {tb : WX → TS} {ts : Addr → Value → Option Addr → TS}
theorem ps_try_asT (sk : X.stack = X.env :: X.outer) (fr : X.env.frame = some X.env.locals) (nd : X.N.Nodup) (ni : X.N[i]? = some n) (nl : X.env.kindOf n = some .local) (T : ClsT X ty cs)
    (hb : ∀ (W : WX) (pn : List (Addr × Obj)) (xe : Value → Shared → Prop), L2.Takes (X.tr pn xe) W → PassesOwn (model X.prog X.w) X.A X.env xe → PSs (X.tr pn xe) body (tb W))
    (hu : ∀ (a : Addr) (oe : Obj) (cls : Value) (d : Option Addr) (pn : List (Addr × Obj)), Zc cls d oe → (∃ vs, oe.data = .fields vs) → PSs (X.suite a ((a, oe) :: pn)) (b₀ :: suite) (ts a cls d)) :
    PS X (.Try body [.ExceptHandler (some ty) (some n) (b₀ :: suite) cpos] [] [] pos) (fun D σ H => tb (wAsT X.K cs i X.N.length ts D) D σ H) := by
  refine ⟨fun pins s σ H D I0 h => ?_⟩
  have ok0 := I0.ok
  have frs0 : X.A.frames = some (X.env :: X.outer) := ok0.frames.trans (by rw [sk])
  refine wpAny_Try_except (wpAny_mono ((hb (wAsT X.K cs i X.N.length ts D) (X.pn ++ pins) (fun e z => wpAny (model X.prog X.w) X.A (noteFrame e X.env) (fun _ z2 => wpAny (model X.prog X.w) X.A (setFlight e none) (fun _ z3 =>
    wpAny (model X.prog X.w) X.A (handleBy e X.env [.ExceptHandler (some ty) (some n) (b₀ :: suite) cpos]) (SP X pins D) X.xe z3) X.xe z2) X.xe z) (fun u t air => ?_) PassesOwn.looking).run [] s σ H D (I0.toTry _) h) (fun f t sp => ?_) fun e t z => z)
  · obtain ⟨a, B, sI, pins1, σ1, H1, cls, d, rfl, J', nb, up, sky, na, os, ag, hit, go⟩ := air
    have J : Inv X pins σ1 H1 sI := J'.ofTry ok0
    have sky1 : Sky B (X.env :: X.outer) a (Zc cls d) X.env.locals t.heap := sk ▸ sky
    show wpAny (model X.prog X.w) X.A (noteFrame (.ref a) X.env) _ _ _
    refine Sky.land Zc.steady frs0 fr sky1 fun h3 fl3 up3 => ?_
    have J3 : Inv X pins σ1 H1 { t with heap := h3 } := J.landed nb fl3.1 (up.trans up3) os ag
    obtain ⟨oe, vs, got, zc, dat⟩ := fl3.there
    have nfr : a ∉ frs (X.env :: X.outer) := fun hm => by
      obtain ⟨_, o, e, no⟩ := fl3.2.2.1.mem hm
      rw [got] at e
      cases e
      exact no _ dat
    have nL : a ≠ X.env.locals := fun z => nfr (List.mem_filterMap.mpr ⟨X.env, List.mem_cons_self, z ▸ fr⟩)
    have nF : a ∉ X.fs := fun hm => by
      obtain ⟨e, he, q⟩ := List.mem_filterMap.mp hm
      exact nfr (List.mem_filterMap.mpr ⟨e, List.mem_cons_of_mem _ he, q⟩)
    have S3 := J3.suite got dat na nL nF
    refine wpAny_handleBy_cons (codeAny_handlers_test (T.1 a _ [] σ1 H1 _ _ _ S3 ?_)) (by intro q; cases q)
    have pk : ∀ b o, h3.get? b = some o → (h3.push (tupO cs)).get? b = some o := fun b o e => Heap.get?_push_of_some _ e
    have LT : PySem.W.Looks (model X.prog X.w) (h3.push (tupO cs)) (typeOf (.ref a)) cls := fun _ _ _ _ k q => wpAny_typeOf_ref (k _ _ (pk _ _ got)) (zc.1.symm ▸ q)
    refine (T.2 (h3.push (tupO cs)) _ a cls true (J3.kIn.keeps pk) LT (Heap.get?_push_size _ rfl) hit).here ?_
    refine codeAny_handlers_suite_as (HandSPX.lands_againZ (s := { t with heap := h3.push (tupO cs) }) (flying_kept fl3 pk) fun h4 fl4 up4 => ?_)
    have J4 : Inv X pins σ1 H1 { t with heap := h4 } := J.landed nb fl4.1 ((up.trans up3).trans ((Heap.UpToSlots.of_keeps pk).trans up4)) os ag
    obtain ⟨oe4, vs4, got4, zc4, dat4⟩ := fl4.there
    have S4 := J4.suite got4 dat4 na nL nF
    refine store_ok (X := X.suite a ((a, oe4) :: (X.pn ++ pins))) (v := .ref a) S4 nd ni (.inl nl) rfl (fun s5 S5 => ?_) (.inr nl)
    refine wpAny_mono ((hu a oe4 cls d (X.pn ++ pins) zc4 ⟨_, dat4⟩).run [] s5 _ H1 _ S5 (go a na J.len)) (fun f s6 out => ?_) fun _ _ z => False.elim z
    have done : ∀ {z : L2.St} {Y : Hp} {R : Shared → Prop}, Inv (X.suite a ((a, oe4) :: (X.pn ++ pins))) [] z Y s6 → (∀ s7, Inv X pins (z.set i none) Y s7 → R s7) →
        wpAny (model X.prog X.w) X.A (do bindName X.env n .none; unbindBehindTheSuite X.env n cpos) (fun _ s7 => R s7) X.xe s6 := fun S r => gone_ok (S.unsuite ok0) nd ni nl r
    cases f with
    | ret u =>
      obtain ⟨v, z, Y, S6, rv, q⟩ := out
      exact done S6 fun s7 J7 => ⟨_, _, _, J7, rv, q⟩
    | next =>
      obtain ⟨z, Y, S6, q⟩ := out
      exact done S6 fun s7 J7 => ⟨_, _, J7, q⟩
    | brk =>
      obtain ⟨z, Y, S6, q⟩ := out
      exact done S6 fun s7 J7 => ⟨_, _, J7, q⟩
    | cont =>
      obtain ⟨z, Y, S6, q⟩ := out
      exact done S6 fun s7 J7 => ⟨_, _, J7, q⟩
  · cases f with
    | ret u =>
      obtain ⟨v, z, Y, J, rv, q⟩ := sp
      exact ⟨v, z, Y, J.ofTry ok0, rv, q⟩
    | next =>
      obtain ⟨z, Y, J, q⟩ := sp
      exact wpAny_execs_nil ⟨z, Y, J.ofTry ok0, q⟩
    | brk =>
      obtain ⟨z, Y, J, q⟩ := sp
      exact ⟨z, Y, J.ofTry ok0, q⟩
    | cont =>
      obtain ⟨z, Y, J, q⟩ := sp
      exact ⟨z, Y, J.ofTry ok0, q⟩
end
end SwX
set_option Elab.async false
set_option linter.all false
set_option maxRecDepth 100000
set_option maxHeartbeats 4000000
/-! the exception that a suite holds, handed to defs: isinstance, its fields -/
namespace SwX
open PySem PySem.Spec PyProof.Rows L2
/-- the exception that is held at a: of the class at C, its dict at d -/
def Held (X : Cx) (a C : Addr) (d : Option Addr) : Prop := ∃ oe, (a, oe) ∈ X.pn ∧ Zc (.ref C) d oe ∧ ∃ vs, oe.data = .fields vs
/-- its fields -/
def Flds (H : Hp) (d : Option Addr) (fs : List (Str × V)) : Prop := (d = none ∧ fs = []) ∨ ∃ dd, d = some dd ∧ H dd = some (.xd fs)
theorem Flds.mono {H H' : Hp} {d : Option Addr} {fs : List (Str × V)} (e : Evl.Ex H H') (h : Flds H d fs) : Flds H' d fs := by
  rcases h with h | ⟨dd, h1, h2⟩
  · exact .inl h
  · exact .inr ⟨dd, h1, e _ _ h2⟩
section
variable {X : Cx} {pins : List (Addr × Obj)} {σ : L2.St} {H : Hp} {s : Shared} {a C : Addr} {d : Option Addr} {fs : List (Str × V)}
theorem Held.seen (I : Inv X pins σ H s) (h : Held X a C d) (x : Flds H d fs) : ∃ ox od, PySem.W.InstAt s.heap a ox C od ∧ ∀ f v, fs.lookup f = some v → ∃ o u, od = some o ∧ PySem.W.lookIn f o = some (some u) ∧ RelV v u := by
  obtain ⟨oe, mem, ⟨z1, z2⟩, vs, dat⟩ := h
  have at_ := (I.pin (a, oe) (List.mem_append_left _ mem)).1
  have nc : PySem.W.notCls oe = true := by unfold PySem.W.notCls; rw [dat] <;> rfl
  rcases x with ⟨rfl, rfl⟩ | ⟨dd, rfl, e⟩
  · exact ⟨oe, none, ⟨at_, z1, nc, by rw [z2]; trivial⟩, fun f v z => by cases z⟩
  · obtain ⟨mA, hns, rel⟩ := (show ObjOk X.prog X.w H s.heap dd (.xd fs) from I.hok dd _ e)
    obtain ⟨o, hod, look⟩ := lookIn_ns hns
    refine ⟨oe, some o, ⟨at_, z1, nc, by rw [z2]; exact hod⟩, fun f v z => ?_⟩
    have ro := rel f
    rw [z] at ro
    cases q : mA f with
    | none => rw [q] at ro; exact ro.elim
    | some u => rw [q] at ro; exact ⟨o, u, rfl, (look f).trans (congrArg some q), ro⟩
end
/-- isinstance(e, c), e the exception that is held -/
def rIsP (K : PySem.W.Frag) (a C : Addr) (d : Option Addr) : List V → Hp → VK → Prop := fun xs H Q => ∃ (fs : List (Str × V)) (c : V) (u : Value) (b : Bool), xs = [.ref a, c] ∧ Flds H d fs ∧ Oex K C ∧ ClsV c u ∧ PySem.W.kitOne K (.ref C) u = some b ∧ Q (.bl b) H
theorem call_isP {X : Cx} {a C : Addr} {d : Option Addr} (hd : Held X a C d) : CallR X (.builtin "isinstance") (rIsP X.K a C d) := fun pins s σ H xs us Q I r h => by
  obtain ⟨fs, c, u, b, rfl, at_, T, k, ans, q⟩ := h
  obtain ⟨u1, u2, rfl, r1, r2⟩ := vals2 r
  obtain rfl : u1 = Value.ref a := r1
  obtain rfl : u2 = u := k.eq r2
  obtain ⟨ox, od, J, _⟩ := hd.seen I at_
  obtain ⟨cd, hcd, _⟩ := PySem.W.any_some T.dct
  exact PySem.W.kia_one (PySem.W.kitx_exc (by rw [hcd]; rfl) T.get T.miss T.exc T.cl T.clg T.clt T.top) I.kIn J ans (fun z => nomatch z) fun tk => ⟨.bl b, H, I.tok tk, rfl, q⟩
/-- e.f, e the exception that is held -/
def tFldP (K : PySem.W.Frag) (a C : Addr) (d : Option Addr) (f : Str) (te : TE) : TE := fun σ H Q => te σ H fun x H1 => ∃ (fs : List (Str × V)) (v : V), x = .ref a ∧ Flds H1 d fs ∧ Oex K C ∧ Free K C f ∧ fs.lookup f = some v ∧ Q v H1
theorem pe_fldP {X : Cx} {a C : Addr} {d : Option Addr} {e : Expr} {te : TE} {f : Str} {pos : Pos} (hd : Held X a C d) (he : PE X e te) (hb : attributeBase e f X.env (eval e X.env) = eval e X.env := by rfl) : PE X (.Attribute e f pos) (tFldP X.K a C d f te) := by
  refine ⟨fun pins s σ H Q I h => attr_of hb (thn (he.run pins s σ H _ I h) fun u s1 hu => ?_)⟩
  obtain ⟨x, H1, I1, rx, fs, v, rfl, at_, T, no, hl, q⟩ := hu
  obtain rfl : u = Value.ref a := rx
  obtain ⟨ox, od, J, z⟩ := hd.seen I1 at_
  obtain ⟨o, w, rfl, hw, rw'⟩ := z f v hl
  exact PySem.HandSPX.exc_get I1.kIn J T.get T.miss T.exc (PySem.W.findObj_own T.dct no.no rfl hw) (handed_of rw') ⟨v, H1, I1.tok _, rw', q⟩
/-! ### defs called with it -/
abbrev SpC := Addr → Addr → Option Addr → Sp
structure FnC (P : Program) (w : World) (K : PySem.W.Frag) (mg : Str → Option Value) (base : Heap) (k : Nat) (f : Addr) (fd : FuncData) (ps : List Str) (sp : SpC) : Prop where
  len : ∀ a C d vs H Q E, sp a C d vs H Q E → vs.length = ps.length
  run : ∀ (A : Around) (outer : List Env) (s : Shared) (H : Hp) (args : Args) (us : List Value) (vs : List V) (Q : VK) (E : XK) (a C : Addr) (d : Option Addr) (oe : Obj), L2H.RoomH k A → Zc (.ref C) d oe → (∃ vs, oe.data = .fields vs) → L2H.PinOk outer H s (a, oe) →
    Env0 P w K mg base A outer s H → BindsTo s fd args (ps.zip us) → Vals vs us → sp a C d vs H Q E → codeAny (model P w) A (.call (.ref f) args) (CR CX0 outer P w H s Q E) s
section
variable {P : Program} {w : World} {K : PySem.W.Frag} {mg : Str → Option Value} {base : Heap} {k : Nat} {f : Addr} {fd : FuncData} {N ps : List Str} {sp : SpC} {x qual : Str} {params : Arguments} {body : List Stmt} {scope : Scope} {dvs : List V} {kws : List (Str × V)}
theorem FunD.okC (F : FunD K x qual params body scope dvs kws f fd) (S : FnScope N ps scope) (len : ∀ a C d vs H Q E, sp a C d vs H Q E → vs.length = ps.length)
    (hb : ∀ (cdv : Value) (A : Around) (outer : List Env) (s : Shared) (H : Hp) (vs : List V) (Q : VK) (E : XK) (a C : Addr) (d : Option Addr) (oe : Obj), L2H.RoomH k (A.deeper (envOfC qual scope s.heap.objs.size f cdv)) → Held (L2H.cxH CX0 P w K mg base N qual scope f cdv A outer s H E (a, oe)) a C d → sp a C d vs H Q E →
      ∃ t, PSs (L2H.cxH CX0 P w K mg base N qual scope f cdv A outer s H E (a, oe)) body t ∧ t { nx := fun _ H' => Q .non H', rt := Q } (start N vs) H) : FnC P w K mg base (k + 1) f fd ps sp := by
  obtain ⟨oc, od, dV, kV, doc, pm, an, cdv, ct, osl, rfl, lk, hcd, _, _⟩ := F.ex
  refine ⟨len, fun A outer s H args us vs Q E a C d oe hr zc dat pin e0 bind r hsp => ?_⟩
  have base_in : ∀ b o, base.get? b = some o → s.heap.get? b = some o := fun b o z => (e0.bs b o z).1
  have KX : K.In s.heap := e0.mod.kin.keeps base_in
  have par : ∀ y ∈ ps.zip us, scope.names.lookup y.1 = some .local ∨ (scope.names.lookup y.1 = some .cell ∧ ((cellsFrom (s.heap.objs.size + 1) scope.names []).lookup y.1).isSome = true) := fun y hy => by
    cases S.par y.1 (List.of_mem_zip hy).1 with
    | inl q => exact Or.inl q
    | inr q => exact Or.inr ⟨q, PySem.W.cellsFrom_some _ _ _ (Or.inl q)⟩
  refine codeAny_call_function hr.depth (KX _ _ lk) rfl S.co S.gen rfl (PySem.W.codeRec_of KX hcd) (bind _ _ _ _ (wpAny_newFunctionEnv_cells S.kind par fun env he s1 made => ?_))
  subst he
  refine And.intro ((e0.mod.nolimit.keeps base_in).keeps made.toInCall.keep) (codeAny_func ?_)
  obtain ⟨t, ht, hq⟩ := hb cdv A outer s H vs Q E a C d oe (hr.deeper _) ⟨oe, List.mem_singleton.mpr rfl, zc, dat⟩ hsp
  refine wpAny_mono (ht.run [] s1 (start N vs) H _ (L2H.inv_startH S pin e0 (len _ _ _ _ _ _ _ hsp) r made) hq) (fun fl s' z => ?_) fun _ _ z => z
  cases fl with
  | ret u =>
    obtain ⟨v, σ', H', J, rv, q⟩ := z
    exact ⟨v, H', J.os, J.bare, J.base, J.hok, rv, q⟩
  | next =>
    obtain ⟨σ', H', J, q⟩ := z
    exact ⟨V.non, H', J.os, J.bare, J.base, J.hok, rfl, q⟩
  | brk =>
    obtain ⟨_, _, _, q⟩ := z
    exact q.elim
  | cont =>
    obtain ⟨_, _, _, q⟩ := z
    exact q.elim
end
/-- the module's name x is such a def -/
structure HasC (P : Program) (w : World) (K : PySem.W.Frag) (mg : Str → Option Value) (base : Heap) (x : Str) (k : Nat) (ps : List Str) (sp : SpC) : Prop where
  ex : ∃ f fd, FnC P w K mg base k f fd ps sp ∧ mg x = some (.ref f) ∧ PySem.W.keepIn K (.ref f) = true ∧ Binds K fd ps []
section
variable {X : Cx} {k : Nat} {a C : Addr} {d : Option Addr} {ps : List Str} {sp : SpC} {x : Str} {p pos : Pos} {e : Expr} {es : List Expr} {t : TA}
theorem pe_hasC (D : HasC X.prog X.w X.K X.mg X.base x k ps sp) (hd : Held X a C d) (hr : L2H.RoomH k X.A) (ha : PA X (e :: es) t) (hg : Gl X x := by rfl) (hdb : (x == ("__debug__" : Str)) = false := by decide)
    (he : starEach (e :: es) X.env = (false, eval e X.env) :: starEach es X.env := by rfl) (hpl : (backTo pos (starEach es X.env)).any (·.1) = false := by rfl) : PE X (.Call (.Name x p) (e :: es) [] pos) (tCall (sp a C d) [] E0 t) := by
  obtain ⟨f, fd, F, hm, hk, hb⟩ := D.ex
  refine ⟨fun pins s σ H Q I h => wpAny_Call_Name_kw (ld_glob I hg hm (PySem.W.callWith_K (h₀ := X.base) I.ok.mod.kin hk (thn (ha.run pos pins s σ H _ I h) fun us s1 hu => ?_) he hpl) hdb)⟩
  obtain ⟨vs, H1, I1, r, q⟩ := hu
  rw [List.append_nil] at q
  obtain ⟨oe, mem, zc, dat⟩ := hd
  have pin := I1.pin (a, oe) (List.mem_append_left _ mem)
  have lay : L2H.PinOk X.stack H1 s1 (a, oe) := ⟨pin.1, pin.2.1, fun hm => (List.mem_cons.mp (I1.stkSub a hm)).elim pin.2.2.1 pin.2.2.2.1, pin.2.2.2.2⟩
  have b := hb s1 us I1.kIn (by rw [List.append_nil, ← r.length]; exact F.len _ _ _ _ _ _ _ q)
  rw [List.append_nil] at b
  refine ⟨I1.kIn, wpAny_call (codeAny_mono (F.run X.A X.stack s1 H1 ⟨us, []⟩ us vs Q E0 a C d oe hr zc dat lay I1.env0 b r q) fun res s' z => ?_)⟩
  cases res with
  | error er => exact z.elim
  | ok fl =>
    cases fl with
    | ret u => exact I1.after z
    | next => exact z.elim
    | brk => exact z.elim
    | cont => exact z.elim
end
section
variable {X : Cx} {k : Nat}
theorem op_eqH (hr : L2H.RoomH k X.A) : OpR X (compareOp .Eq) (fun x y H Q => rEq x y H Q ∨ rEqD X.K x y H Q) := op_join op_eq (op_eqD (by have := hr.un; omega))
theorem op_neH (hr : L2H.RoomH k X.A) : OpR X (compareOp .NotEq) (fun x y H Q => rNe x y H Q ∨ rNeD X.K x y H Q) := op_join op_ne (op_neD (by have := hr.un; omega))
theorem call_reprH (S : SysIn X.K) (calm : Calm X.A) (un : X.A.units + 200 < cLine) : CallR X (.builtin "repr") (rRepr X.K) := fun pins s σ H xs us Q I r h => by
  obtain ⟨a, d, rfl, da, sh, dp, len, q⟩ := h
  obtain ⟨u, rfl, ru⟩ := Vals.one r
  obtain ⟨as, rd, ns⟩ := da.reads I S u ru
  cases ru
  exact repr_of_reads' rd sh (fun _ => ns) calm (by omega) (fun _ _ e => e) (fun h' u tk keep => ⟨.str d.shown, H, I.kept keep, ⟨u, rfl⟩, q⟩) len
end
/-! ### readings -/
section
open Evl (Ex Ev)
variable {K : PySem.W.Frag} {σ : L2.St} {H : Hp} {te tb' : TE} {a C : Addr} {dd : Option Addr} {fs : List (Str × V)}
theorem ev_isP {c : V} {u : Value} {b : Bool} (h : Ev te σ H (.ref a)) (hc : Ev tb' σ H c) (x : Flds H dd fs) (T : Oex K C) (k : ClsV c u) (e : PySem.W.kitOne K (.ref C) u = some b) : Ev (tCB (rIsP K a C dd) (tCons te (tCons tb' tNil))) σ H (.bl b) := fun H1 e1 Q q =>
  h H1 e1 _ fun H2 e2 => hc H2 (e1.trans e2) _ fun H3 e3 => ⟨fs, c, u, b, rfl, x.mono ((e1.trans e2).trans e3), T, k, e, q H3 (e2.trans e3)⟩
theorem ev_fldP {f : Str} {v : V} (h : Ev te σ H (.ref a)) (x : Flds H dd fs) (T : Oex K C) (n : Free K C f) (l : fs.lookup f = some v) : Ev (tFldP K a C dd f te) σ H v := fun H1 e1 Q q =>
  h H1 e1 _ fun H2 e2 => ⟨fs, v, rfl, x.mono (e1.trans e2), T, n, l, q H2 e2⟩
end
end SwX
set_option Elab.async false
set_option linter.all false
set_option maxRecDepth 100000
set_option maxHeartbeats 4000000
/-! own exceptions raised; defs that let exceptions out; own repr -/
namespace SwX
open PySem PySem.Spec PyProof.Rows L2
/-- C(e, ..), to be raised -/
def tMkN (C : Addr) (n : Nat) (sp : Sp) (t : TA) : L2.St → Hp → XK → Prop := fun σ H Q => t σ H fun vs H1 => (vs.length = n ∧ n ≤ 1000) ∧ ∀ a, H1 a = none → sp (.ref a :: vs) (upd H1 a (exo a C none))
  (fun v H2 => v = .non ∧ ∃ (d : Addr) (fs : List (Str × V)), H2 a = some (exo a C (some d)) ∧ H2 d = some (exd d fs) ∧ H1 d = none ∧ Q (.ref C) (some d) (upd (del H2 a) d (.xd fs))) E0
section
variable {X : Cx} {k n : Nat} {fI C : Addr} {fd : FuncData} {ps : List Str} {sp : Sp} {x : Str} {p pos : Pos} {e : Expr} {es : List Expr} {t : TA}
theorem mk_runs {pins : List (Addr × Obj)} {σ : L2.St} {H : Hp} {s : Shared} {Q : XK} {us : List Value} {vs : List V} (T : Oex X.K C) (ty : PySem.W.typeIn X.K (.ref C) = some (.type "type")) (i : Ini X.K C fI) (F : FnOk X.prog X.w X.K X.mg X.base CX0 k fI fd ps sp) (room : Room (k + 1) X.A)
    (b : KBn X.K fd ps (n + 1) [] (fun us _ => us) (fun vs _ => vs)) (I : Inv X pins σ H s) (r : Vals vs us) (len : vs.length = n ∧ n ≤ 1000)
    (h : ∀ a, H a = none → sp (.ref a :: vs) (upd H a (exo a C none)) (fun v H2 => v = .non ∧ ∃ (d : Addr) (fs : List (Str × V)), H2 a = some (exo a C (some d)) ∧ H2 d = some (exd d fs) ∧ H d = none ∧ Q (.ref C) (some d) (upd (del H2 a) d (.xd fs))) E0) :
    wpAny (model X.prog X.w) X.A (call (.ref C) us) (MkP X pins σ Q) X.xe s := by
  obtain ⟨B, newId, initId, bmB, base, _, nm, qn, N, bs, bm, hd, sn, sub, ab, col, dd, k0, k1, k2, k3, k5, hC, tail⟩ := T.base
  obtain ⟨l1, l3⟩ := len
  obtain ⟨hp, gs, dr, tok, os⟩ := s
  have new : H (hp.objs.size + 1) = none := I.hok.fresh (Nat.le_succ _)
  have keep : ∀ z o, hp.get? z = some o → (laid2 hp C us).get? z = some o := fun _ _ z => Heap.get?_push_of_some _ (Heap.get?_push_of_some _ z)
  have there : (laid2 hp C us).get? (hp.objs.size + 1) = some (PySem.HandSPX.excO C hp.objs.size) := by heap_get
  have J : Inv X pins σ (upd H (hp.objs.size + 1) (exo (hp.objs.size + 1) C none)) ⟨laid2 hp C us, gs, dr, tok, os⟩ := I.laid (t' := tok) keep (Nat.le_succ _) (exo_ok there)
  have ra : Vals (V.ref (hp.objs.size + 1) :: vs) (Value.ref (hp.objs.size + 1) :: us) := .cons rfl r
  have small : us.length ≤ sizeLine := by have := r.length; rw [sizeLine_eq]; omega
  refine wpAny_call (run_class base.call (line_of base.call fun Y => PySem.W.excTail_contains Y bm tail) ⟨_, _, _, _, _, _, _, _, _, _, _, _, _, _, _, I.kIn _ _ hC⟩ small (PySem.W.looks_findIn I.kIn i.at_) (fun self => PySem.W.bind_fn I.kIn self i.ty) ?_)
  refine codeAny_mono (F.run _ X.stack _ _ ⟨Value.ref (hp.objs.size + 1) :: us, []⟩ (Value.ref (hp.objs.size + 1) :: us) _ _ E0 (room.make C us []) (J.env0.make C us []) (b.to _ (_ :: us) [] J.kIn ?_ rfl) (b.rel ra .nil) (h _ new)) fun r s' z => ?_
  · exact ra.length.symm.trans (congrArg Nat.succ l1)
  cases r with
  | error er => exact z.elim
  | ok fl =>
    cases fl with
    | ret u =>
      obtain ⟨v, H2, os2, bare2, un2, hok2, rv, ev, d, fs, ea, ed, hd1, q2⟩ := z
      subst ev
      obtain ⟨h2, g2, d2, t2, os'⟩ := s'
      exact ⟨rv, mk_end (raises_own T.exc ty) I (Nat.le_succ _) keep un2 hok2 os2 bare2 ea ed hd1 q2⟩
    | next => exact z.elim
    | brk => exact z.elim
    | cont => exact z.elim
theorem pmk_new {ks : List Str} {gg : {α : Type} → List α → List α → List α} (D : HasX X.prog X.w X.K X.mg X.base x k C n ks gg sp) (ty : PySem.W.typeIn X.K (.ref C) = some (.type "type")) (hr : Room (k + 1) X.A) (ha : PA X (e :: es) t) (hg : Gl X x := by rfl) (hdb : (x == ("__debug__" : Str)) = false := by decide)
    (he : starEach (e :: es) X.env = (false, eval e X.env) :: starEach es X.env := by rfl) (hpl : (backTo pos (starEach es X.env)).any (·.1) = false := by rfl) : PMk X (.Call (.Name x p) (e :: es) [] pos) (tMkN C n sp t) := by
  obtain ⟨fI, fd, ps, T, i, F, hm, b, _⟩ := D.ex
  intro pins s σ H Q I h
  refine wpAny_Call_Name_kw (ld_glob I hg hm (PySem.W.callWith_K (h₀ := X.base) I.ok.mod.kin T.kp (thn (ha.run pos pins s σ H _ I h) fun us s1 hu => ?_) he hpl) hdb)
  obtain ⟨vs, H1, I1, r, len, q⟩ := hu
  exact ⟨I1.kIn, mk_runs T ty i F hr b I1 r len q⟩
end
section
open Evl (Ex Ev)
variable {σ : L2.St} {H : Hp} {tv : TE} {v : V} {C : Addr} {f : Str}
theorem mk_new1 {Q : XK} (h : Ev tv σ H v) (q : ∀ d H', Ex H H' → Flds H' (some d) [(f, v)] → Q (.ref C) (some d) H') : tMkN C 1 (spIni1 C f) (tCons tv tNil) σ H Q := h H (Ex.refl H) _ fun H1 e1 => by
  refine ⟨⟨rfl, by decide⟩, fun a ha => ⟨a, v, rfl, upd_same, fun d hd ne => ⟨rfl, d, [(f, v)], upd_same, ?_, ?_, ?_⟩⟩⟩
  · rw [upd_ne ne, upd_same]
  · rwa [upd_ne ne] at hd
  · have hd' : H1 d = none := by rwa [upd_ne ne] at hd
    refine q d _ (fun b o z => ?_) (.inr ⟨d, rfl, upd_same⟩)
    have z1 := e1 b o z
    have nb : b ≠ a := ne_of_none z1 ha
    have nd : b ≠ d := ne_of_none z1 hd'
    rw [upd_ne nd]
    show (if b = a then none else _) = _
    rw [if_neg nb, upd_ne nb, upd_ne nd, upd_ne nb]
    exact z1
end
/-! ### defs that let exceptions out -/
/-- the module's name x is a def that may let an exception out -/
structure HasE (P : Program) (w : World) (K : PySem.W.Frag) (mg : Str → Option Value) (base : Heap) (x : Str) (k : Nat) (ps : List Str) (sp : Sp) : Prop where
  ex : ∃ f fd, FnOk P w K mg base (L2.CX P w) k f fd ps sp ∧ mg x = some (.ref f) ∧ PySem.W.keepIn K (.ref f) = true ∧ Binds K fd ps []
section
variable {X : Cx} {k : Nat} {ps : List Str} {sp : Sp} {x : Str} {p pos : Pos} {e : Expr} {es : List Expr} {t : TA} {E : XK} {W : WX}
theorem pass_E (tk : L2.Takes X W) (hW : ∀ cls d σ H, E cls d H → W cls d σ H) : Passes (L2.CX X.prog X.w) X E := fun pins σ H s e s' I c => passes_call tk hW pins σ H s e s' I c
theorem pe_hasE (D : HasE X.prog X.w X.K X.mg X.base x k ps sp) (hr : Room k X.A) (hx : Passes (L2.CX X.prog X.w) X E) (ha : PA X (e :: es) t) (hg : Gl X x := by rfl) (hdb : (x == ("__debug__" : Str)) = false := by decide)
    (he : starEach (e :: es) X.env = (false, eval e X.env) :: starEach es X.env := by rfl) (hpl : (backTo pos (starEach es X.env)).any (·.1) = false := by rfl) : PE X (.Call (.Name x p) (e :: es) [] pos) (tCall sp [] E t) := by
  obtain ⟨f, fd, F, hm, hk, hb⟩ := D.ex
  exact pe_call F hr hg hm hk hb .nil hx ha hdb he hpl
end
/-! ### own repr -/
section
variable {X : Cx} {n : Nat} {f C : Addr} {fd : FuncData} {ps : List Str} {sp : Sp}
/-- repr(x), x an instance of the class at C -/
def rReprOwn (C : Addr) (sp : Sp) : List V → Hp → VK → Prop := fun xs H Q => ∃ a, xs = [.ref a] ∧ IsI H a C ∧ sp [.ref a] H (fun v H' => ∃ z : Str, v = .str z ∧ Q (.str z) H') E0
theorem call_reprOwn (F : FnOk X.prog X.w X.K X.mg X.base CX0 n f fd ps sp) (S : Spc X.K C "__repr__" f) (b : Binds X.K fd ps []) (room : Room n X.A.in1) : CallR X (.builtin "repr") (rReprOwn C sp) := by
  intro pins s σ H xs us Q I r h
  obtain ⟨a, rfl, ia, q⟩ := h
  obtain ⟨u, rfl, ru⟩ := Vals.one r
  cases ru
  obtain ⟨ox, od, J⟩ := ia.look I
  obtain ⟨m, fr⟩ := I.fr
  have un := room.un
  refine PySem.W.repr_K (by omega) fr I.ok.mod.kin J S.at_ S.fn (wpAny_mono (by_machine F room rfl b pass0 I (.cons (rel_ref _) .nil) q) (fun r s' z => ?_) fun _ _ z => z)
  obtain ⟨v, H', K', rv, k, rfl, q'⟩ := z
  obtain ⟨t, rfl⟩ := rv
  exact ⟨.str k, H', K', ⟨_, rfl⟩, q'⟩
end
end SwX
set_option Elab.async false
set_option linter.all false
set_option maxRecDepth 100000
set_option maxHeartbeats 4000000
/-! what a law's _law_fault, _law_kept, _law_caught tell of a caught exception -/
namespace SwX
open PySem PySem.Spec PyProof.Rows L2 Evl
/-- the exceptions' names in the laws' order -/
def exNm : Nat → Str
  | 0 => "InvalidNumber"
  | 1 => "InvalidText"
  | 2 => "InvalidName"
  | 3 => "InvalidIndex"
  | 4 => "InvalidClaim"
  | 5 => "InvalidThing"
  | 6 => "NotACatalogue"
  | 7 => "NotWeights"
  | 8 => "InvalidKinds"
  | 9 => "InvalidRecipes"
  | 10 => "InvalidMembers"
  | 11 => "InvalidRows"
  | 12 => "UnknownName"
  | 13 => "InUse"
  | 14 => "TooMany"
  | 15 => "NothingToUndo"
  | _ => "Broken"
/-- which field is told: 0 given, 1 index, 2 limit -/
def exKd (i : Nat) : Nat := if i = 14 then 2 else if i = 8 ∨ i = 9 ∨ i = 10 ∨ i = 11 ∨ i = 13 then 1 else 0
def exFld (i : Nat) : Str := match exKd i with
  | 0 => "given"
  | 1 => "index"
  | _ => "limit"
/-- what is asked of the classes; rs: those that are raised (each tells one field) -/
structure Cl (P : Program) (w : World) (K : PySem.W.Frag) (mg : Str → Option Value) (base : Heap) (rs : List Nat) (C : Nat → Addr) (WV WN NA : Addr) : Prop where
  lt : ∀ i ∈ rs, i < 15
  T : ∀ i ∈ rs, Oex K (C i)
  ty : ∀ i ∈ rs, PySem.W.typeIn K (.ref (C i)) = some (.type "type")
  hit : ∀ i ∈ rs, PySem.W.exmAny K (.ref (C i)) [.ref WV, .ref WN, .ref NA] = some true
  kit : ∀ i ∈ rs, ∀ j, j < 17 → PySem.W.kitOne K (.ref (C i)) (.ref (C j)) = some (decide (i = j))
  kWV : ∀ i ∈ rs, PySem.W.kitOne K (.ref (C i)) (.ref WV) = some (decide ((i : Int) < 12))
  kWN : ∀ i ∈ rs, PySem.W.kitOne K (.ref (C i)) (.ref WN) = some (decide ((11 : Int) < i) && decide ((i : Int) < 14))
  kNA : ∀ i ∈ rs, PySem.W.kitOne K (.ref (C i)) (.ref NA) = some (decide ((13 : Int) < i))
  kVE : ∀ i ∈ rs, PySem.W.kitOne K (.ref (C i)) (.type "ValueError") = some (decide ((i : Int) < 12))
  kLE : ∀ i ∈ rs, PySem.W.kitOne K (.ref (C i)) (.type "LookupError") = some (decide ((11 : Int) < i) && decide ((i : Int) < 14))
  kAE : ∀ i ∈ rs, PySem.W.kitOne K (.ref (C i)) (.type "ArithmeticError") = some (decide ((13 : Int) < i))
  fr : ∀ i ∈ rs, Free K (C i) (exFld i)
  g : ∀ i, i < 17 → mg (exNm i) = some (.ref (C i))
  gWV : mg "WrongValue" = some (.ref WV)
  gWN : mg "WrongName" = some (.ref WN)
  gNA : mg "NoAnswer" = some (.ref NA)
  D : ∀ i ∈ rs, HasX P w K mg base (exNm i) 1 (C i) 1 [exFld i] (fun us ws => us ++ ws.reverse) (spIni1 (C i) (exFld i))
/-! which truths _law_fault gathers -/
def sortsB (i : Nat) : List Bool := ((((([decide (i = 0), decide (i = 1), decide (i = 2)] ++ [decide (i = 3), decide (i = 4), decide (i = 5)]) ++ [decide (i = 6), decide (i = 7), decide (i = 8)]) ++ [decide (i = 9), decide (i = 10), decide (i = 11)]) ++ [decide (i = 12), decide (i = 13), decide (i = 14)]) ++ [decide (i = 15), decide (i = 16)])
theorem sorts_count : ∀ i, i < 17 → (sortsB i).count true = 1 := by decide +kernel
theorem sorts_at : ∀ i, i < 17 → (sortsB i)[i]? = some true := by decide +kernel
theorem sorts_before : ∀ i, i < 17 → ∀ m, m < i → (sortsB i)[m]? = some false := by decide +kernel
def basesB (i : Int) : List Bool := [decide (i < 12), decide ((11 : Int) < i) && decide (i < 14), decide ((13 : Int) < i)]
theorem bases_ok (i : Int) : SeqAt.shaped (.list ((basesB i).map PyData.bool)) = true ∧ PyData.eqv (.list ((basesB i).map PyData.bool)) (.list ((basesB i).map PyData.bool)) = true := by
  unfold basesB
  cases decide (i < 12) <;> cases decide ((11 : Int) < i) && decide (i < 14) <;> cases decide ((13 : Int) < i) <;> exact ⟨by rfl, by rfl⟩
def spFaultC (rs : List Nat) (C : Nat → Addr) : SpC := fun a c d vs H Q _ => ∃ (i : Nat) (fs : List (Str × V)), i ∈ rs ∧ c = C i ∧ vs = [.ref a] ∧ Flds H d fs ∧ ∀ H', Ex H H' → Q (.int (i : Nat)) H'
def spKeptC (rs : List Nat) (C : Nat → Addr) : SpC := fun a c d vs H Q _ => ∃ (i : Nat) (v : V), i ∈ rs ∧ c = C i ∧ vs = [.ref a, .int (i : Nat)] ∧ Flds H d [(exFld i, v)] ∧ ∀ p H', H p = none → Ex H H' → H' p = some (.lst [v]) → Q (.ref p) H'
theorem kd1 : ∀ i : Nat, i < 15 → inV (.int (i : Nat)) [.int 8, .int 9, .int 10, .int 11, .int 13] = decide (exKd i = 1) := by decide +kernel
theorem kd2 : ∀ i : Nat, i < 15 → decide (V.int (i : Nat) = V.int 14) = decide (exKd i = 2) := by decide +kernel
theorem kd4 : ∀ i : Nat, i < 15 → decide (V.int (i : Nat) = V.int 16) = false := by decide +kernel
theorem kd3 : ∀ i : Nat, i < 15 → inV (.int (i : Nat)) [.int (-1), .int 15] = false := by decide +kernel
theorem kd_le : ∀ i : Nat, i < 15 → exKd i ≤ 2 := by decide +kernel
/-- a reading, its end weakened -/
def tMono (t : TE) : TE := fun σ H Q => ∃ P : VK, t σ H P ∧ ∀ v H', P v H' → Q v H'
theorem pe_mono {X : Cx} {e : Expr} {t : TE} (h : PE X e t) : PE X e (tMono t) := ⟨fun pins s σ H Q I z => by
  obtain ⟨P, hp, w⟩ := z
  exact thn (h.run pins s σ H P I hp) fun u s1 hu => by
    obtain ⟨x, H1, I1, r, q⟩ := hu
    exact ⟨x, H1, I1, r, w _ _ q⟩⟩
/-- what a raised exception brings with it: its class, its one field -/
def Thrown (rs : List Nat) (C : Nat → Addr) (R : Nat → V → Hp → Prop) : XK := fun cls d H => ∃ (i : Nat) (v : V), i ∈ rs ∧ cls = .ref (C i) ∧ Flds H d [(exFld i, v)] ∧ R i v H
/-- what _law_caught makes of its lambda: tl runs it; rr: how repr reads -/
def TTc (K : PySem.W.Frag) (rs : List Nat) (C : Nat → Addr) (rr : List V → Hp → VK → Prop) : (XK → Hp → VK → Prop) → Hp → VK → Prop := fun tl H Q =>
  tl (Thrown rs C fun i v H' => ∃ D : PyData, (∀ H1, Ex H' H1 → Da K H1 v D) ∧ (PyData.list [D]).showable = true ∧ (PyData.list [D]).depth ≤ 150 ∧ (PyData.list [D]).shown.length ≤ sizeLine ∧
    ∀ p H2, Ex H' H2 → H2 p = some (.lst [.int (i : Nat), .str (PyData.shown (.list [D]))]) → Q (.ref p) H2) H
  fun v H' => rr [v] H' fun x H2 => ([V.str "told", x] : List V).length ≤ sizeLine ∧ ∀ p, H2 p = none → Q (.ref p) (upd H2 p (.lst [.str "told", x]))
theorem mt_countH {X : Cx} {k : Nat} (hr : L2H.RoomH k X.A) : MtR X "list.count" (rCountB X.K) := fun pins s σ H x xs v us Q I rx rxs h => by
  obtain ⟨p, bs, b, rfl, rfl, hs, q⟩ := h
  cases rx
  obtain ⟨u, rfl, ru⟩ := Vals.one rxs
  obtain rfl : u = Value.bool b := ru
  obtain ⟨its, rv, ⟨⟨cls, dd, data, sl⟩, n, ho, hc, hdn, hd⟩, _⟩ := I.list hs
  simp only at hc hd
  subst hc hd
  have e := bools_of rv
  subst e
  have un := hr.un
  refine call_meets PySem.F.slot_list_count ⟨_, ho, rfl⟩ PySem.F.entry_list_count (PySem.F.args_list_count_2 _ _) (SeqAt.list_countAt p _ n dd sl (.bool b) (isB b)) ⟨ho, fun y hy => ?_, ?_⟩
  · obtain ⟨c, _, rfl⟩ := List.mem_map.mp (show y ∈ bs.map Value.bool by simpa using hy)
    exact SeqAt.eqAt_reads (.bool c) (.bool b) _ _ _ _ [] [] (.bool c) (.bool b) rfl rfl (by show X.A.units + 1 + min _ _ < cLine; simp only [PyData.depth]; omega)
  · refine ⟨.int (bs.count b : Nat), H, I.tok _, ⟨s.toks, ?_⟩, q⟩
    rw [isB_count]
end SwX
set_option Elab.async false
set_option linter.all false
set_option maxRecDepth 100000
set_option maxHeartbeats 4000000
/-! a tuple against (), whatever its items; a dict sought among texts -/
namespace SwX
open PySem PySem.Spec PyProof.Rows L2 PySem.SeqAt
open AutoSeq1 (wpAny_loadPart')
open MeetsSeq
abbrev dicO (es : Array DictEntry) (ep : Nat) : Obj := { cls := .type "dict", data := .dict es ep }
theorem str_declines_dict (b : Str) (u : Tok) (l : Addr) (es : Array DictEntry) (ep : Nat) :
    Meets (Builtin.«str.__eq__» ⟨[.str b u, .ref l], []⟩) (fun _ R s => s.heap.get? l = some (dicO es ep) ∧ R (.ok (.ret .notImplemented)) s) :=
  .of_wp fun prog w A R s h => by obtain ⟨hp, g, d, tk, os⟩ := s; obtain ⟨hl, h⟩ := h; wp_walk using wpAny_loadPart' hl, wpAny_load hl; exact ⟨_, rfl, h⟩
theorem dict_declines_str (b : Str) (u : Tok) (l : Addr) (es : Array DictEntry) (ep : Nat) :
    Meets (Builtin.«dict.__eq__» ⟨[.ref l, .str b u], []⟩) (fun _ R s => s.heap.get? l = some (dicO es ep) ∧ R (.ok (.ret .notImplemented)) s) :=
  .of_wp fun prog w A R s h => by obtain ⟨hp, g, d, tk, os⟩ := s; obtain ⟨hl, h⟩ := h; have f1 := F.sub_str_dict; wp_walk using wpAny_loadPart' hl, wpAny_load hl; exact ⟨_, rfl, h⟩
theorem eq_str_dict {A : Around} {s : Shared} {l : Addr} {es : Array DictEntry} {ep : Nat} (b : Str) (u : Tok) (hl : s.heap.get? l = some (dicO es ep)) (hu : A.units < cLine) : EqAt A s (.str b u) (.ref l) false := fun prog w E Q h => by
  unfold eqBool
  refine wpAny_holding (wpAny_ite_split (fun hab => absurd (eq_of_beq hab) nofun) fun _ => wpAny_bind ?_)
  exact rc_eq_decline_or (k := false) (typeIs_str s b u) ⟨_, hl, rfl⟩ (by decide) F.sub_dict_str F.slot_str_eq F.slot_dict_eq_refl
    (fun _ hq => call_meets F.slot_str_eq (typeIs_str s b u) F.entry_str_eq (F.args_str_eq_2 _ _) (str_declines_dict b u l es ep) ⟨hl, hq⟩)
    (fun _ hq => call_meets F.slot_dict_eq_refl ⟨_, hl, rfl⟩ F.entry_dict_eq (F.args_dict_eq_2 _ _) (dict_declines_str b u l es ep) ⟨hl, hq⟩)
    (fun _ hq => wpAny_of_eq (rfl : isSame (.str b u) (.ref l) = pure false) hq) (.inr hu) (wpAny_truthy_bool h)
section
variable {X : Cx} {k : Nat}
/-- texts, as the machine has them -/
theorem strs_of : ∀ {zs : List Str} {us : List Value}, Vals (zs.map V.str) us → ∀ u ∈ us, ∃ z t, u = .str z t
  | [], _, r, u, hu => by cases r; cases hu
  | z :: zs, _, r, u, hu => by
    cases r with
    | cons r0 rs =>
      obtain ⟨t, rfl⟩ := r0
      rcases List.mem_cons.mp hu with rfl | hu
      · exact ⟨_, _, rfl⟩
      · exact strs_of rs u hu
theorem dict_at {pins : List (Addr × Obj)} {σ : L2.St} {H : Hp} {s : Shared} {a : Addr} {kvs : List (Key × V)} (I : Inv X pins σ H s) (h : H a = some (.dK kvs)) : ∃ es ep, s.heap.get? a = some (dicO es ep) := by
  obtain ⟨_, _, vs, r, ob, es, ep, e, c, dt, _⟩ := (show ObjOk X.prog X.w H s.heap a (.dK kvs) from I.hok a _ h)
  obtain ⟨oc, od, odt, osl⟩ := ob
  obtain ⟨c1, c2, c3⟩ := c
  dsimp only at c1 c2 c3 dt
  subst c1 c2 c3 dt
  exact ⟨es, ep, e⟩
/-- a dict in | not in a tuple of texts -/
def rInDic (K : PySem.W.Frag) (b : Bool) : R2 := fun x y H Q => ∃ (a p : Addr) (kvs : List (Key × V)) (zs : List Str), x = .ref a ∧ y = .ref p ∧ H a = some (.dK kvs) ∧ SqT K H p (zs.map V.str) ∧ Q (.bl b) H
theorem no_any {us : List Value} : us.toArray.any (fun _ => false) = false := by simp
theorem op_inDic (hr : Room k X.A) : OpR X (compareOp .In) (rInDic X.K false) := by
  intro pins s σ H x y v u Q I rx ry h
  obtain ⟨a, p, kvs, zs, rfl, rfl, ha, hp, q⟩ := h
  cases rx
  cases ry
  obtain ⟨es, ep, e⟩ := dict_at I ha
  obtain ⟨its, rv, ho, _⟩ := I.tuple hp
  have un := hr.un
  refine in_tupleAt (items := its.toArray) (fun _ => false) ho (fun y hy => ?_) (by rw [no_any]; exact ⟨.bl false, H, I, rel_bl _, q⟩)
  obtain ⟨z, t, rfl⟩ := strs_of rv y (by simpa using hy)
  exact eq_str_dict z t e (by show X.A.units + 1 < _; omega)
theorem op_niDic (hr : Room k X.A) : OpR X (compareOp .NotIn) (rInDic X.K true) := by
  intro pins s σ H x y v u Q I rx ry h
  obtain ⟨a, p, kvs, zs, rfl, rfl, ha, hp, q⟩ := h
  cases rx
  cases ry
  obtain ⟨es, ep, e⟩ := dict_at I ha
  obtain ⟨its, rv, ho, _⟩ := I.tuple hp
  have un := hr.un
  refine notIn_tupleAt (items := its.toArray) (fun _ => false) ho (fun y hy => ?_) (by rw [no_any]; exact ⟨.bl true, H, I, rel_bl _, q⟩)
  obtain ⟨z, t, rfl⟩ := strs_of rv y (by simpa using hy)
  exact eq_str_dict z t e (by show X.A.units + 1 < _; omega)
/-- a tuple == () -/
def rEqNil (K : PySem.W.Frag) : R2 := fun x y H Q => ∃ (p q : Addr) (xs : List V), x = .ref p ∧ y = .ref q ∧ SqT K H p xs ∧ SqT K H q [] ∧ Q (.bl (decide (xs = []))) H
theorem op_eqNil (hr : Room k X.A) : OpR X (compareOp .Eq) (rEqNil X.K) := by
  intro pins s σ H x y v u Q I rx ry h
  obtain ⟨p, q0, xs, rfl, rfl, hp, hq, q⟩ := h
  cases rx
  cases ry
  obtain ⟨its, rv, ho, _⟩ := I.tuple hp
  obtain ⟨its2, rv2, ho2, _⟩ := I.tuple hq
  cases rv2
  have un := hr.un
  refine eq_tupleAt (items := its.toArray) (items2 := #[]) (e := fun _ => true) ho ho2 (by omega) (fun j h1 h2 => absurd h2 (by simp)) ?_
  have e : ((List.range (min its.toArray.size (#[] : Array Value).size)).all (fun _ => true) && its.toArray.size == (#[] : Array Value).size) = decide (xs = []) := by
    cases rv with
    | nil => simp
    | cons r rs => simp
  rw [e]
  exact ⟨.bl _, H, I, rel_bl _, q⟩
end
end SwX
set_option Elab.async false
set_option linter.all false
set_option maxRecDepth 100000
set_option maxHeartbeats 4000000
/-! names and recipes among data of any kind -/
namespace SwX
open PySem PySem.Spec PyProof.Rows L2 Evl
/-! ### what kind of thing a datum is -/
def tyn : PyData → String
  | .none => "NoneType"
  | .bool _ => "bool"
  | .int _ => "int"
  | .str _ => "str"
  | .list _ => "list"
  | .tuple _ => "tuple"
  | .dict _ => "dict"
theorem da_ty {K : PySem.W.Frag} {H : Hp} {v : V} {d : PyData} (h : Da K H v d) : TyX K H v (.type (tyn d)) := by
  cases h with
  | non => exact .base .non
  | bl b => exact .base (.bl b)
  | int i => exact .base (.int i)
  | str x => exact .base (.str x)
  | lst h _ _ => exact .base (.lst h)
  | tup h _ _ =>
    rcases h with (h | ⟨o, h⟩) | ⟨o, its, n, h, c, _⟩
    · exact .base (.tup h)
    · exact .fTuple h
    · exact .kTuple h c
  | dic h _ _ => exact .base (.dK h)
def isStr : PyData → Bool
  | .str _ => true
  | _ => false
def isTup : PyData → Bool
  | .tuple _ => true
  | _ => false
def isInt : PyData → Bool
  | .int _ => true
  | .bool _ => true
  | _ => false
def isBl : PyData → Bool
  | .bool _ => true
  | _ => false
theorem kit_str (d : PyData) : kitB (tyn d) "str" = some (isStr d) := match d with
  | .none => (by decide +kernel : kitB "NoneType" "str" = some false)
  | .bool _ => (by decide +kernel : kitB "bool" "str" = some false)
  | .int _ => (by decide +kernel : kitB "int" "str" = some false)
  | .str _ => (by decide +kernel : kitB "str" "str" = some true)
  | .list _ => (by decide +kernel : kitB "list" "str" = some false)
  | .tuple _ => (by decide +kernel : kitB "tuple" "str" = some false)
  | .dict _ => (by decide +kernel : kitB "dict" "str" = some false)
theorem kit_tup (d : PyData) : kitB (tyn d) "tuple" = some (isTup d) := match d with
  | .none => (by decide +kernel : kitB "NoneType" "tuple" = some false)
  | .bool _ => (by decide +kernel : kitB "bool" "tuple" = some false)
  | .int _ => (by decide +kernel : kitB "int" "tuple" = some false)
  | .str _ => (by decide +kernel : kitB "str" "tuple" = some false)
  | .list _ => (by decide +kernel : kitB "list" "tuple" = some false)
  | .tuple _ => (by decide +kernel : kitB "tuple" "tuple" = some true)
  | .dict _ => (by decide +kernel : kitB "dict" "tuple" = some false)
theorem kit_int (d : PyData) : kitB (tyn d) "int" = some (isInt d) := match d with
  | .none => (by decide +kernel : kitB "NoneType" "int" = some false)
  | .bool _ => (by decide +kernel : kitB "bool" "int" = some true)
  | .int _ => (by decide +kernel : kitB "int" "int" = some true)
  | .str _ => (by decide +kernel : kitB "str" "int" = some false)
  | .list _ => (by decide +kernel : kitB "list" "int" = some false)
  | .tuple _ => (by decide +kernel : kitB "tuple" "int" = some false)
  | .dict _ => (by decide +kernel : kitB "dict" "int" = some false)
theorem kit_bl (d : PyData) : kitB (tyn d) "bool" = some (isBl d) := match d with
  | .none => (by decide +kernel : kitB "NoneType" "bool" = some false)
  | .bool _ => (by decide +kernel : kitB "bool" "bool" = some true)
  | .int _ => (by decide +kernel : kitB "int" "bool" = some false)
  | .str _ => (by decide +kernel : kitB "str" "bool" = some false)
  | .list _ => (by decide +kernel : kitB "list" "bool" = some false)
  | .tuple _ => (by decide +kernel : kitB "tuple" "bool" = some false)
  | .dict _ => (by decide +kernel : kitB "dict" "bool" = some false)
/-! ### names -/
def lowB (c : Nat) : Bool := decide (97 ≤ c ∧ c ≤ 122)
def signB (c : Nat) : Bool := lowB c || decide (48 ≤ c ∧ c ≤ 57)
def hdB : List Nat → Bool
  | c :: _ => lowB c
  | [] => false
def nameB (l : List Nat) : Bool := decide (1 ≤ l.length) && decide (l.length ≤ 8) && hdB l && l.all signB
def nameD : PyData → Bool
  | .str x => nameB x.cps.toList
  | _ => false
theorem nameB_ok {l : List Nat} : nameB l = true ↔ NameOk l := by
  constructor
  · intro h
    simp only [nameB, Bool.and_eq_true, decide_eq_true_eq, List.all_eq_true] at h
    obtain ⟨⟨⟨h1, h2⟩, h3⟩, h4⟩ := h
    match l, h3 with
    | c :: r, h3 =>
      refine ⟨⟨c, r, rfl, of_decide_eq_true h3⟩, h2, fun d hd => ?_⟩
      have z := h4 d hd
      simp only [signB, lowB, Bool.or_eq_true, decide_eq_true_eq] at z
      exact z
  · intro h
    obtain ⟨c, r, rfl, hc⟩ := h.hd
    simp only [nameB, Bool.and_eq_true, decide_eq_true_eq, List.all_eq_true]
    refine ⟨⟨⟨by simp, h.len⟩, decide_eq_true hc⟩, fun d hd => ?_⟩
    simp only [signB, lowB, Bool.or_eq_true, decide_eq_true_eq]
    exact h.sg d hd
theorem nameD_nm {n : Nm} : nameD (nmD n) = true ↔ NameOk n := by
  show nameB (SX.S n).cps.toList = true ↔ _
  exact nameB_ok
theorem nameD_inv {d : PyData} (h : nameD d = true) : ∃ n, d = nmD n ∧ NameOk n := by
  match d, h with
  | .str x, h => exact ⟨x.cps.toList, by unfold nmD; rw [SX.S_tl], nameB_ok.mp h⟩
/-! ### recipes -/
def btwD (lo hi : Int) : PyData → Bool
  | .int i => decide (lo ≤ i) && decide (i ≤ hi)
  | _ => false
def inD (ns : List Nm) (d : PyData) : Bool := (ns.map nmD).any fun z => PyData.eqv z d
theorem inD_inv {ns : List Nm} {d : PyData} (h : inD ns d = true) : ∃ n ∈ ns, d = nmD n := by
  obtain ⟨z, hz, e⟩ := List.any_eq_true.mp h
  obtain ⟨n, hn, rfl⟩ := List.mem_map.mp hz
  refine ⟨n, hn, ?_⟩
  match d, e with
  | .str x, e =>
    have e : (SX.S n == x) = true := e
    rw [← eq_of_beq e]
    rfl
theorem inD_nm {ns : List Nm} {n : Nm} : inD ns (nmD n) = decide (n ∈ ns) := by
  unfold inD
  rw [any_nm]
def recD (ns : List Nm) : PyData → Bool
  | .tuple [a, b, .tuple ps] => inD ns a && btwD 1 9 b && decide (ps.length ≤ 3) && ps.all (inD ns)
  | _ => false
theorem ins_inv {ns : List Nm} : ∀ {ps : List PyData}, ps.all (inD ns) = true → ∃ l : List Nm, ps = l.map nmD ∧ ∀ p ∈ l, p ∈ ns
  | [], _ => ⟨[], rfl, fun _ h => nomatch h⟩
  | p :: ps, h => by
    simp only [List.all_cons, Bool.and_eq_true] at h
    obtain ⟨n, hn, rfl⟩ := inD_inv h.1
    obtain ⟨l, rfl, hl⟩ := ins_inv h.2
    exact ⟨n :: l, rfl, fun q hq => (List.mem_cons.mp hq).elim (fun e => e ▸ hn) (hl q)⟩
theorem recD_inv {ns : List Nm} {d : PyData} (h : recD ns d = true) : ∃ r, d = rulD r ∧ RulOk ns r := by
  unfold recD at h
  split at h
  · rename_i a b ps
    simp only [Bool.and_eq_true, decide_eq_true_eq] at h
    obtain ⟨⟨⟨h1, h2⟩, h3⟩, h4⟩ := h
    obtain ⟨n, hn, rfl⟩ := inD_inv h1
    obtain ⟨l, rfl, hl⟩ := ins_inv h4
    match b, h2 with
    | .int i, h2 =>
      simp only [btwD, Bool.and_eq_true, decide_eq_true_eq] at h2
      refine ⟨(n, i.toNat, l), ?_, ⟨hn, by show 1 ≤ i.toNat; omega, by show i.toNat ≤ 9; omega, by simpa using h3, hl⟩⟩
      unfold rulD nmsD
      rw [show ((i.toNat : Nat) : Int) = i by omega]
  · cases h
theorem recD_rul {ns : List Nm} {r : Rul} (h : RulOk ns r) : recD ns (rulD r) = true := by
  have e : ∀ l : List Nm, (∀ p ∈ l, p ∈ ns) → (l.map nmD).all (inD ns) = true := fun l hl => by
    rw [List.all_eq_true]
    intro d hd
    obtain ⟨n, hn, rfl⟩ := List.mem_map.mp hd
    rw [inD_nm]
    exact decide_eq_true (hl n hn)
  show (inD ns (nmD r.1) && btwD 1 9 (.int (r.2.1 : Nat)) && decide ((r.2.2.map nmD).length ≤ 3) && (r.2.2.map nmD).all (inD ns)) = true
  rw [e _ h.pt, inD_nm, decide_eq_true h.wd, List.length_map, decide_eq_true h.len]
  have := h.lo
  have := h.hi
  simp [btwD]
  omega
/-! ### the first bad place -/
def firstB (n : Nat) (bad : Nat → Bool) : Option Nat := (List.range n).find? bad
theorem firstB_none {n : Nat} {bad : Nat → Bool} (h : ∀ i, i < n → bad i = false) : firstB n bad = none := by
  unfold firstB
  rw [List.find?_eq_none]
  intro i hi
  rw [h i (List.mem_range.mp hi)]
  simp
theorem firstB_some {n i : Nat} {bad : Nat → Bool} (hi : i < n) (h : ∀ j, j < i → bad j = false) (hb : bad i = true) : firstB n bad = some i := by
  unfold firstB
  rw [List.find?_eq_some_iff_getElem]
  refine ⟨hb, i, by simpa using hi, by simp, fun j hj => ?_⟩
  rw [List.getElem_range, h j hj]
  rfl
def at' (ds : List PyData) (i : Nat) : PyData := ds.getD i .none
def badK (ds : List PyData) (i : Nat) : Bool := i == 4 || !nameD (at' ds i) || (ds.take i).any fun z => PyData.eqv z (at' ds i)
def badR (ns : List Nm) (ds : List PyData) (i : Nat) : Bool := i == 10 || !recD ns (at' ds i) || (ds.take i).any fun z => PyData.eqv z (at' ds i)
def chkK : PyData → Option (Option Nat)
  | .tuple [] => some none
  | .tuple ds => (firstB ds.length (badK ds)).map some
  | _ => some none
def chkR (ns : List Nm) : PyData → Option (Option Nat)
  | .tuple ds => (firstB ds.length (badR ns ds)).map some
  | _ => some none
theorem at_get {ds : List PyData} {i : Nat} {d : PyData} (h : ds[i]? = some d) : at' ds i = d := by
  unfold at'
  rw [List.getD_eq_getElem?_getD, h]
  rfl
/-- names told one by one are names -/
theorem nms_inv : ∀ {ds : List PyData}, (∀ (i : Nat) d, ds[i]? = some d → nameD d = true) → ∃ ns : List Nm, ds = ns.map nmD ∧ ∀ n ∈ ns, NameOk n
  | [], _ => ⟨[], rfl, fun _ h => nomatch h⟩
  | d :: ds, h => by
    obtain ⟨n, rfl, hn⟩ := nameD_inv (h 0 d rfl)
    obtain ⟨ns, rfl, hns⟩ := nms_inv (ds := ds) fun i d' e => h (i + 1) d' (by simpa using e)
    exact ⟨n :: ns, rfl, fun m hm => (List.mem_cons.mp hm).elim (fun e => e ▸ hn) (hns m)⟩
theorem ruls_inv {ns : List Nm} : ∀ {ds : List PyData}, (∀ (i : Nat) d, ds[i]? = some d → recD ns d = true) → ∃ rs : List Rul, ds = rs.map rulD ∧ ∀ r ∈ rs, RulOk ns r
  | [], _ => ⟨[], rfl, fun _ h => nomatch h⟩
  | d :: ds, h => by
    obtain ⟨r, rfl, hr⟩ := recD_inv (h 0 d rfl)
    obtain ⟨rs, rfl, hrs⟩ := ruls_inv (ns := ns) (ds := ds) fun i d' e => h (i + 1) d' (by simpa using e)
    exact ⟨r :: rs, rfl, fun m hm => (List.mem_cons.mp hm).elim (fun e => e ▸ hr) (hrs m)⟩
theorem nodup_of {α : Type} {l : List α} (h : ∀ (i : Nat) (x : α), l[i]? = some x → x ∉ l.take i) : l.Nodup := by
  rw [List.nodup_iff_pairwise_ne, List.pairwise_iff_getElem]
  intro i j hi hj lt e
  refine h j l[j] (by simp [hj]) ?_
  rw [List.mem_take_iff_getElem]
  exact ⟨i, by omega, e⟩
theorem find_all {n : Nat} {bad : Nat → Bool} (h : firstB n bad = none) : ∀ i, i < n → bad i = false := fun i hi => by
  have z := List.find?_eq_none.mp h i (List.mem_range.mpr hi)
  simpa using z
theorem chkK_none {d : PyData} (h : chkK d = none) : ∃ ns, d = nmsD ns ∧ NamesOk ns := by
  unfold chkK at h
  split at h
  · cases h
  · rename_i ds ne
    have all := find_all (Option.map_eq_none_iff.mp h)
    have lt : ∀ {i : Nat} {d : PyData}, ds[i]? = some d → i < ds.length := fun e => (List.getElem?_eq_some_iff.mp e).1
    obtain ⟨ns, rfl, hns⟩ := nms_inv (ds := ds) fun i d e => by
      have z := all i (lt e)
      simp only [badK, Bool.or_eq_false_iff, at_get e, Bool.not_eq_false'] at z
      exact z.1.2
    rw [List.length_map] at all
    refine ⟨ns, rfl, ⟨fun e => ne (by rw [e]; rfl), ?_, nodup_of fun i n e => ?_, hns⟩⟩
    · refine Nat.le_of_not_lt fun l => ?_
      have z := all 4 l
      simp [badK] at z
    · have z := all i (List.getElem?_eq_some_iff.mp e).1
      have e' : (ns.map nmD)[i]? = some (nmD n) := by rw [List.getElem?_map, e]; rfl
      simp only [badK, Bool.or_eq_false_iff, at_get e', ← List.map_take, any_nm] at z
      exact of_decide_eq_false z.2
  · cases h
theorem chkR_none {ns : List Nm} {d : PyData} (h : chkR ns d = none) : ∃ rs, d = rulsD rs ∧ RulesOk ns rs := by
  unfold chkR at h
  split at h
  · rename_i ds
    have all := find_all (Option.map_eq_none_iff.mp h)
    have lt : ∀ {i : Nat} {d : PyData}, ds[i]? = some d → i < ds.length := fun e => (List.getElem?_eq_some_iff.mp e).1
    obtain ⟨rs, rfl, hrs⟩ := ruls_inv (ns := ns) (ds := ds) fun i d e => by
      have z := all i (lt e)
      simp only [badR, Bool.or_eq_false_iff, at_get e, Bool.not_eq_false'] at z
      exact z.1.2
    rw [List.length_map] at all
    refine ⟨rs, rfl, ⟨?_, nodup_of fun i r e => ?_, hrs⟩⟩
    · refine Nat.le_of_not_lt fun l => ?_
      have z := all 10 l
      simp [badR] at z
    · have z := all i (List.getElem?_eq_some_iff.mp e).1
      have e' : (rs.map rulD)[i]? = some (rulD r) := by rw [List.getElem?_map, e]; rfl
      simp only [badR, Bool.or_eq_false_iff, at_get e', ← List.map_take, any_rul] at z
      exact of_decide_eq_false z.2
  · cases h
end SwX
set_option Elab.async false
set_option linter.all false
set_option maxRecDepth 100000
set_option maxHeartbeats 4000000
/-! reading tests of data of any kind -/
namespace SwX
open PySem PySem.Spec PyProof.Rows L2 Evl
/-- what may be sought among names -/
def ItM (d : PyData) : Prop := (∃ kvs, d = .dict kvs) ∨ Pl d
/-- texts short enough -/
def Short (d : PyData) : Prop := ∀ x, d = .str x → x.cps.toList.length ≤ 1000
section
variable {X : Cx} {k : Nat} {K : PySem.W.Frag}
def rInY (K : PySem.W.Frag) : R2 := fun x y H Q => ((∃ (c : Nat) (z : Str), x = .str ⟨#[c]⟩ ∧ y = .str z ∧ Q (.bl (decide (c ∈ z.cps.toList))) H) ∨ rInDat K false x y H Q) ∨ rInDic K false x y H Q
def rNiY (K : PySem.W.Frag) : R2 := fun x y H Q => ((∃ (c : Nat) (z : Str), x = .str ⟨#[c]⟩ ∧ y = .str z ∧ Q (.bl (!decide (c ∈ z.cps.toList))) H) ∨ rInDat K true x y H Q) ∨ rInDic K true x y H Q
theorem inY (hr : Room k X.A) (h : X.K = K := by rfl) : OpR X (compareOp .In) (rInY K) := h ▸ op_join (op_inX hr) (op_inDic hr)
theorem niY (hr : Room k X.A) (h : X.K = K := by rfl) : OpR X (compareOp .NotIn) (rNiY K) := h ▸ op_join (op_niX hr) (op_niDic hr)
def rEqY (K : PySem.W.Frag) : R2 := fun x y H Q => (rEq x y H Q ∨ rEqDat K id x y H Q) ∨ rEqNil K x y H Q
theorem eqY (hr : Room k X.A) (h : X.K = K := by rfl) : OpR X (compareOp .Eq) (rEqY K) := h ▸ op_join (op_eqX hr) (op_eqNil hr)
end
section
variable {K : PySem.W.Frag} {σ : L2.St} {H : Hp} {te ta tb : TE} {x y v : V} {D : PyData}
theorem ev_isD {n : String} {b : Bool} (h : Ev te σ H x) (da : ∀ H', Ex H H' → Da K H' x D) (k : kitB (tyn D) n = some b) : Ev (tCB (rIsi K) (tCons te (tCons (tC (.ty n)) tNil))) σ H (.bl b) := ev_isi h (fun H' e => da_ty (da H' e)) k
theorem inD_dict (ns : List Nm) (kvs : List (PyData × PyData)) : inD ns (.dict kvs) = false := by
  unfold inD
  rw [List.any_eq_false]
  intro z hz
  obtain ⟨n, _, rfl⟩ := List.mem_map.mp hz
  show ¬ (PyData.eqv (.str _) (.dict _) = true)
  simp [PyData.eqv]
theorem nmV_str (ns : List Nm) : ns.map nmV = (ns.map SX.S).map V.str := by
  rw [List.map_map] <;> rfl
/-- x in a tuple of names, whatever x is -/
theorem rv_inM {ns : List Nm} {p : Addr} (da : Da K H x D) (hp : SqT K H p (ns.map nmV)) (ok : ∀ n ∈ ns, NameOk n) (m : ItM D) : RV (rInY K) x (.ref p) H (.bl (inD ns D)) := fun H1 e1 Q q => by
  rcases m with ⟨kvs, rfl⟩ | pl
  · rw [inD_dict] at q
    cases da with
    | dic h _ _ => exact .inr ⟨_, p, _, ns.map SX.S, rfl, rfl, e1 _ _ h, by rw [← nmV_str]; exact ex_t e1 hp, q H1 (Ex.refl H1)⟩
  · exact .inl (rv_inDat (d := D) (c := nmsD ns) (.inr rfl) da (da_nms hp) pl (pl_nms ok) rfl H1 e1 Q q)
theorem rv_niM {ns : List Nm} {p : Addr} (da : Da K H x D) (hp : SqT K H p (ns.map nmV)) (ok : ∀ n ∈ ns, NameOk n) (m : ItM D) : RV (rNiY K) x (.ref p) H (.bl (!inD ns D)) := fun H1 e1 Q q => by
  rcases m with ⟨kvs, rfl⟩ | pl
  · rw [inD_dict] at q
    cases da with
    | dic h _ _ => exact .inr ⟨_, p, _, ns.map SX.S, rfl, rfl, e1 _ _ h, by rw [← nmV_str]; exact ex_t e1 hp, q H1 (Ex.refl H1)⟩
  · exact .inl (rv_niDat (d := D) (c := nmsD ns) (.inr rfl) da (da_nms hp) pl (pl_nms ok) rfl H1 e1 Q q)
theorem rv_inl {r r' : R2} {z : V} (h : RV r x y H z) : RV (fun x y H Q => r x y H Q ∨ r' x y H Q) x y H z := fun H1 e1 Q q => .inl (h H1 e1 Q q)
/-- a tuple's items -/
theorem da_items {ds : List PyData} (h : Da K H v (.tuple ds)) : ∃ p xs, v = .ref p ∧ SqT K H p xs ∧ Paired (fun d x => Da K H x d) ds xs := by
  obtain ⟨p, xs, e, s, q⟩ := da_tupI h
  exact ⟨p, xs, e, s, q⟩
theorem given_eq {n : Nat} {f : Nat → V} {vs : List V} (l : vs.length = n) (h : ∀ i (hi : i < vs.length), f i = vs[i]) : given n (fun _ => true) f = vs := by
  unfold given
  rw [List.filter_eq_self.mpr (fun _ _ => rfl)]
  apply List.ext_getElem
  · simp [l]
  · intro i h1 h2
    simp only [List.getElem_map, List.getElem_range]
    exact h i h2
theorem paired_take {α β : Type} {F : α → β → Prop} : ∀ {is : List α} {vs : List β} (n : Nat), Paired F is vs → Paired F (is.take n) (vs.take n)
  | _, _, 0, _ => by
    rw [List.take_zero, List.take_zero]
    exact .nil
  | _, _, _ + 1, .nil => .nil
  | _, _, n + 1, .cons h t => .cons h (paired_take n t)
end
end SwX
set_option Elab.async false
set_option linter.all false
set_option maxRecDepth 100000
set_option maxHeartbeats 4000000
/-! odd things: what a law bends names and rules into; menus, tuples put together beside the purse -/
namespace SwX
open PySem PySem.Spec PyProof.Rows L2 Evl
/-! ### kinds of odd things -/
/-- none, a truth, an integer, a short plain text -/
inductive At : PyData → Prop
  | non : At .none
  | bl (b : Bool) : At (.bool b)
  | int (i : Int) : At (.int i)
  | str (l : List Nat) (h : l.length ≤ 100) (c : ∀ d ∈ l, d < 128) : At (.str (SX.S l))
inductive El : PyData → Prop
  | at_ {d : PyData} (h : At d) : El d
  | dic : El (.dict [])
  | tup {d : PyData} (h : At d) : El (.tuple [d])
  | lst {d : PyData} (h : At d) : El (.list [d])
inductive Pt : PyData → Prop
  | el {d : PyData} (h : El d) : Pt d
  | tup {ds : List PyData} (l : ds.length ≤ 10) (h : ∀ d ∈ ds, El d) : Pt (.tuple ds)
  | lst (ds : List PyData) : Pt (.list ds)
inductive Ru : PyData → Prop
  | pt {d : PyData} (h : Pt d) : Ru d
  | tup {a : PyData} {r : List PyData} (l : r.length ≤ 10) (ha : El a) (h : ∀ d ∈ r, Pt d) : Ru (.tuple (a :: r))
  | lst (ds : List PyData) : Ru (.list ds)
theorem at_pl {d : PyData} (h : At d) : Pl d := by
  cases h with
  | non => exact ⟨rfl, shaped_of rfl (Nat.zero_le _)⟩
  | bl b => exact ⟨rfl, shaped_of rfl (Nat.zero_le _)⟩
  | int i => exact ⟨rfl, shaped_of rfl (Nat.zero_le _)⟩
  | str l h c =>
    refine ⟨rfl, shaped_of ?_ (Nat.zero_le _)⟩
    show PyData.strOk (SX.S l) = true
    unfold PyData.strOk
    rw [← Array.all_toList]
    show l.all _ = true
    rw [List.all_eq_true]
    intro d hd
    have := c d hd
    exact decide_eq_true (by omega)
theorem at_depth {d : PyData} (h : At d) : d.depth = 0 := by cases h <;> rfl
theorem el_itm {d : PyData} (h : El d) : ItM d := by
  cases h with
  | at_ h => exact .inr (at_pl h)
  | dic => exact .inl ⟨_, rfl⟩
  | tup h =>
    refine .inr ⟨?_, shaped_of ?_ ?_⟩
    · simp only [PyData.hasDict, PyData.hasDictAll, (at_pl h).nd, Bool.or_false]
    · simp only [PyData.canLay0, PyData.canLayAll0, SeqAt.canLay_of_shaped (at_pl h).sh, Bool.and_true]
    · rw [dep_t]
      simp [PyData.depthAll, at_depth h]
  | lst h =>
    refine .inr ⟨?_, shaped_of ?_ ?_⟩
    · simp only [PyData.hasDict, PyData.hasDictAll, (at_pl h).nd, Bool.or_false]
    · simp only [PyData.canLay0, PyData.canLayAll0, SeqAt.canLay_of_shaped (at_pl h).sh, Bool.and_true]
    · rw [dep_l]
      simp [PyData.depthAll, at_depth h]
theorem at_short {d : PyData} (h : At d) : Short d := by
  intro x e
  cases h with
  | str l h c =>
    cases e
    show l.length ≤ 1000
    omega
  | _ => cases e
theorem el_short {d : PyData} (h : El d) : Short d := by
  cases h with
  | at_ h => exact at_short h
  | _ => intro x e; cases e
theorem at_notup {d : PyData} (h : At d) {ds : List PyData} : d ≠ .tuple ds := by
  intro e
  cases h <;> cases e
/-- a tuple that is such an element has but one item -/
theorem el_tup {ds : List PyData} (h : El (.tuple ds)) : ∃ d, ds = [d] ∧ At d := by
  cases h with
  | at_ h => exact absurd rfl (at_notup h)
  | tup h => exact ⟨_, rfl, h⟩
theorem el_parts {ps : List PyData} (h : El (.tuple ps)) : ps.length ≤ 1000 ∧ ∀ p ∈ ps, ItM p := by
  obtain ⟨d, rfl, ha⟩ := el_tup h
  exact ⟨by simp, fun p hp => by rw [List.mem_singleton.mp hp]; exact .inr (at_pl ha)⟩
theorem pt_parts {ps : List PyData} (h : Pt (.tuple ps)) : ps.length ≤ 1000 ∧ ∀ p ∈ ps, ItM p := by
  cases h with
  | el h => exact el_parts h
  | tup l h => exact ⟨by omega, fun p hp => el_itm (h p hp)⟩
def RitX (D : PyData) : Prop := ∀ a b c, D = .tuple [a, b, c] → ItM a ∧ ∀ ps, c = .tuple ps → ps.length ≤ 1000 ∧ ∀ p ∈ ps, ItM p
theorem pt_rit {d : PyData} (h : Pt d) : RitX d := by
  intro a b c e
  subst e
  cases h with
  | el h =>
    obtain ⟨d, e, _⟩ := el_tup h
    cases e
  | tup l h =>
    refine ⟨el_itm (h a (by simp)), fun ps e => ?_⟩
    have z := h c (by simp)
    rw [e] at z
    exact el_parts z
theorem ru_rit {d : PyData} (h : Ru d) : RitX d := by
  cases h with
  | pt h => exact pt_rit h
  | tup l ha h =>
    intro a b c e
    cases e
    refine ⟨el_itm ha, fun ps e => ?_⟩
    have z := h c (by simp)
    rw [e] at z
    exact pt_parts z
  | lst ds => intro a b c e; cases e
theorem el_pt_items {ds : List PyData} (h : Pt (.tuple ds)) : ds.length ≤ 10 ∧ ∀ d ∈ ds, El d := by
  cases h with
  | el h =>
    obtain ⟨d, rfl, ha⟩ := el_tup h
    exact ⟨by simp, fun p hp => by rw [List.mem_singleton.mp hp]; exact .at_ ha⟩
  | tup l h => exact ⟨l, h⟩
theorem ru_items {ds : List PyData} (h : Ru (.tuple ds)) : ds.length ≤ 11 ∧ ∀ d ∈ ds, RitX d := by
  cases h with
  | pt h =>
    obtain ⟨l, z⟩ := el_pt_items h
    exact ⟨by omega, fun d hd => pt_rit (.el (z d hd))⟩
  | tup l ha h => exact ⟨by simp; omega, fun d hd => (List.mem_cons.mp hd).elim (fun e => e ▸ pt_rit (.el ha)) fun hd => pt_rit (h d hd)⟩
theorem name_at {n : Nm} (h : NameOk n) : At (nmD n) := .str n (by have := h.len; omega) fun d hd => by
  rcases h.sg d hd with z | z <;> omega
theorem rul_ru {ns : List Nm} {r : Rul} (h : RulOk ns r) (ok : ∀ n ∈ ns, NameOk n) : Ru (rulD r) := .tup (by simp) (.at_ (name_at (ok _ h.wd))) fun d hd => by
  simp only [List.mem_cons, List.not_mem_nil, or_false] at hd
  rcases hd with rfl | rfl
  · exact .el (.at_ (.int _))
  · refine .tup (by rw [List.length_map]; have := h.len; omega) fun e he => ?_
    obtain ⟨m, hm, rfl⟩ := List.mem_map.mp he
    exact .at_ (name_at (ok _ (h.pt m hm)))
/-! ### evaluation -/
section
variable {K : PySem.W.Frag} {σ : L2.St} {H H' : Hp} {a : Addr} {te ta tb : TE} {v x : V} {d : PyData} {ds es : List PyData} {D : Ends} {tz : TS}
theorem less_step (e : Ex (less a H) H') : Ex (less a H) (less a H') := ex_less less_at e
theorem Pur.is (p : Pur H a) : ∃ o, H a = some o := let ⟨_, _, _, z, _⟩ := p; ⟨_, z⟩
theorem daA_from (h : Da K (less a H) v d) (e : Ex (less a H) H') : DaA K a d v H' := Da.mono (less_step e) h
theorem yi_daA (h : Ev te σ H v) (q : DaA K a d v H) : Yi te σ H (DaA K a d) := (yi_ev h).imp fun x H' e z => by
  subst z
  exact daA_mono _ _ _ _ e q
/-- a tuple apart of the purse -/
theorem sqt_less {q : Addr} {xs : List V} (h : SqT K H q xs) (p : Pur H a) : SqT K (less a H) q xs := by
  obtain ⟨_, _, _, z, _⟩ := p
  rcases h with (h | ⟨o, h⟩) | h
  · exact .inl (.inl (by rw [less_ne (fun w => by rw [w, z] at h; cases h)]; exact h))
  · exact .inl (.inr ⟨o, by rw [less_ne (fun w => by rw [w, z] at h; cases h)]; exact h⟩)
  · exact .inr h
theorem sqt_more {q : Addr} {xs : List V} (h : SqT K (less a H) q xs) : SqT K H q xs := ex_t less_ex h
theorem daA_items (h : DaA K a (.tuple ds) v H) : ∃ p xs, v = .ref p ∧ SqT K (less a H) p xs ∧ Paired (fun d x => DaA K a d x H) ds xs := da_items h
theorem yi_dadd (pu : Pur H a) (ha : Yi ta σ H (DaA K a (.tuple ds))) (hb : Yi tb σ H (DaA K a (.tuple es))) (l : ds.length + es.length ≤ 100000) : Yi (tOp (rAddX K) ta tb) σ H (DaA K a (.tuple (ds ++ es))) := fun H1 e1 Q q =>
  ha H1 e1 _ fun x H2 e2 hx => hb H2 (e1.trans e2) _ fun y H3 e3 hy => by
    obtain ⟨p, xs, rfl, hp, pr⟩ := daA_items (daA_mono _ _ _ _ e3 hx)
    obtain ⟨r, ys, rfl, hr, pq⟩ := daA_items hy
    have l1 := paired_len pr
    have l2 := paired_len pq
    have e13 := e2.trans e3
    have pu3 : Pur H3 a := pu.keep ((e1.trans e2).trans e3)
    refine .inr (.inr (.inr ⟨p, r, xs, ys, rfl, rfl, sqt_more hp, sqt_more hr, sz_of (by omega), fun ex => ?_, fun nx ey => ?_, fun nx ny c hc => ?_⟩))
    · have z : ds = [] := List.eq_nil_of_length_eq_zero (by rw [l1, ex]; rfl)
      subst z
      exact q _ _ e13 hy
    · have z : es = [] := List.eq_nil_of_length_eq_zero (by rw [l2, ey]; rfl)
      subst z
      rw [List.append_nil] at q
      exact q _ _ e13 (daA_mono _ _ _ _ e3 hx)
    · have ne : c ≠ a := pu3.ne hc
      refine q (.ref c) _ (e13.trans (Ex.new hc)) (da_tuple (.inl (.inl (by rw [less_ne ne, upd_same]))) ?_)
      exact paired_mono (F := fun d v H => DaA K a d v H) (Ex.new hc) (fun d v H H' e h => daA_mono d v H H' e h) (paired_append pr pq)
theorem paired_drop {α β : Type} {F : α → β → Prop} : ∀ {is : List α} {vs : List β} (n : Nat), Paired F is vs → Paired F (is.drop n) (vs.drop n)
  | _, _, 0, h => h
  | _, _, _ + 1, .nil => .nil
  | _, _, n + 1, .cons _ t => paired_drop n t
theorem yi_dtake (pu : Pur H a) {n : Nat} {th : TO} (ha : Ev te σ H v) (hv : DaA K a (.tuple ds) v H) (hh : EvO th σ H (some (n : Int))) {tl : TO} (hl : EvO tl σ H none) : Yi (tSl (rSlY K) te tl th) σ H (DaA K a (.tuple (ds.take n))) := by
  obtain ⟨p, xs, rfl, hp, pr⟩ := daA_items hv
  refine (yi_slT ha (sqt_more hp) hl hh).imp fun y H2 e2 z => ?_
  obtain ⟨q1, rfl, h1⟩ := z
  rw [cut_take] at h1
  exact da_tuple (sqt_less h1 (pu.keep e2)) (paired_take n (paired_mono (F := fun d v H => DaA K a d v H) e2 (fun d v H H' e h => daA_mono d v H H' e h) pr))
theorem yi_ddrop (pu : Pur H a) {n : Nat} {th tl : TO} (ha : Ev te σ H v) (hv : DaA K a (.tuple ds) v H) (hl : EvO tl σ H (some (n : Int))) (hh : EvO th σ H none) : Yi (tSl (rSlY K) te tl th) σ H (DaA K a (.tuple (ds.drop n))) := by
  obtain ⟨p, xs, rfl, hp, pr⟩ := daA_items hv
  refine (yi_slT ha (sqt_more hp) hl hh).imp fun y H2 e2 z => ?_
  obtain ⟨q1, rfl, h1⟩ := z
  rw [cut_drop] at h1
  exact da_tuple (sqt_less h1 (pu.keep e2)) (paired_drop n (paired_mono (F := fun d v H => DaA K a d v H) e2 (fun d v H H' e h => daA_mono d v H H' e h) pr))
/-- list(a tuple that is data) -/
def rListOf (K : PySem.W.Frag) : List V → Hp → VK → Prop := fun xs H Q => ∃ p ys, xs = [.ref p] ∧ (SqL K H p ys ∨ SqT K H p ys) ∧ ∀ l, H l = none → Q (.ref l) (upd H l (.lst ys))
theorem listK {X : Cx} (K : PySem.W.Frag) (h : X.K = K := by rfl) : CallR X (.type "list") (rListOf K) := h ▸ call_list_of
theorem yi_dlist (pu : Pur H a) (ha : Ev te σ H v) (hv : DaA K a (.tuple ds) v H) : Yi (tCB (rListOf K) (tCons te tNil)) σ H (DaA K a (.list ds)) := fun H1 e1 Q q => ha H1 e1 _ fun H2 e2 => by
  obtain ⟨p, xs, rfl, hp, pr⟩ := daA_items (daA_mono _ _ _ _ (e1.trans e2) hv)
  refine ⟨p, xs, rfl, .inr (sqt_more hp), fun c hc => ?_⟩
  have ne : c ≠ a := (pu.keep (e1.trans e2)).ne hc
  exact q (.ref c) _ (e2.trans (Ex.new hc)) (da_list (by rw [less_ne ne, upd_same]) (paired_mono (F := fun d v H => DaA K a d v H) (Ex.new hc) (fun d v H H' e h => daA_mono d v H H' e h) pr))
theorem yi_catX {α : Type} {F : α → V → Hp → Prop} {is js : List α} (m : ∀ i v H H', Ex H H' → F i v H → F i v H') (ha : Yi ta σ H (LstOf F is)) (hb : Yi tb σ H (LstOf F js)) (l : is.length + js.length ≤ 100000) : Yi (tOp (rAddX K) ta tb) σ H (LstOf F (is ++ js)) := fun H1 e1 Q q =>
  ha H1 e1 _ fun x H2 e2 p => hb H2 (e1.trans e2) _ fun y H3 e3 p' => by
    obtain ⟨a, vs, rfl, ha, pa⟩ := p.mono m e3
    obtain ⟨b, ws, rfl, hb, pb⟩ := p'
    refine .inr (.inl ⟨a, b, vs, ws, rfl, rfl, ha, hb, sz_of (by rw [← paired_len pa, ← paired_len pb]; exact l), fun c hc => ?_⟩)
    exact q _ _ ((e2.trans e3).trans (Ex.new hc)) ⟨c, _, rfl, upd_same, paired_mono (Ex.new hc) m (paired_append pa pb)⟩
/-- an ascii text's upper -/
theorem ev_upperS {l : List Nat} (h : Ev te σ H (.str (SX.S l))) (c : ∀ d ∈ l, d < 128) (len : l.length ≤ 1000) : Ev (tM0 (fun x xs H Q => ∃ a, x = .str a ∧ xs = [] ∧ a.length ≤ 5592405 ∧ Q (.str (Txt.upper a)) H) te) σ H (.str (SX.S (l.map PyProof.Rows.up1))) := fun H1 e1 Q q => h H1 e1 _ fun H2 e2 =>
  ⟨⟨_, rfl⟩, SX.S l, rfl, rfl, by rw [SX.S_len]; omega, by rw [SX.upper_S (List.all_eq_true.mpr fun d hd => decide_eq_true (c d hd))]; exact q H2 e2⟩
/-- return menu[draw(purse, len(menu))] -/
theorem s_pick {i : Nat} {x : V} {E : XK} (hi : σ[i]? = some (some x)) (h0 : σ[0]? = some (some (.ref a))) (l : LstOf (DaA K a) ds x H) (n3 : ds.length ≠ 3) (pos : 0 < ds.length) (le : ds.length ≤ 1000) (pu : Pur H a)
    (k : ∀ d ∈ ds, ∀ y H', Ex (less a H) H' → Pur H' a → DaA K a d y H' → D.rt y H') : tRet (tOp (rIx K) (tVar i) (tCall spDraw [] E (tCons (tVar 0) (tCons (tCB (rLenY K) (tCons (tVar i) tNil)) tNil)))) D σ H := by
  obtain ⟨p, vs, rfl, hp, pr⟩ := l
  have ln := paired_len pr
  have ne : p ≠ a := fun z => by
    obtain ⟨_, _, _, z2, _⟩ := pu
    rw [z, z2] at hp
    cases hp
    exact n3 (by rw [ln]; rfl)
  have hp' : less a H p = some (.lst vs) := by rw [less_ne ne]; exact hp
  refine ⟨.ref p, hi, (dr_draw (m := (ds.length : Int)) less_at h0 (ev_is (ev_lenL (ev_var hi) (.inl (sq_of hp'))) (by rw [ln])) (by omega) (by omega) : Dr a _ σ (less a H) _) H less_ex pu _ fun y H3 py e3 p3 => ?_⟩
  obtain ⟨j, rfl, k0, k1⟩ := py
  obtain ⟨v, hv, hv2⟩ := atI_nat (xs := vs) k0 (by rw [← ln]; exact k1)
  have lt : j.toNat < ds.length := by omega
  obtain ⟨v', e4, dv⟩ := SwX.paired_get (n := j.toNat) (i := ds[j.toNat]'lt) pr (by simp [lt])
  rw [hv2] at e4
  cases e4
  exact .inl ⟨p, vs, j, v, rfl, rfl, sq_of (e3 _ _ hp'), hv, k _ (List.getElem_mem lt) v H3 e3 p3 (daA_from dv e3)⟩
theorem q_asg3 {i j l : Nat} (h : ta' σ H fun vs H1 => ∃ x y z, vs = [x, y, z] ∧ ∀ p, H1 p = none → tz D (((σ.set i (some x)).set j (some y)).set l (some z)) (upd H1 p (.tup [x, y, z]))) (mono : ∀ (P Q : List V → Hp → Prop), (∀ vs H, P vs H → Q vs H) → ta' σ H P → ta' σ H Q) :
    tSeq (tAsg (tTup ta') (gTup K 3 (gCons (gName i) (gCons (gName j) (gCons (gName l) gNil))))) tz D σ H := by
  refine mono _ _ (fun vs H1 z => ?_) h
  obtain ⟨x, y, z, rfl, k⟩ := z
  exact ⟨show 3 ≤ sizeLine by decide, fun p hp => ⟨p, _, rfl, .inl (.inl upd_same), rfl, x, [y, z], rfl, y, [z], rfl, z, [], rfl, rfl, k p hp⟩⟩
end
end SwX
set_option Elab.async false
set_option linter.all false
set_option maxRecDepth 100000
set_option maxHeartbeats 4000000
/-! defs that make lambdas: their code objects, their tables; heaps but for tables -/
namespace SwX
open PySem PySem.Spec PyProof.Rows L2
/-- the code object of the def at f -/
def codeAt (K : PySem.W.Frag) (f : Addr) : Addr := match K.lookup f with
  | some ⟨_, _, .func fd, _⟩ => (match fd.code with
    | .ref c => c
    | _ => 0)
  | _ => 0
theorem codeAt_eq {K : PySem.W.Frag} {f : Addr} {oc : Value} {od : Option Addr} {osl : Array (Option Value)} {fd : FuncData} {c : Addr} (lk : K.lookup f = some ⟨oc, od, .func fd, osl⟩) (e : fd.code = .ref c) : codeAt K f = c := by
  unfold codeAt
  rw [lk]
  simp only [e]
theorem code_ref {K : PySem.W.Frag} {cd : Value} {q : Str} (h : PySem.W.codeIn K cd q = true) : ∃ c, cd = .ref c := by
  cases cd with
  | ref c => exact ⟨c, rfl⟩
  | _ => cases h
section
variable {P : Program} {w : World} {K : PySem.W.Frag} {mg : Str → Option Value} {base : Heap} {CX : CXT} {k : Nat} {f : Addr} {fd : FuncData} {N ps : List Str} {sp : Sp} {x qual : Str} {params : Arguments} {body : List Stmt} {scope : Scope} {dvs : List V} {kws : List (Str × V)}
/-- the rule of such a def, its code object known -/
theorem FunD.okT (F : FunD K x qual params body scope dvs kws f fd) (S : FnScope N ps scope) (len : ∀ vs H Q E, sp vs H Q E → vs.length = ps.length)
    (hb : ∀ (A : Around) (outer : List Env) (s : Shared) (H : Hp) (vs : List V) (Q : VK) (E : XK), Room k (A.deeper (envOfC qual scope s.heap.objs.size f (.ref (codeAt K f)))) → Calm A → sp vs H Q E →
      ∃ t, PSs (cxOf CX P w K mg base N qual scope f (.ref (codeAt K f)) A outer s H E) body t ∧ t { nx := fun _ H' => Q .non H', rt := Q } (start N vs) H) : FnG P w K mg base CX (k + 1) f fd ps sp := by
  obtain ⟨oc, od, dV, kV, doc, pm, an, cdv, ct, osl, rfl, lk, hcd, _, _⟩ := F.ex
  obtain ⟨c, rfl⟩ := code_ref hcd
  obtain rfl : c = codeAt K f := (codeAt_eq lk rfl).symm
  refine ⟨len, fun A outer s H args us vs Q E hr calm e0 bind r hsp => ?_⟩
  have base_in : ∀ b o, base.get? b = some o → s.heap.get? b = some o := fun b o z => (e0.bs b o z).1
  have KX : K.In s.heap := e0.mod.kin.keeps base_in
  have par : ∀ y ∈ ps.zip us, scope.names.lookup y.1 = some .local ∨ (scope.names.lookup y.1 = some .cell ∧ ((cellsFrom (s.heap.objs.size + 1) scope.names []).lookup y.1).isSome = true) := fun y hy => by
    cases S.par y.1 (List.of_mem_zip hy).1 with
    | inl q => exact Or.inl q
    | inr q => exact Or.inr ⟨q, PySem.W.cellsFrom_some _ _ _ (Or.inl q)⟩
  refine codeAny_call_function hr.depth (KX _ _ lk) rfl S.co S.gen rfl (PySem.W.codeRec_of KX hcd) (bind _ _ _ _ (wpAny_newFunctionEnv_cells S.kind par fun env he s1 made => ?_))
  subst he
  refine And.intro ((e0.mod.nolimit.keeps base_in).keeps made.toInCall.keep) (codeAny_func ?_)
  obtain ⟨t, ht, hq⟩ := hb A outer s H vs Q E (hr.deeper _) calm hsp
  refine wpAny_mono (ht.run [] s1 (start N vs) H _ (inv_start S hr.hd e0 (len _ _ _ _ hsp) r made) hq) (fun fl s' z => ?_) fun _ _ z => z
  cases fl with
  | ret u =>
    obtain ⟨v, σ', H', J, rv, q⟩ := z
    exact ⟨v, H', J.os, J.bare, J.base, J.hok, rv, q⟩
  | next =>
    obtain ⟨σ', H', J, q⟩ := z
    exact ⟨V.non, H', J.os, J.bare, J.base, J.hok, rfl, q⟩
  | brk =>
    obtain ⟨_, _, _, q⟩ := z
    exact q.elim
  | cont =>
    obtain ⟨_, _, _, q⟩ := z
    exact q.elim
end
/-! ### heaps but for tables -/
def bare (H : Hp) : Hp := fun b => match H b with
  | some (.tbl _) => none
  | o => o
open Evl (Ex)
section
variable {H H' H1 H2 : Hp} {a b : Addr} {o : HO} {K : PySem.W.Frag}
theorem bare_some (h : bare H b = some o) : H b = some o ∧ ∀ ps, o ≠ .tbl ps := by
  unfold bare at h
  split at h
  · cases h
  · rename_i n
    exact ⟨h, fun ps e => n ps (by rw [h, e])⟩
theorem bare_of (h : H b = some o) (n : ∀ ps, o ≠ .tbl ps) : bare H b = some o := by
  unfold bare
  split
  · rename_i ps e
    rw [h] at e
    exact absurd (Option.some.inj e) (n ps)
  · exact h
theorem bare_ex : Ex (bare H) H := fun b o h => (bare_some h).1
theorem bare_ext (e : LamX.ExtN H H') : Ex (bare H) H' := fun b o h => e b o (bare_some h).1 (bare_some h).2
theorem ext_bare (e : Ex (bare H) H') : LamX.ExtN H H' := fun b o h n => e b o (bare_of h n)
/-- all but the purse at a and the tables stays -/
def ExL (a : Addr) (H H' : Hp) : Prop := Ex (bare (less a H)) H'
theorem exl_of (e : Ex (less a H) H') : ExL a H H' := bare_ex.trans e
theorem exl_ext (e : LamX.ExtN H H') : ExL a H H' := fun b o h => by
  obtain ⟨h1, n⟩ := bare_some h
  exact e b o (less_ex _ _ h1) n
theorem less_some (h : less a H b = some o) : H b = some o ∧ b ≠ a := by
  refine ⟨less_ex _ _ h, fun z => ?_⟩
  rw [z, less_at] at h
  cases h
theorem exl_step (e : ExL a H H') : Ex (bare (less a H)) (bare (less a H')) := fun b o h => by
  have h1 := e b o h
  obtain ⟨h2, n⟩ := bare_some h
  exact bare_of (by rw [less_ne (less_some h2).2]; exact h1) n
theorem ExL.trans (e : ExL a H H1) (e' : ExL a H1 H2) : ExL a H H2 := (exl_step e).trans e'
theorem ExL.refl (H : Hp) : ExL a H H := exl_of less_ex
theorem sqt_bare {q : Addr} {xs : List V} (h : SqT K H q xs) : SqT K (bare H) q xs := by
  rcases h with (h | ⟨o, h⟩) | h
  · exact .inl (.inl (bare_of h fun _ z => nomatch z))
  · exact .inl (.inr ⟨o, bare_of h fun _ z => nomatch z⟩)
  · exact .inr h
theorem Da.bare {v : V} {d : PyData} (h : Da K H v d) : Da K (bare H) v d := by
  induction h with
  | non => exact .non
  | bl b => exact .bl b
  | int i => exact .int i
  | str x => exact .str x
  | lst h l _ ih => exact .lst (bare_of h fun _ z => nomatch z) l ih
  | tup h l _ ih => exact .tup (sqt_bare h) l ih
  | dic h l _ ih => exact .dic (bare_of h fun _ z => nomatch z) l ih
/-- data aside of the purse and of the tables -/
def DaB (K : PySem.W.Frag) (a : Addr) (d : PyData) (v : V) (H : Hp) : Prop := Da K (bare (less a H)) v d
theorem daB_of {d : PyData} {v : V} (h : DaA K a d v H) : DaB K a d v H := Da.bare h
theorem DaB.step {d : PyData} {v : V} (e : ExL a H H') (h : DaB K a d v H) : DaB K a d v H' := Da.mono (exl_step e) h
theorem DaB.da {d : PyData} {v : V} (h : DaB K a d v H) : Da K H v d := Da.mono (bare_ex.trans less_ex) h
theorem DaB.daA {d : PyData} {v : V} (h : DaB K a d v H) : DaA K a d v H := Da.mono bare_ex h
theorem Pur.ext (p : Pur H a) (e : LamX.ExtN H H') : Pur H' a := by
  obtain ⟨x, y, z, h, r⟩ := p
  exact ⟨x, y, z, e _ _ h (fun _ z => nomatch z), r⟩
theorem tabs_less {T : List (Addr × Str)} (t : LamX.Tabs T H) (p : Pur H a) (e : Ex (less a H) H') : LamX.Tabs T H' := fun q hq => by
  obtain ⟨ps, h1, h2, h3⟩ := t q hq
  obtain ⟨_, _, _, z, _⟩ := p
  refine ⟨ps, e _ _ (by rw [less_ne (fun w => by rw [w, z] at h1; cases h1)]; exact h1), h2, fun pos cv hc => ?_⟩
  obtain ⟨c, e1, e2⟩ := h3 pos cv hc
  exact ⟨c, e1, e _ _ (by rw [less_ne (fun w => by rw [w, z] at e2; cases e2)]; exact e2)⟩
end
/-! ### the law's call, with tables -/
/-- the abstract heap ahead of the law: the script, the empty tables -/
def scriptT (K : PySem.W.Frag) (a : Addr) (o : Obj) (ns : List Int) (ts : List Addr) : Hp := fun b => if b = a ∧ K.lookup a = none then some (.frz o (.lst (ns.map V.int))) else if b ∈ ts then some (.tbl #[]) else none
theorem scriptT_some {K : PySem.W.Frag} {a b : Addr} {o : Obj} {ns : List Int} {ts : List Addr} {u : HO} (h : scriptT K a o ns ts b = some u) : (b = a ∧ K.lookup a = none ∧ u = .frz o (.lst (ns.map V.int))) ∨ (b ∈ ts ∧ u = .tbl #[]) := by
  unfold scriptT at h
  split at h
  · rename_i c
    exact .inl ⟨c.1, c.2, (Option.some.inj h).symm⟩
  · split at h
    · rename_i c
      exact .inr ⟨c, (Option.some.inj h).symm⟩
    · cases h
abbrev tab0 : Obj := { cls := .none, data := .fields #[] }
theorem law_runT {P : Program} {w : World} {K : PySem.W.Frag} {mg mb : Str → Option Value} {CX : CXT} {k : Nat} {fa a : Addr} {cs : List (Addr × Addr)} {fd : FuncData} {x : Str} {sp : Sp} {s1 : Shared} {vs : List Value} {ns : List Int}
    (KX : K.In s1.heap) (gl : s1.heap.Ns mainGlobals mg) (bl : s1.heap.Ns builtinsNs mb) (bb : ∀ x : Str, x ≠ "__name__" → mb x = bootBuiltins x) (lim : s1.heap.NoLimit) (gens : s1.gens = #[])
    (hT : ∀ p ∈ cs, s1.heap.get? p.2 = some tab0) (nT : ∀ p ∈ cs, K.lookup p.2 = none) (cd : ∀ p ∈ cs, PySem.W.CodeHd s1.heap p.1 p.2)
    (hbm : ∃ (bm : Addr) (ob : Obj), mg "__builtins__" = some (.ref bm) ∧ bm ≠ builtinsNs ∧ s1.heap.get? bm = some ob ∧ ob.cls = .type "module" ∧ ob.dict = some builtinsNs ∧ ob.data = .plain)
    (ha : s1.heap.get? a = some { cls := .type "list", data := .seq vs.toArray }) (hi : IntsAre vs ns) (hl : ns.length ≤ sizeLine) (room : Room k callerA)
    (F : ∀ base : Heap, K.In base → base.Ns mainGlobals mg → (∀ p ∈ cs, LamX.TabB base mg p.1 p.2) → FnG P w K mg base CX k fa fd [x] sp) (bind : ∀ (s : Shared) (u : Value), BindsTo s fd ⟨[u], []⟩ [(x, u)])
    (hsp : ∀ H : Hp, (∀ p ∈ cs, H p.2 = some (.tbl #[])) → SqL K H a (ns.map V.int) → sp [.ref a] H (fun v _ => v = .bl true) fun _ _ _ => False) (out : ∀ H e s', CX [] H s1 (fun _ _ _ => False) e s' → False) :
    codeAny (model P w) callerA (.call (.ref fa) ⟨[.ref a], []⟩) (fun r s' => r = .ok (.ret (.bool true)) ∧ OldK s1.heap s'.heap ∧ s'.os = s1.os ∧ AllBare s'.gens) s1 := by
  let o : Obj := { cls := .type "list", data := .seq vs.toArray }
  let ts : List Addr := cs.map (·.2)
  let H : Hp := scriptT K a o ns ts
  have rv := vals_ints hi
  have short : (ns.map V.int).length ≤ sizeLine := by rw [List.length_map]; exact hl
  have isT : ∀ b, b ∈ ts → s1.heap.get? b = some tab0 := fun b hb => by
    obtain ⟨p, hp, e⟩ := List.mem_map.mp hb
    exact e ▸ hT p hp
  have notT : ∀ b, b ∈ ts → K.lookup b = none := fun b hb => by
    obtain ⟨p, hp, e⟩ := List.mem_map.mp hb
    exact e ▸ nT p hp
  have aT : a ∉ ts := fun z => by
    have q := isT a z
    rw [ha] at q
    exact nomatch (show Data.seq vs.toArray _ = Data.fields #[] from congrArg Obj.data (Option.some.inj q))
  have tabH : ∀ p ∈ cs, H p.2 = some (.tbl #[]) := fun p hp => by
    have m : p.2 ∈ ts := List.mem_map.mpr ⟨p, hp, rfl⟩
    show scriptT K a o ns ts p.2 = _
    unfold scriptT
    rw [if_neg (show ¬ (p.2 = a ∧ K.lookup a = none) from fun z => aT (z.1 ▸ m)), if_pos m]
  have seen : SqL K H a (ns.map V.int) := by
    cases q : K.lookup a with
    | none => exact Or.inl (Or.inr ⟨o, if_pos ⟨rfl, q⟩⟩)
    | some u =>
      have z := KX a u q
      rw [ha] at z
      cases z
      exact Or.inr ⟨_, vs.toArray, _, q, rfl, rfl, rfl, by rw [List.size_toArray, hi.length]; exact hl, by simpa using rv⟩
  have held : HOk P w H s1.heap := fun b u z => by
    rcases scriptT_some z with ⟨rfl, _, rfl⟩ | ⟨m, rfl⟩
    · exact ⟨ha, short, vs, _, rv, ha⟩
    · exact isT b m
  have part : ∀ b u, K.lookup b = some u → H b = none := fun b u z => by
    cases q : H b with
    | none => rfl
    | some c =>
      rcases scriptT_some q with ⟨rfl, n, _⟩ | ⟨m, _⟩
      · rw [n] at z
        cases z
      · rw [notT b m] at z
        cases z
  have other : ∀ {b : Addr} {ob : Obj}, s1.heap.get? b = some ob → (∀ vs n, ob.data ≠ .seq vs n) → ob.data ≠ .fields #[] → H b = none := fun {b ob} e n1 n2 => by
    cases q : H b with
    | none => rfl
    | some c =>
      rcases scriptT_some q with ⟨rfl, _, _⟩ | ⟨m, _⟩
      · rw [ha] at e
        cases e
        exact absurd rfl (n1 _ _)
      · rw [isT b m] at e
        cases e
        exact absurd rfl n2
  have table : ∀ {b : Addr} {m : Str → Option Value}, s1.heap.Ns b m → (hidT s1.heap H).Ns b m := fun {b m} z => by
    obtain ⟨ob, es, ep, e1, e2, rest⟩ := z
    exact ⟨ob, es, ep, hidT_get e1 (other e1 (fun _ _ z => by rw [e2] at z; cases z) fun z => by rw [e2] at z; cases z), e2, rest⟩
  have kin : K.In (hidT s1.heap H) := fun b u z => hidT_get (KX b u z) (part b u z)
  have TB : ∀ p ∈ cs, LamX.TabB (hidT s1.heap H) mg p.1 p.2 := fun p hp => by
    refine ⟨?_, ?_, fun z => ?_⟩
    · obtain ⟨oc, us, file, tf, flags, tg, inF, text, tt, e1, r1, r2, r3, rest⟩ := cd p hp
      refine ⟨oc, us, file, tf, flags, tg, inF, text, tt, hidT_get e1 (other e1 (fun _ _ z => ?_) fun z => ?_), r1, r2, r3, rest⟩
      · rw [r2] at z
        cases z
      · rw [r2] at z
        cases z
        simp at r3
    · obtain ⟨bm, ob, b1, b2, b3, b4, b5, b6⟩ := hbm
      refine ⟨bm, ob, b1, b2, fun q => ?_, fun q => ?_, hidT_get b3 (other b3 (fun _ _ z => ?_) fun z => ?_), b4, b5, b6⟩
      · obtain ⟨og, es, ep, e, hd, _⟩ := gl
        rw [q, e] at b3
        cases b3
        rw [hd] at b6
        cases b6
      · rw [q, hT p hp] at b3
        cases b3
        cases b6
      · rw [b6] at z
        cases z
      · rw [b6] at z
        cases z
    · obtain ⟨og, es, ep, e, hd, _⟩ := gl
      rw [z, hT p hp] at e
      cases e
      cases hd
  have env : Env0 P w K mg (hidT s1.heap H) callerA [] s1 H := by
    refine ⟨rfl, ⟨kin, table gl, ⟨mb, table bl, bb⟩, ?_⟩, fun b u z => of_hidT z, Nat.le_of_eq (hidT_size _ _), trivial, fun b z => ?_, held, .of_eq gens⟩
    · obtain ⟨mc, h1, h2⟩ := lim
      exact ⟨mc, table h1, h2⟩
    · exact absurd (show b ∈ ([] : List Addr) from z) List.not_mem_nil
  refine codeAny_mono ((F _ kin (table gl) TB).run callerA [] s1 H ⟨[.ref a], []⟩ [.ref a] [.ref a] _ _ room rfl env (bind s1 (.ref a)) (.cons rfl .nil) (hsp H tabH seen)) fun r s' z => ?_
  cases r with
  | error e => exact (out H e s' z).elim
  | ok fl =>
    cases fl with
    | next => exact z.elim
    | brk => exact z.elim
    | cont => exact z.elim
    | ret u =>
      obtain ⟨v, H', os, bare', un, held', r', rfl⟩ := z
      obtain rfl : u = Value.bool true := r'
      have key : ∀ b ob, b ∉ ts → s1.heap.get? b = some ob → s'.heap.get? b = some ob := fun b ob nb e => by
        cases q : H b with
        | none => exact un.keep b ob e q (fun z => absurd (show b ∈ ([] : List Addr) from z) List.not_mem_nil) (fun z => absurd z List.not_mem_nil)
        | some c =>
          rcases scriptT_some q with ⟨rfl, _, rfl⟩ | ⟨m, _⟩
          · have z1 := (held b _ q).1
            have z2 := (held' b _ (un.frzs b _ _ q)).1
            rw [e] at z1
            cases z1
            exact z2
          · exact absurd m nb
      have grown : ∀ p ∈ cs, ∃ more : Array Value, s'.heap.get? p.2 = some { cls := .none, data := .fields more } := fun p hp => by
        obtain ⟨more, z⟩ := un.tbls p.2 #[] (tabH p hp)
        exact ⟨_, held' p.2 _ z⟩
      refine ⟨rfl, ⟨fun b ob e => ?_, fun b ob e => ?_⟩, os, bare'⟩
      · by_cases hb : b ∈ ts
        · obtain ⟨p, hp, rfl⟩ := List.mem_map.mp hb
          obtain ⟨more, hm⟩ := grown p hp
          rw [hT p hp] at e
          cases e
          exact .inr (.inl ⟨((cd p hp).tab (hT p hp)).isCodeTable, rfl, #[], more, rfl, by rw [Array.empty_append]; exact hm⟩)
        · exact .inl (key b ob hb e)
      · by_cases hb : b ∈ ts
        · obtain ⟨p, hp, rfl⟩ := List.mem_map.mp hb
          obtain ⟨more, hm⟩ := grown p hp
          exact ⟨_, hm⟩
        · exact ⟨ob, key b ob hb e⟩
/-- the end of a law's row, with tables -/
theorem walk_ofT {l : PySem.W.OpenLaw} {n k : Nat} {q : Program} {loose : List Str} {XP : (Str → Option Value) → Heap → Prop} {YP : World → Heap → Prop} {d : DefRec} {CX : CXT} {x : Str}
    (hn : l.most = some n) (hn2 : n ≤ sizeLine) (hdf : d.params.defaults = []) (room : Room k callerA)
    (F : ∀ (w : World) (mg : Str → Option Value) (fa : Addr) (h : Heap), YP w h → h.Ns mainGlobals mg → mg d.name = some (.ref fa) →
      ∃ (K : PySem.W.Frag) (fd : FuncData) (sp : Sp) (cs : List (Addr × Addr)), K.In h ∧ (∀ p ∈ cs, h.get? p.2 = some tab0) ∧ (∀ p ∈ cs, K.lookup p.2 = none) ∧ (∀ p ∈ cs, PySem.W.CodeHd h p.1 p.2) ∧ (∀ (s : Shared) (u : Value), BindsTo s fd ⟨[u], []⟩ [(x, u)]) ∧
        (∀ (H : Hp) (a : Addr) (ns : List Int), ns.length ≤ n → (∀ p ∈ cs, H p.2 = some (.tbl #[])) → SqL K H a (ns.map V.int) → sp [.ref a] H (fun v _ => v = .bl true) fun _ _ _ => False) ∧
        ∀ base : Heap, K.In base → base.Ns mainGlobals mg → (∀ p ∈ cs, LamX.TabB base mg p.1 p.2) → FnG l.prog w K mg base CX k fa fd [x] sp)
    (out : ∀ (H : Hp) (s : Shared) (e : Value) (s' : Shared), CX [] H s (fun _ _ _ => False) e s' → False) : PySem.W.WalkO q loose XP YP l.row.toRowW d [] (fun f vs => PySem.call f vs) := by
  refine Att.attach_call hn hdf fun w s0 s1 mg mb fa o pm cd doc a vs ns G Y _ _ _ hm hobj hints hlen hg => ?_
  obtain ⟨K, fd, sp, cs, KX, hT, nT, C, bind, hsp, hF⟩ := F w mg fa _ Y G.T.g hm
  exact law_runT KX G.T.g G.T.b G.T.builtins G.T.nolimit hg hT nT C G.T.bmain hobj hints (Nat.le_trans hlen hn2) room hF bind (fun H t z => hsp H a ns hlen t z) fun H e s' => out H s1 e s'
end SwX
set_option Elab.async false
set_option linter.all false
set_option maxRecDepth 100000
set_option maxHeartbeats 2000000
/-! a hook: facts, defs at any address, a further look, the tables of some defs; the own exceptions' facts -/
namespace SwX
open PySem PySem.Spec PyProof.Rows L2
/-- the code object of the module's def x, its table -/
def ctZ (K : PySem.W.Frag) (f : Addr) : Addr × Addr := (codeAt K f, He.tabOf K (codeAt K f))
abbrev TfZ : Type := List (PySem.W.Frag → Addr)
structure SaysZ (fa : List He.Fa) (fn : List He5.DefA) (tf : TfZ) (ex : PySem.W.Frag → Bool) (h : Heap) (K : PySem.W.Frag) : Prop where
  sys : SysIn K
  more : ex K = true
  sd : He5.SaysA fa fn K
  hd : ∀ p ∈ tf, PySem.W.codeHdIn K (ctZ K (p K)).1 (ctZ K (p K)).2 = true
  out : ∀ p ∈ tf, K.lookup (ctZ K (p K)).2 = none
  empty : ∀ p ∈ tf, h.get? (ctZ K (p K)).2 = some tab0
def tabsZ (g : Addr → Option Obj) (tf : TfZ) (K : PySem.W.Frag) : Bool := tf.all fun p => PySem.W.codeHdIn K (ctZ K (p K)).1 (ctZ K (p K)).2 && (match g (ctZ K (p K)).2 with
  | some o => He.emptyTab o
  | none => false)
abbrev AlZ : Type := Bool × He.AlD
def obsZK (fa : List He.Fa) (fn : List He5.DefA) (tf : TfZ) (ex : PySem.W.Frag → Bool) (g : Addr → Option Obj) (K : PySem.W.Frag) : AlZ := ((K.lookup sysModules).isSome && (ex K && tabsZ g tf K), He5.obsA fa fn K)
def asZ (g : Addr → Option Obj) (n : Nat) : List Addr := sysModules :: He5.asA g n
def obsZ (n : Nat) (fa : List He.Fa) (fn : List He5.DefA) (tf : TfZ) (ex : PySem.W.Frag → Bool) (g : Addr → Option Obj) : AlZ := obsZK fa fn tf ex g (He.frT g (asZ g n))
theorem saysZ_of {n : Nat} {fa : List He.Fa} {fn : List He5.DefA} {tf : TfZ} {ex : PySem.W.Frag → Bool} {h : Heap} (e : obsZ n fa fn tf ex h.get? = (true, He5.valA fn)) : SaysZ fa fn tf ex h (He.frT h.get? (asZ h.get? n)) := by
  have e1 : He5.obsA fa fn (He.frT h.get? (asZ h.get? n)) = He5.valA fn := congrArg (fun z : AlZ => z.2) e
  have e2 : (((He.frT h.get? (asZ h.get? n)).lookup sysModules).isSome && (ex (He.frT h.get? (asZ h.get? n)) && tabsZ h.get? tf (He.frT h.get? (asZ h.get? n)))) = true := congrArg (fun z : AlZ => z.1) e
  obtain ⟨h0, h12⟩ := Bool.and_eq_true_iff.mp e2
  obtain ⟨h1, h2⟩ := Bool.and_eq_true_iff.mp h12
  generalize hK : He.frT h.get? (asZ h.get? n) = K at e1 h0 h1 h2 ⊢
  have key : ∀ p ∈ tf, PySem.W.codeHdIn K (ctZ K (p K)).1 (ctZ K (p K)).2 = true ∧ ∃ o, h.get? (ctZ K (p K)).2 = some o ∧ He.emptyTab o = true := fun p hp => by
    obtain ⟨h3, h4⟩ := Bool.and_eq_true_iff.mp (List.all_eq_true.mp h2 p hp)
    refine ⟨h3, ?_⟩
    cases q : h.get? (ctZ K (p K)).2 with
    | none =>
      rw [q] at h4
      cases h4
    | some o =>
      rw [q] at h4
      exact ⟨o, rfl, h4⟩
  exact ⟨Option.isSome_iff_exists.mp h0, h1, e1, fun p hp => (key p hp).1, fun p hp => by
    obtain ⟨_, o, q, z⟩ := key p hp
    rw [← hK]
    rw [← hK] at q
    exact He.frT_none q z, fun p hp => by
    obtain ⟨_, o, q, z⟩ := key p hp
    rw [q, He.emptyTab_eq z]⟩
def hookZ (n : Nat) (fa : List He.Fa) (fn : List He5.DefA) (tf : TfZ) (ex : PySem.W.Frag → Bool) : PySem.W.Hook where
  α := AlZ
  obs := fun s => obsZ n fa fn tf ex s.heap.get?
  val := fun _ => (true, He5.valA fn)
  says := fun _ h => ∃ K : PySem.W.Frag, K.In h ∧ SaysZ fa fn tf ex h K
  of := fun _ _ e => ⟨_, He.frT_in, saysZ_of e⟩
  keeps := fun _ _ _ ⟨K, hK, c⟩ k => ⟨K, PySem.W.Frag.In.keeps hK k, ⟨c.sys, c.more, c.sd, c.hd, c.out, fun p hp => k _ _ (c.empty p hp)⟩⟩
theorem obsZ_eq {n : Nat} {fa : List He.Fa} {fn : List He5.DefA} {tf : TfZ} {ex : PySem.W.Frag → Bool} {g : Addr → Option Obj} {s : Shared} (h : ∀ a, g a = s.heap.get? a) : obsZ n fa fn tf ex g = (hookZ n fa fn tf ex).obs s := by
  have e : g = s.heap.get? := funext h
  rw [e] <;> rfl
theorem SaysZ.code {fa : List He.Fa} {fn : List He5.DefA} {tf : TfZ} {ex : PySem.W.Frag → Bool} {h : Heap} {K : PySem.W.Frag} (c : SaysZ fa fn tf ex h K) (X : K.In h) : ∀ p ∈ tf, PySem.W.CodeHd h (ctZ K (p K)).1 (ctZ K (p K)).2 := fun p hp => PySem.W.codeHd_of_K X (c.hd p hp)
/-! ### an empty tuple in K -/
def tupE (K : PySem.W.Frag) (a : Addr) : Bool := match K.lookup a with
  | some ⟨c, _, .seq its _, _⟩ => decide (c = .type "tuple") && decide (its.toList = [])
  | _ => false
theorem tupE_ok {K : PySem.W.Frag} {a : Addr} (h : tupE K a = true) : SqT K (fun _ => none) a [] := by
  unfold tupE at h
  split at h
  · rename_i c d its n sl e
    rw [Bool.and_eq_true] at h
    have e2 : its.toList = [] := of_decide_eq_true h.2
    refine .inr ⟨_, its, n, e, of_decide_eq_true h.1, rfl, ?_, by rw [e2]; exact .nil⟩
    rw [← Array.length_toList, e2]
    decide
  · cases h
/-! ### the own exceptions that are raised -/
def CxZ (K : PySem.W.Frag) (i : Nat) : Addr := He.ga K (exNm i)
def bsZ (i : Nat) : Nat := if i < 12 then 0 else if i < 14 then 1 else 2
def kitZ (K : PySem.W.Frag) (i : Nat) (v : Value) (b : Bool) : Bool := oB (PySem.W.kitOne K (.ref (CxZ K i)) v) (some b)
theorem kitZ_ok {K : PySem.W.Frag} {i : Nat} {v : Value} {b : Bool} (h : kitZ K i v b = true) : PySem.W.kitOne K (.ref (CxZ K i)) v = some b := of_decide_eq_true h
def clZ (K : PySem.W.Frag) (i : Nat) : Bool := decide (i < 15) && (oexB K (bsZ i) (CxZ K i) && (decide (PySem.W.typeIn K (.ref (CxZ K i)) = some (.type "type")) && (oB (PySem.W.exmAny K (.ref (CxZ K i)) [.ref (He.ga K "WrongValue"), .ref (He.ga K "WrongName"), .ref (He.ga K "NoAnswer")]) (some true) &&
  (((List.range 17).all fun j => kitZ K i (.ref (CxZ K j)) (decide (i = j))) && (kitZ K i (.ref (He.ga K "WrongValue")) (decide ((i : Int) < 12)) && (kitZ K i (.ref (He.ga K "WrongName")) (decide ((11 : Int) < i) && decide ((i : Int) < 14)) && (kitZ K i (.ref (He.ga K "NoAnswer")) (decide ((13 : Int) < i)) &&
  (kitZ K i (.type "ValueError") (decide ((i : Int) < 12)) && (kitZ K i (.type "LookupError") (decide ((11 : Int) < i) && decide ((i : Int) < 14)) && (kitZ K i (.type "ArithmeticError") (decide ((13 : Int) < i)) && (He.eqO (PySem.W.findIn K (.ref (CxZ K i)) (exFld i)) (some none) && iniB K (CxZ K i))))))))))))
def clsZ (K : PySem.W.Frag) (rs : List Nat) : Bool := rs.all (clZ K)
theorem clsZ_ok {P : Program} {w : World} {K : PySem.W.Frag} {mg : Str → Option Value} {base : Heap} {rs : List Nat} (h : clsZ K rs = true) (g : ∀ i, i < 17 → mg (exNm i) = some (.ref (CxZ K i))) (gWV : mg "WrongValue" = some (.ref (He.ga K "WrongValue"))) (gWN : mg "WrongName" = some (.ref (He.ga K "WrongName"))) (gNA : mg "NoAnswer" = some (.ref (He.ga K "NoAnswer")))
    (D : ∀ i ∈ rs, Oex K (CxZ K i) → Free K (CxZ K i) (exFld i) → Ini K (CxZ K i) (He.ma K (CxZ K i) "__init__") → mg (exNm i) = some (.ref (CxZ K i)) → HasX P w K mg base (exNm i) 1 (CxZ K i) 1 [exFld i] (fun us ws => us ++ ws.reverse) (spIni1 (CxZ K i) (exFld i))) :
    Cl P w K mg base rs (CxZ K) (He.ga K "WrongValue") (He.ga K "WrongName") (He.ga K "NoAnswer") := by
  have key : ∀ i ∈ rs, _ := fun i hi => List.all_eq_true.mp h i hi
  unfold clZ at key
  simp only [Bool.and_eq_true] at key
  have fr : ∀ i ∈ rs, Free K (CxZ K i) (exFld i) := fun i hi => free_of (He.eqO_ok (key i hi).2.2.2.2.2.2.2.2.2.2.2.1)
  have ox : ∀ i ∈ rs, Oex K (CxZ K i) := fun i hi => oex_of (key i hi).2.1
  have lt : ∀ i ∈ rs, i < 15 := fun i hi => of_decide_eq_true (key i hi).1
  exact ⟨lt, ox, fun i hi => of_decide_eq_true (key i hi).2.2.1, fun i hi => of_decide_eq_true (key i hi).2.2.2.1, fun i hi j hj => kitZ_ok (List.all_eq_true.mp (key i hi).2.2.2.2.1 j (List.mem_range.mpr hj)), fun i hi => kitZ_ok (key i hi).2.2.2.2.2.1, fun i hi => kitZ_ok (key i hi).2.2.2.2.2.2.1, fun i hi => kitZ_ok (key i hi).2.2.2.2.2.2.2.1, fun i hi => kitZ_ok (key i hi).2.2.2.2.2.2.2.2.1, fun i hi => kitZ_ok (key i hi).2.2.2.2.2.2.2.2.2.1, fun i hi => kitZ_ok (key i hi).2.2.2.2.2.2.2.2.2.2.1, fr, g, gWV, gWN, gNA,
    fun i hi => D i hi (ox i hi) (fr i hi) (ini_of (key i hi).2.2.2.2.2.2.2.2.2.2.2.2) (g i (by have := lt i hi; omega))⟩
end SwX
set_option Elab.async false
set_option linter.all false
set_option maxRecDepth 100000
set_option maxHeartbeats 4000000
namespace K17
open PySem PySem.Spec PyProof.Rows L2 Evl SwX
abbrev prog : Program := PySem.Challenge.pw_sealedweights_k17_catalogues_refused
def top (i : Nat) : Stmt := prog.main.body.getD i (.Pass ⟨0, 0, 0, 0⟩)
abbrev FnP (K : PySem.W.Frag) (x : Str) (st : Stmt) (f : Addr) (fd : FuncData) : Prop := FunD K x x (defArgs st) (defBody st) (defScope st) [] [] f fd
section
variable {P : Program} {w : World} {K : PySem.W.Frag} {mg : Str → Option Value} {base : Heap} {f : Addr} {fd : FuncData}
abbrev s__law_seed : Stmt := top 44
abbrev sc__law_seed_N : List Str := ["_law_script", "_law_k", "_law_seed_here", "_law_cell"]
theorem sc__law_seed : FnScope sc__law_seed_N ["_law_script", "_law_k"] (defScope s__law_seed) := ⟨rfl, rfl, rfl, by decide +kernel, rfl, by decide +kernel, by decide +kernel⟩
theorem ok_seed (F : FnP K "_law_seed" s__law_seed f fd) (m_len : mg "len" = none) (m_int : mg "int" = none) : FnOk P w K mg base CX0 1 f fd ["_law_script", "_law_k"] (spSeed K) := by
  refine F.ok sc__law_seed (fun vs H Q E h => by obtain ⟨a, ns, k, rfl, _⟩ := h; rfl) (fun cdv A outer s H vs Q E hr h => ⟨_, PSs.nox
    (pss_cons (ps_if (pt_cmpR op_lt (pv 1) (pe_callB call_len_seq (by rfl) m_len (by decide +kernel) (pa_cons (pv 0) pa_nil)) (nomark _)) (pss_one (ps_ret (pe_ix ix_A (pv 0) (pv 1) (fun _ _ => rfl)))) pss_nil) (pss_cons (ps_set (i := 2) sc__law_seed.nd rfl (Or.inl rfl) (pe_op op_addA (pe_op op_mul (pe_op op_mul pe_int (pe_op op_addA (pv 1) pe_int)) (pe_op op_addA (pv 1) pe_int)) pe_int)) (pss_cons (ps_for PassesOwn.never rfl (pi_list (pe_slice sl_list (pv 0) po_none (po_some pe_int))) (pg_name (i := 3) sc__law_seed.nd rfl (Or.inl rfl)) (pss_one (ps_set (i := 2) sc__law_seed.nd rfl (Or.inl rfl) (pe_op op_modN (pe_callTy call_int1 (by rfl) m_int (by decide +kernel) (pa_cons (pe_op op_addA (pe_op op_mul (pv 2) pe_int) (pv 3)) pa_nil)) pe_int)))) (pss_one (ps_ret (pv 2)))))), ?_⟩)
  obtain ⟨a, ns, k, rfl, hS, k0, k1, q⟩ := h
  refine q_when (b := decide (k < (ns.map V.int).length)) (et_B (ev_op (ev_var rfl) (ev_len (ev_var rfl) hS) rv_I0)) (fun c H1 e1 => ?_) fun _ H1 e1 => ?_
  · have c := of_decide_eq_true c
    rw [List.length_map] at c
    have hj : k.toNat < ns.length := by omega
    have g : atI (ns.map V.int) k = some (.int (ns[k.toNat]'hj)) := by
      obtain ⟨j, rfl⟩ := Int.eq_ofNat_of_zero_le k0
      unfold atI
      rw [ixN_nat (by rw [List.length_map]; omega)]
      simp
    exact s_ret (ev_op (ev_var rfl) (ev_var rfl) (rv_at (ex_l e1 hS) g)) fun H2 e2 => q _ _ (e1.trans e2)
  · refine q_asg (i := 2) (v := .int (40093 * (k + 3) * (k + 7) + 271)) (ev_op (ev_op (ev_op ev_c (ev_op (ev_var rfl) ev_c rv_add) (rv_I (Or.inl (by omega)))) (ev_op (ev_var rfl) ev_c rv_add) (rv_I (Or.inr (by omega)))) ev_c rv_add) fun H2 e2 => ?_
    refine q_forNL (xs := cutV (ns.map V.int) none (some 4)) (el_sl (ev_var rfl) eo_none (eo_some ev_c) (ex_l (e1.trans e2) hS)) (fun p i σ' H' => (∃ v0 v1 n v3, σ' = [v0, v1, some (.int n), v3]) ∧ Ex H H' ∧ H' p = some (.lst (cutV (ns.map V.int) none (some 4)))) (fun p H3 hp e3 h3 => ⟨⟨_, _, _, _, rfl⟩, (e1.trans e2).trans e3, h3⟩) (fun p i σ' H' _ z => sq_of z.2.2) (fun p i x σ' H' hx z => ?_) fun p σ' H' z => ?_
    · obtain ⟨⟨v0, v1, n, v3, rfl⟩, e, hp⟩ := z
      obtain ⟨m, _, rfl⟩ := List.mem_map.mp (cut_mem hx)
      exact s_asg (i := 2) (v := .int (((n * 50021 + m)).fmod 2147483629)) (ev_op (ev_int1 (ev_op (ev_op (ev_var rfl) ev_c (rv_I (Or.inr (by omega)))) (ev_var rfl) rv_add)) ev_c (rv_I (by omega))) fun H4 e4 => ⟨⟨_, _, _, _, rfl⟩, e.trans e4, e4 _ _ hp⟩
    · obtain ⟨⟨v0, v1, n, v3, rfl⟩, e, _⟩ := z
      exact s_ret (ev_var rfl) fun H2 e2 => q _ _ (e.trans e2)
abbrev s__law_purse : Stmt := top 45
abbrev sc__law_purse_N : List Str := ["_law_number"]
theorem sc__law_purse : FnScope sc__law_purse_N ["_law_number"] (defScope s__law_purse) := ⟨rfl, rfl, rfl, by decide +kernel, rfl, by decide +kernel, by decide +kernel⟩
theorem ok_purse (F : FnP K "_law_purse" s__law_purse f fd) (m_int : mg "int" = none) : FnOk P w K mg base CX0 1 f fd ["_law_number"] spPurse := by
  refine F.ok sc__law_purse (fun vs H Q E h => by obtain ⟨n, rfl, _⟩ := h; rfl) (fun cdv A outer s H vs Q E hr h => ⟨_, PSs.nox
    (pss_one (ps_ret (pe_lst (pa_cons (pe_op op_modN (pe_callTy call_int1 (by rfl) m_int (by decide +kernel) (pa_cons (pv 0) pa_nil)) pe_int) (pa_cons (pe_ifExp (pt_cmpR op_ge (pv 0) (pe_op op_pow pe_int pe_int) (nomark _)) (pv 0) pe_int) (pa_cons pe_int pa_nil)))))), ?_⟩)
  obtain ⟨n, rfl, q⟩ := h
  have big : (10 : Int) ^ (18 : Int).toNat = 1000000000000000000 := by decide
  refine s_retL (xs := [.int (n.fmod 2147483629), .int (if 10 ^ (18 : Int).toNat ≤ n then n else 0), .int 0]) (el_lst (ea_cons (ev_op (ev_int1 (ev_var rfl)) ev_c (rv_I (by omega))) (ea_cons (ev_if (b := decide (10 ^ (18 : Int).toNat ≤ n)) (et_B (ev_op (ev_var rfl) (ev_op ev_c ev_c (rv_I (by unfold CPow; omega))) rv_I0)) (fun c => ?_) fun c => ?_) (ea_cons ev_c ea_nil))) (by simp)) fun a H1 n1 e1 h1 => ?_
  · rw [if_pos (of_decide_eq_true c)]
    exact ev_var rfl
  · rw [if_neg (of_decide_eq_false c)]
    exact ev_c
  · refine q a H1 n1 e1 ⟨_, _, _, h1, ?_, ?_, ?_⟩
    · rw [Int.fmod_eq_emod_of_nonneg _ (by omega)]
      exact Int.emod_nonneg _ (by omega)
    · rw [Int.fmod_eq_emod_of_nonneg _ (by omega)]
      exact Int.emod_lt_of_pos _ (by omega)
    · split <;> omega
abbrev s__law_draw : Stmt := top 46
abbrev sc__law_draw_N : List Str := ["_law_purse_here", "_law_many", "_law_state", "_law_blend", "_law_digit"]
theorem sc__law_draw : FnScope sc__law_draw_N ["_law_purse_here", "_law_many"] (defScope s__law_draw) := ⟨rfl, rfl, rfl, by decide +kernel, rfl, by decide +kernel, by decide +kernel⟩
theorem ok_draw (F : FnP K "_law_draw" s__law_draw f fd) (m_int : mg "int" = none) (m_divmod : mg "divmod" = none) : FnOk P w K mg base CX0 1 f fd ["_law_purse_here", "_law_many"] spDraw := by
  refine F.ok sc__law_draw (fun vs H Q E h => by obtain ⟨a, m, rfl, _⟩ := h; rfl) (fun cdv A outer s H vs Q E hr h => ⟨_, PSs.nox
    (pss_cons (ps_asg (pe_op op_addA (pe_ix ix_A (pv 0) pe_int (fun _ _ => rfl)) pe_int) (pg_sub (pv 0) pe_int set_list)) (pss_cons (ps_set (i := 2) sc__law_draw.nd rfl (Or.inl rfl) (pe_callTy call_int1 (by rfl) m_int (by decide +kernel) (pa_cons (pe_ix ix_A (pv 0) pe_int (fun _ _ => rfl)) pa_nil))) (pss_cons (ps_set (i := 3) sc__law_draw.nd rfl (Or.inl rfl) (pe_op op_mul (pv 2) (pe_op op_addA (pe_op op_modN (pe_callTy call_int1 (by rfl) m_int (by decide +kernel) (pa_cons (pv 2) pa_nil)) pe_int) pe_int))) (pss_cons (ps_asg (pe_op op_modN (pe_callTy call_int1 (by rfl) m_int (by decide +kernel) (pa_cons (pe_op op_addA (pe_op op_addA (pv 3) (pe_op op_mul pe_int (pe_ix ix_A (pv 0) pe_int (fun _ _ => rfl)))) pe_int) pa_nil)) pe_int) (pg_sub (pv 0) pe_int set_list)) (pss_cons (ps_if (pt_cmpR op_gt (pe_ix ix_A (pv 0) pe_int (fun _ _ => rfl)) pe_int (nomark _)) (pss_cons (ps_asg (pe_callB call_divmodW (by rfl) m_divmod (by decide +kernel) (pa_cons (pe_ix ix_A (pv 0) pe_int (fun _ _ => rfl)) (pa_cons (pv 1) pa_nil))) (pg_tup rfl (pgs_cons (pg_sub (pv 0) pe_int set_list) (pgs_cons (pg_name (i := 4) sc__law_draw.nd rfl (Or.inl rfl)) pgs_nil)))) (pss_one (ps_ret (pv 4)))) pss_nil) (pss_one (ps_ret (pe_op op_modN (pe_callTy call_int1 (by rfl) m_int (by decide +kernel) (pa_cons (pe_op op_fdivN (pe_ix ix_A (pv 0) pe_int (fun _ _ => rfl)) pe_int) pa_nil)) (pv 1))))))))), ?_⟩)
  obtain ⟨a, m, rfl, m0, m1, ⟨x, y, z, h0, x0, x1, y0⟩, q⟩ := h
  refine q_setL (j := 2) (v := .int (z + 1)) h0 (ev_op (ev_op (ev_var rfl) ev_c (rv_at (sq_of h0) rfl)) ev_c rv_add) (ev_var rfl) ev_c (by simp) fun H1 e1 => ?_
  have g1 : Ex (less a H) (upd H1 a (.lst [.int x, .int y, .int (z + 1)])) := less_upd (less_ex.trans e1)
  refine q_asg (i := 2) (v := .int x) (ev_int1 (ev_op (ev_var rfl) ev_c (rv_at (sq_of upd_same) rfl))) fun H2 e2 => ?_
  have r0 : 0 ≤ x.fmod 30011 := by
    rw [Int.fmod_eq_emod_of_nonneg _ (by omega)]
    exact Int.emod_nonneg _ (by omega)
  have r1 : x.fmod 30011 < 30011 := by
    rw [Int.fmod_eq_emod_of_nonneg _ (by omega)]
    exact Int.emod_lt_of_pos _ (by omega)
  refine q_asg (i := 3) (v := .int (x * (x.fmod 30011 + 40009))) (ev_op (ev_var rfl) (ev_op (ev_op (ev_int1 (ev_var rfl)) ev_c (rv_I (by omega))) ev_c rv_add) (rv_I (Or.inl (by omega)))) fun H3 e3 => ?_
  have h3 := e3 _ _ (e2 _ _ (upd_same (H := H1) (a := a) (o := .lst [.int x, .int y, .int (z + 1)])))
  refine q_setL (j := 0) (v := .int ((x * (x.fmod 30011 + 40009) + 65551 * (z + 1) + 19).fmod 2147483629)) h3 (ev_op (ev_int1 (ev_op (ev_op (ev_var rfl) (ev_op ev_c (ev_op (ev_var rfl) ev_c (rv_at (sq_of h3) rfl)) (rv_I (Or.inl (by omega)))) rv_add) ev_c rv_add)) ev_c (rv_I (by omega))) (ev_var rfl) ev_c (by simp) fun H4 e4 => ?_
  have s0 : 0 ≤ (x * (x.fmod 30011 + 40009) + 65551 * (z + 1) + 19).fmod 2147483629 := by
    rw [Int.fmod_eq_emod_of_nonneg _ (by omega)]
    exact Int.emod_nonneg _ (by omega)
  have s1 : (x * (x.fmod 30011 + 40009) + 65551 * (z + 1) + 19).fmod 2147483629 < 2147483629 := by
    rw [Int.fmod_eq_emod_of_nonneg _ (by omega)]
    exact Int.emod_lt_of_pos _ (by omega)
  generalize (x * (x.fmod 30011 + 40009) + 65551 * (z + 1) + 19).fmod 2147483629 = u at s0 s1 ⊢
  have g4 : Ex (less a H) (upd H4 a (.lst [.int u, .int y, .int (z + 1)])) := less_upd (((g1.trans e2).trans e3).trans e4)
  show tIfS _ _ _ _ _ (upd H4 a (.lst [.int u, .int y, .int (z + 1)]))
  refine q_when (b := decide (0 < y)) (et_B (ev_op (ev_op (ev_var rfl) ev_c (rv_at (sq_of upd_same) rfl)) ev_c rv_I0)) (fun c H5 e5 => ?_) fun _ H5 e5 => ?_
  · have h5 := e5 _ _ (upd_same (H := H4) (a := a) (o := .lst [.int u, .int y, .int (z + 1)]))
    refine (ev_op (ev_var rfl) ev_c (rv_at (sq_of h5) rfl) : Ev _ _ H5 _) H5 (Ex.refl _) _ fun H6 e6 => ⟨.int m, rfl, y, m, rfl, pylong_small m0 m1, fun p hp => ?_⟩
    have ne : a ≠ p := fun w => by rw [← w, e6 _ _ h5] at hp; cases hp
    refine ⟨p, _, rfl, st_of upd_same, rfl, _, _, rfl, ⟨_, rfl, a, [.int u, .int y, .int (z + 1)], 1, 1, rfl, rfl, by rw [upd_ne ne]; exact e6 _ _ h5, rfl, ?_⟩⟩
    refine ⟨_, _, rfl, rfl, ?_⟩
    refine s_ret (ev_var rfl) fun H7 e7 => q _ _ (Int.emod_nonneg _ (by omega)) (Int.emod_lt_of_pos _ m0) ⟨u, y / m, z + 1, e7 _ _ upd_same, s0, s1, Int.ediv_nonneg y0 (by omega)⟩ ?_
    exact (less_upd ((((g4.trans e5).trans e6)).trans (Ex.new hp))).trans e7
  · have h5 := e5 _ _ (upd_same (H := H4) (a := a) (o := .lst [.int u, .int y, .int (z + 1)]))
    refine s_ret (v := .int ((u.fdiv 128).fmod m)) (ev_op (ev_int1 (ev_op (ev_op (ev_var rfl) ev_c (rv_at (sq_of h5) rfl)) ev_c (rv_I (by unfold CDivN; omega)))) (ev_var rfl) (rv_I (by omega))) fun H7 e7 => q _ _ ?_ ?_ ⟨u, y, z + 1, e7 _ _ h5, s0, s1, y0⟩ ((g4.trans e5).trans e7)
    · rw [Int.fmod_eq_emod_of_nonneg _ (by omega)]
      exact Int.emod_nonneg _ (by omega)
    · rw [Int.fmod_eq_emod_of_nonneg _ (by omega)]
      exact Int.emod_lt_of_pos _ m0
end
end K17
set_option Elab.async false
set_option linter.all false
set_option maxRecDepth 100000
set_option maxHeartbeats 4000000
namespace K17
open PySem PySem.Spec PyProof.Rows L2 Evl SwX
section
variable {P : Program} {w : World} {K : PySem.W.Frag} {mg : Str → Option Value} {base : Heap} {f : Addr} {fd : FuncData}
def letL : List Nat := [97, 98, 99, 100, 101, 102, 103, 104, 105, 106, 107, 108, 109, 110, 111, 112, 113, 114, 115, 116, 117, 118, 119, 120, 121, 122]
def sgnL : List Nat := letL ++ [48, 49, 50, 51, 52, 53, 54, 55, 56, 57]
theorem letL_ok : ∀ c ∈ letL, 97 ≤ c ∧ c ≤ 122 := by decide
theorem sgnL_ok : ∀ c ∈ sgnL, okSign c := by unfold okSign; decide
def spName : Sp := fun vs H Q _ => ∃ a : Addr, vs = [.ref a] ∧ Pur H a ∧ ∀ n H', NameOk n → Ex (less a H) H' → Pur H' a → Q (.str (SX.S n)) H'
theorem rv_sign {K : PySem.W.Frag} {l : List Nat} {k : Int} (k0 : 0 ≤ k) (k1 : k < l.length) (hl : l.length ≤ 1000) : ∃ c ∈ l, ∀ H, RV (rIx K) (.str (SX.S l)) (.int k) H (.str ⟨#[c]⟩) := by
  obtain ⟨j, rfl⟩ := Int.eq_ofNat_of_zero_le k0
  have hj : j < l.length := by omega
  refine ⟨l[j], List.getElem_mem hj, fun H H1 _ Q q => .inr (.inr ⟨SX.S l, (j : Int), l[j], rfl, rfl, ?_, ?_, q H1 (Ex.refl H1)⟩)⟩
  · rw [SX.S_len]
    exact sz_of (by omega)
  · show atI l (j : Int) = _
    unfold atI
    rw [ixN_nat hj]
    simp [hj]
abbrev s__law_name : Stmt := top 50
abbrev sc__law_name_N : List Str := ["_law_purse_here", "_law_letters", "_law_signs", "_law_size", "_law_k"]
theorem sc__law_name : FnScope sc__law_name_N ["_law_purse_here"] (defScope s__law_name) := ⟨rfl, rfl, rfl, by decide +kernel, rfl, by decide +kernel, by decide +kernel⟩
theorem ok_name (D__law_draw : Has P w K mg base "_law_draw" 1 ["_law_purse_here", "_law_many"] spDraw) (F : FnP K "_law_name" s__law_name f fd) (m_range : mg "range" = none) : FnOk P w K mg base CX0 2 f fd ["_law_purse_here"] spName := by
  refine F.ok sc__law_name (fun vs H Q E h => by obtain ⟨a, rfl, _⟩ := h; rfl) (fun cdv A outer s H vs Q E hr h => ⟨_, PSs.nox
    (pss_cons (ps_set (i := 1) sc__law_name.nd rfl (Or.inl rfl) pe_str) (pss_cons (ps_set (i := 2) sc__law_name.nd rfl (Or.inr rfl) (pe_op (addK K) (pv 1) pe_str)) (pss_cons (ps_set (i := 3) sc__law_name.nd rfl (Or.inl rfl) (pe_has D__law_draw (hr.mono (by decide)) (pa_cons (pv 0) (pa_cons pe_int pa_nil)))) (pss_one (ps_ret (pe_op (addK K) (pe_ix (ixK K) (pv 1) (pe_has D__law_draw (hr.mono (by decide)) (pa_cons (pv 0) (pa_cons pe_int pa_nil))) (fun _ _ => rfl)) (pe_join pe_str (pe_lc (own := [("_law_k", 4)]) (g := gName 4) (tt := tYes) rfl sc__law_name.nd (pi_range1 (by rfl) m_range (pa_cons (pv 3) pa_nil)) (blkOk_by (N := sc__law_name_N) (sc := defScope s__law_name) (by decide +kernel)) (fun _ _ _ _ _ => pg_name (i := 4) sc__law_name.nd rfl (Or.inl rfl)) (fun _ _ _ _ _ => pts_nil) (fun _ _ _ _ _ => (pe_ix (ixK K) (pv 2) (pe_has D__law_draw (hr.mono (by decide)) (pa_cons (pv 0) (pa_cons pe_int pa_nil))) (fun _ _ => rfl))))))))))), ?_⟩)
  obtain ⟨a, rfl, p0, q⟩ := h
  have e1 : ("abcdefghijklmnopqrstuvwxyz" : Str) = SX.S letL := by decide +kernel
  have e2 : ("0123456789" : Str) = SX.S [48, 49, 50, 51, 52, 53, 54, 55, 56, 57] := by decide +kernel
  have e3 : ("" : Str) = SX.S [] := by decide +kernel
  rw [e1, e2, e3]
  refine q_asg (v := .str (SX.S letL)) ev_c fun H1 g1 => ?_
  refine q_asg (v := .str (SX.S sgnL)) (ev_op (ev_var rfl) ev_c fun H2 _ R k => .inr (.inr (.inl ⟨SX.S letL, _, rfl, rfl, by decide, k H2 (Ex.refl H2)⟩))) fun H2 g2 => ?_
  have p2 := p0.keep (g1.trans g2)
  have x2 : Ex (less a H) H2 := less_ex.trans (g1.trans g2)
  refine q_asgDr (a := a) (G := less a H) (P := fun v => ∃ k : Int, v = .int k ∧ 0 ≤ k ∧ k < 8) (dr_draw less_at rfl ev_c (by decide) (by decide)) x2 p2 fun v H3 pv x3 p3 => ?_
  obtain ⟨k, rfl, k0, k1⟩ := pv
  refine s_retDr (a := a) (G := less a H) (P := fun v => ∃ n, v = .str (SX.S n) ∧ NameOk n) (dr_op (P1 := fun v => ∃ c, v = .str ⟨#[c]⟩ ∧ 97 ≤ c ∧ c ≤ 122) (P2 := fun v => ∃ cs : List Nat, v = .str (SX.S cs) ∧ cs.length ≤ 7 ∧ ∀ c ∈ cs, okSign c)
    (dr_op (P1 := fun v => v = .str (SX.S letL)) (P2 := fun v => ∃ k, v = .int k ∧ 0 ≤ k ∧ k < 26) (dr_ev (ev_var rfl) rfl) (dr_draw less_at rfl ev_c (by decide) (by decide)) fun x y hx hy => ?_)
    (dr_join (m := 7) (by decide) ev_c (drl_lc less_at (dr_ev (ev_var rfl) ⟨k, rfl, k0, by omega⟩) (by decide) (fun _ => rfl) fun i G' n' _ => dr_op (P1 := fun v => v = .str (SX.S sgnL)) (P2 := fun v => ∃ k, v = .int k ∧ 0 ≤ k ∧ k < 36) (dr_ev (ev_var rfl) rfl) (dr_draw n' rfl ev_c (by decide) (by decide)) fun x y hx hy => ?_)) fun x y hx hy => ?_) x3 p3 fun v H4 pv x4 p4 => ?_
  · subst hx
    obtain ⟨k, rfl, k0, k1⟩ := hy
    obtain ⟨c, hc, rv⟩ := rv_sign (K := K) (l := letL) k0 k1 (by decide)
    exact ⟨_, ⟨c, rfl, letL_ok c hc⟩, rv⟩
  · subst hx
    obtain ⟨k, rfl, k0, k1⟩ := hy
    obtain ⟨c, hc, rv⟩ := rv_sign (K := K) (l := sgnL) k0 k1 (by decide)
    exact ⟨_, ⟨c, rfl, sgnL_ok c hc⟩, rv⟩
  · obtain ⟨c, rfl, c0, c1⟩ := hx
    obtain ⟨cs, rfl, l, ok⟩ := hy
    refine ⟨.str (SX.S (c :: cs)), ⟨c :: cs, rfl, ⟨c, cs, rfl, c0, c1⟩, by simp; omega, fun d hd => ?_⟩, fun H H1 _ R k => .inr (.inr (.inl ⟨SX.S [c], SX.S cs, rfl, rfl, ?_, ?_⟩))⟩
    · rcases List.mem_cons.mp hd with rfl | hd
      · exact .inl ⟨c0, c1⟩
      · exact ok d hd
    · rw [SX.S_len, SX.S_len]
      exact sz_of (by simp; omega)
    · rw [SX.S_cat]
      exact k H1 (Ex.refl H1)
  · obtain ⟨n, rfl, hn⟩ := pv
    exact q n H4 hn x4 p4
end
end K17
set_option Elab.async false
set_option linter.all false
set_option maxRecDepth 100000
set_option maxHeartbeats 4000000
namespace K17
open PySem PySem.Spec PyProof.Rows L2 Evl SwX
section
variable {P : Program} {w : World} {K : PySem.W.Frag} {mg : Str → Option Value} {base : Heap} {f : Addr} {fd : FuncData}
theorem dr_name {a : Addr} {σ : L2.St} {G : Hp} {E : XK} (n : G a = none) (h : σ[0]? = some (some (.ref a))) : Dr a (tCall spName [] E (tCons (tVar 0) tNil)) σ G fun v => ∃ m, v = nmV m ∧ NameOk m := fun H1 e p Q q =>
  ⟨.ref a, h, a, rfl, p, fun m H2 ok e2 p2 => q _ H2 ⟨m, rfl, ok⟩ ((ex_less n e).trans e2) p2⟩
theorem name_cut {x n : Nm} (h : NameOk x) (h' : NameOk n) : NameOk ((x ++ n).take 8) := by
  obtain ⟨c, r, rfl, c0, c1⟩ := h.hd
  refine ⟨⟨c, (r ++ n).take 7, rfl, c0, c1⟩, by rw [List.length_take]; omega, fun d hd => ?_⟩
  rcases List.mem_append.mp (List.mem_of_mem_take hd) with z | z
  · exact h.sg d z
  · exact h'.sg d z
theorem cut8 (l : List Nat) (H : l.length ≤ 1000) : cutS (SX.S l) none (some 8) = SX.S (l.take 8) := by
  rw [C8.cutS_slice]
  exact SX.slice_to (by decide)
def grow (ns : List Nm) (n : Nm) : List Nm := if n ∈ ns then ns else ns ++ [n]
theorem grow_ok {ns : List Nm} {n : Nm} (h : ∀ m ∈ ns, NameOk m) (d : ns.Nodup) (ok : NameOk n) : (∀ m ∈ grow ns n, NameOk m) ∧ (grow ns n).Nodup ∧ grow ns n ≠ [] ∧ (grow ns n).length ≤ ns.length + 1 := by
  unfold grow
  split
  · rename_i z
    exact ⟨h, d, List.ne_nil_of_mem z, Nat.le_succ _⟩
  · rename_i z
    refine ⟨fun m hm => ?_, ?_, by simp, by simp⟩
    · rcases List.mem_append.mp hm with hm | hm
      · exact h m hm
      · rw [List.mem_singleton.mp hm]
        exact ok
    · rw [List.nodup_append]
      exact ⟨d, by simp, fun x hx y hy e => z (by rw [← List.mem_singleton.mp hy, ← e]; exact hx)⟩
def spNames : Sp := fun vs H Q _ => ∃ a : Addr, vs = [.ref a] ∧ Pur H a ∧ ∀ ns p H', NamesOk ns → Ex (less a H) H' → Pur H' a → H' p = some (.tup (ns.map nmV)) → Q (.ref p) H'
abbrev s__law_names : Stmt := top 51
abbrev sc__law_names_N : List Str := ["_law_purse_here", "_law_found", "_law_turn", "_law_name_here"]
theorem sc__law_names : FnScope sc__law_names_N ["_law_purse_here"] (defScope s__law_names) := ⟨rfl, rfl, rfl, by decide +kernel, rfl, by decide +kernel, by decide +kernel⟩
theorem ok_names (D__law_draw : Has P w K mg base "_law_draw" 1 ["_law_purse_here", "_law_many"] spDraw) (D__law_name : Has P w K mg base "_law_name" 2 ["_law_purse_here"] spName) (F : FnP K "_law_names" s__law_names f fd) (m_range : mg "range" = none) (m_tuple : mg "tuple" = none) : FnOk P w K mg base CX0 3 f fd ["_law_purse_here"] spNames := by
  refine F.ok sc__law_names (fun vs H Q E h => by obtain ⟨a, rfl, _⟩ := h; rfl) (fun cdv A outer s H vs Q E hr h => ⟨_, PSs.nox
    (pss_cons (ps_set (i := 1) sc__law_names.nd rfl (Or.inl rfl) (pe_lst pa_nil)) (pss_cons (ps_for PassesOwn.never rfl (pi_range1 (by rfl) m_range (pa_cons (pe_op (addK K) pe_int (pe_has D__law_draw (hr.mono (by decide)) (pa_cons (pv 0) (pa_cons pe_int pa_nil)))) pa_nil)) (pg_name (i := 2) sc__law_names.nd rfl (Or.inl rfl)) (pss_cons (ps_set (i := 3) sc__law_names.nd rfl (Or.inl rfl) (pe_has D__law_name (hr.mono (by decide)) (pa_cons (pv 0) pa_nil))) (pss_cons (ps_set (i := 3) sc__law_names.nd rfl (Or.inl rfl) (pe_ifExp (pw_and (pt_cmpR (neK K hr) (pv 1) (pe_lst pa_nil) (nomark _)) (pw_and1 (pt_cmpR (eqK K hr) (pe_has D__law_draw (hr.mono (by decide)) (pa_cons (pv 0) (pa_cons pe_int pa_nil))) pe_int (nomark _)))).pt (pe_slice (slK K) (pe_op (addK K) (pe_ix (ixK K) (pv 1) (pe_un un_neg pe_int) (fun _ _ => rfl)) (pv 3)) po_none (po_some pe_int)) (pv 3))) (pss_one (ps_set (i := 1) sc__law_names.nd rfl (Or.inl rfl) (pe_op (addK K) (pv 1) (pe_ifExp (pt_cmpR (niK K hr) (pv 3) (pv 1) rfl) (pe_lst (pa_cons (pv 3) pa_nil)) (pe_lst pa_nil)))))))) (pss_one (ps_ret (pe_callTy call_tuple_of (by rfl) m_tuple (by decide +kernel) (pa_cons (pv 1) pa_nil)))))), ?_⟩)
  obtain ⟨a, rfl, p0, q⟩ := h
  refine q_asgL (xs := []) (el_lst ea_nil (by simp)) fun l H1 n1 g1 h1 => ?_
  have p1 := p0.keep g1
  have nel := p0.ne n1
  refine q_forDr (a := a) (G := less a H1) (m := 4) (R := fun k => 1 ≤ k) (dr_op (P1 := fun v => v = .int 1) (P2 := fun v => ∃ k, v = .int k ∧ 0 ≤ k ∧ k < 4) (dr_ev ev_c rfl) (dr_draw less_at rfl ev_c (by decide) (by decide)) fun x y hx hy => ?_) (by decide) less_ex p1
    (fun i σ' H' => ∃ (v2 v3 : Option V) (l : Addr) (ns : List Nm), σ' = [some (.ref a), some (.ref l), v2, v3] ∧ l ≠ a ∧ H' l = some (.lst (ns.map nmV)) ∧ (∀ n ∈ ns, NameOk n) ∧ ns.Nodup ∧ ns.length ≤ i ∧ (1 ≤ i → ns ≠ []) ∧ i ≤ 4 ∧ Ex (less a H) H' ∧ Pur H' a)
    (fun H2 e2 p2 => ⟨_, _, l, [], rfl, nel, e2 _ _ (by rw [less_ne nel]; exact h1), (fun _ h => nomatch h), List.nodup_nil, Nat.le_refl _, (fun z => absurd z (by decide)), by decide, (ex_less less_at (less_ex.trans g1)).trans e2, p2⟩) (fun i σ' H' hi z => ?_) fun k σ' H' k1 k0 z => ?_
  · obtain ⟨k, rfl, k0, k1⟩ := hy
    subst hx
    exact ⟨.int (1 + k), ⟨1 + k, rfl, by omega, by omega, by omega⟩, fun H => rv_addI⟩
  · obtain ⟨v2, v3, l, ns, rfl, nel, hl, ok, nd, len, ne, i4, x0, pu⟩ := z
    refine q_asgDr (a := a) (G := less a H') (dr_name less_at rfl) less_ex pu fun v H3 pv x3 p3 => ?_
    obtain ⟨n, rfl, okn⟩ := pv
    have hl3 := x3 _ _ (show less a H' l = some (.lst (ns.map nmV)) by rw [less_ne nel]; exact hl)
    have hlG : less a H3 l = some (.lst (ns.map nmV)) := by rw [less_ne nel]; exact hl3
    refine q_asgDr (a := a) (G := less a H3) (P := fun v => ∃ m, v = nmV m ∧ NameOk m) (dr_if (R := fun b => b = true → ns ≠ []) (dt_and (R1 := fun b => b = true → ns ≠ []) (R2 := fun _ => True) (dt_ev (b := !decide (ns = [])) (et_B (ev_opL (ev_var rfl) (el_lst ea_nil (by simp)) fun p H4 h4 x4 => rv_neDat (d := .list (ns.map nmD)) (e := .list (([] : List Nm).map nmD)) (da_nmL (x4 _ _ hlG)) (da_nmL h4) (pl_nmL ok) (pl_nmL fun _ h => nomatch h) (by
        show PyData.eqvAll (ns.map nmD) (([] : List Nm).map nmD) = _
        exact nms_eqv ns []))) fun b => by simpa using b)
      (fun _ => dt_B (dr_op (P1 := fun v => ∃ k, v = .int k ∧ 0 ≤ k ∧ k < 3) (P2 := fun v => v = .int 0) (dr_draw less_at rfl ev_c (by decide) (by decide)) (dr_ev ev_c rfl) fun x y hx hy => by
        obtain ⟨k, rfl, _⟩ := hx
        subst hy
        exact ⟨_, ⟨_, rfl, trivial⟩, fun H => rv_l (rv_eq rfl)⟩)) (fun f => f) (fun b f _ _ => f rfl)) (fun r => ?_) fun _ => dr_ev (ev_var rfl) ⟨n, rfl, okn⟩) less_ex p3 fun v H4 pv x4 p4 => ?_
    · have ne := r rfl
      obtain ⟨x, hx⟩ : ∃ x, ns.getLast? = some x := by
        cases z : ns.getLast? with
        | none => exact absurd (List.getLast?_eq_none_iff.mp z) ne
        | some x => exact ⟨x, rfl⟩
      have okx := ok x (List.mem_of_getLast? hx)
      have at_ : atI (ns.map nmV) (-1) = some (nmV x) := by
        unfold atI ixN
        have pos : 0 < ns.length := List.length_pos_iff.mpr ne
        rw [if_neg (by omega), if_pos (by rw [List.length_map]; omega)]
        rw [List.getLast?_eq_getElem?] at hx
        simp only [Option.bind_some, List.getElem?_map, List.length_map]
        rw [show ((-1 + (ns.length : Int)).toNat) = ns.length - 1 by omega, hx] <;> rfl
      refine dr_ev (v := nmV ((x ++ n).take 8)) (fun H5 e5 Q q => ?_) ⟨_, rfl, name_cut okx okn⟩
      refine (ev_op (ev_var rfl) (ev_un ev_c ru_neg) (rv_ixLX (sq_of hlG) at_) : Ev _ _ (less a H3) _) H5 e5 _ fun H6 e6 => ⟨nmV n, rfl, .inr (.inr (.inl ⟨SX.S x, SX.S n, rfl, rfl, ?_, ?_⟩))⟩
      · rw [SX.S_len, SX.S_len]
        have := okx.len
        have := okn.len
        exact sz_of (by omega)
      · rw [SX.S_cat]
        refine ⟨8, rfl, .inr (.inr ⟨_, rfl, ?_, ?_⟩)⟩
        · rw [SX.S_len, List.length_append]
          have := okx.len
          have := okn.len
          exact sz_of (by omega)
        · rw [cut8 _ (by rw [List.length_append]; have := okx.len; have := okn.len; omega)]
          exact q H6 e6
    · obtain ⟨m, rfl, okm⟩ := pv
      have hl4 := x4 _ _ hlG
      refine s_asgL (xs := (grow ns m).map nmV) (fun H5 e5 Q q => ?_) fun p H5 n5 e5 h5 => ?_
      · have key : EvL (tOp (rAddX K) (tVar 1) (tIf (tTest (tOp (fun x y H Q => (∃ (c : Nat) (z : Str), x = .str ⟨#[c]⟩ ∧ y = .str z ∧ Q (.bl (!decide (c ∈ z.cps.toList))) H) ∨ rInDat K true x y H Q) (tVar 3) (tVar 1))) (tLst (tCons (tVar 3) tNil)) (tLst tNil))) _ H4 (ns.map nmV ++ (if m ∈ ns then [] else [nmV m])) :=
          el_catX (σ := [some (.ref a), some (.ref l), some (.int (i : Int)), some (nmV m)]) (ev_var rfl) hl4 (el_ifY (b := !decide (m ∈ ns)) (et_B (ev_op (ev_var rfl) (ev_var rfl) (rv_niDat (d := nmD m) (c := .list (ns.map nmD)) (.inl rfl) (.str _) (da_nmL hl4) (pl_nm okm) (pl_nmL ok) (any_nm ns m)))) (fun b => ?_) fun b => ?_) (by
            rw [List.length_map]
            split <;> simp <;> omega)
        · have e : ns.map nmV ++ (if m ∈ ns then [] else [nmV m]) = (grow ns m).map nmV := by
            unfold grow
            split <;> simp
          rw [e] at key
          exact key H5 e5 Q q
        · rw [if_neg (by simpa using b)]
          exact el_lst (ea_cons (ev_var rfl) ea_nil) (by simp)
        · rw [if_pos (by simpa using b)]
          exact el_lst ea_nil (by simp)
      · obtain ⟨g1, g2, g3, g4⟩ := grow_ok ok nd okm
        exact ⟨_, _, p, grow ns m, rfl, p4.ne n5, h5, g1, g2, by omega, fun _ => g3, by omega, ((ex_less less_at ((ex_less less_at x0).trans x3)).trans x4).trans e5, p4.keep e5⟩
  · obtain ⟨v2, v3, l, ns, rfl, nel, hl, ok, nd, len, ne, i4, x0, pu⟩ := z
    refine ⟨.ref l, rfl, l, ns.map nmV, rfl, .inl ⟨sq_of hl, fun p hp => ?_⟩⟩
    exact q ns p _ ⟨ne (by omega), by omega, nd, ok⟩ (x0.trans (Ex.new hp)) (pur_new pu hp) upd_same
end
end K17
set_option Elab.async false
set_option linter.all false
set_option maxRecDepth 100000
set_option maxHeartbeats 4000000
namespace K17
open PySem PySem.Spec PyProof.Rows L2 Evl SwX
section
variable {P : Program} {w : World} {K : PySem.W.Frag} {mg : Str → Option Value} {base : Heap} {f : Addr} {fd : FuncData}
/-- names[draw(len(names))] -/
theorem dr_one {a q0 : Addr} {σ : L2.St} {G : Hp} {ns : List Nm} {i : Nat} {E : XK} (n : G a = none) (h : σ[0]? = some (some (.ref a))) (hi : σ[i]? = some (some (.ref q0))) (hq : SqT K G q0 (ns.map nmV)) (ne : ns ≠ []) (len : ns.length ≤ 4) :
    Dr a (tOp (rIx K) (tVar i) (tCall spDraw [] E (tCons (tVar 0) (tCons (tCB (rLenY K) (tCons (tVar i) tNil)) tNil)))) σ G fun v => ∃ m, v = nmV m ∧ m ∈ ns := by
  have pos : 0 < ns.length := List.length_pos_iff.mpr ne
  refine dr_opG (P1 := fun v => v = .ref q0) (P2 := fun v => ∃ k, v = .int k ∧ 0 ≤ k ∧ k < (ns.length : Nat)) (dr_ev (ev_var hi) rfl) (dr_draw n h (ev_is (ev_lenL (ev_var hi) (.inr hq)) (by rw [List.length_map])) (by omega) (by omega)) fun x y hx hy => ?_
  obtain ⟨k, rfl, k0, k1⟩ := hy
  subst hx
  obtain ⟨v, hv, hv2⟩ := atI_nat (xs := ns.map nmV) k0 (by rw [List.length_map]; exact k1)
  obtain ⟨m, hm, rfl⟩ := List.mem_map.mp (List.mem_of_getElem? hv2)
  exact ⟨_, ⟨m, rfl, hm⟩, rv_ixTX hq hv⟩
theorem nms_back {ns : List Nm} : ∀ {xs : List V}, (∀ x ∈ xs, ∃ m, x = nmV m ∧ m ∈ ns) → ∃ ps : List Nm, xs = ps.map nmV ∧ (∀ p ∈ ps, p ∈ ns) ∧ ps.length = xs.length
  | [], _ => ⟨[], rfl, (fun _ h => nomatch h), rfl⟩
  | x :: xs, h => by
    obtain ⟨m, rfl, hm⟩ := h x List.mem_cons_self
    obtain ⟨ps, rfl, hp, l⟩ := nms_back (xs := xs) fun y hy => h y (List.mem_cons_of_mem _ hy)
    exact ⟨m :: ps, rfl, fun d hd => (List.mem_cons.mp hd).elim (fun e => e ▸ hm) (hp d), congrArg Nat.succ l⟩
def spRule (K : PySem.W.Frag) : Sp := fun vs H Q _ => ∃ (a q0 : Addr) (ns : List Nm), vs = [.ref a, .ref q0] ∧ Pur H a ∧ SqT K (less a H) q0 (ns.map nmV) ∧ NamesOk ns ∧ ∀ r p H', RulOk ns r → Ex (less a H) H' → Pur H' a → Da K (less a H') (.ref p) (rulD r) → Q (.ref p) H'
abbrev s__law_rule : Stmt := top 52
abbrev sc__law_rule_N : List Str := ["_law_purse_here", "_law_names_here", "_law_parts", "_law_k"]
theorem sc__law_rule : FnScope sc__law_rule_N ["_law_purse_here", "_law_names_here"] (defScope s__law_rule) := ⟨rfl, rfl, rfl, by decide +kernel, rfl, by decide +kernel, by decide +kernel⟩
theorem ok_rule (D__law_draw : Has P w K mg base "_law_draw" 1 ["_law_purse_here", "_law_many"] spDraw) (F : FnP K "_law_rule" s__law_rule f fd) (m_range : mg "range" = none) (m_tuple : mg "tuple" = none) (m_len : mg "len" = none) : FnOk P w K mg base CX0 2 f fd ["_law_purse_here", "_law_names_here"] (spRule K) := by
  refine F.ok sc__law_rule (fun vs H Q E h => by obtain ⟨a, q0, ns, rfl, _⟩ := h; rfl) (fun cdv A outer s H vs Q E hr h => ⟨_, PSs.nox
    (pss_cons (ps_set (i := 2) sc__law_rule.nd rfl (Or.inl rfl) (pe_callTy call_tuple_of (by rfl) m_tuple (by decide +kernel) (pa_cons (pe_lc (own := [("_law_k", 3)]) (g := gName 3) (tt := tYes) rfl sc__law_rule.nd (pi_range1 (by rfl) m_range (pa_cons (pe_has D__law_draw (hr.mono (by decide)) (pa_cons (pv 0) (pa_cons pe_int pa_nil))) pa_nil)) (blkOk_by (N := sc__law_rule_N) (sc := defScope s__law_rule) (by decide +kernel)) (fun _ _ _ _ _ => pg_name (i := 3) sc__law_rule.nd rfl (Or.inl rfl)) (fun _ _ _ _ _ => pts_nil) (fun _ _ _ _ _ => (pe_ix (ixK K) (pv 1) (pe_has D__law_draw (hr.mono (by decide)) (pa_cons (pv 0) (pa_cons (pe_callB (lenK K) (by rfl) m_len (by decide +kernel) (pa_cons (pv 1) pa_nil)) pa_nil))) (fun _ _ => rfl)))) pa_nil))) (pss_one (ps_ret (pe_tup (pa_cons (pe_ix (ixK K) (pv 1) (pe_has D__law_draw (hr.mono (by decide)) (pa_cons (pv 0) (pa_cons (pe_callB (lenK K) (by rfl) m_len (by decide +kernel) (pa_cons (pv 1) pa_nil)) pa_nil))) (fun _ _ => rfl)) (pa_cons (pe_op (addK K) pe_int (pe_has D__law_draw (hr.mono (by decide)) (pa_cons (pv 0) (pa_cons pe_int pa_nil)))) (pa_cons (pv 2) pa_nil))))))), ?_⟩)
  obtain ⟨a, q0, ns, rfl, p0, hq, ok, q⟩ := h
  refine q_asgTupL (a := a) (G := less a H) (m := 3) (P := fun v => ∃ m, v = nmV m ∧ m ∈ ns) (drl_lc less_at (Dr.imp (dr_draw less_at rfl ev_c (by decide) (by decide)) fun v z => ?_) (by decide) (fun _ => rfl) fun i G' n' g' => dr_one n' rfl rfl (ex_t g' hq) ok.ne ok.len) less_ex p0 fun q1 xs H1 lx px h1 ne1 e1 p1 => ?_
  · obtain ⟨k, rfl, k0, k1⟩ := z
    exact ⟨k, rfl, k0, by omega⟩
  obtain ⟨ps, rfl, hps, lps⟩ := nms_back px
  have hG : less a H1 q1 = some (.tup (ps.map nmV)) := by rw [less_ne ne1]; exact h1
  have e1' := ex_less less_at e1
  refine (dr_one less_at rfl rfl (ex_t e1' hq) ok.ne ok.len : Dr a _ _ (less a H1) _) H1 less_ex p1 _ fun v1 H2 pv1 e2 p2 => ?_
  obtain ⟨m, rfl, hm⟩ := pv1
  refine (dr_op (P := fun v => ∃ o : Nat, v = .int (o : Int) ∧ 1 ≤ o ∧ o ≤ 9) (P1 := fun v => v = .int 1) (P2 := fun v => ∃ k, v = .int k ∧ 0 ≤ k ∧ k < 9) (dr_ev ev_c rfl) (dr_draw less_at rfl ev_c (by decide) (by decide)) (fun x y hx hy => ?_) : Dr a _ _ (less a H1) _) H2 e2 p2 _ fun v2 H3 pv2 e3 p3 => ?_
  · obtain ⟨k, rfl, k0, k1⟩ := hy
    subst hx
    refine ⟨.int (1 + k), ⟨(1 + k).toNat, ?_, by omega, by omega⟩, fun H => rv_addI⟩
    rw [show ((1 + k).toNat : Int) = 1 + k by omega]
  obtain ⟨o, rfl, o1, o9⟩ := pv2
  refine ⟨.ref q1, rfl, show 3 ≤ sizeLine by decide, fun p hp => ?_⟩
  have nep := p3.ne hp
  have z : less a (upd H3 p (.tup [nmV m, .int (o : Int), .ref q1])) q1 = some (.tup (ps.map nmV)) := by
    rw [less_ne ne1]
    exact (Ex.new hp) _ _ (e3 _ _ hG)
  have fin := q (m, o, ps) p _ ⟨hm, o1, o9, by have z : (List.map nmV ps).length ≤ 3 := lx; rw [List.length_map] at z; exact z, hps⟩ ((e1'.trans e3).trans (Ex.new hp)) (pur_new p3 hp) (da_tuple (xs := [nmV m, .int (o : Int), .ref q1]) (.inl (.inl (by rw [less_ne nep, upd_same]))) (.cons (.str _) (.cons (.int _) (.cons (da_nms (.inl (.inl z))) .nil))))
  exact fin
def growR (rs : List Rul) (r : Rul) : List Rul := if r ∈ rs then rs else rs ++ [r]
theorem growR_ok {ns : List Nm} {rs : List Rul} {r : Rul} (h : ∀ m ∈ rs, RulOk ns m) (d : rs.Nodup) (ok : RulOk ns r) : (∀ m ∈ growR rs r, RulOk ns m) ∧ (growR rs r).Nodup ∧ (growR rs r).length ≤ rs.length + 1 := by
  unfold growR
  split
  · rename_i z
    exact ⟨h, d, Nat.le_succ _⟩
  · rename_i z
    refine ⟨fun m hm => ?_, ?_, by simp⟩
    · rcases List.mem_append.mp hm with hm | hm
      · exact h m hm
      · rw [List.mem_singleton.mp hm]
        exact ok
    · rw [List.nodup_append]
      exact ⟨d, by simp, fun x hx y hy e => z (by rw [← List.mem_singleton.mp hy, ← e]; exact hx)⟩
def spRules (K : PySem.W.Frag) : Sp := fun vs H Q _ => ∃ (a q0 : Addr) (ns : List Nm) (most : Nat), vs = [.ref a, .ref q0, .int (most : Int)] ∧ most ≤ 100 ∧ Pur H a ∧ SqT K (less a H) q0 (ns.map nmV) ∧ NamesOk ns ∧
  ∀ rs p H', rs.length ≤ most → rs.Nodup → (∀ r ∈ rs, RulOk ns r) → Ex (less a H) H' → Pur H' a → Da K (less a H') (.ref p) (rulsD rs) → Q (.ref p) H'
theorem paired_less {K : PySem.W.Frag} {a : Addr} {H : Hp} {rs : List Rul} {vs : List V} (h : Paired (fun r v => DaA K a (rulD r) v H) rs vs) : Paired (fun r v => DaA K a (rulD r) v (less a H)) rs vs := by
  have e : less a (less a H) = less a H := by
    funext b
    unfold less
    split <;> rfl
  unfold DaA at h ⊢
  rw [e]
  exact h
theorem paired_map {α β γ : Type} {F : γ → β → Prop} {g : α → γ} : ∀ {is : List α} {vs : List β}, Paired (fun i v => F (g i) v) is vs → Paired F (is.map g) vs
  | _, _, .nil => .nil
  | _, _, .cons h t => .cons h (paired_map t)
abbrev s__law_rules : Stmt := top 53
abbrev sc__law_rules_N : List Str := ["_law_purse_here", "_law_names_here", "_law_most", "_law_found", "_law_turn", "_law_rule_here"]
theorem sc__law_rules : FnScope sc__law_rules_N ["_law_purse_here", "_law_names_here", "_law_most"] (defScope s__law_rules) := ⟨rfl, rfl, rfl, by decide +kernel, rfl, by decide +kernel, by decide +kernel⟩
theorem ok_rules (D__law_draw : Has P w K mg base "_law_draw" 1 ["_law_purse_here", "_law_many"] spDraw) (D__law_rule : Has P w K mg base "_law_rule" 2 ["_law_purse_here", "_law_names_here"] (spRule K)) (F : FnP K "_law_rules" s__law_rules f fd) (m_range : mg "range" = none) (m_tuple : mg "tuple" = none) : FnOk P w K mg base CX0 3 f fd ["_law_purse_here", "_law_names_here", "_law_most"] (spRules K) := by
  refine F.ok sc__law_rules (fun vs H Q E h => by obtain ⟨a, q0, ns, m, rfl, _⟩ := h; rfl) (fun cdv A outer s H vs Q E hr h => ⟨_, PSs.nox
    (pss_cons (ps_set (i := 3) sc__law_rules.nd rfl (Or.inl rfl) (pe_lst pa_nil)) (pss_cons (ps_for PassesOwn.never rfl (pi_range1 (by rfl) m_range (pa_cons (pe_has D__law_draw (hr.mono (by decide)) (pa_cons (pv 0) (pa_cons (pe_op (addK K) (pv 2) pe_int) pa_nil))) pa_nil)) (pg_name (i := 4) sc__law_rules.nd rfl (Or.inl rfl)) (pss_cons (ps_set (i := 5) sc__law_rules.nd rfl (Or.inl rfl) (pe_has D__law_rule (hr.mono (by decide)) (pa_cons (pv 0) (pa_cons (pv 1) pa_nil)))) (pss_one (ps_set (i := 3) sc__law_rules.nd rfl (Or.inl rfl) (pe_op (addK K) (pv 3) (pe_ifExp (pt_cmpR (niK K hr) (pv 5) (pv 3) rfl) (pe_lst (pa_cons (pv 5) pa_nil)) (pe_lst pa_nil))))))) (pss_one (ps_ret (pe_callTy call_tuple_of (by rfl) m_tuple (by decide +kernel) (pa_cons (pv 3) pa_nil)))))), ?_⟩)
  obtain ⟨a, q0, ns, most, rfl, m100, p0, hq, ok, q⟩ := h
  refine q_asgL (xs := []) (el_lst ea_nil (by simp)) fun l H1 n1 g1 h1 => ?_
  have p1 := p0.keep g1
  have nel := p0.ne n1
  refine q_forDr (a := a) (G := less a H1) (m := most) (R := fun _ => True) (Dr.imp (dr_draw (m := (most : Int) + 1) less_at rfl (ev_op (ev_var rfl) ev_c rv_addI) (by omega) (by omega)) fun v z => ?_) (by omega) less_ex p1
    (fun i σ' H' => ∃ (v4 v5 : Option V) (l : Addr) (rs : List Rul) (vs : List V), σ' = [some (.ref a), some (.ref q0), some (.int (most : Int)), some (.ref l), v4, v5] ∧ l ≠ a ∧ H' l = some (.lst vs) ∧ Paired (fun r v => DaA K a (rulD r) v H') rs vs ∧ (∀ r ∈ rs, RulOk ns r) ∧ rs.Nodup ∧ rs.length ≤ i ∧ i ≤ most ∧ Ex (less a H) H' ∧ Pur H' a)
    (fun H2 e2 p2 => ⟨_, _, l, [], [], rfl, nel, e2 _ _ (by rw [less_ne nel]; exact h1), .nil, (fun _ h => nomatch h), List.nodup_nil, Nat.le_refl _, Nat.zero_le _, (ex_less less_at (less_ex.trans g1)).trans e2, p2⟩) (fun i σ' H' hi z => ?_) fun k σ' H' _ k0 z => ?_
  · obtain ⟨k, rfl, k0, k1⟩ := z
    exact ⟨k, rfl, k0, by omega, trivial⟩
  · obtain ⟨v4, v5, l, rs, vs, rfl, nel, hl, pr, ok', nd, len, im, x0, pu⟩ := z
    refine ⟨.ref a, rfl, .ref q0, rfl, a, q0, ns, rfl, pu, ex_t (ex_less less_at x0) hq, ok, fun r p H3 okr x3 p3 dr => ?_⟩
    have hl3 := x3 _ _ (show less a H' l = some (.lst vs) by rw [less_ne nel]; exact hl)
    have pr3 : Paired (fun r v => DaA K a (rulD r) v H3) rs vs := paired_mono (F := fun (r : Rul) v H => DaA K a (rulD r) v H) (show Ex (less a H') H3 from x3) (fun r v H H' e h => daA_mono _ v H H' e h) (paired_less pr)
    have okn : ∀ m ∈ rs, RulNm m := fun m hm => (ok' m hm).nm ok.ok
    have dl : Da K H3 (.ref l) (.list (rs.map rulD)) := da_list hl3 (paired_map (g := rulD) (F := fun d v => Da K H3 v d) (paired_mono (F := fun (r : Rul) v H => Da K H v (rulD r)) (less_ex (a := a)) (fun r v H H' e h => Da.mono e h) pr3))
    refine s_asgL (xs := vs ++ (if r ∈ rs then [] else [.ref p])) (el_catX (K := K) (ev_var rfl) hl3 (el_ifY (b := !decide (r ∈ rs)) (et_B (ev_op (ev_var rfl) (ev_var rfl) (rv_niDat (d := rulD r) (c := .list (rs.map rulD)) (.inl rfl) (dr.mono less_ex) dl (pl_rul (okr.nm ok.ok)) (pl_rulL okn) (any_rul rs r)))) (fun b => ?_) fun b => ?_) (by
      rw [← paired_len pr]
      split <;> simp <;> omega)) fun c H4 n4 e4 h4 => ?_
    · rw [if_neg (by simpa using b)]
      exact el_lst (ea_cons (ev_var rfl) ea_nil) (by simp)
    · rw [if_pos (by simpa using b)]
      exact el_lst ea_nil (by simp)
    · obtain ⟨g1, g2, g3⟩ := growR_ok ok' nd okr
      refine ⟨_, _, c, growR rs r, _, rfl, p3.ne n4, h4, ?_, g1, g2, by omega, by omega, ((ex_less less_at x0).trans x3).trans e4, p3.keep e4⟩
      have base' := paired_mono (F := fun (r : Rul) v H => DaA K a (rulD r) v H) e4 (fun r v H H' e h => daA_mono _ v H H' e h) pr3
      unfold growR
      split
      · rw [List.append_nil]
        exact base'
      · exact paired_append base' (.cons (daA_mono _ _ _ _ e4 dr) .nil)
  · obtain ⟨v4, v5, l, rs, vs, rfl, nel, hl, pr, ok', nd, len, im, x0, pu⟩ := z
    refine ⟨.ref l, rfl, l, vs, rfl, .inl ⟨sq_of hl, fun p hp => ?_⟩⟩
    have nep := pu.ne hp
    refine q rs p _ (by omega) nd ok' (x0.trans (Ex.new hp)) (pur_new pu hp) (da_tuple (.inl (.inl (by rw [less_ne nep, upd_same]))) ?_)
    exact paired_map (g := rulD) (F := fun d v => Da K (less a (upd H' p (.tup vs))) v d) (paired_mono (F := fun (r : Rul) v H => DaA K a (rulD r) v H) (Ex.new hp) (fun r v H H' e h => daA_mono _ v H H' e h) pr)
end
end K17
set_option Elab.async false
set_option linter.all false
set_option maxRecDepth 100000
set_option maxHeartbeats 4000000
namespace K17
open PySem PySem.Spec PyProof.Rows L2 Evl SwX
section
variable {P : Program} {w : World} {K : PySem.W.Frag} {mg : Str → Option Value} {base : Heap} {f : Addr} {fd : FuncData}
def spText (K : PySem.W.Frag) : Sp := fun vs H Q _ => ∃ (p : Addr) (x : V) (ns : List Nm) (rs : List Rul), vs = [.ref p, x] ∧ SqT K H p (ns.map nmV) ∧ Da K H x (rulsD rs) ∧ ns.length ≤ 10 ∧ rs.length ≤ 20 ∧ (∀ n ∈ ns, NameOk n) ∧ (∀ r ∈ rs, RulNm r ∧ r.2.1 ≤ 9 ∧ r.2.2.length ≤ 10) ∧ ∀ H', Ex H H' → Q (.str (SX.S (textL ns rs))) H'
theorem joinL_len {B : Nat} {sep : List Nat} (hs : sep.length ≤ 2) : ∀ {l : List (List Nat)}, (∀ x ∈ l, x.length ≤ B) → (TL.joinL sep l).length ≤ (B + 2) * l.length
  | [], _ => Nat.zero_le _
  | [x], h => by
    have := h x List.mem_cons_self
    show x.length ≤ _
    simp
    omega
  | x :: y :: l, h => by
    have z := joinL_len hs (l := y :: l) fun u hu => h u (List.mem_cons_of_mem _ hu)
    have := h x List.mem_cons_self
    show (x ++ (sep ++ TL.joinL sep (y :: l))).length ≤ _
    rw [List.length_append, List.length_append, List.length_cons, Nat.mul_add]
    omega
theorem row_len {r : Rul} (h : RulNm r) (o : r.2.1 ≤ 9) (l : r.2.2.length ≤ 10) : (rowL r).length ≤ 150 := by
  have z := joinL_len (B := 8) (sep := [32]) (by decide) (l := r.2.2) fun p hp => (h.2 p hp).len
  have n := TL.numL_len (n := r.2.1) (k := 1) (by decide) (by omega)
  have m := h.1.len
  have e : (8 + 2) * r.2.2.length ≤ (8 + 2) * 10 := Nat.mul_le_mul_left _ l
  unfold rowL tailL
  split <;> simp only [List.length_append, List.length_cons, List.length_nil] <;> omega
theorem head_len {ns : List Nm} (h : ∀ n ∈ ns, NameOk n) (l : ns.length ≤ 10) : (headL ns).length ≤ 150 := by
  have z := joinL_len (B := 8) (sep := [32]) (by decide) (l := kindsL :: ns) fun p hp => (List.mem_cons.mp hp).elim (fun e => by rw [e]; decide) fun hp => (h p hp).len
  have e : (8 + 2) * (kindsL :: ns).length ≤ (8 + 2) * 11 := Nat.mul_le_mul_left _ (by simp; omega)
  unfold headL
  omega

/-! evaluation of the parts -/
theorem ev_tail {σ : L2.St} {H : Hp} {c : Addr} {ps : List Nm} (h5 : σ[5]? = some (some (.ref c))) (hc : SqT K H c (ps.map nmV)) (ok : ∀ p ∈ ps, NameOk p) (l : ps.length ≤ 10) :
    Ev (tIf (tTest (tOp (fun x y H Q => rNe x y H Q ∨ rEqDat K not x y H Q) (tVar 5) (tTup tNil))) (tOp (rAddX K) (tC (.str (SX.S [58, 32]))) (tM1 (rJoin K) (tC (.str (SX.S [32]))) (tVar 5))) (tC (.str (SX.S [])))) σ H (.str (SX.S (tailL ps))) := by
  have w3 := joinL_len (B := 8) (sep := [32]) (by decide) (l := ps) fun p hp => (ok p hp).len
  have w4 : (8 + 2) * ps.length ≤ (8 + 2) * 10 := Nat.mul_le_mul_left _ l
  refine ev_if (b := !decide (ps = [])) (et_B (ev_opU (ev_var h5) (eu_tup ea_nil (by simp)) fun u H3 h3 e3 => rv_neDat (d := nmsD ps) (e := nmsD []) (da_nms (ex_t e3 hc)) (da_nms (.inl (.inl h3))) (pl_nms ok) (pl_nms fun _ h => nomatch h) (nmsD_eqv _ _))) (fun z => ?_) fun z => ?_
  · unfold tailL
    rw [if_neg (by simpa using z)]
    exact ev_op ev_c (ev_joinS (l := ps) (B := 8) ev_c (ev_var h5) (.inr (by rw [← S_map]; exact hc)) (fun u hu => (ok u hu).len) ⟨by decide, by omega, by decide⟩) (rv_addS (by simp only [List.length_cons, List.length_nil]; omega))
  · unfold tailL
    rw [if_pos (by simpa using z)]
    exact ev_c
theorem tail_len {ps : List Nm} (ok : ∀ p ∈ ps, NameOk p) (l : ps.length ≤ 10) : (tailL ps).length ≤ 102 := by
  have w3 := joinL_len (B := 8) (sep := [32]) (by decide) (l := ps) fun p hp => (ok p hp).len
  have w4 : (8 + 2) * ps.length ≤ (8 + 2) * 10 := Nat.mul_le_mul_left _ l
  unfold tailL
  split <;> simp only [List.length_append, List.length_cons, List.length_nil] <;> omega
theorem ev_strI {σ : L2.St} {H : Hp} {te : TE} {o : Nat} (h : Ev te σ H (.int (o : Int))) (l : o < 1000) : Ev (tCB rStrY (tCons te tNil)) σ H (.str (SX.S (TL.numL o))) := fun H1 e1 Q q => h H1 e1 _ fun H2 e2 => .inl ⟨o, rfl, by
  have : (o : Int).natAbs.log2 < 10 := by
    by_cases z : o = 0
    · subst z
      decide
    · exact (Nat.log2_lt (by omega)).mpr (by omega)
  omega, by rw [numS]; exact q H2 e2⟩
theorem ea_star {σ : L2.St} {H : Hp} {te : TE} {tr : TA} {p : Addr} {xs vs : List V} (h : Ev te σ H (.ref p)) (hp : SqT K H p xs) (hr : EvA tr σ H vs) : EvA (StX.tStar K te tr) σ H (xs ++ vs) := fun H1 e1 Q q =>
  h H1 e1 _ fun H2 e2 => ⟨p, xs, rfl, .inl (ex_t (e1.trans e2) hp), hr H2 (e1.trans e2) _ fun H3 e3 => q H3 (e2.trans e3)⟩
/-- sep.join(a tuple made on the way) -/
theorem ev_joinY {σ : L2.St} {H : Hp} {to te : TE} {sep : List Nat} {l : List (List Nat)} {B : Nat} (ho : Ev to σ H (.str (SX.S sep))) (he : Yi te σ H fun v H' => ∃ p, v = .ref p ∧ SqT K H' p ((l.map SX.S).map V.str)) (hB : ∀ x ∈ l, x.length ≤ B) (small : B ≤ 1000 ∧ l.length ≤ 1000 ∧ sep.length ≤ 10) :
    Ev (tM1 (rJoin K) to te) σ H (.str (SX.S (TL.joinL sep l))) := fun H1 e1 Q q => ho H1 e1 _ fun H2 e2 => ⟨⟨_, rfl⟩, he H2 (e1.trans e2) _ fun v H3 e3 z => by
  obtain ⟨p, rfl, hp⟩ := z
  have s := sum_small hB
  obtain ⟨b, c, d⟩ := small
  have m1 : B * l.length ≤ 1000 * 1000 := Nat.mul_le_mul b c
  have m2 : (l.map SX.S).length * (SX.S sep).length ≤ 1000 * 10 := Nat.mul_le_mul (by rw [List.length_map]; exact c) (by rw [SX.S_len]; exact d)
  exact ⟨SX.S sep, p, _, rfl, rfl, .inr hp, by omega, by rw [SX.join_S]; exact q H3 (e2.trans e3)⟩⟩
theorem heads (ns : List Nm) : V.str (SX.S kindsL) :: ns.map nmV = ((kindsL :: ns).map SX.S).map V.str := by rw [S_map] <;> rfl
/-- ("kinds",) + names -/
theorem yi_headA {σ : L2.St} {H : Hp} {p : Addr} {ns : List Nm} (h0 : σ[0]? = some (some (.ref p))) (hp : SqT K H p (ns.map nmV)) (l : ns.length ≤ 10) : Yi (tOp (rAddX K) (tTup (tCons (tC (.str (SX.S kindsL))) tNil)) (tVar 0)) σ H fun v H' => ∃ q, v = .ref q ∧ SqT K H' q (((kindsL :: ns).map SX.S).map V.str) := fun H1 e1 Q q =>
  (eu_tup (ea_cons ev_c ea_nil) (by simp) : EvU _ σ H [.str (SX.S kindsL)]) H1 e1 _ fun u H2 n2 e2 h2 => by
    refine ⟨.ref p, h0, .inr (.inr (.inr ⟨u, p, _, _, rfl, rfl, .inl (.inl h2), ex_t (e1.trans e2) hp, sz_of (by simp; omega), (fun z => nomatch z), fun _ z => ?_, fun _ z c hc => ?_⟩))⟩
    · have e : ns = [] := by simpa using z
      subst e
      exact q _ H2 e2 ⟨u, rfl, .inl (.inl h2)⟩
    · exact q _ _ (e2.trans (Ex.new hc)) ⟨c, rfl, .inl (.inl (by rw [upd_same, ← heads]; rfl))⟩
/-- ("kinds", *names) -/
theorem yi_headB {σ : L2.St} {H : Hp} {p : Addr} {ns : List Nm} (h0 : σ[0]? = some (some (.ref p))) (hp : SqT K H p (ns.map nmV)) (l : ns.length ≤ 10) : Yi (tTup (tCons (tC (.str (SX.S kindsL))) (StX.tStar K (tVar 0) tNil))) σ H fun v H' => ∃ q, v = .ref q ∧ SqT K H' q (((kindsL :: ns).map SX.S).map V.str) := fun H1 e1 Q q =>
  (eu_tup (ea_cons ev_c (ea_star (ev_var h0) hp ea_nil)) (by simp; omega) : EvU _ σ H (.str (SX.S kindsL) :: (ns.map nmV ++ []))) H1 e1 _ fun u H2 n2 e2 h2 => q _ H2 e2 ⟨u, rfl, .inl (.inl (by rw [h2, ← heads, List.append_nil]))⟩
/-- w + " " + str(o) + tail -/
theorem row_eq (r : Rul) : r.1 ++ [32] ++ TL.numL r.2.1 ++ tailL r.2.2 = rowL r := by
  unfold rowL
  simp only [List.append_assoc]
theorem js_row {σ : L2.St} {H : Hp} {r : Rul} (h3 : σ[3]? = some (some (nmV r.1))) (h4 : σ[4]? = some (some (.int (r.2.1 : Nat)))) (o : r.2.1 ≤ 9) (l : r.1.length ≤ 8) : Ev (fun σ H Q => tJs [tFmt (tVar 3), tC (.str (SX.S [32])), tFmt (tVar 4)] Str.empty σ H fun out H1 => Q (.str out) H1) σ H (.str (SX.S (r.1 ++ [32] ++ TL.numL r.2.1))) := fun H1 e1 Q q => by
  have e0 : Str.empty = SX.S [] := rfl
  have n := TL.numL_len (n := r.2.1) (k := 1) (by decide) (by omega)
  rw [e0]
  refine (ev_fmtS (x := r.1) (ev_var h3) (by omega) : Ev _ σ H _) H1 e1 _ fun H2 e2 => ⟨_, rfl, by rw [SX.S_cat, SX.S_len]; exact sz_of (by simp; omega), ?_⟩
  refine ⟨_, rfl, by rw [SX.S_cat, SX.S_cat, SX.S_len]; exact sz_of (by simp; omega), ?_⟩
  refine (ev_fmtI (ev_var h4) (by omega) : Ev _ σ H _) H2 (e1.trans e2) _ fun H3 e3 => ⟨_, rfl, by rw [SX.S_cat, SX.S_cat, SX.S_cat, SX.S_len]; exact sz_of (by simp; omega), ?_⟩
  show Q (.str (SX.S [] ++ SX.S r.1 ++ SX.S [32] ++ SX.S (TL.numL r.2.1))) H3
  rw [SX.S_cat, SX.S_cat, SX.S_cat, List.nil_append]
  exact q H3 (e2.trans e3)
abbrev s_text_of : Stmt := top 38
abbrev sc_text_of_N : List Str := ["kinds", "recipes", "lines", "kind", "own", "parts"]
theorem sc_text_of : FnScope sc_text_of_N ["kinds", "recipes"] (defScope s_text_of) := ⟨rfl, rfl, rfl, by decide +kernel, rfl, by decide +kernel, by decide +kernel⟩
theorem ok_text_of (F : FnP K "text_of" s_text_of f fd) : FnOk P w K mg base CX0 1 f fd ["kinds", "recipes"] (spText K) := by
  refine F.ok sc_text_of (fun vs H Q E h => by obtain ⟨p, x, ns, rs, rfl, _⟩ := h; rfl) (fun cdv A outer s H vs Q E hr h => ⟨_, PSs.nox
    (pss_cons (ps_set (i := 2) sc_text_of.nd rfl (Or.inl rfl) (pe_lst (pa_cons (pe_join pe_str (pe_tup (pa_cons pe_str (StX.pa_star (pv 0) pa_nil)))) pa_nil))) (pss_cons (ps_for PassesOwn.never rfl (pi_tup (pv 1)) (pg_tup rfl (pgs_cons (pg_name (i := 3) sc_text_of.nd rfl (Or.inl rfl)) (pgs_cons (pg_name (i := 4) sc_text_of.nd rfl (Or.inl rfl)) (pgs_cons (pg_name (i := 5) sc_text_of.nd rfl (Or.inl rfl)) pgs_nil)))) (pss_one (ps_expr (pe_bm PySem.F.plainAttrs_list PySem.F.slot_list_append PySem.F.type_list_append mt_append (pv 2) (pa_cons (pe_op (addK K) (pe_joined (PJ.cons (pe_fmt (pv 3)) (PJ.cons pe_str (PJ.cons (pe_fmt (pv 4)) PJ.nil)))) (pe_ifExp (pt_cmpR (neK K hr) (pv 5) (pe_tup pa_nil) (nomark _)) (pe_op (addK K) pe_str (pe_join pe_str (pv 5))) pe_str)) pa_nil))))) (pss_one (ps_ret (pe_join pe_str (pv 2)))))), ?_⟩)
  obtain ⟨p, x, ns, rs, rfl, hp, hx, ln, lr, okn, okr, q⟩ := h
  obtain ⟨q0, xs, rfl, hq, pr⟩ := da_ruls rs hx
  have s1 : ("kinds" : Str) = SX.S kindsL := by decide +kernel
  have s2 : (" " : Str) = SX.S [32] := by decide +kernel
  have s3 : (": " : Str) = SX.S [58, 32] := by decide +kernel
  have s4 : ("" : Str) = SX.S [] := by decide +kernel
  have s5 : ("\n" : Str) = SX.S [10] := by decide +kernel
  rw [s1, s2, s3, s4, s5]
  refine q_asgL (xs := [.str (SX.S (headL ns))]) (el_lst (ea_cons (ev_joinY (K := K) (l := kindsL :: ns) (B := 8) ev_c (yi_headB rfl hp ln) (fun z hz => (List.mem_cons.mp hz).elim (fun e => by rw [e]; decide) fun hz => (okn z hz).len) ⟨by decide, by simp; omega, by decide⟩) ea_nil) (by simp)) fun l H1 n1 e1 h1 => ?_
  refine ⟨.ref q0, rfl, q0, rfl, ⟨xs, ex_t e1 hq⟩, for_tup (xs := xs) (fun i σ' H' => ∃ (a3 a4 a5 : Option V), σ' = [some (.ref p), some (.ref q0), some (.ref l), a3, a4, a5] ∧ H' l = some (.lst (((headL ns :: (rs.map rowL).take i).map SX.S).map V.str)) ∧ Ex H H') ⟨_, _, _, rfl, by simpa using h1, e1⟩ (fun i σ' H' _ z => ?_) (fun i y σ' H' hy z => ?_) fun σ' H' z => ?_⟩
  · obtain ⟨_, _, _, _, _, e⟩ := z
    exact ex_t e hq
  · obtain ⟨a3, a4, a5, rfl, hl, e⟩ := z
    have lt : i < rs.length := by
      have := (List.getElem?_eq_some_iff.mp hy).1
      rw [← paired_len pr] at this
      exact this
    have at_ : rs[i]? = some rs[i] := by simp [lt]
    obtain ⟨y', hy', dy⟩ := SwX.paired_get pr at_
    rw [hy] at hy'
    cases hy'
    obtain ⟨okr1, okr2, okr3⟩ := okr rs[i] (List.getElem_mem lt)
    generalize hr' : rs[i] = r at dy okr1 okr2 okr3
    obtain ⟨b, c, rfl, hb, hc⟩ := da_rul (dy.mono e)
    refine ⟨b, _, rfl, hb, rfl, _, _, rfl, _, _, rfl, _, _, rfl, rfl, ?_⟩
    refine s_app hl (ev_var rfl) (v := .str (SX.S (rowL r))) ?_ (by simp; omega) fun H2 e2 => ⟨_, _, _, rfl, ?_, ?_⟩
    · refine ev_is (ev_op (js_row rfl rfl okr2 okr1.1.len) (ev_tail rfl hc okr1.2 okr3) (rv_addS (by have := okr1.1.len; have := tail_len okr1.2 okr3; have := TL.numL_len (n := r.2.1) (k := 1) (by decide) (by omega); simp only [List.length_append, List.length_cons, List.length_nil]; omega))) (by rw [row_eq])
    · rw [upd_same, List.take_succ, List.getElem?_map, at_, hr']
      simp
    · intro b' o' hb'
      by_cases z : b' = l
      · subst z
        rw [n1] at hb'
        cases hb'
      · rw [upd_ne z]
        exact e2 _ _ (e _ _ hb')
  · obtain ⟨a3, a4, a5, rfl, hl, e⟩ := z
    rw [← paired_len pr, show (rs.map rowL).take rs.length = rs.map rowL from List.take_of_length_le (by simp)] at hl
    refine s_ret (ev_joinS (B := 150) ev_c (ev_var rfl) (.inl (sq_of hl)) (fun z hz => ?_) ⟨by decide, by simp; omega, by decide⟩) fun H3 e3 => q H3 (e.trans e3)
    rcases List.mem_cons.mp hz with rfl | hz
    · exact head_len okn ln
    · obtain ⟨r, hr2, rfl⟩ := List.mem_map.mp hz
      obtain ⟨a, b, c⟩ := okr r hr2
      exact row_len a b c
end
end K17
set_option Elab.async false
set_option linter.all false
set_option maxRecDepth 100000
set_option maxHeartbeats 4000000
namespace K17
open PySem PySem.Spec PyProof.Rows L2 Evl SwX
section
variable {P : Program} {w : World} {K : PySem.W.Frag} {mg : Str → Option Value} {base : Heap} {f : Addr} {fd : FuncData} {rs : List Nat} {C : Nat → Addr} {WV WN NA : Addr}
abbrev s__law_fault : Stmt := top 47
abbrev sc__law_fault_N : List Str := ["_law_e", "_law_sorts", "_law_bases", "_law_own", "_law_slot"]
theorem sc__law_fault : FnScope sc__law_fault_N ["_law_e"] (defScope s__law_fault) := ⟨rfl, rfl, rfl, by decide +kernel, rfl, by decide +kernel, by decide +kernel⟩
theorem ok_fault (c : Cl P w K mg base rs C WV WN NA) (F : FnP K "_law_fault" s__law_fault f fd) (m_isinstance : mg "isinstance" = none) (m_ValueError : mg "ValueError" = none) (m_LookupError : mg "LookupError" = none) (m_ArithmeticError : mg "ArithmeticError" = none) : FnC P w K mg base 1 f fd ["_law_e"] (spFaultC rs C) := by
  refine SwX.FunD.okC F sc__law_fault (fun a C0 d vs H Q E h => by obtain ⟨i, fs, _, _, rfl, _⟩ := h; rfl) (fun cdv A outer s H vs Q E a C0 d oe hr hd h => ⟨_, PSs.nox
    (pss_cons (ps_set (i := 1) sc__law_fault.nd rfl (Or.inl rfl) (pe_lst (pa_cons (pe_callB (call_isP hd) (by rfl) m_isinstance (by decide +kernel) (pa_cons (pv 0) (pa_cons (pe_own (c.g 0 (by decide))) pa_nil))) (pa_cons (pe_callB (call_isP hd) (by rfl) m_isinstance (by decide +kernel) (pa_cons (pv 0) (pa_cons (pe_own (c.g 1 (by decide))) pa_nil))) (pa_cons (pe_callB (call_isP hd) (by rfl) m_isinstance (by decide +kernel) (pa_cons (pv 0) (pa_cons (pe_own (c.g 2 (by decide))) pa_nil))) pa_nil))))) (pss_cons (ps_set (i := 1) sc__law_fault.nd rfl (Or.inl rfl) (pe_op op_addA (pv 1) (pe_lst (pa_cons (pe_callB (call_isP hd) (by rfl) m_isinstance (by decide +kernel) (pa_cons (pv 0) (pa_cons (pe_own (c.g 3 (by decide))) pa_nil))) (pa_cons (pe_callB (call_isP hd) (by rfl) m_isinstance (by decide +kernel) (pa_cons (pv 0) (pa_cons (pe_own (c.g 4 (by decide))) pa_nil))) (pa_cons (pe_callB (call_isP hd) (by rfl) m_isinstance (by decide +kernel) (pa_cons (pv 0) (pa_cons (pe_own (c.g 5 (by decide))) pa_nil))) pa_nil)))))) (pss_cons (ps_set (i := 1) sc__law_fault.nd rfl (Or.inl rfl) (pe_op op_addA (pv 1) (pe_lst (pa_cons (pe_callB (call_isP hd) (by rfl) m_isinstance (by decide +kernel) (pa_cons (pv 0) (pa_cons (pe_own (c.g 6 (by decide))) pa_nil))) (pa_cons (pe_callB (call_isP hd) (by rfl) m_isinstance (by decide +kernel) (pa_cons (pv 0) (pa_cons (pe_own (c.g 7 (by decide))) pa_nil))) (pa_cons (pe_callB (call_isP hd) (by rfl) m_isinstance (by decide +kernel) (pa_cons (pv 0) (pa_cons (pe_own (c.g 8 (by decide))) pa_nil))) pa_nil)))))) (pss_cons (ps_set (i := 1) sc__law_fault.nd rfl (Or.inl rfl) (pe_op op_addA (pv 1) (pe_lst (pa_cons (pe_callB (call_isP hd) (by rfl) m_isinstance (by decide +kernel) (pa_cons (pv 0) (pa_cons (pe_own (c.g 9 (by decide))) pa_nil))) (pa_cons (pe_callB (call_isP hd) (by rfl) m_isinstance (by decide +kernel) (pa_cons (pv 0) (pa_cons (pe_own (c.g 10 (by decide))) pa_nil))) (pa_cons (pe_callB (call_isP hd) (by rfl) m_isinstance (by decide +kernel) (pa_cons (pv 0) (pa_cons (pe_own (c.g 11 (by decide))) pa_nil))) pa_nil)))))) (pss_cons (ps_set (i := 1) sc__law_fault.nd rfl (Or.inl rfl) (pe_op op_addA (pv 1) (pe_lst (pa_cons (pe_callB (call_isP hd) (by rfl) m_isinstance (by decide +kernel) (pa_cons (pv 0) (pa_cons (pe_own (c.g 12 (by decide))) pa_nil))) (pa_cons (pe_callB (call_isP hd) (by rfl) m_isinstance (by decide +kernel) (pa_cons (pv 0) (pa_cons (pe_own (c.g 13 (by decide))) pa_nil))) (pa_cons (pe_callB (call_isP hd) (by rfl) m_isinstance (by decide +kernel) (pa_cons (pv 0) (pa_cons (pe_own (c.g 14 (by decide))) pa_nil))) pa_nil)))))) (pss_cons (ps_set (i := 1) sc__law_fault.nd rfl (Or.inl rfl) (pe_op op_addA (pv 1) (pe_lst (pa_cons (pe_callB (call_isP hd) (by rfl) m_isinstance (by decide +kernel) (pa_cons (pv 0) (pa_cons (pe_own (c.g 15 (by decide))) pa_nil))) (pa_cons (pe_callB (call_isP hd) (by rfl) m_isinstance (by decide +kernel) (pa_cons (pv 0) (pa_cons (pe_own (c.g 16 (by decide))) pa_nil))) pa_nil))))) (pss_cons (ps_set (i := 2) sc__law_fault.nd rfl (Or.inl rfl) (pe_lst (pa_cons (pe_callB (call_isP hd) (by rfl) m_isinstance (by decide +kernel) (pa_cons (pv 0) (pa_cons (pe_own c.gWV) pa_nil))) (pa_cons (pe_callB (call_isP hd) (by rfl) m_isinstance (by decide +kernel) (pa_cons (pv 0) (pa_cons (pe_own c.gWN) pa_nil))) (pa_cons (pe_callB (call_isP hd) (by rfl) m_isinstance (by decide +kernel) (pa_cons (pv 0) (pa_cons (pe_own c.gNA) pa_nil))) pa_nil))))) (pss_cons (ps_set (i := 3) sc__law_fault.nd rfl (Or.inl rfl) (pe_lst (pa_cons (pe_callB (call_isP hd) (by rfl) m_isinstance (by decide +kernel) (pa_cons (pv 0) (pa_cons (pe_bty (n := "ValueError") m_ValueError) pa_nil))) (pa_cons (pe_callB (call_isP hd) (by rfl) m_isinstance (by decide +kernel) (pa_cons (pv 0) (pa_cons (pe_bty (n := "LookupError") m_LookupError) pa_nil))) (pa_cons (pe_callB (call_isP hd) (by rfl) m_isinstance (by decide +kernel) (pa_cons (pv 0) (pa_cons (pe_bty (n := "ArithmeticError") m_ArithmeticError) pa_nil))) pa_nil))))) (pss_cons (ps_if (pw_or (pt_cmpR (op_neH hr) (pe_bm PySem.F.plainAttrs_list PySem.F.slot_list_count PySem.F.type_list_count (mt_countH hr) (pv 1) (pa_cons pe_bl pa_nil)) pe_int (nomark _)) (pw_or1 (pt_cmpR (op_neH hr) (pv 3) (pv 2) (nomark _)))).pt (pss_one (ps_ret (pe_un un_neg pe_int))) pss_nil) (pss_cons (ps_set (i := 4) sc__law_fault.nd rfl (Or.inl rfl) (pe_bm PySem.F.plainAttrs_list PySem.F.slot_list_index PySem.F.type_list_index mt_index (pv 1) (pa_cons pe_bl pa_nil))) (pss_one (ps_ret (pe_ifExp (pt_cmpR (op_eqH hr) (pv 2) (pe_lst (pa_cons (pe_cmpR op_lt (pv 4) pe_int (nomark _)) (pa_cons (pe_chain op_lt op_lt pe_int (pv 4) pe_int) (pa_cons (pe_cmpR op_gt (pv 4) pe_int (nomark _)) pa_nil)))) (nomark _)) (pv 4) (pe_un un_neg pe_int)))))))))))))), ?_⟩)
  obtain ⟨i, fs, hi, rfl, rfl, hx, q⟩ := h
  have hj := c.lt i hi
  have I : ∀ (j : Nat), j < 17 → ∀ {σ : L2.St} {H1 : Hp}, σ[0]? = some (some (.ref a)) → Ex H H1 → Ev (tCB (rIsP K a (C i) d) (tCons (tVar 0) (tCons (tC (.ref (C j))) tNil))) σ H1 (.bl (decide (i = j))) := fun j hj σ H1 h0 e => ev_isP (ev_var h0) ev_c (hx.mono e) (c.T i hi) (.own _) (c.kit i hi j hj)
  refine q_asgY (P := LstOf Tru _) (yi_lst tru_mono (ys_cons tru_mono (yi_tru (I 0 (by decide) rfl (Ex.refl _))) (ys_cons tru_mono (yi_tru (I 1 (by decide) rfl (Ex.refl _))) (ys_cons tru_mono (yi_tru (I 2 (by decide) rfl (Ex.refl _))) ys_nil))) (by simp)) fun v1 H1 e1 p1 => ?_
  refine q_asgY (P := LstOf Tru _) (yi_cat tru_mono (yi_var rfl fun H9 e9 => p1.mono tru_mono e9) (yi_lst tru_mono (ys_cons tru_mono (yi_tru (I 3 (by decide) rfl (e1))) (ys_cons tru_mono (yi_tru (I 4 (by decide) rfl (e1))) (ys_cons tru_mono (yi_tru (I 5 (by decide) rfl (e1))) ys_nil))) (by simp)) (by simp)) fun v2 H2 e2 p2 => ?_
  refine q_asgY (P := LstOf Tru _) (yi_cat tru_mono (yi_var rfl fun H9 e9 => p2.mono tru_mono e9) (yi_lst tru_mono (ys_cons tru_mono (yi_tru (I 6 (by decide) rfl ((e1).trans e2))) (ys_cons tru_mono (yi_tru (I 7 (by decide) rfl ((e1).trans e2))) (ys_cons tru_mono (yi_tru (I 8 (by decide) rfl ((e1).trans e2))) ys_nil))) (by simp)) (by simp)) fun v3 H3 e3 p3 => ?_
  refine q_asgY (P := LstOf Tru _) (yi_cat tru_mono (yi_var rfl fun H9 e9 => p3.mono tru_mono e9) (yi_lst tru_mono (ys_cons tru_mono (yi_tru (I 9 (by decide) rfl (((e1).trans e2).trans e3))) (ys_cons tru_mono (yi_tru (I 10 (by decide) rfl (((e1).trans e2).trans e3))) (ys_cons tru_mono (yi_tru (I 11 (by decide) rfl (((e1).trans e2).trans e3))) ys_nil))) (by simp)) (by simp)) fun v4 H4 e4 p4 => ?_
  refine q_asgY (P := LstOf Tru _) (yi_cat tru_mono (yi_var rfl fun H9 e9 => p4.mono tru_mono e9) (yi_lst tru_mono (ys_cons tru_mono (yi_tru (I 12 (by decide) rfl ((((e1).trans e2).trans e3).trans e4))) (ys_cons tru_mono (yi_tru (I 13 (by decide) rfl ((((e1).trans e2).trans e3).trans e4))) (ys_cons tru_mono (yi_tru (I 14 (by decide) rfl ((((e1).trans e2).trans e3).trans e4))) ys_nil))) (by simp)) (by simp)) fun v5 H5 e5 p5 => ?_
  refine q_asgY (P := LstOf Tru _) (yi_cat tru_mono (yi_var rfl fun H9 e9 => p5.mono tru_mono e9) (yi_lst tru_mono (ys_cons tru_mono (yi_tru (I 15 (by decide) rfl (((((e1).trans e2).trans e3).trans e4).trans e5))) (ys_cons tru_mono (yi_tru (I 16 (by decide) rfl (((((e1).trans e2).trans e3).trans e4).trans e5))) ys_nil)) (by simp)) (by simp)) fun v6 H6 e6 p6 => ?_
  have e6' : Ex H H6 := (((((e1).trans e2).trans e3).trans e4).trans e5).trans e6
  obtain ⟨p, rfl, hp⟩ := p6.trus
  have hp : H6 p = some (.lst ((sortsB i).map V.bl)) := hp
  refine q_asgY (P := LstOf Tru (basesB i)) (yi_lst tru_mono (ys_cons tru_mono (yi_tru (ev_isP (ev_var rfl) ev_c (hx.mono e6') (c.T i hi) (.own _) (c.kWV i hi))) (ys_cons tru_mono (yi_tru (ev_isP (ev_var rfl) ev_c (hx.mono e6') (c.T i hi) (.own _) (c.kWN i hi))) (ys_cons tru_mono (yi_tru (ev_isP (ev_var rfl) ev_c (hx.mono e6') (c.T i hi) (.own _) (c.kNA i hi))) ys_nil))) (by unfold basesB; simp)) fun v7 H7 e7 p7 => ?_
  refine q_asgY (P := LstOf Tru (basesB i)) (yi_lst tru_mono (ys_cons tru_mono (yi_tru (ev_isP (ev_var rfl) ev_c (hx.mono (e6'.trans e7)) (c.T i hi) (.ty _) (c.kVE i hi))) (ys_cons tru_mono (yi_tru (ev_isP (ev_var rfl) ev_c (hx.mono (e6'.trans e7)) (c.T i hi) (.ty _) (c.kLE i hi))) (ys_cons tru_mono (yi_tru (ev_isP (ev_var rfl) ev_c (hx.mono (e6'.trans e7)) (c.T i hi) (.ty _) (c.kAE i hi))) ys_nil))) (by unfold basesB; simp)) fun v8 H8 e8 p8 => ?_
  obtain ⟨b, rfl, hb⟩ := (p7.mono tru_mono e8).trus
  obtain ⟨o, rfl, ho⟩ := p8.trus
  have hp8 := e8 _ _ (e7 _ _ hp)
  obtain ⟨sh, eq⟩ := bases_ok i
  refine q_when (b := false) (et_is (et_or (a := false) (b := false) (et_B (ev_is (ev_op (rc_count (ev_var rfl) (sq_of hp8) ev_c) ev_c (rv_l (rv_ne rfl))) (by rw [sorts_count i (by omega)]; rfl))) fun _ => et_B (ev_is (ev_op (ev_var rfl) (ev_var rfl) (rv_neTru ho hb sh sh eq)) rfl)) rfl) (fun z => nomatch z) fun _ H9 e9 => ?_
  refine q_asg (v := .int (i : Nat)) (rc_index (ev_var rfl) (sq_of (e9 _ _ hp8)) ev_c (sorts_at i (by omega)) (sorts_before i (by omega))) fun H10 e10 => ?_
  refine s_ret (ev_if (b := true) (et_B (ev_eqTru (cs := basesB i) (ev_var rfl) (e10 _ _ (e9 _ _ hb)) (yi_lst tru_mono (ys_cons tru_mono (yi_tru (ev_op (ev_var rfl) ev_c rv_I0)) (ys_cons tru_mono (yi_tru (ev_chainI (f := fun a b => decide (a < b)) (g := fun a b => decide (a < b)) ev_c (ev_var rfl) ev_c)) (ys_cons tru_mono (yi_tru (ev_op (ev_var rfl) ev_c rv_I0)) ys_nil))) (by unfold basesB; simp)) sh sh eq)) (fun _ => ev_var rfl) (fun z => nomatch z)) fun H11 e11 => q _ (((((e6'.trans e7).trans e8).trans e9).trans e10).trans e11)
abbrev s__law_kept : Stmt := top 48
abbrev sc__law_kept_N : List Str := ["_law_e", "_law_slot"]
theorem sc__law_kept : FnScope sc__law_kept_N ["_law_e", "_law_slot"] (defScope s__law_kept) := ⟨rfl, rfl, rfl, by decide +kernel, rfl, by decide +kernel, by decide +kernel⟩
theorem ok_kept (c : Cl P w K mg base rs C WV WN NA) (F : FnP K "_law_kept" s__law_kept f fd) : FnC P w K mg base 1 f fd ["_law_e", "_law_slot"] (spKeptC rs C) := by
  refine SwX.FunD.okC F sc__law_kept (fun a C0 d vs H Q E h => by obtain ⟨i, v, _, _, rfl, _⟩ := h; rfl) (fun cdv A outer s H vs Q E a C0 d oe hr hd h => ⟨_, PSs.nox
    (pss_cons (ps_if (pt_cmpR op_in_seq (pv 1) (pe_lst (pa_cons pe_int (pa_cons pe_int (pa_cons pe_int (pa_cons pe_int (pa_cons pe_int pa_nil)))))) rfl) (pss_one (ps_ret (pe_lst (pa_cons (pe_fldP hd (pv 0)) pa_nil)))) pss_nil) (pss_cons (ps_if (pt_cmpR (op_eqH hr) (pv 1) pe_int (nomark _)) (pss_one (ps_ret (pe_lst (pa_cons (pe_fldP hd (pv 0)) pa_nil)))) pss_nil) (pss_cons (ps_if (pt_cmpR (op_eqH hr) (pv 1) pe_int (nomark _)) (pss_one (ps_ret (pe_lst (pa_cons (pe_fldP hd (pv 0)) (pa_cons (pe_fldP hd (pv 0)) pa_nil))))) pss_nil) (pss_one (ps_ret (pe_ifExp (pt_cmpR op_in_seq (pv 1) (pe_lst (pa_cons (pe_un un_neg pe_int) (pa_cons pe_int pa_nil))) rfl) (pe_lst pa_nil) (pe_lst (pa_cons (pe_fldP hd (pv 0)) pa_nil)))))))), ?_⟩)
  obtain ⟨i, v, hi, rfl, rfl, hx, q⟩ := h
  have hj := c.lt i hi
  have le := kd_le i hj
  have fr := c.fr i hi
  refine q_when (b := decide (exKd i = 1)) (et_is (et_B (ev_opL (ev_var rfl) (el_lst (ea_cons ev_c (ea_cons ev_c (ea_cons ev_c (ea_cons ev_c (ea_cons ev_c ea_nil))))) (by simp)) fun p H1 h1 _ => rv_isL (sq_of h1) rfl rfl)) (kd1 i hj)) (fun z H1 e1 => ?_) fun z1 H1 e1 => ?_
  · have z := of_decide_eq_true z
    have y : exFld i = "index" := by simp only [exFld, z]
    rw [y] at hx fr
    exact s_retL (el_lst (ea_cons (ev_fldP (ev_var rfl) (hx.mono e1) (c.T i hi) fr rfl) ea_nil) (by simp)) fun p H2 n2 e2 h2 => q p H2 (fresh_back e1 n2) (e1.trans e2) h2
  refine q_when (b := decide (exKd i = 2)) (et_is (et_B (ev_op (ev_var rfl) ev_c (rv_l (rv_eq rfl)))) (kd2 i hj)) (fun z H2 e2 => ?_) fun z2 H2 e2 => ?_
  · have z := of_decide_eq_true z
    have y : exFld i = "limit" := by simp only [exFld, z]
    rw [y] at hx fr
    exact s_retL (el_lst (ea_cons (ev_fldP (ev_var rfl) (hx.mono (e1.trans e2)) (c.T i hi) fr rfl) ea_nil) (by simp)) fun p H3 n3 e3 h3 => q p H3 (fresh_back (e1.trans e2) n3) ((e1.trans e2).trans e3) h3
  refine q_when (b := false) (et_is (et_B (ev_op (ev_var rfl) ev_c (rv_l (rv_eq rfl)))) (kd4 i hj)) (fun z => nomatch z) fun z3 H3 e3 => ?_
  have y1 := of_decide_eq_false z1
  have y2 := of_decide_eq_false z2
  have y : exFld i = "given" := by
    have y0 : exKd i = 0 := by omega
    simp only [exFld, y0]
  rw [y] at hx fr
  refine s_retL (xs := [v]) (el_ifY (b := false) (et_is (et_B (ev_opL (ev_var rfl) (el_lst (ea_cons (ev_un ev_c ru_neg) (ea_cons ev_c ea_nil)) (by simp)) fun p H1 h1 _ => rv_isL (sq_of h1) rfl rfl)) (kd3 i hj)) (fun z => nomatch z) (fun _ => el_lst (ea_cons (ev_fldP (ev_var rfl) (hx.mono ((e1.trans e2).trans e3)) (c.T i hi) fr rfl) ea_nil) (by simp))) fun p H4 n4 e4 h4 => q p H4 (fresh_back ((e1.trans e2).trans e3) n4) (((e1.trans e2).trans e3).trans e4) h4
end
end K17
set_option Elab.async false
set_option linter.all false
set_option maxRecDepth 100000
set_option maxHeartbeats 4000000
namespace K17
open PySem PySem.Spec PyProof.Rows L2 Evl SwX
abbrev s__law_caught : Stmt := top 49
abbrev sc__law_caught_N : List Str := ["_law_act", "_law_told", "_law_e", "_law_slot"]
theorem sc__law_caught : FnScope sc__law_caught_N ["_law_act"] (defScope s__law_caught) := ⟨rfl, rfl, rfl, by decide +kernel, rfl, by decide +kernel, by decide +kernel⟩
/-- what the suite does with an exception of the class at c0 -/
def tSuite (K : PySem.W.Frag) (rs : List Nat) (C : Nat → Addr) (a c0 : Addr) (d : Option Addr) : TS :=
  tSeq (tAsg (tCall (spFaultC rs C a c0 d) [] E0 (tCons (tVar 2) tNil)) (gName 3)) (tRet (tLst (tCons (tVar 3) (tCons (tCB (rRepr K) (tCons (tCall (spKeptC rs C a c0 d) [] E0 (tCons (tVar 2) (tCons (tVar 3) tNil))) tNil)) tNil))))
def tSuiteV (K : PySem.W.Frag) (rs : List Nat) (C : Nat → Addr) (a : Addr) (cls : Value) (d : Option Addr) : TS := fun D σ H => ∃ c0, cls = .ref c0 ∧ tSuite K rs C a c0 d D σ H
theorem four {σ : L2.St} (h : σ.length = 4) : ∃ a b c d, σ = [a, b, c, d] := match σ, h with
  | [a, b, c, d], _ => ⟨a, b, c, d, rfl⟩
theorem caught_gives {X : Cx} {k : Nat} {rs : List Nat} {C : Nat → Addr} {WV WN NA : Addr} {rr : List V → Hp → VK → Prop} (c : Cl X.prog X.w X.K X.mg X.base rs C WV WN NA) (D_fault : HasC X.prog X.w X.K X.mg X.base "_law_fault" 1 ["_law_e"] (spFaultC rs C)) (D_kept : HasC X.prog X.w X.K X.mg X.base "_law_kept" 1 ["_law_e", "_law_slot"] (spKeptC rs C))
    (S : SysIn X.K) (m_repr : X.mg "repr" = none) (hr : Room (k + 2) X.A) (calm : Calm X.A) (RR : ∀ Y : Cx, Y.prog = X.prog → Y.w = X.w → Y.K = X.K → Y.mg = X.mg → Y.base = X.base → Calm Y.A → Room (k + 1) Y.A → CallR Y (.builtin "repr") rr) (g : Addr) (cdv : Value) (q : Str) :
    LamX.GivesTo X sc__law_caught_N "_law_caught" (defScope s__law_caught) g cdv (defBody s__law_caught) "_law_act" q (TTc X.K rs C rr) := by
  intro f c' s H Q tl act hc h
  have hr' := hr.deeper (envOfC "_law_caught" (defScope s__law_caught) s.heap.objs.size g cdv)
  have hH : L2H.RoomH 1 (X.A.deeper (envOfC "_law_caught" (defScope s__law_caught) s.heap.objs.size g cdv)) := (L2H.roomH_of hr').mono (by omega)
  refine ⟨_, PSs.nox (pss_cons (ps_try_asT (X := (cxOf C8.CX0 X.prog X.w X.K X.mg X.base sc__law_caught_N "_law_caught" (defScope s__law_caught) g cdv X.A X.stack s H C8.E0).nox) (i := 2) (cs := [.ref WV, .ref WN, .ref NA]) (ts := tSuiteV X.K rs C) (tb := fun W D σ H => ∃ (Ech : XK) (P : VK), (∀ cls d σ' H', Ech cls d H' → W cls d σ' H') ∧ σ[0]? = some (some (.ref f)) ∧ H c' = some (LamX.CodeO c' q) ∧ tl Ech H P ∧ ∀ v H', P v H' → D.nx (σ.set 1 (some v)) H')
      rfl rfl sc__law_caught.nd rfl rfl (clsT3 ⟨rfl, by decide, .inl c.gWV⟩ ⟨rfl, by decide, .inl c.gWN⟩ ⟨rfl, by decide, .inl c.gNA⟩) (fun W pn xe tk po => ?body) (fun a oe cls d pn zc dat => ?suite))
      (pss_one (ps_ret (pe_lst (pa_cons pe_str (pa_cons (pe_callB (RR _ rfl rfl rfl rfl rfl calm hr') (by rfl) m_repr (by decide +kernel) (pa_cons (pv 1) pa_nil)) pa_nil)))))), ?_⟩
  case body =>
    refine ⟨fun pins s' σ H' D I h' => ?_⟩
    obtain ⟨Ech, P, hW, h1, h2, h3, h4⟩ := h'
    exact (pss_one (ps_set (i := 1) sc__law_caught.nd rfl (Or.inl rfl) (pe_mono (act W pn xe Ech _ _ tk hW)))).run pins s' σ H' D I ⟨P, ⟨h1, h2, h3⟩, h4⟩
  case suite =>
    refine ⟨fun pins s' σ H' D I h' => ?_⟩
    obtain ⟨c0, e, h'⟩ := h'
    subst e
    have held : Held (((cxOf C8.CX0 X.prog X.w X.K X.mg X.base sc__law_caught_N "_law_caught" (defScope s__law_caught) g cdv X.A X.stack s H C8.E0).nox).suite a ((a, oe) :: pn)) a c0 d := ⟨oe, List.mem_cons_self, zc, dat⟩
    have hS : L2H.RoomH 1 (((cxOf C8.CX0 X.prog X.w X.K X.mg X.base sc__law_caught_N "_law_caught" (defScope s__law_caught) g cdv X.A X.stack s H C8.E0).nox).suite a ((a, oe) :: pn)).A := ⟨hH.dp, hH.un⟩
    exact (pss_cons (ps_set (i := 3) sc__law_caught.nd rfl (Or.inl rfl) (pe_hasC (X := ((cxOf C8.CX0 X.prog X.w X.K X.mg X.base sc__law_caught_N "_law_caught" (defScope s__law_caught) g cdv X.A X.stack s H C8.E0).nox).suite a ((a, oe) :: pn)) D_fault held hS (pa_cons (pv 2) pa_nil)))
      (pss_one (ps_ret (pe_lst (pa_cons (pv 3) (pa_cons (pe_callB (call_reprH (X := ((cxOf C8.CX0 X.prog X.w X.K X.mg X.base sc__law_caught_N "_law_caught" (defScope s__law_caught) g cdv X.A X.stack s H C8.E0).nox).suite a ((a, oe) :: pn)) S calm (by have := hS.un; omega)) (by rfl) m_repr (by decide +kernel) (pa_cons (pe_hasC (X := ((cxOf C8.CX0 X.prog X.w X.K X.mg X.base sc__law_caught_N "_law_caught" (defScope s__law_caught) g cdv X.A X.stack s H C8.E0).nox).suite a ((a, oe) :: pn)) D_kept held hS (pa_cons (pv 2) (pa_cons (pv 3) pa_nil))) pa_nil)) pa_nil)))))).run pins s' σ H' D I h'
  refine ⟨Thrown rs C fun i v H' => ∃ D : PyData, (∀ H1, Ex H' H1 → Da X.K H1 v D) ∧ (PyData.list [D]).showable = true ∧ (PyData.list [D]).depth ≤ 150 ∧ (PyData.list [D]).shown.length ≤ sizeLine ∧ ∀ p H2, Ex H' H2 → H2 p = some (.lst [.int (i : Nat), .str (PyData.shown (.list [D]))]) → Q (.ref p) H2, _, fun cls d σ' H' hth => ?_, rfl, hc, h, fun v H' hp => ?_⟩
  · obtain ⟨i, v, hi, rfl, hf, D, da, sh, dp, ln, fin⟩ := hth
    refine ⟨c.hit i hi, fun a na len => ⟨C i, rfl, ?_⟩⟩
    obtain ⟨x0, x1, x2, x3, rfl⟩ := four len
    refine q_asg (v := .int (i : Nat)) (ev_call (vs := [.ref a]) (ea_cons (ev_var rfl) ea_nil) fun H1 e1 R k E' => ⟨i, _, hi, rfl, rfl, hf.mono e1, k⟩) fun H1 e1 => ?_
    refine s_retL (xs := [.int (i : Nat), .str (PyData.shown (.list [D]))]) (el_lst (ea_cons (ev_var rfl) (ea_cons (fun H2 e2 Q' q' => ⟨_, rfl, _, rfl, i, v, hi, rfl, rfl, hf.mono (e1.trans e2), fun p H3 n3 e3 h3 => ⟨p, .list [D], rfl, da_list h3 (.cons (da H3 ((e1.trans e2).trans e3)) .nil), sh, dp, ln, q' H3 e3⟩⟩) ea_nil)) (by simp)) fun p H2 n2 e2 h2 => fin p H2 (e1.trans e2) h2
  · exact ⟨v, rfl, hp⟩
end K17
set_option Elab.async false
set_option linter.all false
set_option maxRecDepth 100000
set_option maxHeartbeats 4000000
namespace K17
open PySem PySem.Spec PyProof.Rows L2 Evl SwX
section
variable {P : Program} {w : World} {K : PySem.W.Frag} {mg : Str → Option Value} {base : Heap} {f : Addr} {fd : FuncData}
def spIsIntD (K : PySem.W.Frag) : Sp := fun vs H Q _ => ∃ (v : V) (D : PyData), vs = [v] ∧ Da K H v D ∧ ∀ H', Ex H H' → Q (.bl (isInt D && !isBl D)) H'
abbrev s_is_integer : Stmt := top 30
abbrev sc_is_integer_N : List Str := ["value"]
theorem sc_is_integer : FnScope sc_is_integer_N ["value"] (defScope s_is_integer) := ⟨rfl, rfl, rfl, by decide +kernel, rfl, by decide +kernel, by decide +kernel⟩
theorem ok_is_integer (m_isinstance : mg "isinstance" = none) (m_int : mg "int" = none) (m_bool : mg "bool" = none) (F : FnP K "is_integer" s_is_integer f fd) : FnOk P w K mg base CX0 1 f fd ["value"] (spIsIntD K) := by
  refine F.ok sc_is_integer (fun vs H Q E h => by obtain ⟨v, D, rfl, _⟩ := h; rfl) (fun cdv A outer s H vs Q E hr h => ⟨_, PSs.nox
    (pss_one (ps_ret (pe_and (pe_callB (isiK K) (by rfl) m_isinstance (by decide +kernel) (pa_cons (pv 0) (pa_cons (pe_bty (n := "int") m_int) pa_nil))) (pe_one (pe_not (pe_callB (isiK K) (by rfl) m_isinstance (by decide +kernel) (pa_cons (pv 0) (pa_cons (pe_bty (n := "bool") m_bool) pa_nil)))))))), ?_⟩)
  obtain ⟨v, D, rfl, da, q⟩ := h
  exact s_ret (ev_andV (ev_isD (ev_var rfl) (fun H' e => da.mono e) (kit_int D)) fun _ => ev_notV (ev_isD (ev_var rfl) (fun H' e => da.mono e) (kit_bl D))) q
def spBtwD (K : PySem.W.Frag) : Sp := fun vs H Q _ => ∃ (v : V) (D : PyData) (lo hi : Int), vs = [v, .int lo, .int hi] ∧ Da K H v D ∧ ∀ H', Ex H H' → Q (.bl (btwD lo hi D)) H'
theorem int_of {D : PyData} (h : (isInt D && !isBl D) = true) : ∃ i, D = .int i := match D, h with
  | .int i, _ => ⟨i, rfl⟩
theorem btw_no {D : PyData} {lo hi : Int} (h : (isInt D && !isBl D) = false) : btwD lo hi D = false := by
  cases D <;> first | rfl | simp [SwX.isInt, isBl] at h
abbrev s_is_between : Stmt := top 31
abbrev sc_is_between_N : List Str := ["value", "low", "high"]
theorem sc_is_between : FnScope sc_is_between_N ["value", "low", "high"] (defScope s_is_between) := ⟨rfl, rfl, rfl, by decide +kernel, rfl, by decide +kernel, by decide +kernel⟩
theorem ok_is_between (D_is_integer : Has P w K mg base "is_integer" 1 ["value"] (spIsIntD K)) (F : FnP K "is_between" s_is_between f fd) : FnOk P w K mg base CX0 2 f fd ["value", "low", "high"] (spBtwD K) := by
  refine F.ok sc_is_between (fun vs H Q E h => by obtain ⟨v, D, lo, hi, rfl, _⟩ := h; rfl) (fun cdv A outer s H vs Q E hr h => ⟨_, PSs.nox
    (pss_one (ps_ret (pe_and (pe_has D_is_integer (hr.mono (by decide)) (pa_cons (pv 0) pa_nil)) (pe_and (pe_cmpR op_ge (pv 0) (pv 1) (nomark _)) (pe_one (pe_or (pe_cmpR op_isN (pv 2) pe_non (nomark _)) (pe_one (pe_cmpR op_le (pv 0) (pv 2) (nomark _))))))))), ?_⟩)
  obtain ⟨v, D, lo, hi, rfl, da, q⟩ := h
  have e1 : Ev (tCall (spIsIntD K) [] E0 (tCons (tVar 0) tNil)) [some v, some (.int lo), some (.int hi)] H (.bl (isInt D && !isBl D)) := ev_call (vs := [v]) (ea_cons (ev_var (i := 0) rfl) ea_nil) fun H1 e1 R k E' => ⟨v, D, rfl, da.mono e1, k⟩
  cases c : isInt D && !isBl D with
  | false =>
    rw [c] at e1
    rw [btw_no c] at q
    exact s_ret (ev_andV (a := false) (b := false) e1 fun z => nomatch z) q
  | true =>
    rw [c] at e1
    obtain ⟨i, rfl⟩ := int_of c
    cases da
    have e : (true && (decide (lo ≤ i) && (false || decide (i ≤ hi)))) = btwD lo hi (.int i) := by simp [btwD]
    exact s_ret (ev_is (ev_andV (a := true) (b := decide (lo ≤ i) && (false || decide (i ≤ hi))) e1 fun _ => ev_andV (ev_op (ev_var rfl) (ev_var rfl) rv_I0) fun _ => ev_orV (a := false) (ev_op (ev_var rfl) ev_c fun H1 _ R k => ⟨rfl, k H1 (Ex.refl H1)⟩) fun _ => ev_op (ev_var rfl) (ev_var rfl) rv_I0) (by rw [e])) q
def digL : List Nat := [48, 49, 50, 51, 52, 53, 54, 55, 56, 57]
theorem in_letters {c : Nat} : c ∈ letL ↔ 97 ≤ c ∧ c ≤ 122 := by
  constructor
  · exact letL_ok c
  · intro h
    have : ∀ d, d < 26 → 97 + d ∈ letL := by decide
    have z := this (c - 97) (by omega)
    rwa [show 97 + (c - 97) = c by omega] at z
theorem in_digits {c : Nat} : c ∈ digL ↔ 48 ≤ c ∧ c ≤ 57 := by
  constructor
  · have : ∀ c ∈ digL, 48 ≤ c ∧ c ≤ 57 := by decide
    exact this c
  · intro h
    have : ∀ d, d < 10 → 48 + d ∈ digL := by decide
    have z := this (c - 48) (by omega)
    rwa [show 48 + (c - 48) = c by omega] at z
theorem low_let (c : Nat) : decide (c ∈ letL) = lowB c := by
  unfold lowB
  rw [Bool.eq_iff_iff, decide_eq_true_eq, decide_eq_true_eq]
  exact in_letters
theorem dig_dig (c : Nat) : decide (c ∈ digL) = decide (48 ≤ c ∧ c ≤ 57) := by
  rw [Bool.eq_iff_iff, decide_eq_true_eq, decide_eq_true_eq]
  exact in_digits
theorem not_str {D : PyData} (h : isStr D = false) : nameD D = false := by
  cases D <;> first | rfl | cases h
theorem str_of {D : PyData} (h : isStr D = true) : ∃ l, D = .str (SX.S l) := match D, h with
  | .str x, _ => ⟨x.cps.toList, by rw [SX.S_tl]⟩
/-- what is left of a name's test when its length is in order -/
theorem nameB_split (l : List Nat) (h : (!(decide (1 ≤ l.length) && decide (l.length ≤ 8)) || !hdB l) = false) : nameB l = l.all signB := by
  simp only [Bool.or_eq_false_iff, Bool.not_eq_false'] at h
  unfold nameB
  rw [h.1, h.2]
  rfl
theorem nameB_no (l : List Nat) (h : (!(decide (1 ≤ l.length) && decide (l.length ≤ 8)) || !hdB l) = true) : nameB l = false := by
  unfold nameB
  simp only [Bool.or_eq_true, Bool.not_eq_true'] at h
  rcases h with h | h <;> rw [h]
  · rfl
  · rw [Bool.and_false] <;> rfl
theorem signs_given (l : List Nat) : given l.length (fun _ => true) (fun i => .bl (signB (l.getD i 0))) = (l.map signB).map V.bl := given_eq (by simp) fun i hi => by
  simp only [List.length_map] at hi
  rw [List.getD_eq_getElem?_getD, List.getElem?_eq_getElem hi]
  simp
def spIsNameD (K : PySem.W.Frag) : Sp := fun vs H Q _ => ∃ (v : V) (D : PyData), vs = [v] ∧ Da K H v D ∧ Short D ∧ ∀ H', Ex H H' → Q (.bl (nameD D)) H'
abbrev s_is_name : Stmt := top 32
abbrev sc_is_name_N : List Str := ["value", "sign"]
theorem sc_is_name : FnScope sc_is_name_N ["value"] (defScope s_is_name) := ⟨rfl, rfl, rfl, by decide +kernel, rfl, by decide +kernel, by decide +kernel⟩
theorem ok_is_name (m_isinstance : mg "isinstance" = none) (m_str : mg "str" = none) (m_len : mg "len" = none) (m_all : mg "all" = none) (g_LONGEST_NAME : ∃ t, mg "LONGEST_NAME" = some (.int 8 t)) (g_LETTERS : ∃ t, mg "LETTERS" = some (.str "abcdefghijklmnopqrstuvwxyz" t)) (g_DIGITS : ∃ t, mg "DIGITS" = some (.str "0123456789" t)) (F : FnP K "is_name" s_is_name f fd) : FnOk P w K mg base CX0 1 f fd ["value"] (spIsNameD K) := by
  refine F.ok sc_is_name (fun vs H Q E h => by obtain ⟨v, D, rfl, _⟩ := h; rfl) (fun cdv A outer s H vs Q E hr h => ⟨_, PSs.nox
    (pss_cons (ps_if (pw_or (pt_not (pt_val (pe_callB (isiK K) (by rfl) m_isinstance (by decide +kernel) (pa_cons (pv 0) (pa_cons (pe_bty (n := "str") m_str) pa_nil))))) (pw_or (pt_not (pt_chain op_le op_le pe_int (pe_callB (lenK K) (by rfl) m_len (by decide +kernel) (pa_cons (pv 0) pa_nil)) (pe_gint g_LONGEST_NAME))) (pw_or1 (pt_cmpR (niK K hr) (pe_ix (ixK K) (pv 0) pe_int (fun _ _ => rfl)) (pe_gstr g_LETTERS) rfl)))).pt (pss_one (ps_ret pe_bl)) pss_nil) (pss_one (ps_ret (pe_callB (cr_all rfl) (by rfl) m_all (by decide +kernel) (pa_cons (pe_lc (own := [("sign", 1)]) (g := gName 1) (tt := tYes) rfl sc_is_name.nd (pi_str (pv 0)) (blkOk_by (N := sc_is_name_N) (sc := defScope s_is_name) (by decide +kernel)) (fun _ _ _ _ _ => pg_name (i := 1) sc_is_name.nd rfl (Or.inl rfl)) (fun _ _ _ _ _ => pts_nil) (fun _ _ _ _ _ => (pe_or (pe_cmpR (inK K hr) (pv 1) (pe_gstr g_LETTERS) rfl) (pe_one (pe_cmpR (inK K hr) (pv 1) (pe_gstr g_DIGITS) rfl))))) pa_nil))))), ?_⟩)
  obtain ⟨v, D, rfl, da, sh, q⟩ := h
  have e1 : ("abcdefghijklmnopqrstuvwxyz" : Str) = SX.S letL := by decide +kernel
  have e2 : ("0123456789" : Str) = SX.S digL := by decide +kernel
  rw [e1, e2]
  cases c : isStr D with
  | false =>
    rw [not_str c] at q
    refine q_when (b := true) (et_is (et_or (a := true) (b := false) (et_not (a := false) (et_B (ev_is (ev_isD (ev_var rfl) (fun H' e => da.mono e) (kit_str D)) (by rw [c])))) fun z => nomatch z) rfl) (fun _ H1 g1 => s_ret ev_c fun H2 g2 => q H2 (g1.trans g2)) fun z => nomatch z
  | true =>
    obtain ⟨l, rfl⟩ := str_of c
    cases da
    have len : l.length ≤ 1000 := sh _ rfl
    refine q_when (b := !(decide (1 ≤ l.length) && decide (l.length ≤ 8)) || !hdB l) (et_is (et_or (a := false) (et_not (a := true) (et_B (ev_isi (T := "str") (ev_var rfl) (fun _ _ => .base (.str _)) (by decide +kernel)))) fun _ => et_or (a := !(decide (1 ≤ l.length) && decide (l.length ≤ 8))) (b := !hdB l) (et_not (et_B (ev_is (ev_chainI (f := fun a b => decide (a ≤ b)) (g := fun a b => decide (a ≤ b)) ev_c (ev_lenS (ev_var rfl) (by omega)) ev_c) (by
        congr 1
        rw [Bool.eq_iff_iff]
        simp only [Bool.and_eq_true, decide_eq_true_eq]
        omega)))) fun z => ?_) (by rw [Bool.false_or])) (fun z H1 g1 => ?_) fun z H1 g1 => ?_
    · have hz : 1 ≤ l.length := by
        simp only [Bool.not_eq_false', Bool.and_eq_true, decide_eq_true_eq] at z
        exact z.1
      match l, hz with
      | d :: r, _ => exact et_B (ev_op (ev_var rfl) ev_c (rv_ixZ (i := 0) rfl (by omega)) |> fun y => ev_op y ev_c (rv_signNi (b := lowB d) (low_let d)))
    · have no : nameD (.str (SX.S l)) = false := nameB_no l z
      rw [no] at q
      exact s_ret ev_c fun H2 g2 => q H2 (g1.trans g2)
    · have yes : nameD (.str (SX.S l)) = (l.map signB).all id := by
        show nameB l = _
        rw [nameB_split l z, List.all_map]
        rfl
      rw [yes] at q
      refine s_ret (ev_allT (el_is (el_lcZ (fun i => .bl (signB (l.getD i 0))) (ev_var rfl) (by omega) (fun _ => rfl) fun i d H2 g2 hd => ?_) (signs_given l))) fun H2 g2 => q H2 (g1.trans g2)
      have e : l.getD i 0 = d := by rw [List.getD_eq_getElem?_getD, hd]; rfl
      rw [e]
      exact ev_orV (ev_op (ev_var rfl) ev_c (rv_signIn (low_let d))) fun _ => ev_op (ev_var rfl) ev_c (rv_signIn (dig_dig d))
/-- what a recipe may be: the things that are sought among the names -/
def RIt (D : PyData) : Prop := ∀ a b c, D = .tuple [a, b, c] → ItM a ∧ ∀ ps, c = .tuple ps → ps.length ≤ 1000 ∧ ∀ p ∈ ps, ItM p
def spIsRecD (K : PySem.W.Frag) : Sp := fun vs H Q _ => ∃ (x : V) (p : Addr) (D : PyData) (ns : List Nm), vs = [x, .ref p] ∧ Da K H x D ∧ SqT K H p (ns.map nmV) ∧ (∀ n ∈ ns, NameOk n) ∧ RIt D ∧ ∀ H', Ex H H' → Q (.bl (recD ns D)) H'
theorem rec_notup {ns : List Nm} {D : PyData} (h : isTup D = false) : recD ns D = false := by
  cases D <;> first | rfl | cases h
theorem tup_of {D : PyData} (h : isTup D = true) : ∃ ds, D = .tuple ds := match D, h with
  | .tuple ds, _ => ⟨ds, rfl⟩
theorem rec_len {ns : List Nm} {ds : List PyData} (h : ds.length ≠ 3) : recD ns (.tuple ds) = false := by
  cases c : recD ns (.tuple ds) with
  | false => rfl
  | true =>
    obtain ⟨r, e, _⟩ := recD_inv c
    unfold rulD at e
    cases e
    exact absurd rfl h
theorem rec_third {ns : List Nm} {a b c : PyData} (h : isTup c = false) : recD ns (.tuple [a, b, c]) = false := by
  cases c <;> first | rfl | cases h
theorem three {α : Type} {ds : List α} (h : ds.length = 3) : ∃ a b c, ds = [a, b, c] := match ds, h with
  | [a, b, c], _ => ⟨a, b, c, rfl⟩
theorem pair3 {α β : Type} {F : α → β → Prop} {a b c : α} {ys : List β} (h : Paired F [a, b, c] ys) : ∃ x y z, ys = [x, y, z] ∧ F a x ∧ F b y ∧ F c z := by
  cases h with
  | cons h1 h => cases h with
    | cons h2 h => cases h with
      | cons h3 h => cases h with
        | nil => exact ⟨_, _, _, rfl, h1, h2, h3⟩
theorem in_given {ns : List Nm} (ps : List PyData) : given ps.length (fun _ => true) (fun i => .bl (inD ns (at' ps i))) = (ps.map (inD ns)).map V.bl := given_eq (by simp) fun i hi => by
  simp only [List.length_map] at hi
  rw [at_get (List.getElem?_eq_getElem hi)]
  simp
abbrev s_is_recipe : Stmt := top 35
abbrev sc_is_recipe_N : List Str := ["value", "kinds", "part"]
theorem sc_is_recipe : FnScope sc_is_recipe_N ["value", "kinds"] (defScope s_is_recipe) := ⟨rfl, rfl, rfl, by decide +kernel, rfl, by decide +kernel, by decide +kernel⟩
theorem ok_is_recipe (m_isinstance : mg "isinstance" = none) (m_tuple : mg "tuple" = none) (m_len : mg "len" = none) (m_all : mg "all" = none) (g_MOST_OWN : ∃ t, mg "MOST_OWN" = some (.int 9 t)) (g_MOST_PARTS : ∃ t, mg "MOST_PARTS" = some (.int 3 t)) (D_is_between : Has P w K mg base "is_between" 2 ["value", "low", "high"] (spBtwD K)) (F : FnP K "is_recipe" s_is_recipe f fd) : FnOk P w K mg base CX0 3 f fd ["value", "kinds"] (spIsRecD K) := by
  refine F.ok sc_is_recipe (fun vs H Q E h => by obtain ⟨x, p, D, ns, rfl, _⟩ := h; rfl) (fun cdv A outer s H vs Q E hr h => ⟨_, PSs.nox
    (pss_cons (ps_if (pw_or (pt_not (pt_val (pe_callB (isiK K) (by rfl) m_isinstance (by decide +kernel) (pa_cons (pv 0) (pa_cons (pe_bty (n := "tuple") m_tuple) pa_nil))))) (pw_or (pt_cmpR (neK K hr) (pe_callB (lenK K) (by rfl) m_len (by decide +kernel) (pa_cons (pv 0) pa_nil)) pe_int (nomark _)) (pw_or1 (pt_not (pt_val (pe_callB (isiK K) (by rfl) m_isinstance (by decide +kernel) (pa_cons (pe_ix (ixK K) (pv 0) pe_int (fun _ _ => rfl)) (pa_cons (pe_bty (n := "tuple") m_tuple) pa_nil)))))))).pt (pss_one (ps_ret pe_bl)) pss_nil) (pss_cons (ps_if (pw_or (pt_cmpR (niY hr) (pe_ix (ixK K) (pv 0) pe_int (fun _ _ => rfl)) (pv 1) rfl) (pw_or (pt_not (pt_val (pe_has D_is_between (hr.mono (by decide)) (pa_cons (pe_ix (ixK K) (pv 0) pe_int (fun _ _ => rfl)) (pa_cons pe_int (pa_cons (pe_gint g_MOST_OWN) pa_nil)))))) (pw_or1 (pt_cmpR op_gt (pe_callB (lenK K) (by rfl) m_len (by decide +kernel) (pa_cons (pe_ix (ixK K) (pv 0) pe_int (fun _ _ => rfl)) pa_nil)) (pe_gint g_MOST_PARTS) (nomark _))))).pt (pss_one (ps_ret pe_bl)) pss_nil) (pss_one (ps_ret (pe_callB (cr_all rfl) (by rfl) m_all (by decide +kernel) (pa_cons (pe_lc (own := [("part", 2)]) (g := gName 2) (tt := tYes) rfl sc_is_recipe.nd (pi_tup (pe_ix (ixK K) (pv 0) pe_int (fun _ _ => rfl))) (blkOk_by (N := sc_is_recipe_N) (sc := defScope s_is_recipe) (by decide +kernel)) (fun _ _ _ _ _ => pg_name (i := 2) sc_is_recipe.nd rfl (Or.inl rfl)) (fun _ _ _ _ _ => pts_nil) (fun _ _ _ _ _ => (pe_cmpR (inY hr) (pv 2) (pv 1) rfl))) pa_nil)))))), ?_⟩)
  obtain ⟨x, p, D, ns, rfl, da, hp, okn, it, q⟩ := h
  cases c : isTup D with
  | false =>
    rw [rec_notup c] at q
    exact q_when (b := true) (et_is (et_or (a := true) (b := false) (et_not (a := false) (et_B (ev_is (ev_isD (ev_var rfl) (fun H' e => da.mono e) (kit_tup D)) (by rw [c])))) fun z => nomatch z) rfl) (fun _ H1 g1 => s_ret ev_c fun H2 g2 => q H2 (g1.trans g2)) fun z => nomatch z
  | true =>
    obtain ⟨ds, rfl⟩ := tup_of c
    have t1 : Ev (tCB (rIsi K) (tCons (tVar 0) (tCons (tC (.ty "tuple")) tNil))) [some x, some (.ref p), none] H (.bl true) := ev_isD (ev_var (i := 0) rfl) (fun H' e => da.mono e) (kit_tup (.tuple ds))
    obtain ⟨px, xs, rfl, hx, pr⟩ := da_items da
    have ln : xs.length = ds.length := (paired_len pr).symm
    by_cases l3 : ds.length = 3
    · obtain ⟨a, b, c3, rfl⟩ := three l3
      obtain ⟨xa, xb, xc, rfl, da0, da1, da2⟩ := pair3 pr
      obtain ⟨ia, ic⟩ := it a b c3 rfl
      have v0 : ∀ H', Ex H H' → Ev (tOp (rIx K) (tVar 0) (tC (.int 0))) [some (.ref px), some (.ref p), none] H' xa := fun H' e => ev_op (ev_var rfl) ev_c (rv_ixTn (i := 0) (ex_t e hx) rfl)
      have v1 : ∀ H', Ex H H' → Ev (tOp (rIx K) (tVar 0) (tC (.int 1))) [some (.ref px), some (.ref p), none] H' xb := fun H' e => ev_op (ev_var rfl) ev_c (rv_ixTn (i := 1) (ex_t e hx) rfl)
      have v2 : ∀ H', Ex H H' → Ev (tOp (rIx K) (tVar 0) (tC (.int 2))) [some (.ref px), some (.ref p), none] H' xc := fun H' e => ev_op (ev_var rfl) ev_c (rv_ixTn (i := 2) (ex_t e hx) rfl)
      refine q_when (b := !isTup c3) (et_is (et_or (a := false) (b := !isTup c3) (et_not (a := true) (et_B t1)) fun _ => et_is (et_or (a := false) (b := !isTup c3) (et_B (ev_op (ev_lenL (ev_var rfl) (.inr hx)) ev_c (rv_l (rv_ne rfl)))) fun _ => et_not (a := isTup c3) (et_B (ev_isD (v2 H (Ex.refl H)) (fun H' e => da2.mono e) (kit_tup c3)))) (by rw [Bool.false_or])) (by rw [Bool.false_or])) (fun z H1 e1 => ?_) fun z H1 e1 => ?_
      · rw [rec_third (by simpa using z)] at q
        exact s_ret ev_c fun H2 g2 => q H2 (e1.trans g2)
      · obtain ⟨ps, rfl⟩ := tup_of (D := c3) (by simpa using z)
        obtain ⟨lp, ip⟩ := ic ps rfl
        obtain ⟨pc, ys, rfl, hc, pq⟩ := da_items da2
        have ly : ys.length = ps.length := (paired_len pq).symm
        have val : recD ns (.tuple [a, b, .tuple ps]) = (inD ns a && btwD 1 9 b && decide (ps.length ≤ 3) && ps.all (inD ns)) := rfl
        refine q_when (b := !inD ns a || (!btwD 1 9 b || decide ((3 : Int) < ps.length))) (et_or (et_B (ev_op (v0 H1 e1) (ev_var rfl) (rv_niM (da0.mono e1) (ex_t e1 hp) okn ia))) fun _ => et_or (et_not (et_B (ev_call (vs := [xb, .int 1, .int 9]) (ea_cons (v1 H1 e1) (ea_cons ev_c (ea_cons ev_c ea_nil))) fun H2 e2 R k E' => ⟨xb, b, 1, 9, rfl, da1.mono (e1.trans e2), k⟩))) fun _ => et_B (ev_is (ev_op (ev_lenL (v2 H1 e1) (.inr (ex_t e1 hc))) ev_c rv_I0) (by rw [ly]))) (fun z H2 e2 => ?_) fun z H2 e2 => ?_
        · have no : recD ns (.tuple [a, b, .tuple ps]) = false := by
            rw [val]
            simp only [Bool.or_eq_true, Bool.not_eq_true', decide_eq_true_eq] at z
            rcases z with z | z | z
            · rw [z] <;> rfl
            · rw [z, Bool.and_false] <;> rfl
            · rw [decide_eq_false (show ¬ ps.length ≤ 3 by omega), Bool.and_false] <;> rfl
          rw [no] at q
          exact s_ret ev_c fun H3 g3 => q H3 ((e1.trans e2).trans g3)
        · have yes : recD ns (.tuple [a, b, .tuple ps]) = (ps.map (inD ns)).all id := by
            rw [val, List.all_map]
            simp only [Bool.or_eq_false_iff, Bool.not_eq_false', decide_eq_false_iff_not] at z
            rw [z.1, z.2.1, decide_eq_true (show ps.length ≤ 3 by omega)]
            rfl
          rw [yes] at q
          refine s_ret (ev_allT (el_is (el_lcT (xs := ys) (fun i => .bl (inD ns (at' ps i))) (v2 H2 (e1.trans e2)) (ex_t (e1.trans e2) hc) (by omega) (fun _ => rfl) fun i y H3 e3 hy => ?_) (by rw [ly, in_given]))) fun H3 g3 => q H3 ((e1.trans e2).trans g3)
          have lt : i < ps.length := by
            have := (List.getElem?_eq_some_iff.mp hy).1
            omega
          have hi : ps[i]? = some ps[i] := List.getElem?_eq_getElem lt
          obtain ⟨y', hy', dy⟩ := SwX.paired_get pq hi
          rw [hy] at hy'
          cases hy'
          rw [at_get hi]
          exact ev_op (ev_var rfl) (ev_var rfl) (rv_inM (dy.mono ((e1.trans e2).trans e3)) (ex_t ((e1.trans e2).trans e3) hp) okn (ip _ (List.getElem_mem lt)))
    · rw [rec_len l3] at q
      exact q_when (b := true) (et_is (et_or (a := false) (b := true) (et_not (a := true) (et_B t1)) fun _ => et_is (et_or (a := true) (b := false) (et_B (ev_is (ev_op (ev_lenL (ev_var rfl) (.inr hx)) ev_c (rv_l (rv_ne rfl))) (by
        congr 1
        rw [ln]
        simp
        omega))) fun z => nomatch z) rfl) rfl) (fun _ H1 g1 => s_ret ev_c fun H2 g2 => q H2 (g1.trans g2)) fun z => nomatch z
end
end K17
set_option Elab.async false
set_option linter.all false
set_option maxRecDepth 100000
set_option maxHeartbeats 4000000
namespace K17
open PySem PySem.Spec PyProof.Rows L2 Evl SwX
section
variable {P : Program} {w : World} {K : PySem.W.Frag} {mg : Str → Option Value} {base : Heap} {f : Addr} {fd : FuncData} {rs : List Nat} {C : Nat → Addr} {WV WN NA : Addr}
def optV : Option Nat → V
  | none => .non
  | some i => .int (i : Nat)
/-- an exception of the class at C with this index -/
def Throws (E : XK) (C : Addr) (H : Hp) (r : Option Nat) : Prop := ∀ d H', Ex H H' → Flds H' (some d) [("index", optV r)] → E (.ref C) (some d) H'
theorem Throws.from {E : XK} {C : Addr} {H H1 : Hp} {r : Option Nat} (h : Throws E C H r) (e : Ex H H1) : Throws E C H1 r := fun d H' e' => h d H' (e.trans e')
def KIt (D : PyData) : Prop := ∀ ds, D = .tuple ds → ∀ d ∈ ds, Short d
def spChkKD (K : PySem.W.Frag) (C8 : Addr) : Sp := fun vs H Q E => ∃ (v : V) (D : PyData), vs = [v] ∧ Da K H v D ∧ KIt D ∧ (chkK D = none → ∀ H', Ex H H' → Q .non H') ∧ ∀ r, chkK D = some r → Throws E C8 H r
theorem raise_ix {K : PySem.W.Frag} {E : XK} {C8 : Addr} {H : Hp} {σ : L2.St} {te : TE} {r : Option Nat} (t : Throws E C8 H r) (h : Ev te σ H (optV r)) : tMkN C8 1 (spIni1 C8 "index") (tCons te tNil) σ H fun cls d H' => E cls d H' := mk_new1 h fun d H' e fl => t d H' e fl
theorem pre_names {ds : List PyData} {i : Nat} (h : ∀ j, j < i → badK ds j = false) (hi : i ≤ ds.length) : ∃ ns : List Nm, ds.take i = ns.map nmD ∧ ∀ n ∈ ns, NameOk n := nms_inv fun j d e => by
  rw [List.getElem?_take] at e
  split at e
  · rename_i lt
    have z := h j lt
    simp only [badK, Bool.or_eq_false_iff, at_get e, Bool.not_eq_false'] at z
    exact z.1.2
  · cases e
theorem pre_ruls {ns : List Nm} {ds : List PyData} {i : Nat} (h : ∀ j, j < i → badR ns ds j = false) (hi : i ≤ ds.length) : ∃ rs : List Rul, ds.take i = rs.map rulD ∧ ∀ r ∈ rs, RulOk ns r := ruls_inv fun j d e => by
  rw [List.getElem?_take] at e
  split at e
  · rename_i lt
    have z := h j lt
    simp only [badR, Bool.or_eq_false_iff, at_get e, Bool.not_eq_false'] at z
    exact z.1.2
  · cases e
theorem chk_notup {D : PyData} (h : isTup D = false) : chkK D = some none := by
  cases D <;> first | rfl | cases h
theorem chk_first {ds : List PyData} (ne : ds ≠ []) : chkK (.tuple ds) = (firstB ds.length (badK ds)).map some := by
  match ds, ne with
  | _ :: _, _ => rfl
theorem chkR_notup {ns : List Nm} {D : PyData} (h : isTup D = false) : chkR ns D = some none := by
  cases D <;> first | rfl | cases h
abbrev s_check_kinds : Stmt := top 36
abbrev sc_check_kinds_N : List Str := ["kinds", "at", "kind"]
theorem sc_check_kinds : FnScope sc_check_kinds_N ["kinds"] (defScope s_check_kinds) := ⟨rfl, rfl, rfl, by decide +kernel, rfl, by decide +kernel, by decide +kernel⟩
theorem ok_check_kinds (c : Cl P w K mg base rs C WV WN NA) (h8 : 8 ∈ rs) (m_isinstance : mg "isinstance" = none) (m_tuple : mg "tuple" = none) (m_enumerate : mg "enumerate" = none) (g_MOST_KINDS : ∃ t, mg "MOST_KINDS" = some (.int 4 t)) (D_is_name : Has P w K mg base "is_name" 1 ["value"] (spIsNameD K)) (F : FnP K "check_kinds" s_check_kinds f fd) : FnOk P w K mg base (L2.CX P w) 3 f fd ["kinds"] (spChkKD K (C 8)) := by
  refine F.ok sc_check_kinds (fun vs H Q E h => by obtain ⟨v, D, rfl, _⟩ := h; rfl) (fun cdv A outer s H vs Q E hr h => ⟨_,
    (pss_cons (ps_if (pw_or (pt_not (pt_val (pe_callB (isiK K) (by rfl) m_isinstance (by decide +kernel) (pa_cons (pv 0) (pa_cons (pe_bty (n := "tuple") m_tuple) pa_nil))))) (pw_or1 (pt_cmpR (eqY hr) (pv 0) (pe_tup pa_nil) (nomark _)))).pt (pss_one (ps_raise rfl (takes_of rfl rfl rfl rfl) (pmk_new (c.D 8 h8) (c.ty 8 h8) (hr.mono (by decide)) (pa_cons pe_non pa_nil)))) pss_nil) (pss_one (ps_for (passes_of rfl) rfl (pi_enumT (by rfl) m_enumerate (pa_cons (pv 0) pa_nil)) (pg_tup rfl (pgs_cons (pg_name (i := 1) sc_check_kinds.nd rfl (Or.inl rfl)) (pgs_cons (pg_name (i := 2) sc_check_kinds.nd rfl (Or.inl rfl)) pgs_nil))) (pss_one (ps_if (pw_or (pt_cmpR (eqK K hr) (pv 1) (pe_gint g_MOST_KINDS) (nomark _)) (pw_or (pt_not (pt_val (pe_has D_is_name (hr.mono (by decide)) (pa_cons (pv 2) pa_nil)))) (pw_or1 (pt_cmpR (inK K hr) (pv 2) (pe_slice (slK K) (pv 0) po_none (po_some (pv 1))) rfl)))).pt (pss_one (ps_raise rfl (takes_of rfl rfl rfl rfl) (pmk_new (c.D 8 h8) (c.ty 8 h8) (hr.mono (by decide)) (pa_cons (pv 1) pa_nil)))) pss_nil))))), ?_⟩)
  obtain ⟨v, D, rfl, da, it, q, t⟩ := h
  have t0 : Ev (tCB (rIsi K) (tCons (tVar 0) (tCons (tC (.ty "tuple")) tNil))) [some v, none, none] H (.bl (isTup D)) := ev_isD (ev_var (i := 0) rfl) (fun H' e => da.mono e) (kit_tup D)
  cases c1 : isTup D with
  | false =>
    rw [c1] at t0
    exact q_when (b := true) (et_is (et_or (a := true) (b := false) (et_not (a := false) (et_B t0)) fun z => nomatch z) rfl) (fun _ H1 g1 => raise_ix (K := K) ((t none (chk_notup c1)).from g1) ev_c) fun z => nomatch z
  | true =>
    rw [c1] at t0
    obtain ⟨ds, rfl⟩ := tup_of c1
    obtain ⟨p, xs, rfl, hp, pr⟩ := da_items da
    have ln : xs.length = ds.length := (paired_len pr).symm
    refine q_when (b := decide (xs = [])) (et_is (et_or (a := false) (b := decide (xs = [])) (et_not (a := true) (et_B t0)) fun _ => et_B (ev_opU (ev_var rfl) (eu_tup ea_nil (by simp)) fun u H3 h3 e3 => fun H4 e4 Q' q' => .inr ⟨p, u, xs, rfl, rfl, ex_t (e3.trans e4) hp, .inl (.inl (e4 _ _ h3)), q' H4 (Ex.refl H4)⟩)) (by rw [Bool.false_or])) (fun z H1 g1 => ?_) fun z H1 e1 => ?_
    · have e : ds = [] := List.eq_nil_of_length_eq_zero (by rw [← ln, of_decide_eq_true z]; rfl)
      subst e
      exact raise_ix (K := K) ((t none rfl).from g1) ev_c
    have ne : ds ≠ [] := fun e => of_decide_eq_false z (List.eq_nil_of_length_eq_zero (by rw [ln, e]; rfl))
    rw [chk_first ne] at q t
    refine ⟨.ref p, rfl, p, _, rfl, ex_t e1 hp, for_enumT (xs := xs) (fun i σ' H' => (∃ a1 a2, σ' = [some (.ref p), a1, a2]) ∧ Ex H H' ∧ ∀ j, j < i → badK ds j = false) ⟨⟨_, _, rfl⟩, e1, fun j h => absurd h (Nat.not_lt_zero j)⟩ (fun i σ' H' _ z => ex_t z.2.1 hp) (fun i x T σ' H' hx hT z => ?_) fun σ' H' z => ?_⟩
    · obtain ⟨⟨a1, a2, rfl⟩, e, pre⟩ := z
      have lt : i < ds.length := by
        have := (List.getElem?_eq_some_iff.mp hx).1
        omega
      have hd : ds[i]? = some ds[i] := List.getElem?_eq_getElem lt
      obtain ⟨y', hy', dx⟩ := SwX.paired_get pr hd
      rw [hx] at hy'
      cases hy'
      have mem := List.getElem_mem lt
      generalize ds[i] = d at hd dx mem
      have bad : badK ds i = (decide ((i : Int) = 4) || (!nameD d || (ds.take i).any fun z => PyData.eqv z d)) := by
        unfold badK
        rw [at_get hd, Bool.or_assoc]
        congr 1
        rw [Bool.eq_iff_iff]
        simp
        omega
      refine ⟨T, _, rfl, .inl (.inl upd_same), rfl, _, _, rfl, _, _, rfl, rfl, ?_⟩
      have e' := e.trans (Ex.new (o := .tup [.int (i : Nat), x]) hT)
      refine s_if (b := badK ds i) (et_is (et_or (a := decide ((i : Int) = 4)) (b := !nameD d || (ds.take i).any fun z => PyData.eqv z d) (et_B (ev_is (ev_op (ev_var rfl) ev_c (rv_l (rv_eq rfl))) (by
        rw [dec_int]
        congr 1))) fun _ => et_or (et_not (et_B (ev_call (vs := [x]) (ea_cons (ev_var rfl) ea_nil) fun H2 e2 R k E' => ⟨x, d, rfl, dx.mono (e'.trans e2), it ds rfl d mem, k⟩))) fun y => ?_) bad.symm) (fun y H2 e2 => ?_) fun y H2 e2 => ⟨⟨_, _, rfl⟩, e'.trans e2, fun j hj => ?_⟩
      · obtain ⟨n, rfl, okn⟩ := nameD_inv (d := d) (by simpa using y)
        obtain ⟨ns, ens, oks⟩ := pre_names pre (Nat.le_of_lt lt)
        refine et_B (ev_inY (c := nmsD ns) (d := nmD n) (.inr rfl) (ev_var rfl) (fun H2 e2 => dx.mono (e'.trans e2)) ((yi_slT (ev_var rfl) (ex_t e' hp) eo_none (eo_some (ev_var rfl))).imp fun v H2 e2 z => ?_) (pl_nm okn) (pl_nms oks) (by rw [ens]))
        obtain ⟨q1, rfl, h1⟩ := z
        rw [cut_take] at h1
        have z := da_tuple h1 (paired_take i (paired_mono (F := fun (r : PyData) v H => Da K H v r) (e'.trans e2) (fun r v H H' e h => Da.mono e h) pr))
        rw [ens] at z
        exact z
      · exact raise_ix (K := K) (r := some i) ((t (some i) (by rw [firstB_some lt pre y] <;> rfl)).from (e'.trans e2)) (ev_var rfl)
      · rcases Nat.lt_succ_iff_lt_or_eq.mp hj with h | rfl
        · exact pre j h
        · exact y
    · exact q (by rw [firstB_none fun j hj => z.2.2 j (by omega)] <;> rfl) _ z.2.1
def RsIt (D : PyData) : Prop := ∀ ds, D = .tuple ds → ∀ d ∈ ds, RIt d
def spChkRD (K : PySem.W.Frag) (C9 : Addr) : Sp := fun vs H Q E => ∃ (x : V) (p : Addr) (D : PyData) (ns : List Nm), vs = [x, .ref p] ∧ Da K H x D ∧ SqT K H p (ns.map nmV) ∧ (∀ n ∈ ns, NameOk n) ∧ RsIt D ∧ (chkR ns D = none → ∀ H', Ex H H' → Q .non H') ∧ ∀ r, chkR ns D = some r → Throws E C9 H r
abbrev s_check_recipes : Stmt := top 37
abbrev sc_check_recipes_N : List Str := ["recipes", "kinds", "at", "recipe"]
theorem sc_check_recipes : FnScope sc_check_recipes_N ["recipes", "kinds"] (defScope s_check_recipes) := ⟨rfl, rfl, rfl, by decide +kernel, rfl, by decide +kernel, by decide +kernel⟩
theorem ok_check_recipes (c : Cl P w K mg base rs C WV WN NA) (h9 : 9 ∈ rs) (m_isinstance : mg "isinstance" = none) (m_tuple : mg "tuple" = none) (m_enumerate : mg "enumerate" = none) (g_MOST_RECIPES : ∃ t, mg "MOST_RECIPES" = some (.int 10 t)) (D_is_recipe : Has P w K mg base "is_recipe" 3 ["value", "kinds"] (spIsRecD K)) (F : FnP K "check_recipes" s_check_recipes f fd) : FnOk P w K mg base (L2.CX P w) 4 f fd ["recipes", "kinds"] (spChkRD K (C 9)) := by
  refine F.ok sc_check_recipes (fun vs H Q E h => by obtain ⟨x, p, D, ns, rfl, _⟩ := h; rfl) (fun cdv A outer s H vs Q E hr h => ⟨_,
    (pss_cons (ps_if (pt_not (pt_val (pe_callB (isiK K) (by rfl) m_isinstance (by decide +kernel) (pa_cons (pv 0) (pa_cons (pe_bty (n := "tuple") m_tuple) pa_nil))))) (pss_one (ps_raise rfl (takes_of rfl rfl rfl rfl) (pmk_new (c.D 9 h9) (c.ty 9 h9) (hr.mono (by decide)) (pa_cons pe_non pa_nil)))) pss_nil) (pss_one (ps_for (passes_of rfl) rfl (pi_enumT (by rfl) m_enumerate (pa_cons (pv 0) pa_nil)) (pg_tup rfl (pgs_cons (pg_name (i := 2) sc_check_recipes.nd rfl (Or.inl rfl)) (pgs_cons (pg_name (i := 3) sc_check_recipes.nd rfl (Or.inl rfl)) pgs_nil))) (pss_one (ps_if (pw_or (pt_cmpR (eqK K hr) (pv 2) (pe_gint g_MOST_RECIPES) (nomark _)) (pw_or (pt_not (pt_val (pe_has D_is_recipe (hr.mono (by decide)) (pa_cons (pv 3) (pa_cons (pv 1) pa_nil))))) (pw_or1 (pt_cmpR (inK K hr) (pv 3) (pe_slice (slK K) (pv 0) po_none (po_some (pv 2))) rfl)))).pt (pss_one (ps_raise rfl (takes_of rfl rfl rfl rfl) (pmk_new (c.D 9 h9) (c.ty 9 h9) (hr.mono (by decide)) (pa_cons (pv 2) pa_nil)))) pss_nil))))), ?_⟩)
  obtain ⟨x, p, D, ns, rfl, da, hn, okn, it, q, t⟩ := h
  have t0 : Ev (tCB (rIsi K) (tCons (tVar 0) (tCons (tC (.ty "tuple")) tNil))) [some x, some (.ref p), none, none] H (.bl (isTup D)) := ev_isD (ev_var (i := 0) rfl) (fun H' e => da.mono e) (kit_tup D)
  cases c1 : isTup D with
  | false =>
    rw [c1] at t0
    exact q_when (b := true) (et_not (a := false) (et_B t0)) (fun _ H1 g1 => raise_ix (K := K) ((t none (chkR_notup c1)).from g1) ev_c) fun z => nomatch z
  | true =>
    rw [c1] at t0
    obtain ⟨ds, rfl⟩ := tup_of c1
    obtain ⟨q0, xs, rfl, hp, pr⟩ := da_items da
    have ln : xs.length = ds.length := (paired_len pr).symm
    refine q_when (b := false) (et_not (a := true) (et_B t0)) (fun z => nomatch z) fun z H1 e1 => ?_
    have val : chkR ns (.tuple ds) = (firstB ds.length (badR ns ds)).map some := rfl
    rw [val] at q t
    refine ⟨.ref q0, rfl, q0, _, rfl, ex_t e1 hp, for_enumT (xs := xs) (fun i σ' H' => (∃ a1 a2, σ' = [some (.ref q0), some (.ref p), a1, a2]) ∧ Ex H H' ∧ ∀ j, j < i → badR ns ds j = false) ⟨⟨_, _, rfl⟩, e1, fun j h => absurd h (Nat.not_lt_zero j)⟩ (fun i σ' H' _ z => ex_t z.2.1 hp) (fun i x T σ' H' hx hT z => ?_) fun σ' H' z => ?_⟩
    · obtain ⟨⟨a1, a2, rfl⟩, e, pre⟩ := z
      have lt : i < ds.length := by
        have := (List.getElem?_eq_some_iff.mp hx).1
        omega
      have hd : ds[i]? = some ds[i] := List.getElem?_eq_getElem lt
      obtain ⟨y', hy', dx⟩ := SwX.paired_get pr hd
      rw [hx] at hy'
      cases hy'
      have mem := List.getElem_mem lt
      generalize ds[i] = d at hd dx mem
      have bad : badR ns ds i = (decide ((i : Int) = 10) || (!recD ns d || (ds.take i).any fun z => PyData.eqv z d)) := by
        unfold badR
        rw [at_get hd, Bool.or_assoc]
        congr 1
        rw [Bool.eq_iff_iff]
        simp
        omega
      refine ⟨T, _, rfl, .inl (.inl upd_same), rfl, _, _, rfl, _, _, rfl, rfl, ?_⟩
      have e' := e.trans (Ex.new (o := .tup [.int (i : Nat), x]) hT)
      refine s_if (b := badR ns ds i) (et_is (et_or (a := decide ((i : Int) = 10)) (b := !recD ns d || (ds.take i).any fun z => PyData.eqv z d) (et_B (ev_is (ev_op (ev_var rfl) ev_c (rv_l (rv_eq rfl))) (by
        rw [dec_int]
        congr 1))) fun _ => et_or (et_not (et_B (ev_call (vs := [x, .ref p]) (ea_cons (ev_var rfl) (ea_cons (ev_var rfl) ea_nil)) fun H2 e2 R k E' => ⟨x, p, d, ns, rfl, dx.mono (e'.trans e2), ex_t (e'.trans e2) hn, okn, it ds rfl d mem, k⟩))) fun y => ?_) bad.symm) (fun y H2 e2 => ?_) fun y H2 e2 => ⟨⟨_, _, rfl⟩, e'.trans e2, fun j hj => ?_⟩
      · obtain ⟨r, rfl, okr⟩ := recD_inv (d := d) (by simpa using y)
        obtain ⟨rs, ers, oks⟩ := pre_ruls pre (Nat.le_of_lt lt)
        refine et_B (ev_inY (c := rulsD rs) (d := rulD r) (.inr rfl) (ev_var rfl) (fun H2 e2 => dx.mono (e'.trans e2)) ((yi_slT (ev_var rfl) (ex_t e' hp) eo_none (eo_some (ev_var rfl))).imp fun v H2 e2 z => ?_) (pl_rul (okr.nm okn)) (pl_ruls fun m hm => (oks m hm).nm okn) (by rw [ers]))
        obtain ⟨q1, rfl, h1⟩ := z
        rw [cut_take] at h1
        have z := da_tuple h1 (paired_take i (paired_mono (F := fun (r : PyData) v H => Da K H v r) (e'.trans e2) (fun r v H H' e h => Da.mono e h) pr))
        rw [ers] at z
        exact z
      · exact raise_ix (K := K) (r := some i) ((t (some i) (by rw [firstB_some lt pre y] <;> rfl)).from (e'.trans e2)) (ev_var rfl)
      · rcases Nat.lt_succ_iff_lt_or_eq.mp hj with h | rfl
        · exact pre j h
        · exact y
    · exact q (by rw [firstB_none fun j hj => z.2.2 j (by omega)] <;> rfl) _ z.2.1
end
end K17
set_option Elab.async false
set_option linter.all false
set_option maxRecDepth 100000
set_option maxHeartbeats 4000000
namespace K17
open PySem PySem.Spec PyProof.Rows L2 Evl SwX
section
variable {P : Program} {w : World} {K : PySem.W.Frag} {mg : Str → Option Value} {base : Heap} {f : Addr} {fd : FuncData} {C : Addr}
abbrev FnM (K : PySem.W.Frag) (x q : Str) (st : Stmt) (dvs : List V) (f : Addr) (fd : FuncData) : Prop := FunD K x q (defArgs st) (defBody st) (defScope st) dvs [] f fd
/-- what is looked up of the class -/
structure CatC (K : PySem.W.Frag) (C : Addr) : Prop where
  cls : Cls K C
  n1 : NoAttr K C "all_kinds"
  n2 : NoAttr K C "all_recipes"
  n3 : NoAttr K C "words"
  ha : PySem.W.findIn K (.ref C) "__class__" = some (some (.builtin "object.__class__"))
  hn : PySem.W.specialIn K (.builtin "object.__class__") "__get__" = some (some (.builtin "getset_descriptor.__get__"))
  ht : PySem.W.takesIn K (.builtin "object.__class__") = some true
  hm : PySem.W.mroIn K C (.type "object") = some true
  kt : PySem.W.kitOne K (.ref C) (.ref C) = some true
/-- the catalogue at a: names, rules -/
def Cat (K : PySem.W.Frag) (C : Addr) (ns : List Nm) (rs : List Rul) (v : V) (H : Hp) : Prop := ∃ (a dx p : Addr) (y : V), v = .ref a ∧ H a = some (.ins C dx [("all_kinds", .ref p), ("all_recipes", y), ("words", .str (SX.S (textL ns rs)))]) ∧ SqT K H p (ns.map nmV) ∧ Da K H y (rulsD rs)
theorem cat_mono {ns : List Nm} {rs : List Rul} (v : V) (H H' : Hp) (e : Ex H H') (h : Cat K C ns rs v H) : Cat K C ns rs v H' := by
  obtain ⟨a, dx, p, y, rfl, h1, h2, h3⟩ := h
  exact ⟨a, dx, p, y, rfl, e _ _ h1, ex_t e h2, h3.mono e⟩
theorem Cat.is {ns : List Nm} {rs : List Rul} {v : V} {H : Hp} (h : Cat K C ns rs v H) : ∃ a, v = .ref a ∧ IsI H a C := by
  obtain ⟨a, dx, p, y, rfl, h1, _⟩ := h
  exact ⟨a, rfl, dx, _, h1⟩
theorem putF_len (f : Str) (v : V) : ∀ fs : List (Str × V), (putF f v fs).length ≤ fs.length + 1
  | [] => Nat.le_refl _
  | (g, x) :: r => by
    have z := putF_len f v r
    unfold putF
    split <;> simp only [List.length_cons] <;> omega
theorem q_asgU2 {σ : L2.St} {H : Hp} {te : TE} {x y : V} {g1 g2 : TG} {tz : TS} {D : Ends} (h : EvU te σ H [x, y]) (k : ∀ u H1, H u = none → Ex H H1 → H1 u = some (.tup [x, y]) → g1 x σ H1 fun σ' H' => g2 y σ' H' fun σ2 H2 => tz D σ2 H2) :
    tSeq (tAsg te (gTup K 2 (gCons g1 (gCons g2 gNil)))) tz D σ H := h H (Ex.refl H) _ fun u H1 n1 e1 h1 => by
  refine ⟨u, _, rfl, .inl (.inl h1), rfl, x, [y], rfl, ?_⟩
  have z := k u H1 n1 e1 h1
  show g1 x σ H1 fun σ' H' => ∃ v r, [y] = v :: r ∧ g2 v σ' H' fun σ2 H2 => r = [] ∧ tz D σ2 H2
  have e : (fun (σ' : L2.St) (H' : Hp) => ∃ v r, [y] = v :: r ∧ g2 v σ' H' fun σ2 H2 => r = [] ∧ tz D σ2 H2) = fun σ' H' => g2 y σ' H' fun σ2 H2 => tz D σ2 H2 := by
    funext σ' H'
    apply propext
    constructor
    · rintro ⟨v, r, w, q⟩
      cases w
      simpa using q
    · intro q
      exact ⟨y, [], rfl, by simpa using q⟩
  rw [e]
  exact z
/-- what Catalogue(v, y) comes to: v is the datum D1, y is D2 -/
structure CatOut (K : PySem.W.Frag) (C C8 C9 : Addr) (D1 D2 : PyData) (E : XK) (H : Hp) (Q : VK) : Prop where
  bad8 : ∀ r, chkK D1 = some r → Throws E C8 H r
  bad9 : ∀ ns, D1 = nmsD ns → NamesOk ns → ∀ r, chkR ns D2 = some r → Throws E C9 H r
  good : ∀ ns rs, D1 = nmsD ns → D2 = rulsD rs → NamesOk ns → RulesOk ns rs → ∀ z H', Ex H H' → Cat K C ns rs z H' → Q z H'
def spInitD (K : PySem.W.Frag) (C C8 C9 : Addr) : Sp := fun vs H Q E => ∃ (x dx : Addr) (v y : V) (D1 D2 : PyData), vs = [.ref x, v, y] ∧ H x = some (.ins C dx []) ∧ Da K (less x H) v D1 ∧ Da K (less x H) y D2 ∧ KIt D1 ∧ RsIt D2 ∧
  (∀ r, chkK D1 = some r → Throws E C8 H r) ∧ (∀ ns, D1 = nmsD ns → NamesOk ns → ∀ r, chkR ns D2 = some r → Throws E C9 H r) ∧ ∀ ns rs, D1 = nmsD ns → D2 = rulsD rs → NamesOk ns → RulesOk ns rs → ∀ H', Ex (less x H) H' → Cat K C ns rs (.ref x) H' → Q .non H'
abbrev s_Cat_init : Stmt := inClass (top 41) 0
abbrev sc_Cat_init_N : List Str := ["self", "kinds", "recipes"]
theorem sc_Cat_init : FnScope sc_Cat_init_N ["self", "kinds", "recipes"] (defScope s_Cat_init) := ⟨rfl, rfl, rfl, by decide +kernel, rfl, by decide +kernel, by decide +kernel⟩
theorem ok_Cat_init {C8 C9 : Addr} (c : CatC K C) (D_check_kinds : HasE P w K mg base "check_kinds" 3 ["kinds"] (spChkKD K C8)) (D_check_recipes : HasE P w K mg base "check_recipes" 4 ["recipes", "kinds"] (spChkRD K C9)) (D_text_of : Has P w K mg base "text_of" 1 ["kinds", "recipes"] (spText K)) {dvs : List V} (F : FnM K "__init__" "Catalogue.__init__" s_Cat_init dvs f fd) : FnOk P w K mg base (L2.CX P w) 5 f fd ["self", "kinds", "recipes"] (spInitD K C C8 C9) := by
  refine F.ok sc_Cat_init (fun vs H Q E h => by obtain ⟨x, dx, v, y, D1, D2, rfl, _⟩ := h; rfl) (fun cdv A outer s H vs Q E hr h => ⟨_,
    (pss_cons (ps_expr (pe_hasE D_check_kinds (hr.mono (by decide)) (pass_E (takes_of rfl rfl rfl rfl) fun _ _ _ _ z => z) (pa_cons (pv 1) pa_nil))) (pss_cons (ps_expr (pe_hasE D_check_recipes (hr.mono (by decide)) (pass_E (takes_of rfl rfl rfl rfl) fun _ _ _ _ z => z) (pa_cons (pv 2) (pa_cons (pv 1) pa_nil)))) (pss_cons (ps_asg (pe_tup (pa_cons (pv 1) (pa_cons (pv 2) pa_nil))) (pg_tup rfl (pgs_cons (pg_fldT (pv 0)) (pgs_cons (pg_fldT (pv 0)) pgs_nil)))) (pss_one (ps_fld (pv 0) (pe_has D_text_of (hr.mono (by decide)) (pa_cons (pv 1) (pa_cons (pv 2) pa_nil))) rfl))))), ?_⟩)
  obtain ⟨x, dx, v, y, D1, D2, rfl, hx, d1, d2, i1, i2, t8, t9, q⟩ := h
  refine ⟨v, rfl, v, D1, rfl, d1.mono less_ex, i1, fun c1 H1 e1 => ?_, t8⟩
  obtain ⟨ns, rfl, okn⟩ := chkK_none c1
  obtain ⟨p, rfl, hp⟩ := da_nmsI d1
  refine ⟨y, rfl, .ref p, rfl, y, p, D2, ns, rfl, d2.mono (less_ex.trans e1), ex_t (less_ex.trans e1) hp, okn.ok, i2, fun c2 H2 e2' => ?_, fun r z => (t9 ns rfl okn r z).from e1⟩
  obtain ⟨rs, rfl, okr⟩ := chkR_none c2
  have e2 := e1.trans e2'
  have q := q ns rs rfl rfl okn okr
  have hy := d2
  have x2 := e2 _ _ hx
  refine q_asgU2 (K := K) (eu_tup (ea_cons (ev_var rfl) (ea_cons (ev_var rfl) ea_nil)) (by simp)) fun u H3 n3 e3 h3 => ⟨.ref x, rfl, x, C, dx, [], rfl, e3 _ _ x2, c.cls, c.n1, by simp, ⟨.ref x, rfl, x, C, dx, _, rfl, upd_same, c.cls, c.n2, Nat.lt_of_le_of_lt (putF_len _ _ _) (by decide), ?_⟩⟩
  have E1 : Ex (less x H) (upd (upd H3 x (.ins C dx (putF "all_kinds" (.ref p) []))) x (.ins C dx (putF "all_recipes" y (putF "all_kinds" (.ref p) [])))) := less_upd (less_upd (less_ex.trans (e2.trans e3)))
  refine (ev_call (vs := [.ref p, y]) (ea_cons (ev_var (i := 1) rfl) (ea_cons (ev_var (i := 2) rfl) ea_nil)) (fun H4 e4 R k E' => ⟨p, y, ns, rs, rfl, ex_t (E1.trans e4) hp, hy.mono (E1.trans e4), by have := okn.len; omega, by have := okr.len; omega, okn.ok, fun r hr => ⟨(okr.ok r hr).nm okn.ok, (okr.ok r hr).hi, by have := (okr.ok r hr).len; omega⟩, k⟩) : Ev (tCall (spText K) [] E0 _) [some (.ref x), some (.ref p), some y] _ (.str (SX.S (textL ns rs)))) _ (Ex.refl _) _ fun H4 e4 => ?_
  refine ⟨.ref x, rfl, x, C, dx, _, rfl, e4 _ _ upd_same, c.cls, c.n3, Nat.lt_of_le_of_lt (Nat.le_trans (putF_len _ _ _) (Nat.succ_le_succ (putF_len _ _ _))) (by decide), ?_⟩
  have E4 := less_upd (o := .ins C dx (putF "words" (.str (SX.S (textL ns rs))) (putF "all_recipes" y (putF "all_kinds" (.ref p) [])))) (E1.trans e4)
  exact q _ E4 ⟨x, dx, p, y, rfl, upd_same, ex_t E4 hp, hy.mono E4⟩
theorem ev_fldC {f : Str} {u : V} {σ : L2.St} {H : Hp} {te : TE} {a dx : Addr} {fs : List (Str × V)} (c : CatC K C) (n : NoAttr K C f) (h : Ev te σ H (.ref a)) (e : H a = some (.ins C dx fs)) (l : fs.lookup f = some u) : Ev (tFld K te f) σ H u := fun H1 e1 Q q => h H1 e1 _ fun H2 e2 => ⟨a, C, dx, fs, u, rfl, e2 _ _ (e1 _ _ e), c.cls, n, l, q H2 e2⟩
/-- the text that repr shows of one -/
def reprL (n m : Nat) : List Nat := [67, 97, 116, 97, 108, 111, 103, 117, 101, 32, 111, 102, 32] ++ TL.numL n ++ [32, 107, 105, 110, 100, 115, 44, 32] ++ TL.numL m ++ [32, 114, 101, 99, 105, 112, 101, 115]
def spCatRepr (K : PySem.W.Frag) (C : Addr) : Sp := fun vs H Q _ => ∃ (v : V) (ns : List Nm) (rs : List Rul), vs = [v] ∧ Cat K C ns rs v H ∧ ns.length ≤ 4 ∧ rs.length ≤ 10 ∧ ∀ H', Ex H H' → Q (.str (SX.S (reprL ns.length rs.length))) H'
theorem js_repr {σ : L2.St} {H : Hp} {ta tb : TE} {n m : Nat} (ha : Ev ta σ H (.int (n : Nat))) (hb : Ev tb σ H (.int (m : Nat))) (hn : n ≤ 9) (hm : m ≤ 99) : Ev (fun σ H Q => tJs [tC (.str (SX.S [67, 97, 116, 97, 108, 111, 103, 117, 101, 32, 111, 102, 32])), tFmt ta, tC (.str (SX.S [32, 107, 105, 110, 100, 115, 44, 32])), tFmt tb, tC (.str (SX.S [32, 114, 101, 99, 105, 112, 101, 115]))] Str.empty σ H fun out H1 => Q (.str out) H1) σ H (.str (SX.S (reprL n m))) := fun H1 e1 Q q => by
  have e0 : Str.empty = SX.S [] := rfl
  have l1 := TL.numL_len (n := n) (k := 2) (by decide) (by omega)
  have l2 := TL.numL_len (n := m) (k := 2) (by decide) (by omega)
  rw [e0]
  refine ⟨_, rfl, by rw [SX.S_cat, SX.S_len]; exact sz_of (by simp), ?_⟩
  refine (ev_fmtI ha (by omega) : Ev _ σ H _) H1 e1 _ fun H2 e2 => ⟨_, rfl, by rw [SX.S_cat, SX.S_cat, SX.S_len]; exact sz_of (by simp; omega), ?_⟩
  refine ⟨_, rfl, by rw [SX.S_cat, SX.S_cat, SX.S_cat, SX.S_len]; exact sz_of (by simp; omega), ?_⟩
  refine (ev_fmtI hb (by omega) : Ev _ σ H _) H2 (e1.trans e2) _ fun H3 e3 => ⟨_, rfl, by rw [SX.S_cat, SX.S_cat, SX.S_cat, SX.S_cat, SX.S_len]; exact sz_of (by simp; omega), ?_⟩
  refine ⟨_, rfl, by rw [SX.S_cat, SX.S_cat, SX.S_cat, SX.S_cat, SX.S_cat, SX.S_len]; exact sz_of (by simp; omega), ?_⟩
  show Q (.str (SX.S [] ++ _ ++ SX.S (TL.numL n) ++ _ ++ SX.S (TL.numL m) ++ _)) H3
  rw [SX.S_cat, SX.S_cat, SX.S_cat, SX.S_cat, SX.S_cat, List.nil_append]
  exact q H3 (e2.trans e3)
abbrev s_Cat_repr : Stmt := inClass (top 41) 8
abbrev sc_Cat_repr_N : List Str := ["self"]
theorem sc_Cat_repr : FnScope sc_Cat_repr_N ["self"] (defScope s_Cat_repr) := ⟨rfl, rfl, rfl, by decide +kernel, rfl, by decide +kernel, by decide +kernel⟩
theorem ok_Cat_repr (c : CatC K C) (m_len : mg "len" = none) (F : FnM K "__repr__" "Catalogue.__repr__" s_Cat_repr [] f fd) : FnOk P w K mg base CX0 1 f fd ["self"] (spCatRepr K C) := by
  refine F.ok sc_Cat_repr (fun vs H Q E h => by obtain ⟨v, ns, rs, rfl, _⟩ := h; rfl) (fun cdv A outer s H vs Q E hr h => ⟨_, PSs.nox
    (pss_one (ps_ret (pe_joined (PJ.cons pe_str (PJ.cons (pe_fmt (pe_callB (lenK K) (by rfl) m_len (by decide +kernel) (pa_cons (fldK K (pv 0) rfl) pa_nil))) (PJ.cons pe_str (PJ.cons (pe_fmt (pe_callB (lenK K) (by rfl) m_len (by decide +kernel) (pa_cons (fldK K (pv 0) rfl) pa_nil))) (PJ.cons pe_str PJ.nil)))))))), ?_⟩)
  obtain ⟨v, ns, rs, rfl, hv, ln, lr, q⟩ := h
  obtain ⟨a, dx, p, y, rfl, h1, hp, hy⟩ := hv
  obtain ⟨q0, xs, rfl, hq, pr⟩ := da_ruls rs hy
  have k1 : ("Catalogue of " : Str) = SX.S [67, 97, 116, 97, 108, 111, 103, 117, 101, 32, 111, 102, 32] := by decide +kernel
  have k2 : (" kinds, " : Str) = SX.S [32, 107, 105, 110, 100, 115, 44, 32] := by decide +kernel
  have k3 : (" recipes" : Str) = SX.S [32, 114, 101, 99, 105, 112, 101, 115] := by decide +kernel
  rw [k1, k2, k3]
  refine s_ret (js_repr (ev_is (ev_lenL (ev_fldC c c.n1 (ev_var rfl) h1 rfl) (.inr hp)) (by rw [List.length_map])) (ev_is (ev_lenL (ev_fldC c c.n2 (ev_var rfl) h1 rfl) (.inr hq)) (by rw [paired_len pr])) (by omega) (by omega)) q
end
/-! ### making one -/
/-- what the class's name gives -/
structure CatM (P : Program) (w : World) (K : PySem.W.Frag) (mg : Str → Option Value) (base : Heap) (C C8 C9 : Addr) : Prop where
  ex : ∃ (f : Addr) (fd : FuncData) (d0 : Addr) (ds : List Value), Mk K C f ∧ FnOk P w K mg base (L2.CX P w) 5 f fd ["self", "kinds", "recipes"] (spInitD K C C8 C9) ∧ Binds K fd ["self", "kinds", "recipes"] [] ∧ Binds K fd ["self", "kinds", "recipes"] ds ∧ Vals [.ref d0] ds ∧ SqT K (fun _ => none) d0 [] ∧
    KBn K fd ["self", "kinds", "recipes"] 1 ["recipes", "kinds"] (fun us ws => us ++ ws.reverse) (fun vs zs => vs ++ zs.reverse)
  g : mg "Catalogue" = some (.ref C)
  c : CatC K C
theorem sq_empty {K : PySem.W.Frag} {H : Hp} {d : Addr} {xs : List V} (h : SqT K (fun _ => none) d xs) : SqT K H d xs := by
  rcases h with (h | ⟨o, h⟩) | h
  · cases h
  · cases h
  · exact .inr h
section
variable {X : Cx} {x : Str} {p pos : Pos} {e : Expr} {es : List Expr} {kws : List Keyword} {t tk : TA} {k : Nat} {C C8 C9 : Addr} {E : XK}
theorem pe_catX2 (M : CatM X.prog X.w X.K X.mg X.base C C8 C9) (hr : Room 6 X.A) (hx : Passes (L2.CX X.prog X.w) X E) (ha : PA X (e :: es) t) (hg : Gl X "Catalogue" := by rfl) (he : starEach (e :: es) X.env = (false, eval e X.env) :: starEach es X.env := by rfl) (hpl : (backTo pos (starEach es X.env)).any (·.1) = false := by rfl) :
    PE X (.Call (.Name "Catalogue" p) (e :: es) [] pos) (tMake C (spInitD X.K C C8 C9) [] E t) := by
  obtain ⟨f, fd, d0, ds, mk, F, b, _⟩ := M.ex
  exact pe_make mk F hr hg M.g b .nil hx ha (by decide) he hpl
def Dflt (K : PySem.W.Frag) (d0 : Addr) : Prop := SqT K (fun _ => none) d0 []
def tCatX1 (K : PySem.W.Frag) (C C8 C9 : Addr) (E : XK) (t : TA) : TE := fun σ H Q => ∀ d0, Dflt K d0 → tMake C (spInitD K C C8 C9) [.ref d0] E t σ H Q
theorem pe_catX1 (M : CatM X.prog X.w X.K X.mg X.base C C8 C9) (hr : Room 6 X.A) (hx : Passes (L2.CX X.prog X.w) X E) (ha : PA X (e :: es) t) (hg : Gl X "Catalogue" := by rfl) (he : starEach (e :: es) X.env = (false, eval e X.env) :: starEach es X.env := by rfl) (hpl : (backTo pos (starEach es X.env)).any (·.1) = false := by rfl) :
    PE X (.Call (.Name "Catalogue" p) (e :: es) [] pos) (tCatX1 X.K C C8 C9 E t) := by
  obtain ⟨f, fd, d0, ds, mk, F, _, b, d, z, _⟩ := M.ex
  exact ⟨fun pins s σ H Q I h => (pe_make mk F hr hg M.g b d hx ha (by decide) he hpl).run pins s σ H Q I (h d0 z)⟩
theorem pe_catXK (M : CatM X.prog X.w X.K X.mg X.base C C8 C9) (hr : Room 6 X.A) (hx : Passes (L2.CX X.prog X.w) X E) (hkw : PK X kws tk) (hg : Gl X "Catalogue" := by rfl) (hall : (backToKw pos (keywordEach kws X.env)).all (·.1.isSome) = true := by rfl) (hks : (backToKw pos (keywordEach kws X.env)).filterMap (·.1) = (["recipes", "kinds"] : List Str) := by rfl)
    (hpl : ((backTo pos (starEach [] X.env)).any (·.1) || (backToKw pos (keywordEach kws X.env)).any (·.1.isNone)) = false := by rfl) : PE X (.Call (.Name "Catalogue" p) [] kws pos) (tMakeK C 0 2 (spInitD X.K C C8 C9) (fun vs zs => vs ++ zs.reverse) E tNil tk) := by
  obtain ⟨f, fd, d0, ds, mk, F, _, _, _, _, kb⟩ := M.ex
  exact pe_makeK0 mk F hr hg M.g kb hx hkw hall hks (by decide) hpl
end
theorem less_two {H : Hp} {x dx C : Addr} (h1 : H x = none) (h2 : H dx = none) (ne : dx ≠ x) : Ex H (less x (upd (upd H dx (.own x)) x (.ins C dx []))) := ex_less h1 (((Ex.refl H).mut h2).mut h1)
section
variable {K : PySem.W.Frag} {σ : L2.St} {H : Hp} {ta tb : TE} {v y : V} {D1 D2 : PyData} {C C8 C9 : Addr} {E : XK} {Q : VK}
theorem init_out {x dx : Addr} {H1 : Hp} (hx : H1 x = none) (hdx : H1 dx = none) (ne : dx ≠ x) (e1 : Ex H H1) (d1 : Da K H1 v D1) (d2 : Da K H1 y D2) (i1 : KIt D1) (i2 : RsIt D2) (o : CatOut K C C8 C9 D1 D2 E H Q) :
    spInitD K C C8 C9 [.ref x, v, y] (upd (upd H1 dx (.own x)) x (.ins C dx [])) (fun v H2 => v = .non ∧ Q (.ref x) H2) E := by
  have b := less_two (C := C) hx hdx ne
  have b' : Ex H1 (upd (upd H1 dx (.own x)) x (.ins C dx [])) := ((Ex.refl H1).mut hdx).mut hx
  exact ⟨x, dx, v, y, D1, D2, rfl, upd_same, d1.mono b, d2.mono b, i1, i2, fun r z => (o.bad8 r z).from (e1.trans b'), fun ns e okn r z => (o.bad9 ns e okn r z).from (e1.trans b'), fun ns rs e e' okn okr H' ex c => ⟨rfl, o.good ns rs e e' okn okr _ H' (e1.trans (b.trans ex)) c⟩⟩
theorem out_2 (ha : Ev ta σ H v) (hb : Ev tb σ H y) (d1 : ∀ H', Ex H H' → Da K H' v D1) (d2 : ∀ H', Ex H H' → Da K H' y D2) (i1 : KIt D1) (i2 : RsIt D2) (o : CatOut K C C8 C9 D1 D2 E H Q) : tMake C (spInitD K C C8 C9) [] E (tCons ta (tCons tb tNil)) σ H Q :=
  ha H (Ex.refl H) _ fun H1 e1 => hb H1 e1 _ fun H2 e2 x dx hx hdx ne => init_out hx hdx ne (e1.trans e2) (d1 _ (e1.trans e2)) (d2 _ (e1.trans e2)) i1 i2 o
theorem out_1 (ha : Ev ta σ H v) (d1 : ∀ H', Ex H H' → Da K H' v D1) (i1 : KIt D1) (o : CatOut K C C8 C9 D1 (.tuple []) E H Q) : tCatX1 K C C8 C9 E (tCons ta tNil) σ H Q :=
  fun d0 z0 => ha H (Ex.refl H) _ fun H1 e1 x dx hx hdx ne => init_out hx hdx ne e1 (d1 _ e1) (da_tuple (sq_empty z0) .nil) i1 (fun ds e d hd => by cases e; cases hd) o
theorem out_K (ha : Ev ta σ H y) (hb : Ev tb σ H v) (d1 : ∀ H', Ex H H' → Da K H' v D1) (d2 : ∀ H', Ex H H' → Da K H' y D2) (i1 : KIt D1) (i2 : RsIt D2) (o : CatOut K C C8 C9 D1 D2 E H Q) : tMakeK C 0 2 (spInitD K C C8 C9) (fun vs zs => vs ++ zs.reverse) E tNil (tCons ta (tCons tb tNil)) σ H Q :=
  ha H (Ex.refl H) _ fun H1 e1 => hb H1 e1 _ fun H2 e2 => ⟨rfl, rfl, fun x dx hx hdx ne => init_out hx hdx ne (e1.trans e2) (d1 _ (e1.trans e2)) (d2 _ (e1.trans e2)) i1 i2 o⟩
end
end K17
set_option Elab.async false
set_option linter.all false
set_option maxRecDepth 100000
set_option maxHeartbeats 4000000
namespace K17
open PySem PySem.Spec PyProof.Rows L2 Evl SwX
/-! ### single signs compared -/
def rLeS : R2 := fun x y H Q => ∃ i j, x = .str i ∧ y = .str j ∧ Q (.bl (!decide (j.cps.toList < i.cps.toList))) H
theorem op_leS {X : Cx} : OpR X (compareOp .LtE) rLeS := op_le_str
theorem one_lt (a b : Nat) : ([a] < [b]) ↔ a < b := by
  rw [List.cons_lt_cons_iff]
  simp
theorem ev_chainS {σ : L2.St} {H : Hp} {ta tb tc : TE} {a b c : Nat} (ha : Ev ta σ H (.str (SX.S [a]))) (hb : Ev tb σ H (.str (SX.S [b]))) (hc : Ev tc σ H (.str (SX.S [c]))) : Ev (tChain rLeS rLeS ta tb tc) σ H (.bl (decide (a ≤ b ∧ b ≤ c))) := fun H1 e1 Q q =>
  ha H1 e1 _ fun H2 e2 => hb H2 (e1.trans e2) _ fun H3 e3 => by
    have e : (!decide ((SX.S [b]).cps.toList < (SX.S [a]).cps.toList)) = decide (a ≤ b) := by
      show (!decide ([b] < [a])) = _
      rw [Bool.eq_iff_iff]
      simp only [Bool.not_eq_true', decide_eq_false_iff_not, decide_eq_true_eq, one_lt]
      omega
    refine ⟨_, _, rfl, rfl, !decide ((SX.S [b]).cps.toList < (SX.S [a]).cps.toList), rfl, ?_⟩
    rw [e]
    by_cases z : a ≤ b
    · rw [if_pos (decide_eq_true z)]
      refine hc H3 ((e1.trans e2).trans e3) _ fun H4 e4 => ⟨_, _, rfl, rfl, ?_⟩
      have e' : (!decide ((SX.S [c]).cps.toList < (SX.S [b]).cps.toList)) = decide (a ≤ b ∧ b ≤ c) := by
        show (!decide ([c] < [b])) = _
        rw [Bool.eq_iff_iff]
        simp only [Bool.not_eq_true', decide_eq_false_iff_not, decide_eq_true_eq, one_lt]
        omega
      rw [e']
      exact q H4 ((e2.trans e3).trans e4)
    · rw [if_neg (by simpa using z)]
      have e' : decide (a ≤ b ∧ b ≤ c) = false := decide_eq_false fun y => z y.1
      rw [e'] at q
      exact q H3 (e2.trans e3)
section
variable {P : Program} {w : World} {K : PySem.W.Frag} {mg : Str → Option Value} {base : Heap} {f : Addr} {fd : FuncData}
abbrev s__law_is_name : Stmt := top 54
abbrev sc__law_is_name_N : List Str := ["_law_value", "_law_sign"]
theorem sc__law_is_name : FnScope sc__law_is_name_N ["_law_value"] (defScope s__law_is_name) := ⟨rfl, rfl, rfl, by decide +kernel, rfl, by decide +kernel, by decide +kernel⟩
theorem ok_lname (m_isinstance : mg "isinstance" = none) (m_str : mg "str" = none) (m_len : mg "len" = none) (m_all : mg "all" = none) (F : FnP K "_law_is_name" s__law_is_name f fd) : FnOk P w K mg base CX0 1 f fd ["_law_value"] (spIsNameD K) := by
  refine F.ok sc__law_is_name (fun vs H Q E h => by obtain ⟨v, D, rfl, _⟩ := h; rfl) (fun cdv A outer s H vs Q E hr h => ⟨_, PSs.nox
    (pss_cons (ps_if (pw_or (pt_not (pt_val (pe_callB (isiK K) (by rfl) m_isinstance (by decide +kernel) (pa_cons (pv 0) (pa_cons (pe_bty (n := "str") m_str) pa_nil))))) (pw_or (pt_not (pt_chain op_lt op_lt pe_int (pe_callB (lenK K) (by rfl) m_len (by decide +kernel) (pa_cons (pv 0) pa_nil)) pe_int)) (pw_or1 (pt_not (pt_chain op_leS op_leS pe_str (pe_ix (ixK K) (pv 0) pe_int (fun _ _ => rfl)) pe_str))))).pt (pss_one (ps_ret pe_bl)) pss_nil) (pss_one (ps_ret (pe_callB (cr_all rfl) (by rfl) m_all (by decide +kernel) (pa_cons (pe_lc (own := [("_law_sign", 1)]) (g := gName 1) (tt := tYes) rfl sc__law_is_name.nd (pi_str (pv 0)) (blkOk_by (N := sc__law_is_name_N) (sc := defScope s__law_is_name) (by decide +kernel)) (fun _ _ _ _ _ => pg_name (i := 1) sc__law_is_name.nd rfl (Or.inl rfl)) (fun _ _ _ _ _ => pts_nil) (fun _ _ _ _ _ => (pe_or (pe_chain op_leS op_leS pe_str (pv 1) pe_str) (pe_one (pe_chain op_leS op_leS pe_str (pv 1) pe_str))))) pa_nil))))), ?_⟩)
  obtain ⟨v, D, rfl, da, sh, q⟩ := h
  have ca : ("a" : Str) = SX.S [97] := by decide +kernel
  have cz : ("z" : Str) = SX.S [122] := by decide +kernel
  have c0 : ("0" : Str) = SX.S [48] := by decide +kernel
  have c9 : ("9" : Str) = SX.S [57] := by decide +kernel
  rw [ca, cz, c0, c9]
  cases c : isStr D with
  | false =>
    rw [not_str c] at q
    refine q_when (b := true) (et_is (et_or (a := true) (b := false) (et_not (a := false) (et_B (ev_is (ev_isD (ev_var rfl) (fun H' e => da.mono e) (kit_str D)) (by rw [c])))) fun z => nomatch z) rfl) (fun _ H1 g1 => s_ret ev_c fun H2 g2 => q H2 (g1.trans g2)) fun z => nomatch z
  | true =>
    obtain ⟨l, rfl⟩ := str_of c
    cases da
    have len : l.length ≤ 1000 := sh _ rfl
    refine q_when (b := !(decide (1 ≤ l.length) && decide (l.length ≤ 8)) || !hdB l) (et_is (et_or (a := false) (et_not (a := true) (et_B (ev_isi (T := "str") (ev_var rfl) (fun _ _ => .base (.str _)) (by decide +kernel)))) fun _ => et_or (a := !(decide (1 ≤ l.length) && decide (l.length ≤ 8))) (b := !hdB l) (et_not (et_B (ev_is (ev_chainI (f := fun a b => decide (a < b)) (g := fun a b => decide (a < b)) ev_c (ev_lenS (ev_var rfl) (by omega)) ev_c) (by
        congr 1
        rw [Bool.eq_iff_iff]
        simp only [Bool.and_eq_true, decide_eq_true_eq]
        omega)))) fun z => ?_) (by rw [Bool.false_or])) (fun z H1 g1 => ?_) fun z H1 g1 => ?_
    · have hz : 1 ≤ l.length := by
        simp only [Bool.not_eq_false', Bool.and_eq_true, decide_eq_true_eq] at z
        exact z.1
      match l, hz with
      | d :: r, _ => exact et_not (et_B (ev_chainS (b := d) ev_c (ev_op (ev_var rfl) ev_c (rv_ixZ (i := 0) rfl (by omega))) ev_c))
    · have no : nameD (.str (SX.S l)) = false := nameB_no l z
      rw [no] at q
      exact s_ret ev_c fun H2 g2 => q H2 (g1.trans g2)
    · have yes : nameD (.str (SX.S l)) = (l.map signB).all id := by
        show nameB l = _
        rw [nameB_split l z, List.all_map]
        rfl
      rw [yes] at q
      refine s_ret (ev_allT (el_is (el_lcZ (fun i => .bl (signB (l.getD i 0))) (ev_var rfl) (by omega) (fun _ => rfl) fun i d H2 g2 hd => ?_) (signs_given l))) fun H2 g2 => q H2 (g1.trans g2)
      have e : l.getD i 0 = d := by rw [List.getD_eq_getElem?_getD, hd]; rfl
      rw [e]
      exact ev_orV (ev_chainS (b := d) ev_c (ev_var rfl) ev_c) fun _ => ev_chainS (b := d) ev_c (ev_var rfl) ev_c
/-! ### what is due -/
def optD : Option Nat → PyData
  | none => .none
  | some i => .int (i : Nat)
def dueDs (code : Int) : Option (Option Nat) → List PyData
  | none => []
  | some r => [.int code, .str (PyData.shown (.list [optD r]))]
def dueL (code : Int) : Option (Option Nat) → List V
  | none => []
  | some r => [.int code, .str (PyData.shown (.list [optD r]))]
theorem none_shown : ("[None]" : Str) = PyData.shown (.list [optD none]) := by decide +kernel
def LIt (D : PyData) : Prop := ∀ ds, D = .tuple ds → ds.length ≤ 1000
theorem good_one {d : PyData} (g : Good d 0 137) : Good (.list [d]) 3 300 := by
  obtain ⟨a, b, c, e⟩ := g
  refine ⟨by simp [PyData.showable, PyData.showableAll, a], ?_, by simp [PyData.leavesShort, PyData.leavesShortAll, c], ?_⟩
  · simp [PyData.depth, PyData.depthAll]
    omega
  · simp [PyData.weight, PyData.weightAll]
    omega
theorem good_ix {i : Nat} (h : i ≤ 1000) : Good (.list [.int (i : Nat)]) 3 300 := good_one (good_int (i := (i : Int)) (by rw [Int.natAbs_natCast]; exact Nat.lt_of_le_of_lt h (by decide)))
def spNamesDue (K : PySem.W.Frag) : Sp := fun vs H Q _ => ∃ (v : V) (D : PyData), vs = [v] ∧ Da K H v D ∧ KIt D ∧ LIt D ∧ ∀ p H', H p = none → Ex H H' → H' p = some (.lst (dueL 8 (chkK D))) → Q (.ref p) H'
abbrev s__law_names_due : Stmt := top 55
abbrev sc__law_names_due_N : List Str := ["_law_value", "_law_slot"]
theorem sc__law_names_due : FnScope sc__law_names_due_N ["_law_value"] (defScope s__law_names_due) := ⟨rfl, rfl, rfl, by decide +kernel, rfl, by decide +kernel, by decide +kernel⟩
theorem ok_ndue (S : SysIn K) (m_repr : mg "repr" = none) (m_range : mg "range" = none) (m_isinstance : mg "isinstance" = none) (m_tuple : mg "tuple" = none) (m_len : mg "len" = none) (D__law_is_name : Has P w K mg base "_law_is_name" 1 ["_law_value"] (spIsNameD K)) (F : FnP K "_law_names_due" s__law_names_due f fd) : FnG P w K mg base CX0 2 f fd ["_law_value"] (spNamesDue K) := by
  refine SwX.FunD.okG F sc__law_names_due (fun vs H Q E h => by obtain ⟨v, D, rfl, _⟩ := h; rfl) (fun cdv A outer s H vs Q E hr calm h => ⟨_, PSs.nox
    (pss_cons (ps_if (pw_or (pt_not (pt_val (pe_callB (isiK K) (by rfl) m_isinstance (by decide +kernel) (pa_cons (pv 0) (pa_cons (pe_bty (n := "tuple") m_tuple) pa_nil))))) (pw_or1 (pt_cmpR (eqY hr) (pv 0) (pe_tup pa_nil) (nomark _)))).pt (pss_one (ps_ret (pe_lst (pa_cons pe_int (pa_cons pe_str pa_nil))))) pss_nil) (pss_cons (ps_for PassesOwn.never rfl (pi_range1 (by rfl) m_range (pa_cons (pe_callB (lenK K) (by rfl) m_len (by decide +kernel) (pa_cons (pv 0) pa_nil)) pa_nil)) (pg_name (i := 1) sc__law_names_due.nd rfl (Or.inl rfl)) (pss_one (ps_if (pw_or (pt_cmpR (eqK K hr) (pv 1) pe_int (nomark _)) (pw_or (pt_not (pt_val (pe_has D__law_is_name (hr.mono (by decide)) (pa_cons (pe_ix (ixK K) (pv 0) (pv 1) (fun _ _ => rfl)) pa_nil)))) (pw_or1 (pt_cmpR (inK K hr) (pe_ix (ixK K) (pv 0) (pv 1) (fun _ _ => rfl)) (pe_slice (slK K) (pv 0) po_none (po_some (pv 1))) rfl)))).pt (pss_one (ps_ret (pe_lst (pa_cons pe_int (pa_cons (pe_callB (call_repr S calm hr) (by rfl) m_repr (by decide +kernel) (pa_cons (pe_lst (pa_cons (pv 1) pa_nil)) pa_nil)) pa_nil))))) pss_nil))) (pss_one (ps_ret (pe_lst pa_nil))))), ?_⟩)
  obtain ⟨v, D, rfl, da, it, il, q⟩ := h
  rw [none_shown]
  have t0 : Ev (tCB (rIsi K) (tCons (tVar 0) (tCons (tC (.ty "tuple")) tNil))) [some v, none] H (.bl (isTup D)) := ev_isD (ev_var (i := 0) rfl) (fun H' e => da.mono e) (kit_tup D)
  cases c1 : isTup D with
  | false =>
    rw [c1] at t0
    rw [chk_notup c1] at q
    exact q_when (b := true) (et_is (et_or (a := true) (b := false) (et_not (a := false) (et_B t0)) fun z => nomatch z) rfl) (fun _ H1 g1 => s_retL (el_lst (ea_cons ev_c (ea_cons ev_c ea_nil)) (by simp)) fun p H2 n2 e2 h2 => q p H2 (fresh_back g1 n2) (g1.trans e2) h2) fun z => nomatch z
  | true =>
    rw [c1] at t0
    obtain ⟨ds, rfl⟩ := tup_of c1
    obtain ⟨p, xs, rfl, hp, pr⟩ := da_items da
    have ln : xs.length = ds.length := (paired_len pr).symm
    have l1000 := il ds rfl
    refine q_when (b := decide (xs = [])) (et_is (et_or (a := false) (b := decide (xs = [])) (et_not (a := true) (et_B t0)) fun _ => et_B (ev_opU (ev_var rfl) (eu_tup ea_nil (by simp)) fun u H3 h3 e3 => fun H4 e4 Q' q' => .inr ⟨p, u, xs, rfl, rfl, ex_t (e3.trans e4) hp, .inl (.inl (e4 _ _ h3)), q' H4 (Ex.refl H4)⟩)) (by rw [Bool.false_or])) (fun z H1 g1 => ?_) fun z H1 e1 => ?_
    · have e : ds = [] := List.eq_nil_of_length_eq_zero (by rw [← ln, of_decide_eq_true z]; rfl)
      subst e
      exact s_retL (el_lst (ea_cons ev_c (ea_cons ev_c ea_nil)) (by simp)) fun p H2 n2 e2 h2 => q p H2 (fresh_back g1 n2) (g1.trans e2) h2
    have ne : ds ≠ [] := fun e => of_decide_eq_false z (List.eq_nil_of_length_eq_zero (by rw [ln, e]; rfl))
    rw [chk_first ne] at q
    refine q_forR1 (ea_cons (ev_lenL (ev_var rfl) (.inr (ex_t e1 hp))) ea_nil) (by rw [ln]; omega) (fun i σ' H' => (∃ a1, σ' = [some (.ref p), a1]) ∧ Ex H H' ∧ ∀ j, j < i → badK ds j = false) (fun H2 e2 => ⟨⟨_, rfl⟩, e1.trans e2, fun j h => absurd h (Nat.not_lt_zero j)⟩) (fun i σ' H' hi z => ?_) fun σ' H' z => ?_
    · obtain ⟨⟨a1, rfl⟩, e, pre⟩ := z
      have lt : i < ds.length := by omega
      have hd : ds[i]? = some ds[i] := List.getElem?_eq_getElem lt
      obtain ⟨x, hx, dx⟩ := SwX.paired_get pr hd
      have mem := List.getElem_mem lt
      generalize ds[i] = d at hd dx mem
      have bad : badK ds i = (decide ((i : Int) = 4) || (!nameD d || (ds.take i).any fun z => PyData.eqv z d)) := by
        unfold badK
        rw [at_get hd, Bool.or_assoc]
        congr 1
        rw [Bool.eq_iff_iff]
        simp
        omega
      have vx : ∀ H2, Ex H' H2 → Ev (tOp (rIx K) (tVar 0) (tVar 1)) [some (.ref p), some (.int (i : Int))] H2 x := fun H2 e2 => ev_op (ev_var rfl) (ev_var rfl) (rv_ixTn (i := i) (ex_t (e.trans e2) hp) hx)
      refine s_if (b := badK ds i) (et_is (et_or (a := decide ((i : Int) = 4)) (b := !nameD d || (ds.take i).any fun z => PyData.eqv z d) (et_B (ev_is (ev_op (ev_var rfl) ev_c (rv_l (rv_eq rfl))) (by
        rw [dec_int]
        congr 1))) fun _ => et_or (et_not (et_B (ev_call (vs := [x]) (ea_cons (vx H' (Ex.refl H')) ea_nil) fun H2 e2 R k E' => ⟨x, d, rfl, dx.mono (e.trans e2), it ds rfl d mem, k⟩))) fun y => ?_) bad.symm) (fun y H2 e2 => ?_) fun y H2 e2 => ⟨⟨_, rfl⟩, e.trans e2, fun j hj => ?_⟩
      · obtain ⟨n, rfl, okn⟩ := nameD_inv (d := d) (by simpa using y)
        obtain ⟨ns, ens, oks⟩ := pre_names pre (Nat.le_of_lt lt)
        refine et_B (ev_inY (c := nmsD ns) (d := nmD n) (.inr rfl) (vx H' (Ex.refl H')) (fun H2 e2 => dx.mono (e.trans e2)) ((yi_slT (ev_var rfl) (ex_t e hp) eo_none (eo_some (ev_var rfl))).imp fun v H2 e2 z => ?_) (pl_nm okn) (pl_nms oks) (by rw [ens]))
        obtain ⟨q1, rfl, h1⟩ := z
        rw [cut_take] at h1
        have z := da_tuple h1 (paired_take i (paired_mono (F := fun (r : PyData) v H => Da K H v r) (e.trans e2) (fun r v H H' e h => Da.mono e h) pr))
        rw [ens] at z
        exact z
      · rw [firstB_some lt pre y] at q
        exact s_retL (el_lst (ea_cons ev_c (ea_cons (ev_reprL (xs := [.int (i : Nat)]) (ds := [.int (i : Nat)]) (el_lst (ea_cons (ev_var rfl) ea_nil) (by simp)) (fun _ _ => .cons (.int _) .nil) (good_ix (by omega)) (by decide) (by decide)) ea_nil)) (by simp)) fun p H3 n3 e3 h3 => q p H3 (fresh_back (e.trans e2) n3) ((e.trans e2).trans e3) h3
      · rcases Nat.lt_succ_iff_lt_or_eq.mp hj with h | rfl
        · exact pre j h
        · exact y
    · rw [firstB_none fun j hj => z.2.2 j (by omega)] at q
      exact s_retL (el_lst ea_nil (by simp)) fun p H3 n3 e3 h3 => q p H3 (fresh_back z.2.1 n3) (z.2.1.trans e3) h3
abbrev s__law_is_rule : Stmt := top 56
abbrev sc__law_is_rule_N : List Str := ["_law_value", "_law_names_here", "_law_part"]
theorem sc__law_is_rule : FnScope sc__law_is_rule_N ["_law_value", "_law_names_here"] (defScope s__law_is_rule) := ⟨rfl, rfl, rfl, by decide +kernel, rfl, by decide +kernel, by decide +kernel⟩
theorem ok_lrule (m_isinstance : mg "isinstance" = none) (m_tuple : mg "tuple" = none) (m_int : mg "int" = none) (m_bool : mg "bool" = none) (m_len : mg "len" = none) (m_all : mg "all" = none) (F : FnP K "_law_is_rule" s__law_is_rule f fd) : FnOk P w K mg base CX0 1 f fd ["_law_value", "_law_names_here"] (spIsRecD K) := by
  refine F.ok sc__law_is_rule (fun vs H Q E h => by obtain ⟨x, p, D, ns, rfl, _⟩ := h; rfl) (fun cdv A outer s H vs Q E hr h => ⟨_, PSs.nox
    (pss_cons (ps_if (pw_or (pt_not (pt_val (pe_callB (isiK K) (by rfl) m_isinstance (by decide +kernel) (pa_cons (pv 0) (pa_cons (pe_bty (n := "tuple") m_tuple) pa_nil))))) (pw_or (pt_cmpR (neK K hr) (pe_callB (lenK K) (by rfl) m_len (by decide +kernel) (pa_cons (pv 0) pa_nil)) pe_int (nomark _)) (pw_or1 (pt_cmpR (niY hr) (pe_ix (ixK K) (pv 0) pe_int (fun _ _ => rfl)) (pv 1) rfl)))).pt (pss_one (ps_ret pe_bl)) pss_nil) (pss_cons (ps_if (pw_or (pt_not (pt_val (pe_callB (isiK K) (by rfl) m_isinstance (by decide +kernel) (pa_cons (pe_ix (ixK K) (pv 0) pe_int (fun _ _ => rfl)) (pa_cons (pe_bty (n := "int") m_int) pa_nil))))) (pw_or (pt_val (pe_callB (isiK K) (by rfl) m_isinstance (by decide +kernel) (pa_cons (pe_ix (ixK K) (pv 0) pe_int (fun _ _ => rfl)) (pa_cons (pe_bty (n := "bool") m_bool) pa_nil)))) (pw_or1 (pt_not (pt_chain op_lt op_lt pe_int (pe_ix (ixK K) (pv 0) pe_int (fun _ _ => rfl)) pe_int))))).pt (pss_one (ps_ret pe_bl)) pss_nil) (pss_one (ps_ret (pe_and (pe_callB (isiK K) (by rfl) m_isinstance (by decide +kernel) (pa_cons (pe_ix (ixK K) (pv 0) pe_int (fun _ _ => rfl)) (pa_cons (pe_bty (n := "tuple") m_tuple) pa_nil))) (pe_and (pe_cmpR op_lt (pe_callB (lenK K) (by rfl) m_len (by decide +kernel) (pa_cons (pe_ix (ixK K) (pv 0) pe_int (fun _ _ => rfl)) pa_nil)) pe_int (nomark _)) (pe_one (pe_callB (cr_all rfl) (by rfl) m_all (by decide +kernel) (pa_cons (pe_lc (own := [("_law_part", 2)]) (g := gName 2) (tt := tYes) rfl sc__law_is_rule.nd (pi_tup (pe_ix (ixK K) (pv 0) pe_int (fun _ _ => rfl))) (blkOk_by (N := sc__law_is_rule_N) (sc := defScope s__law_is_rule) (by decide +kernel)) (fun _ _ _ _ _ => pg_name (i := 2) sc__law_is_rule.nd rfl (Or.inl rfl)) (fun _ _ _ _ _ => pts_nil) (fun _ _ _ _ _ => (pe_cmpR (inY hr) (pv 2) (pv 1) rfl))) pa_nil))))))))), ?_⟩)
  obtain ⟨x, p, D, ns, rfl, da, hp, okn, it, q⟩ := h
  cases c : isTup D with
  | false =>
    rw [rec_notup c] at q
    exact q_when (b := true) (et_is (et_or (a := true) (b := false) (et_not (a := false) (et_B (ev_is (ev_isD (ev_var rfl) (fun H' e => da.mono e) (kit_tup D)) (by rw [c])))) fun z => nomatch z) rfl) (fun _ H1 g1 => s_ret ev_c fun H2 g2 => q H2 (g1.trans g2)) fun z => nomatch z
  | true =>
    obtain ⟨ds, rfl⟩ := tup_of c
    have t1 : Ev (tCB (rIsi K) (tCons (tVar 0) (tCons (tC (.ty "tuple")) tNil))) [some x, some (.ref p), none] H (.bl true) := ev_isD (ev_var (i := 0) rfl) (fun H' e => da.mono e) (kit_tup (.tuple ds))
    obtain ⟨px, xs, rfl, hx, pr⟩ := da_items da
    have ln : xs.length = ds.length := (paired_len pr).symm
    by_cases l3 : ds.length = 3
    · obtain ⟨a, b, c3, rfl⟩ := three l3
      obtain ⟨xa, xb, xc, rfl, da0, da1, da2⟩ := pair3 pr
      obtain ⟨ia, ic⟩ := it a b c3 rfl
      have v0 : ∀ H', Ex H H' → Ev (tOp (rIx K) (tVar 0) (tC (.int 0))) [some (.ref px), some (.ref p), none] H' xa := fun H' e => ev_op (ev_var rfl) ev_c (rv_ixTn (i := 0) (ex_t e hx) rfl)
      have v1 : ∀ H', Ex H H' → Ev (tOp (rIx K) (tVar 0) (tC (.int 1))) [some (.ref px), some (.ref p), none] H' xb := fun H' e => ev_op (ev_var rfl) ev_c (rv_ixTn (i := 1) (ex_t e hx) rfl)
      have v2 : ∀ H', Ex H H' → Ev (tOp (rIx K) (tVar 0) (tC (.int 2))) [some (.ref px), some (.ref p), none] H' xc := fun H' e => ev_op (ev_var rfl) ev_c (rv_ixTn (i := 2) (ex_t e hx) rfl)
      refine q_when (b := !inD ns a) (et_is (et_or (a := false) (b := !inD ns a) (et_not (a := true) (et_B t1)) fun _ => et_is (et_or (a := false) (b := !inD ns a) (et_B (ev_op (ev_lenL (ev_var rfl) (.inr hx)) ev_c (rv_l (rv_ne rfl)))) fun _ => et_B (ev_op (v0 H (Ex.refl H)) (ev_var rfl) (rv_niM da0 hp okn ia))) (by rw [Bool.false_or])) (by rw [Bool.false_or])) (fun z H1 e1 => ?_) fun z H1 e1 => ?_
      · have no : recD ns (.tuple [a, b, c3]) = false := by
          cases y : recD ns (.tuple [a, b, c3]) with
          | false => rfl
          | true =>
            obtain ⟨r, e, okr⟩ := recD_inv y
            unfold rulD at e
            cases e
            rw [inD_nm, decide_eq_true okr.wd] at z
            cases z
        rw [no] at q
        exact s_ret ev_c fun H2 g2 => q H2 (e1.trans g2)
      have za : inD ns a = true := by simpa using z
      have i1 : Ev (tCB (rIsi K) (tCons (tOp (rIx K) (tVar 0) (tC (.int 1))) (tCons (tC (.ty "int")) tNil))) [some (.ref px), some (.ref p), none] H1 (.bl (SwX.isInt b)) := ev_isD (v1 H1 e1) (fun H' e => da1.mono (e1.trans e)) (kit_int b)
      have i2 : Ev (tCB (rIsi K) (tCons (tOp (rIx K) (tVar 0) (tC (.int 1))) (tCons (tC (.ty "bool")) tNil))) [some (.ref px), some (.ref p), none] H1 (.bl (isBl b)) := ev_isD (v1 H1 e1) (fun H' e => da1.mono (e1.trans e)) (kit_bl b)
      refine q_when (b := !btwD 1 9 b) ?tst (fun z H2 e2 => ?_) fun z H2 e2 => ?_
      case tst =>
        cases y : SwX.isInt b && !isBl b with
        | false =>
          rw [btw_no y]
          cases y1 : SwX.isInt b with
          | false =>
            rw [y1] at i1
            exact et_is (et_or (a := true) (b := false) (et_not (a := false) (et_B i1)) fun z => nomatch z) rfl
          | true =>
            rw [y1] at i1
            have y2 : isBl b = true := by simpa [y1] using y
            rw [y2] at i2
            exact et_is (et_or (a := false) (b := true) (et_not (a := true) (et_B i1)) fun _ => et_is (et_or (a := true) (b := false) (et_B i2) fun z => nomatch z) rfl) rfl
        | true =>
          obtain ⟨i, rfl⟩ := int_of y
          cases da1
          refine et_is (et_or (a := false) (b := !btwD 1 9 (.int i)) (et_not (a := true) (et_B i1)) fun _ => et_is (et_or (a := false) (b := !btwD 1 9 (.int i)) (et_B i2) fun _ => et_not (a := btwD 1 9 (.int i)) (et_B (ev_is (ev_chainI (f := fun a b => decide (a < b)) (g := fun a b => decide (a < b)) ev_c (v1 H1 e1) ev_c) ?_))) (by rw [Bool.false_or])) (by rw [Bool.false_or])
          congr 1
          show (decide (0 < i) && decide (i < 10)) = (decide (1 ≤ i) && decide (i ≤ 9))
          rw [Bool.eq_iff_iff]
          simp only [Bool.and_eq_true, decide_eq_true_eq]
          omega
      · have no : recD ns (.tuple [a, b, c3]) = false := by
          cases y : recD ns (.tuple [a, b, c3]) with
          | false => rfl
          | true =>
            obtain ⟨r, e, okr⟩ := recD_inv y
            unfold rulD at e
            cases e
            have := okr.lo
            have := okr.hi
            simp [btwD] at z
            omega
        rw [no] at q
        exact s_ret ev_c fun H3 g2 => q H3 ((e1.trans e2).trans g2)
      have zb : btwD 1 9 b = true := by simpa using z
      have e12 := e1.trans e2
      cases c4 : isTup c3 with
      | false =>
        rw [rec_third c4] at q
        exact s_ret (ev_andV (a := false) (b := false) (ev_is (ev_isD (v2 H2 e12) (fun H' e => da2.mono (e12.trans e)) (kit_tup c3)) (by rw [c4])) fun z => nomatch z) fun H3 g3 => q H3 (e12.trans g3)
      | true =>
        obtain ⟨ps, rfl⟩ := tup_of c4
        obtain ⟨lp, ip⟩ := ic ps rfl
        obtain ⟨pc, ys, rfl, hc, pq⟩ := da_items da2
        have ly : ys.length = ps.length := (paired_len pq).symm
        have val : recD ns (.tuple [a, b, .tuple ps]) = (true && (decide ((ps.length : Int) < 4) && (ps.map (inD ns)).all id)) := by
          show (inD ns a && btwD 1 9 b && decide (ps.length ≤ 3) && ps.all (inD ns)) = _
          rw [za, zb, List.all_map]
          have e : decide (ps.length ≤ 3) = decide ((ps.length : Int) < 4) := by
            rw [Bool.eq_iff_iff]
            simp only [decide_eq_true_eq]
            omega
          rw [e]
          rfl
        rw [val] at q
        refine s_ret (ev_andV (a := true) (ev_isD (v2 H2 e12) (fun H' e => da2.mono (e12.trans e)) (kit_tup (.tuple ps))) fun _ => ev_andV (ev_is (ev_op (ev_lenL (v2 H2 e12) (.inr (ex_t e12 hc))) ev_c rv_I0) (by rw [ly])) fun _ => ev_allT (el_is (el_lcT (xs := ys) (fun i => .bl (inD ns (at' ps i))) (v2 H2 e12) (ex_t e12 hc) (by omega) (fun _ => rfl) fun i y H3 e3 hy => ?_) (by rw [ly, in_given]))) fun H3 g3 => q H3 (e12.trans g3)
        have lt : i < ps.length := by
          have := (List.getElem?_eq_some_iff.mp hy).1
          omega
        have hi : ps[i]? = some ps[i] := List.getElem?_eq_getElem lt
        obtain ⟨y', hy', dy⟩ := SwX.paired_get pq hi
        rw [hy] at hy'
        cases hy'
        rw [at_get hi]
        exact ev_op (ev_var rfl) (ev_var rfl) (rv_inM (dy.mono (e12.trans e3)) (ex_t (e12.trans e3) hp) okn (ip _ (List.getElem_mem lt)))
    · rw [rec_len l3] at q
      exact q_when (b := true) (et_is (et_or (a := false) (b := true) (et_not (a := true) (et_B t1)) fun _ => et_is (et_or (a := true) (b := false) (et_B (ev_is (ev_op (ev_lenL (ev_var rfl) (.inr hx)) ev_c (rv_l (rv_ne rfl))) (by
        congr 1
        rw [ln]
        simp
        omega))) fun z => nomatch z) rfl) rfl) (fun _ H1 g1 => s_ret ev_c fun H2 g2 => q H2 (g1.trans g2)) fun z => nomatch z
def spRulesDue (K : PySem.W.Frag) : Sp := fun vs H Q _ => ∃ (x : V) (p : Addr) (D : PyData) (ns : List Nm), vs = [x, .ref p] ∧ Da K H x D ∧ SqT K H p (ns.map nmV) ∧ (∀ n ∈ ns, NameOk n) ∧ RsIt D ∧ LIt D ∧ ∀ p H', H p = none → Ex H H' → H' p = some (.lst (dueL 9 (chkR ns D))) → Q (.ref p) H'
abbrev s__law_rules_due : Stmt := top 57
abbrev sc__law_rules_due_N : List Str := ["_law_value", "_law_names_here", "_law_slot"]
theorem sc__law_rules_due : FnScope sc__law_rules_due_N ["_law_value", "_law_names_here"] (defScope s__law_rules_due) := ⟨rfl, rfl, rfl, by decide +kernel, rfl, by decide +kernel, by decide +kernel⟩
theorem ok_rdue (S : SysIn K) (m_repr : mg "repr" = none) (m_range : mg "range" = none) (m_isinstance : mg "isinstance" = none) (m_tuple : mg "tuple" = none) (m_len : mg "len" = none) (D__law_is_rule : Has P w K mg base "_law_is_rule" 1 ["_law_value", "_law_names_here"] (spIsRecD K)) (F : FnP K "_law_rules_due" s__law_rules_due f fd) : FnG P w K mg base CX0 2 f fd ["_law_value", "_law_names_here"] (spRulesDue K) := by
  refine SwX.FunD.okG F sc__law_rules_due (fun vs H Q E h => by obtain ⟨x, p, D, ns, rfl, _⟩ := h; rfl) (fun cdv A outer s H vs Q E hr calm h => ⟨_, PSs.nox
    (pss_cons (ps_if (pt_not (pt_val (pe_callB (isiK K) (by rfl) m_isinstance (by decide +kernel) (pa_cons (pv 0) (pa_cons (pe_bty (n := "tuple") m_tuple) pa_nil))))) (pss_one (ps_ret (pe_lst (pa_cons pe_int (pa_cons pe_str pa_nil))))) pss_nil) (pss_cons (ps_for PassesOwn.never rfl (pi_range1 (by rfl) m_range (pa_cons (pe_callB (lenK K) (by rfl) m_len (by decide +kernel) (pa_cons (pv 0) pa_nil)) pa_nil)) (pg_name (i := 2) sc__law_rules_due.nd rfl (Or.inl rfl)) (pss_one (ps_if (pw_or (pt_cmpR (eqK K hr) (pv 2) pe_int (nomark _)) (pw_or (pt_not (pt_val (pe_has D__law_is_rule (hr.mono (by decide)) (pa_cons (pe_ix (ixK K) (pv 0) (pv 2) (fun _ _ => rfl)) (pa_cons (pv 1) pa_nil))))) (pw_or1 (pt_cmpR (inK K hr) (pe_ix (ixK K) (pv 0) (pv 2) (fun _ _ => rfl)) (pe_slice (slK K) (pv 0) po_none (po_some (pv 2))) rfl)))).pt (pss_one (ps_ret (pe_lst (pa_cons pe_int (pa_cons (pe_callB (call_repr S calm hr) (by rfl) m_repr (by decide +kernel) (pa_cons (pe_lst (pa_cons (pv 2) pa_nil)) pa_nil)) pa_nil))))) pss_nil))) (pss_one (ps_ret (pe_lst pa_nil))))), ?_⟩)
  obtain ⟨x0, p, D, ns, rfl, da, hn, okn, it, il, q⟩ := h
  rw [none_shown]
  have t0 : Ev (tCB (rIsi K) (tCons (tVar 0) (tCons (tC (.ty "tuple")) tNil))) [some x0, some (.ref p), none] H (.bl (isTup D)) := ev_isD (ev_var (i := 0) rfl) (fun H' e => da.mono e) (kit_tup D)
  cases c1 : isTup D with
  | false =>
    rw [c1] at t0
    rw [chkR_notup c1] at q
    exact q_when (b := true) (et_not (a := false) (et_B t0)) (fun _ H1 g1 => s_retL (el_lst (ea_cons ev_c (ea_cons ev_c ea_nil)) (by simp)) fun p H2 n2 e2 h2 => q p H2 (fresh_back g1 n2) (g1.trans e2) h2) fun z => nomatch z
  | true =>
    rw [c1] at t0
    obtain ⟨ds, rfl⟩ := tup_of c1
    obtain ⟨q0, xs, rfl, hp, pr⟩ := da_items da
    have ln : xs.length = ds.length := (paired_len pr).symm
    have l1000 := il ds rfl
    refine q_when (b := false) (et_not (a := true) (et_B t0)) (fun z => nomatch z) fun z H1 e1 => ?_
    have val : chkR ns (.tuple ds) = (firstB ds.length (badR ns ds)).map some := rfl
    rw [val] at q
    refine q_forR1 (ea_cons (ev_lenL (ev_var rfl) (.inr (ex_t e1 hp))) ea_nil) (by rw [ln]; omega) (fun i σ' H' => (∃ a1, σ' = [some (.ref q0), some (.ref p), a1]) ∧ Ex H H' ∧ ∀ j, j < i → badR ns ds j = false) (fun H2 e2 => ⟨⟨_, rfl⟩, e1.trans e2, fun j h => absurd h (Nat.not_lt_zero j)⟩) (fun i σ' H' hi z => ?_) fun σ' H' z => ?_
    · obtain ⟨⟨a1, rfl⟩, e, pre⟩ := z
      have lt : i < ds.length := by omega
      have hd : ds[i]? = some ds[i] := List.getElem?_eq_getElem lt
      obtain ⟨x, hx, dx⟩ := SwX.paired_get pr hd
      have mem := List.getElem_mem lt
      generalize ds[i] = d at hd dx mem
      have bad : badR ns ds i = (decide ((i : Int) = 10) || (!recD ns d || (ds.take i).any fun z => PyData.eqv z d)) := by
        unfold badR
        rw [at_get hd, Bool.or_assoc]
        congr 1
        rw [Bool.eq_iff_iff]
        simp
        omega
      have vx : ∀ H2, Ex H' H2 → Ev (tOp (rIx K) (tVar 0) (tVar 2)) [some (.ref q0), some (.ref p), some (.int (i : Int))] H2 x := fun H2 e2 => ev_op (ev_var rfl) (ev_var rfl) (rv_ixTn (i := i) (ex_t (e.trans e2) hp) hx)
      refine s_if (b := badR ns ds i) (et_is (et_or (a := decide ((i : Int) = 10)) (b := !recD ns d || (ds.take i).any fun z => PyData.eqv z d) (et_B (ev_is (ev_op (ev_var rfl) ev_c (rv_l (rv_eq rfl))) (by
        rw [dec_int]
        congr 1))) fun _ => et_or (et_not (et_B (ev_call (vs := [x, .ref p]) (ea_cons (vx H' (Ex.refl H')) (ea_cons (ev_var rfl) ea_nil)) fun H2 e2 R k E' => ⟨x, p, d, ns, rfl, dx.mono (e.trans e2), ex_t (e.trans e2) hn, okn, it ds rfl d mem, k⟩))) fun y => ?_) bad.symm) (fun y H2 e2 => ?_) fun y H2 e2 => ⟨⟨_, rfl⟩, e.trans e2, fun j hj => ?_⟩
      · obtain ⟨r, rfl, okr⟩ := recD_inv (d := d) (by simpa using y)
        obtain ⟨rs, ers, oks⟩ := pre_ruls pre (Nat.le_of_lt lt)
        refine et_B (ev_inY (c := rulsD rs) (d := rulD r) (.inr rfl) (vx H' (Ex.refl H')) (fun H2 e2 => dx.mono (e.trans e2)) ((yi_slT (ev_var rfl) (ex_t e hp) eo_none (eo_some (ev_var rfl))).imp fun v H2 e2 z => ?_) (pl_rul (okr.nm okn)) (pl_ruls fun m hm => (oks m hm).nm okn) (by rw [ers]))
        obtain ⟨q1, rfl, h1⟩ := z
        rw [cut_take] at h1
        have z := da_tuple h1 (paired_take i (paired_mono (F := fun (r : PyData) v H => Da K H v r) (e.trans e2) (fun r v H H' e h => Da.mono e h) pr))
        rw [ers] at z
        exact z
      · rw [firstB_some lt pre y] at q
        exact s_retL (el_lst (ea_cons ev_c (ea_cons (ev_reprL (xs := [.int (i : Nat)]) (ds := [.int (i : Nat)]) (el_lst (ea_cons (ev_var rfl) ea_nil) (by simp)) (fun _ _ => .cons (.int _) .nil) (good_ix (by omega)) (by decide) (by decide)) ea_nil)) (by simp)) fun p H3 n3 e3 h3 => q p H3 (fresh_back (e.trans e2) n3) ((e.trans e2).trans e3) h3
      · rcases Nat.lt_succ_iff_lt_or_eq.mp hj with h | rfl
        · exact pre j h
        · exact y
    · rw [firstB_none fun j hj => z.2.2 j (by omega)] at q
      exact s_retL (el_lst ea_nil (by simp)) fun p H3 n3 e3 h3 => q p H3 (fresh_back z.2.1 n3) (z.2.1.trans e3) h3
end
end K17
set_option Elab.async false
set_option linter.all false
set_option maxRecDepth 100000
set_option maxHeartbeats 4000000
namespace K17
open PySem PySem.Spec PyProof.Rows L2 Evl SwX
section
variable {P : Program} {w : World} {K : PySem.W.Frag} {mg : Str → Option Value} {base : Heap} {f : Addr} {fd : FuncData}
theorem cons_of {α : Type} {l : List α} (h : l ≠ []) : ∃ m ms, l = m :: ms := by
  cases l with
  | nil => exact absurd rfl h
  | cons m ms => exact ⟨m, ms, rfl⟩
theorem rv_addQ {x y : Str} {l m : List Nat} {H : Hp} (hx : x = SX.S l) (hy : y = SX.S m) (h : l.length + m.length ≤ 100000) : RV (rAddX K) (.str x) (.str y) H (.str (SX.S (l ++ m))) := by
  subst hx hy
  exact rv_addS h
theorem at_str (x : Str) (h : x.cps.toList.length ≤ 100) (c : ∀ d ∈ x.cps.toList, d < 128) : At (.str x) := by
  have z := At.str x.cps.toList h c
  rwa [SX.S_tl] at z
def menu1 (n m : Nm) : List PyData := [.str "", .str "A", .str "a b", .str "9a", .str "a-", .str "abcdefghi", .str "abcdefgh", .str (SX.S (n ++ [65])), .str (SX.S ([95] ++ n)), .str (SX.S (n.map PyProof.Rows.up1)), nmD n, nmD m]
def menu2 (n : Nm) : List PyData := [.none, .int 0, .bool true, .tuple [nmD n], .list [nmD n], .dict [], .str (SX.S (n ++ [32])), .str "kinds"]
theorem up_lt : ∀ d, d < 128 → PyProof.Rows.up1 d < 128 := by decide +kernel
theorem menu_el {n m : Nm} (hn : NameOk n) (hm : NameOk m) : ∀ d ∈ menu1 n m ++ menu2 n, El d := by
  have a := hn.len
  have c : ∀ d ∈ n, d < 128 := fun d hd => by rcases hn.sg d hd with z | z <;> omega
  intro d hd
  simp only [menu1, menu2, List.cons_append, List.nil_append, List.mem_cons, List.not_mem_nil, or_false] at hd
  rcases hd with rfl | rfl | rfl | rfl | rfl | rfl | rfl | rfl | rfl | rfl | rfl | rfl | rfl | rfl | rfl | rfl | rfl | rfl | rfl | rfl
  · exact .at_ (at_str _ (by decide +kernel) (by decide +kernel))
  · exact .at_ (at_str _ (by decide +kernel) (by decide +kernel))
  · exact .at_ (at_str _ (by decide +kernel) (by decide +kernel))
  · exact .at_ (at_str _ (by decide +kernel) (by decide +kernel))
  · exact .at_ (at_str _ (by decide +kernel) (by decide +kernel))
  · exact .at_ (at_str _ (by decide +kernel) (by decide +kernel))
  · exact .at_ (at_str _ (by decide +kernel) (by decide +kernel))
  · exact .at_ (.str _ (by simp; omega) fun d hd => by
      rcases List.mem_append.mp hd with h | h
      · exact c d h
      · rw [List.mem_singleton.mp h]; decide)
  · exact .at_ (.str _ (by simp; omega) fun d hd => by
      rcases List.mem_cons.mp hd with h | h
      · rw [h]; decide
      · exact c d h)
  · exact .at_ (.str _ (by simp; omega) fun d hd => by
      obtain ⟨e, he, rfl⟩ := List.mem_map.mp hd
      exact up_lt e (c e he))
  · exact .at_ (name_at hn)
  · exact .at_ (name_at hm)
  · exact .at_ .non
  · exact .at_ (.int 0)
  · exact .at_ (.bl true)
  · exact .tup (name_at hn)
  · exact .lst (name_at hn)
  · exact .dic
  · exact .at_ (.str _ (by simp; omega) fun d hd => by
      rcases List.mem_append.mp hd with h | h
      · exact c d h
      · rw [List.mem_singleton.mp h]; decide)
  · exact .at_ (at_str _ (by decide +kernel) (by decide +kernel))
/-- an odd thing beside the purse -/
def spOdd (K : PySem.W.Frag) : Sp := fun vs H Q _ => ∃ (a q0 : Addr) (ns : List Nm), vs = [.ref a, .ref q0] ∧ Pur H a ∧ SqT K (less a H) q0 (ns.map nmV) ∧ NamesOk ns ∧ ∀ D x H', El D → Ex (less a H) H' → Pur H' a → DaA K a D x H' → Q x H'
abbrev s__law_odd_name : Stmt := top 58
abbrev sc__law_odd_name_N : List Str := ["_law_purse_here", "_law_names_here", "_law_word", "_law_menu"]
theorem sc__law_odd_name : FnScope sc__law_odd_name_N ["_law_purse_here", "_law_names_here"] (defScope s__law_odd_name) := ⟨rfl, rfl, rfl, by decide +kernel, rfl, by decide +kernel, by decide +kernel⟩
theorem ok_oname (D__law_draw : Has P w K mg base "_law_draw" 1 ["_law_purse_here", "_law_many"] spDraw) (D__law_name : Has P w K mg base "_law_name" 2 ["_law_purse_here"] spName) (m_len : mg "len" = none) (F : FnP K "_law_odd_name" s__law_odd_name f fd) : FnOk P w K mg base CX0 3 f fd ["_law_purse_here", "_law_names_here"] (spOdd K) := by
  refine F.ok sc__law_odd_name (fun vs H Q E h => by obtain ⟨a, q0, ns, rfl, _⟩ := h; rfl) (fun cdv A outer s H vs Q E hr h => ⟨_, PSs.nox
    (pss_cons (ps_set (i := 2) sc__law_odd_name.nd rfl (Or.inl rfl) (pe_has D__law_name (hr.mono (by decide)) (pa_cons (pv 0) pa_nil))) (pss_cons (ps_set (i := 3) sc__law_odd_name.nd rfl (Or.inl rfl) (pe_lst (pa_cons pe_str (pa_cons pe_str (pa_cons pe_str (pa_cons pe_str (pa_cons pe_str (pa_cons pe_str (pa_cons pe_str (pa_cons (pe_op (addK K) (pv 2) pe_str) (pa_cons (pe_op (addK K) pe_str (pv 2)) (pa_cons (pe_upper (pv 2)) (pa_cons (pv 2) (pa_cons (pe_ix (ixK K) (pv 1) pe_int (fun _ _ => rfl)) pa_nil)))))))))))))) (pss_cons (ps_set (i := 3) sc__law_odd_name.nd rfl (Or.inl rfl) (pe_op (addK K) (pv 3) (pe_lst (pa_cons pe_non (pa_cons pe_int (pa_cons pe_bl (pa_cons (pe_tup (pa_cons (pv 2) pa_nil)) (pa_cons (pe_lst (pa_cons (pv 2) pa_nil)) (pa_cons pe_dnewK (pa_cons (pe_op (addK K) (pv 2) pe_str) (pa_cons pe_str pa_nil))))))))))) (pss_one (ps_ret (pe_ix (ixK K) (pv 3) (pe_has D__law_draw (hr.mono (by decide)) (pa_cons (pv 0) (pa_cons (pe_callB (lenK K) (by rfl) m_len (by decide +kernel) (pa_cons (pv 3) pa_nil)) pa_nil))) (fun _ _ => rfl))))))), ?_⟩)
  obtain ⟨a, q0, ns, rfl, p0, hq, ok, q⟩ := h
  refine ⟨.ref a, rfl, a, rfl, p0, fun n H1 okn e1 p1 => ?_⟩
  obtain ⟨m, ms, en⟩ := cons_of ok.ne
  have okm := ok.ok m (by rw [en]; exact List.mem_cons_self)
  have hq1 : SqT K H1 q0 (nmV m :: ms.map nmV) := by
    have z := ex_t e1 hq
    rw [en] at z
    exact z
  obtain ⟨o, at_⟩ := p1.is
  have ln := okn.len
  have ca : ("A" : Str) = SX.S [65] := by decide +kernel
  have cu : ("_" : Str) = SX.S [95] := by decide +kernel
  have cs : (" " : Str) = SX.S [32] := by decide +kernel
  have asc : ∀ d ∈ n, d < 128 := fun d hd => by rcases okn.sg d hd with z | z <;> omega
  refine q_asgY (P := LstOf (DaA K a) (menu1 n m)) (yi_lst daA_mono (ys_cons daA_mono (yi_dat ev_c fun _ => .str _) (ys_cons daA_mono (yi_dat ev_c fun _ => .str _) (ys_cons daA_mono (yi_dat ev_c fun _ => .str _) (ys_cons daA_mono (yi_dat ev_c fun _ => .str _) (ys_cons daA_mono (yi_dat ev_c fun _ => .str _) (ys_cons daA_mono (yi_dat ev_c fun _ => .str _) (ys_cons daA_mono (yi_dat ev_c fun _ => .str _)
    (ys_cons daA_mono (yi_dat (v := .str (SX.S (n ++ [65]))) (ev_op (ev_var rfl) ev_c (rv_addQ rfl ca (by simp; omega))) fun _ => .str _) (ys_cons daA_mono (yi_dat (v := .str (SX.S ([95] ++ n))) (ev_op ev_c (ev_var rfl) (rv_addQ cu rfl (by simp; omega))) fun _ => .str _) (ys_cons daA_mono (yi_dat (ev_upperS (ev_var rfl) asc (by omega)) fun _ => .str _)
    (ys_cons daA_mono (yi_dat (ev_var rfl) fun _ => .str _) (ys_cons daA_mono (yi_dat (ev_op (ev_var rfl) ev_c (rv_ixTn (i := 0) hq1 rfl)) fun _ => .str _) ys_nil)))))))))))) (by unfold menu1; simp)) fun v2 H2 e2 l2 => ?_
  refine q_asgY (P := LstOf (DaA K a) (menu1 n m ++ menu2 n)) (yi_catX daA_mono (yi_var rfl fun H' e => l2.mono daA_mono e) (yi_lst daA_mono (ys_cons daA_mono (yi_dat ev_c fun _ => .non) (ys_cons daA_mono (yi_dat ev_c fun _ => .int 0) (ys_cons daA_mono (yi_dat ev_c fun _ => .bl true) (ys_cons daA_mono (yi_dtup (e2 _ _ at_) (ys_cons daA_mono (yi_dat (ev_var rfl) fun _ => .str _) ys_nil) (by simp))
    (ys_cons daA_mono (yi_dlst (e2 _ _ at_) (ys_cons daA_mono (yi_dat (ev_var rfl) fun _ => .str _) ys_nil) (by simp)) (ys_cons daA_mono (yi_ddic0 (e2 _ _ at_)) (ys_cons daA_mono (yi_dat (v := .str (SX.S (n ++ [32]))) (ev_op (ev_var rfl) ev_c (rv_addQ rfl cs (by simp; omega))) fun _ => .str _) (ys_cons daA_mono (yi_dat ev_c fun _ => .str _) ys_nil)))))))) (by unfold menu2; simp)) (by unfold menu1 menu2; simp)) fun v3 H3 e3 l3 => ?_
  refine s_pick rfl rfl l3 (by unfold menu1 menu2; simp) (by unfold menu1 menu2; simp) (by unfold menu1 menu2; simp) ((p1.keep e2).keep e3) fun d hd y H' e p z => q d y H' (menu_el okn okm d hd) ((ex_less less_at ((e1.trans e2).trans e3)).trans e) p z
def KiIt (D : PyData) : Prop := ∀ ds, D = .tuple ds → ds.length ≤ 1000 ∧ ∀ d ∈ ds, El d
theorem nms_ki {ns : List Nm} (ok : ∀ n ∈ ns, NameOk n) (l : ns.length ≤ 100) : KiIt (nmsD ns) := fun ds e => by
  unfold nmsD at e
  cases e
  refine ⟨by rw [List.length_map]; omega, fun d hd => ?_⟩
  obtain ⟨n, hn, rfl⟩ := List.mem_map.mp hd
  exact .at_ (name_at (ok n hn))
def spBentN (K : PySem.W.Frag) : Sp := fun vs H Q _ => ∃ (a q0 : Addr) (ns : List Nm), vs = [.ref a, .ref q0] ∧ Pur H a ∧ SqT K (less a H) q0 (ns.map nmV) ∧ NamesOk ns ∧ ∀ D x H', KiIt D → Ex (less a H) H' → Pur H' a → DaA K a D x H' → Q x H'
theorem pick1 {a b : V} {i : Int} (h0 : 0 ≤ i) (h1 : i < 2) : atI [a, b] i = some (if i = 0 then a else b) := by
  obtain rfl | rfl : i = 0 ∨ i = 1 := by omega
  · rfl
  · rfl
theorem ev_opL2 {σ : L2.St} {H : Hp} {ta tb : TE} {r : R2} {xs : List V} {y z : V} (ha : EvL ta σ H xs) (hb : Ev tb σ H y) (hr : ∀ p H1, H1 p = some (.lst xs) → Ex H H1 → RV r (.ref p) y H1 z) : Ev (tOp r ta tb) σ H z := fun H1 e1 Q q =>
  ha H1 e1 _ fun p H2 n2 e2 h2 => hb H2 (e1.trans e2) _ fun H3 e3 => hr p H3 (e3 _ _ h2) ((e1.trans e2).trans e3) H3 (Ex.refl H3) Q fun H4 e4 => q H4 ((e2.trans e3).trans e4)
/-- a value at hand -/
def tHere (v : V) : TE := fun _ H Q => Q v H
theorem ev_here {σ : L2.St} {H : Hp} {v : V} : Ev (tHere v) σ H v := fun H1 e1 Q q => q H1 (Ex.refl H1)
theorem el_ki {d : PyData} (h : El d) : KiIt d := fun ds e => by
  subst e
  obtain ⟨d, rfl, ha⟩ := el_tup h
  exact ⟨by simp, fun p hp => by rw [List.mem_singleton.mp hp]; exact .at_ ha⟩
theorem nms_el {ns : List Nm} (ok : ∀ n ∈ ns, NameOk n) : ∀ d ∈ ns.map nmD, El d := fun d hd => by
  obtain ⟨n, hn, rfl⟩ := List.mem_map.mp hd
  exact .at_ (name_at (ok n hn))
theorem pick2 {a b c : V} {i : Int} (h0 : 0 ≤ i) (h1 : i < 3) : atI [a, b, c] i = some (if i = 0 then a else if i = 1 then b else c) := by
  obtain rfl | rfl | rfl : i = 0 ∨ i = 1 ∨ i = 2 := by omega
  · rfl
  · rfl
  · rfl
abbrev s__law_bent_names : Stmt := top 59
abbrev sc__law_bent_names_N : List Str := ["_law_purse_here", "_law_names_here", "_law_way", "_law_slot", "_law_odd"]
theorem sc__law_bent_names : FnScope sc__law_bent_names_N ["_law_purse_here", "_law_names_here"] (defScope s__law_bent_names) := ⟨rfl, rfl, rfl, by decide +kernel, rfl, by decide +kernel, by decide +kernel⟩
theorem ok_bnames (D__law_draw : Has P w K mg base "_law_draw" 1 ["_law_purse_here", "_law_many"] spDraw) (D__law_odd_name : Has P w K mg base "_law_odd_name" 3 ["_law_purse_here", "_law_names_here"] (spOdd K)) (D__law_names : Has P w K mg base "_law_names" 3 ["_law_purse_here"] spNames) (m_len : mg "len" = none) (m_list : mg "list" = none) (F : FnP K "_law_bent_names" s__law_bent_names f fd) : FnOk P w K mg base CX0 4 f fd ["_law_purse_here", "_law_names_here"] (spBentN K) := by
  refine F.ok sc__law_bent_names (fun vs H Q E h => by obtain ⟨a, q0, ns, rfl, _⟩ := h; rfl) (fun cdv A outer s H vs Q E hr h => ⟨_, PSs.nox
    (pss_cons (ps_par3 (i := 2) (j := 3) (l := 4) (by rfl) sc__law_bent_names.nd rfl rfl rfl (by decide) (by decide) (by decide) rfl rfl rfl (pa_cons (pe_has D__law_draw (hr.mono (by decide)) (pa_cons (pv 0) (pa_cons pe_int pa_nil))) (pa_cons (pe_has D__law_draw (hr.mono (by decide)) (pa_cons (pv 0) (pa_cons (pe_op (addK K) (pe_callB (lenK K) (by rfl) m_len (by decide +kernel) (pa_cons (pv 1) pa_nil)) pe_int) pa_nil))) (pa_cons (pe_has D__law_odd_name (hr.mono (by decide)) (pa_cons (pv 0) (pa_cons (pv 1) pa_nil))) pa_nil))) (by rfl)) (pss_cons (ps_if (pt_cmpR op_lt (pv 2) pe_int (nomark _)) (pss_one (ps_ret (pv 1))) pss_nil) (pss_cons (ps_if (pt_cmpR op_lt (pv 2) pe_int (nomark _)) (pss_one (ps_ret (pe_op (addK K) (pe_op (addK K) (pe_slice (slK K) (pv 1) po_none (po_some (pv 3))) (pe_tup (pa_cons (pv 4) pa_nil))) (pe_slice (slK K) (pv 1) (po_some (pe_ix (ixK K) (pe_lst (pa_cons (pv 3) (pa_cons (pe_op (addK K) (pv 3) pe_int) pa_nil))) (pe_op op_sub (pv 2) pe_int) (fun _ _ => rfl))) po_none)))) pss_nil) (pss_one (ps_ret (pe_ix (ixK K) (pe_lst (pa_cons (pe_callTy (listK K) (by rfl) m_list (by decide +kernel) (pa_cons (pv 1) pa_nil)) (pa_cons (pv 4) (pa_cons (pe_op (addK K) (pv 1) (pe_slice (slK K) (pe_has D__law_names (hr.mono (by decide)) (pa_cons (pv 0) pa_nil)) po_none (po_some pe_int))) pa_nil)))) (pe_op op_sub (pv 2) pe_int) (fun _ _ => rfl))))))), ?_⟩)
  obtain ⟨a, q0, ns, rfl, p0, hq, ok, q⟩ := h
  have l4 := ok.len
  refine (dr_draw (m := 8) less_at rfl ev_c (by decide) (by decide) : Dr a _ [some (.ref a), some (.ref q0), none, none, none] (less a H) _) H less_ex p0 _ fun v1 H1 pv1 e1 p1 => ?_
  obtain ⟨wy, rfl, w0, w8⟩ := pv1
  refine (dr_draw (m := (ns.length : Int) + 1) less_at rfl (ev_op (ev_is (ev_lenL (ev_var rfl) (.inr hq)) (by rw [List.length_map])) ev_c rv_addI) (by omega) (by omega) : Dr a _ [some (.ref a), some (.ref q0), none, none, none] (less a H) _) H1 e1 p1 _ fun v2 H2 pv2 e2 p2 => ?_
  obtain ⟨sl, rfl, s0, s1⟩ := pv2
  refine ⟨.ref a, rfl, .ref q0, rfl, a, q0, ns, rfl, p2, ex_t (ex_less less_at e2) hq, ok, fun D x H3 eo e3' p3 z => ?_⟩
  have e3 : Ex (less a H) H3 := (ex_less less_at e2).trans e3'
  refine ⟨.int wy, .int sl, x, rfl, ?_⟩
  have hn : DaA K a (nmsD ns) (.ref q0) H3 := da_nms (ex_t (less_step e3) hq)
  have e4 := e3
  have pu := p3
  have zx := z
  clear z e3 p3
  refine q_when (b := decide (wy < 3)) (et_B (ev_op (ev_var (i := 2) rfl) ev_c rv_I0)) (fun _ H5 e5 => ?_) fun z3 H5 e5 => ?_
  · exact s_retY (P := DaA K a (nmsD ns)) (yi_daA (ev_var rfl) (daA_mono _ _ _ _ e5 hn)) fun v H6 e6 z6 => q _ v H6 (nms_ki ok.ok (by omega)) (e4.trans (e5.trans e6)) (pu.keep (e5.trans e6)) z6
  have z3 := of_decide_eq_false z3
  refine q_when (b := decide (wy < 5)) (et_B (ev_op (ev_var rfl) ev_c rv_I0)) (fun z5 H6 e6 => ?_) fun z5 H6 e6 => ?_
  · have z5 := of_decide_eq_true z5
    have e56 := e5.trans e6
    have hn' := daA_mono _ _ _ _ e56 hn
    have zx' := daA_mono _ _ _ _ e56 zx
    have pu' := pu.keep e56
    obtain ⟨j, hj, lj⟩ : ∃ j : Nat, (if wy - 3 = 0 then V.int sl else V.int (sl + 1)) = .int (j : Int) ∧ j ≤ 100 := by
      by_cases c : wy - 3 = 0
      · exact ⟨sl.toNat, by rw [if_pos c, show ((sl.toNat : Nat) : Int) = sl by omega], by omega⟩
      · exact ⟨(sl + 1).toNat, by rw [if_neg c, show (((sl + 1).toNat : Nat) : Int) = sl + 1 by omega], by omega⟩
    have es : (sl.toNat : Int) = sl := by omega
    obtain ⟨o, at_⟩ := pu'.is
    refine s_retY (P := DaA K a (.tuple ((ns.map nmD).take sl.toNat ++ [D] ++ (ns.map nmD).drop j))) (yi_dadd pu' (yi_dadd pu' (yi_dtake (n := sl.toNat) pu' (ev_var rfl) hn' (eo_some (by rw [es]; exact ev_var rfl)) eo_none) (yi_dtup at_ (ys_cons daA_mono (yi_daA (ev_var rfl) zx') ys_nil) (by simp)) (by simp; omega))
      (yi_ddrop (n := j) pu' (ev_var rfl) hn' (eo_some (ev_is (ev_opL2 (xs := [.int sl, .int (sl + 1)]) (el_lst (ea_cons (ev_var rfl) (ea_cons (ev_op (ev_var rfl) ev_c rv_addI) ea_nil)) (by simp)) (ev_op (ev_var rfl) ev_c rv_I0) fun p H7 h7 e7 => rv_ixLX (sq_of h7) (pick1 (by omega) (by omega))) hj)) eo_none) (by simp; omega)) fun v H7 e7 z7 => q _ v H7 (fun ds e => ?_) (e4.trans (e56.trans e7)) (pu'.keep e7) z7
    cases e
    refine ⟨by simp; omega, fun d hd => ?_⟩
    have nm : ∀ d ∈ ns.map nmD, El d := fun d hd => by
      obtain ⟨n, hn, rfl⟩ := List.mem_map.mp hd
      exact .at_ (name_at (ok.ok n hn))
    rcases List.mem_append.mp hd with hd | hd
    · rcases List.mem_append.mp hd with hd | hd
      · exact nm d (List.mem_of_mem_take hd)
      · rw [List.mem_singleton.mp hd]
        exact eo
    · exact nm d (List.mem_of_mem_drop hd)
  · have z5 := of_decide_eq_false z5
    have e56 := e5.trans e6
    have hn' := daA_mono _ _ _ _ e56 hn
    have zx' := daA_mono _ _ _ _ e56 zx
    have pu' := pu.keep e56
    refine yi_dlist pu' (ev_var rfl) hn' H6 (Ex.refl H6) _ fun v1 H7 e7 y1 => ?_
    refine ⟨x, rfl, .ref q0, rfl, .ref a, rfl, a, rfl, pu'.keep e7, fun ms p H8 okm e8 p8 h8 => ?_⟩
    have y1' : DaA K a (.list (ns.map nmD)) v1 H8 := daA_from y1 e8
    have zx8 : DaA K a D x H8 := daA_from (daA_mono _ _ _ _ e7 zx') e8
    have hn8 : DaA K a (nmsD ns) (.ref q0) H8 := daA_from (daA_mono _ _ _ _ e7 hn') e8
    have hm8 : DaA K a (nmsD ms) (.ref p) H8 := da_nms (sqt_less (.inl (.inl h8)) p8)
    have lm := okm.len
    refine (yi_dtake (te := tHere (.ref p)) (n := 2) p8 ev_here hm8 (eo_some ev_c) eo_none : Yi _ [some (.ref a), some (.ref q0), some (.int wy), some (.int sl), some x] H8 _) H8 (Ex.refl H8) _ fun y H9 e9 y9 => ?_
    refine (yi_dadd (ta := tHere (.ref q0)) (tb := tHere y) (p8.keep e9) (yi_daA ev_here (daA_mono _ _ _ _ e9 hn8)) (yi_daA ev_here y9) (by simp; omega) : Yi _ [some (.ref a), some (.ref q0), some (.int wy), some (.int sl), some x] H9 _) H9 (Ex.refl H9) _ fun v3 H10 e10 y10 => ?_
    refine ⟨show 3 ≤ sizeLine by decide, fun c hc => ?_⟩
    refine (ev_op (ev_var (i := 2) rfl) ev_c rv_I0 : Ev _ [some (.ref a), some (.ref q0), some (.int wy), some (.int sl), some x] _ (.int (wy - 5))) _ (Ex.refl _) _ fun H11 e11 => ?_
    have ec := (Ex.new (o := .lst [v1, x, v3]) hc).trans e11
    have e8' : Ex (less a H) H8 := (ex_less less_at ((e4.trans e56).trans e7)).trans e8
    have efin : Ex (less a H) H11 := e8'.trans ((e9.trans e10).trans ec)
    have pfin : Pur H11 a := (((p8.keep e9).keep e10)).keep ec
    refine .inl ⟨c, [v1, x, v3], wy - 5, _, rfl, rfl, sq_of (e11 _ _ upd_same), pick2 (by omega) (by omega), ?_⟩
    by_cases c0 : wy - 5 = 0
    · rw [if_pos c0]
      exact q (.list (ns.map nmD)) _ _ (fun ds e => by cases e) efin pfin (daA_mono _ _ _ _ ((e9.trans e10).trans ec) y1')
    · rw [if_neg c0]
      by_cases c1 : wy - 5 = 1
      · rw [if_pos c1]
        exact q D _ _ (el_ki eo) efin pfin (daA_mono _ _ _ _ ((e9.trans e10).trans ec) zx8)
      · rw [if_neg c1]
        refine q _ _ _ (fun ds e => ?_) efin pfin (daA_mono _ _ _ _ ec y10)
        cases e
        refine ⟨by simp; omega, fun d hd => ?_⟩
        rcases List.mem_append.mp hd with hd | hd
        · exact nms_el ok.ok d hd
        · exact nms_el okm.ok d (List.mem_of_mem_take hd)
end
end K17
set_option Elab.async false
set_option linter.all false
set_option maxRecDepth 100000
set_option maxHeartbeats 4000000
namespace K17
open PySem PySem.Spec PyProof.Rows L2 Evl SwX
section
variable {P : Program} {w : World} {K : PySem.W.Frag} {mg : Str → Option Value} {base : Heap} {f : Addr} {fd : FuncData}
def mr1 (D : PyData) (r : Rul) : List PyData := [.tuple [D, .int (r.2.1 : Nat), nmsD r.2.2], .tuple [nmD r.1, .int (r.2.1 : Nat), .tuple (r.2.2.map nmD ++ [D])], .tuple [nmD r.1, .int (r.2.1 : Nat), .tuple ([D] ++ (r.2.2.map nmD).drop 1)]]
def mr2 (D : PyData) (r : Rul) : List PyData := [.tuple [nmD r.1, .int (r.2.1 : Nat)], .tuple [nmD r.1, .int (r.2.1 : Nat), D], .tuple [nmD r.1, .int (r.2.1 : Nat), .list (r.2.2.map nmD)], .tuple [nmD r.1, .int (r.2.1 : Nat), nmsD r.2.2, .tuple []]]
def mr3 (r : Rul) : List PyData := [.list [nmD r.1, .int (r.2.1 : Nat), nmsD r.2.2], nmD r.1, .none, .int 0, .tuple [], .tuple [.int (r.2.1 : Nat), nmD r.1, nmsD r.2.2]]
def sizesD (r : Rul) : List PyData := [.int 0, .int 10, .int (-1), .bool true, .none, .str (SX.S (TL.numL r.2.1)), .tuple [.int (r.2.1 : Nat)], .list [.int (r.2.1 : Nat)], .int (10 ^ (30 : Int).toNat), .int 9, .int 1]
def mr4 (r : Rul) : List PyData := (sizesD r).map fun s => .tuple [nmD r.1, s, nmsD r.2.2]
theorem num_ascii (n : Nat) : ∀ d ∈ TL.numL n, d < 128 := fun d hd => by
  have z := TL.numL_digits n d hd
  omega
theorem menuR_ru {D : PyData} {r : Rul} {ns : List Nm} (hD : El D) (hr : RulOk ns r) (ok : ∀ n ∈ ns, NameOk n) : ∀ d ∈ ((mr1 D r ++ mr2 D r) ++ mr3 r) ++ mr4 r, Ru d := by
  have en : El (nmD r.1) := .at_ (name_at (ok _ hr.wd))
  have ei : El (.int (r.2.1 : Nat)) := .at_ (.int _)
  have eps : ∀ d ∈ r.2.2.map nmD, El d := nms_el fun n hn => ok n (hr.pt n hn)
  have lps : (r.2.2.map nmD).length ≤ 3 := by rw [List.length_map]; exact hr.len
  have pps : Pt (nmsD r.2.2) := .tup (by omega) eps
  have mk : ∀ {a b c : PyData}, El a → El b → Pt c → Ru (.tuple [a, b, c]) := fun ha hb hc => .tup (by simp) ha fun d hd => by
    simp only [List.mem_cons, List.not_mem_nil, or_false] at hd
    rcases hd with rfl | rfl
    · exact .el hb
    · exact hc
  have l1 := TL.numL_len (n := r.2.1) (k := 1) (by decide) (by have := hr.hi; omega)
  intro d hd
  rcases List.mem_append.mp hd with hd | hd
  · rcases List.mem_append.mp hd with hd | hd
    · rcases List.mem_append.mp hd with hd | hd
      · simp only [mr1, List.mem_cons, List.not_mem_nil, or_false] at hd
        rcases hd with rfl | rfl | rfl
        · exact mk hD ei pps
        · refine mk en ei (.tup (by simp at lps ⊢; omega) fun d hd => ?_)
          rcases List.mem_append.mp hd with h | h
          · exact eps d h
          · rw [List.mem_singleton.mp h]; exact hD
        · refine mk en ei (.tup (by simp at lps ⊢; omega) fun d hd => ?_)
          rcases List.mem_append.mp hd with h | h
          · rw [List.mem_singleton.mp h]; exact hD
          · exact eps d (List.mem_of_mem_drop h)
      · simp only [mr2, List.mem_cons, List.not_mem_nil, or_false] at hd
        rcases hd with rfl | rfl | rfl | rfl
        · exact .tup (by simp) en fun d hd => by rw [List.mem_singleton.mp hd]; exact .el ei
        · exact mk en ei (.el hD)
        · exact mk en ei (.lst _)
        · refine .tup (by simp) en fun d hd => ?_
          simp only [List.mem_cons, List.not_mem_nil, or_false] at hd
          rcases hd with rfl | rfl | rfl
          · exact .el ei
          · exact pps
          · exact .tup (by simp) fun _ h => nomatch h
    · simp only [mr3, List.mem_cons, List.not_mem_nil, or_false] at hd
      rcases hd with rfl | rfl | rfl | rfl | rfl | rfl
      · exact .lst _
      · exact .pt (.el en)
      · exact .pt (.el (.at_ .non))
      · exact .pt (.el (.at_ (.int _)))
      · exact .pt (.tup (by simp) fun _ h => nomatch h)
      · exact mk ei en pps
  · obtain ⟨s, hs, rfl⟩ := List.mem_map.mp hd
    simp only [sizesD, List.mem_cons, List.not_mem_nil, or_false] at hs
    rcases hs with rfl | rfl | rfl | rfl | rfl | rfl | rfl | rfl | rfl | rfl | rfl
    · exact mk en (.at_ (.int _)) pps
    · exact mk en (.at_ (.int _)) pps
    · exact mk en (.at_ (.int _)) pps
    · exact mk en (.at_ (.bl _)) pps
    · exact mk en (.at_ .non) pps
    · exact mk en (.at_ (.str _ (by omega) (num_ascii _))) pps
    · exact mk en (.tup (.int _)) pps
    · exact mk en (.lst (.int _)) pps
    · exact mk en (.at_ (.int _)) pps
    · exact mk en (.at_ (.int _)) pps
    · exact mk en (.at_ (.int _)) pps
theorem paired_imp {α β : Type} {F G : α → β → Prop} (h : ∀ a b, F a b → G a b) : ∀ {is : List α} {vs : List β}, Paired F is vs → Paired G is vs
  | _, _, .nil => .nil
  | _, _, .cons x t => .cons (h _ _ x) (paired_imp h t)
/-- [(x2, y, x4) for y in a list of data] -/
theorem yi_lcT3 {a : Addr} {σ : L2.St} {H : Hp} {tl t2 t4 : TE} {j : Nat} {vs : List Nat} {ss : List PyData} {x x2 x4 : V} {d2 d4 : PyData} (pu : Pur H a) (hx : Ev tl σ H x) (l : LstOf (DaA K a) ss x H) (n3 : ss.length ≠ 3) (le : ss.length ≤ 1000) (z2 : DaA K a d2 x2 H) (z4 : DaA K a d4 x4 H) (hw : ∀ x, wipe ((wipe σ vs).set j (some x)) vs = wipe σ vs)
    (h2 : ∀ y H1, t2 ((wipe σ vs).set j (some y)) H1 = fun Q => Q x2 H1) (h4 : ∀ y H1, t4 ((wipe σ vs).set j (some y)) H1 = fun Q => Q x4 H1) (hj : ∀ y : V, ((wipe σ vs).set j (some y))[j]? = some (some y)) :
    Yi (tLc (iList K tl) (gName j) tYes (tTup (tCons t2 (tCons (tVar j) (tCons t4 tNil)))) vs) σ H (LstOf (DaA K a) (ss.map fun s => .tuple [d2, s, d4])) := fun H0 e0 Q q => hx H0 e0 _ fun H1 e1 => by
  obtain ⟨p, ys, rfl, hp, pr⟩ := l
  have e01 := e0.trans e1
  have hp1 := e01 _ _ hp
  have ln := paired_len pr
  refine ⟨p, rfl, ⟨ys, sq_of hp1⟩, fun D hD => ?_⟩
  have nD : ∀ {b : Addr} {o : HO}, H1 b = some o → b ≠ D := fun h => ne_of_none h hD
  refine lc_list (xs := ys) (fun i H' => ∃ acc, H' D = some (.lst acc) ∧ acc.length = i ∧ Ex H1 H' ∧ Paired (fun s v => ∃ c y, v = .ref c ∧ c ≠ D ∧ H' c = some (.tup [x2, y, x4]) ∧ DaA K a s y H) (ss.take i) acc) ⟨[], upd_same, rfl, Ex.new hD, by rw [List.take_zero]; exact .nil⟩ (fun i H' _ z => sq_of (z.choose_spec.2.2.1 _ _ hp1)) (fun i y H' hy z => ⟨hw y, ?_⟩) fun H' z => ?_
  · obtain ⟨acc, ha, la, ea, pa⟩ := z
    have lt : i < ss.length := by
      have := (List.getElem?_eq_some_iff.mp hy).1
      omega
    have hi : ss[i]? = some ss[i] := List.getElem?_eq_getElem lt
    obtain ⟨y', hy', dy⟩ := SwX.paired_get pr hi
    rw [hy] at hy'
    cases hy'
    simp only [tYes, if_true]
    show t2 _ H' _
    rw [h2]
    refine ⟨y, hj y, ?_⟩
    show t4 _ H' _
    rw [h4]
    refine ⟨show 3 ≤ sizeLine by decide, fun c hc => ⟨acc, ?_, sz_lt (by omega), ?_⟩⟩
    · rw [upd_ne (fun w => by rw [← w, ha] at hc; cases hc)]
      exact ha
    · have cD : c ≠ D := fun w => by rw [w, ha] at hc; cases hc
      refine ⟨acc ++ [.ref c], upd_same, by simp [la], fun b ob hb => ?_, ?_⟩
      · rw [upd_ne (nD hb), upd_ne (fun w => by rw [w] at hb; rw [ea _ _ hb] at hc; cases hc)]
        exact ea _ _ hb
      · have tk : ss.take (i + 1) = ss.take i ++ [ss[i]] := by rw [List.take_succ, hi]; rfl
        rw [tk]
        refine paired_append ?_ (.cons ⟨c, y, rfl, cD, by rw [upd_ne cD, upd_same], dy⟩ .nil)
        refine paired_imp (fun s v z => ?_) pa
        obtain ⟨c', y', rfl, n', h', d'⟩ := z
        exact ⟨c', y', rfl, n', by rw [upd_ne n', upd_ne (fun w => by rw [w, hc] at h'; cases h')]; exact h', d'⟩
  · obtain ⟨acc, ha, la, ea, pa⟩ := z
    rw [show ys.length = ss.length from ln.symm, List.take_length] at pa
    have ef := e01.trans ea
    refine q (.ref D) H' (e1.trans ea) ⟨D, acc, rfl, ha, paired_map (g := fun s => .tuple [d2, s, d4]) (F := fun d v => DaA K a d v H') (paired_imp (fun s v z => ?_) pa)⟩
    obtain ⟨c, y, rfl, n', h', d'⟩ := z
    have ne : c ≠ a := fun w => by
      obtain ⟨_, _, _, z, _⟩ := pu.keep ef
      rw [w, z] at h'
      cases h'
    exact da_tuple (.inl (.inl (by rw [less_ne ne]; exact h'))) (.cons (daA_mono _ _ _ _ ef z2) (.cons (daA_mono _ _ _ _ ef d') (.cons (daA_mono _ _ _ _ ef z4) .nil)))
def spOddR (K : PySem.W.Frag) : Sp := fun vs H Q _ => ∃ (a q0 : Addr) (ns : List Nm), vs = [.ref a, .ref q0] ∧ Pur H a ∧ SqT K (less a H) q0 (ns.map nmV) ∧ NamesOk ns ∧ ∀ D x H', Ru D → Ex (less a H) H' → Pur H' a → DaA K a D x H' → Q x H'
abbrev s__law_odd_rule : Stmt := top 60
abbrev sc__law_odd_rule_N : List Str := ["_law_purse_here", "_law_names_here", "_law_word", "_law_own", "_law_parts", "_law_odd", "_law_menu", "_law_sizes", "_law_size"]
theorem sc__law_odd_rule : FnScope sc__law_odd_rule_N ["_law_purse_here", "_law_names_here"] (defScope s__law_odd_rule) := ⟨rfl, rfl, rfl, by decide +kernel, rfl, by decide +kernel, by decide +kernel⟩
theorem ok_orule (D__law_draw : Has P w K mg base "_law_draw" 1 ["_law_purse_here", "_law_many"] spDraw) (D__law_rule : Has P w K mg base "_law_rule" 2 ["_law_purse_here", "_law_names_here"] (spRule K)) (D__law_odd_name : Has P w K mg base "_law_odd_name" 3 ["_law_purse_here", "_law_names_here"] (spOdd K)) (m_len : mg "len" = none) (m_list : mg "list" = none) (m_str : mg "str" = none) (F : FnP K "_law_odd_rule" s__law_odd_rule f fd) : FnOk P w K mg base CX0 4 f fd ["_law_purse_here", "_law_names_here"] (spOddR K) := by
  refine F.ok sc__law_odd_rule (fun vs H Q E h => by obtain ⟨a, q0, ns, rfl, _⟩ := h; rfl) (fun cdv A outer s H vs Q E hr h => ⟨_, PSs.nox
    (pss_cons (ps_asg (pe_has D__law_rule (hr.mono (by decide)) (pa_cons (pv 0) (pa_cons (pv 1) pa_nil))) (pg_tup rfl (pgs_cons (pg_name (i := 2) sc__law_odd_rule.nd rfl (Or.inr rfl)) (pgs_cons (pg_name (i := 3) sc__law_odd_rule.nd rfl (Or.inl rfl)) (pgs_cons (pg_name (i := 4) sc__law_odd_rule.nd rfl (Or.inr rfl)) pgs_nil))))) (pss_cons (ps_set (i := 5) sc__law_odd_rule.nd rfl (Or.inl rfl) (pe_has D__law_odd_name (hr.mono (by decide)) (pa_cons (pv 0) (pa_cons (pv 1) pa_nil)))) (pss_cons (ps_set (i := 6) sc__law_odd_rule.nd rfl (Or.inl rfl) (pe_lst (pa_cons (pe_tup (pa_cons (pv 5) (pa_cons (pv 3) (pa_cons (pv 4) pa_nil)))) (pa_cons (pe_tup (pa_cons (pv 2) (pa_cons (pv 3) (pa_cons (pe_op (addK K) (pv 4) (pe_tup (pa_cons (pv 5) pa_nil))) pa_nil)))) (pa_cons (pe_tup (pa_cons (pv 2) (pa_cons (pv 3) (pa_cons (pe_op (addK K) (pe_tup (pa_cons (pv 5) pa_nil)) (pe_slice (slK K) (pv 4) (po_some pe_int) po_none)) pa_nil)))) pa_nil))))) (pss_cons (ps_set (i := 6) sc__law_odd_rule.nd rfl (Or.inl rfl) (pe_op (addK K) (pv 6) (pe_lst (pa_cons (pe_tup (pa_cons (pv 2) (pa_cons (pv 3) pa_nil))) (pa_cons (pe_tup (pa_cons (pv 2) (pa_cons (pv 3) (pa_cons (pv 5) pa_nil)))) (pa_cons (pe_tup (pa_cons (pv 2) (pa_cons (pv 3) (pa_cons (pe_callTy (listK K) (by rfl) m_list (by decide +kernel) (pa_cons (pv 4) pa_nil)) pa_nil)))) (pa_cons (pe_tup (pa_cons (pv 2) (pa_cons (pv 3) (pa_cons (pv 4) (pa_cons (pe_tup pa_nil) pa_nil))))) pa_nil))))))) (pss_cons (ps_set (i := 6) sc__law_odd_rule.nd rfl (Or.inl rfl) (pe_op (addK K) (pv 6) (pe_lst (pa_cons (pe_lst (pa_cons (pv 2) (pa_cons (pv 3) (pa_cons (pv 4) pa_nil)))) (pa_cons (pv 2) (pa_cons pe_non (pa_cons pe_int (pa_cons (pe_tup pa_nil) (pa_cons (pe_tup (pa_cons (pv 3) (pa_cons (pv 2) (pa_cons (pv 4) pa_nil)))) pa_nil))))))))) (pss_cons (ps_set (i := 7) sc__law_odd_rule.nd rfl (Or.inl rfl) (pe_lst (pa_cons pe_int (pa_cons pe_int (pa_cons (pe_un un_neg pe_int) (pa_cons pe_bl (pa_cons pe_non (pa_cons (pe_callTy call_strY (by rfl) m_str (by decide +kernel) (pa_cons (pv 3) pa_nil)) (pa_cons (pe_tup (pa_cons (pv 3) pa_nil)) (pa_cons (pe_lst (pa_cons (pv 3) pa_nil)) (pa_cons (pe_op op_pow pe_int pe_int) (pa_cons pe_int (pa_cons pe_int pa_nil))))))))))))) (pss_cons (ps_set (i := 6) sc__law_odd_rule.nd rfl (Or.inl rfl) (pe_op (addK K) (pv 6) (pe_lc (own := [("_law_size", 8)]) (g := gName 8) (tt := tYes) rfl sc__law_odd_rule.nd (pi_list (pv 7)) (blkOk_by (N := sc__law_odd_rule_N) (sc := defScope s__law_odd_rule) (by decide +kernel)) (fun _ _ _ _ _ => pg_name (i := 8) sc__law_odd_rule.nd rfl (Or.inl rfl)) (fun _ _ _ _ _ => pts_nil) (fun _ _ _ _ _ => (pe_tup (pa_cons (pv 2) (pa_cons (pv 8) (pa_cons (pv 4) pa_nil)))))))) (pss_one (ps_ret (pe_ix (ixK K) (pv 6) (pe_has D__law_draw (hr.mono (by decide)) (pa_cons (pv 0) (pa_cons (pe_callB (lenK K) (by rfl) m_len (by decide +kernel) (pa_cons (pv 6) pa_nil)) pa_nil))) (fun _ _ => rfl))))))))))), ?_⟩)
  obtain ⟨a, q0, ns, rfl, p0, hq, ok, q⟩ := h
  have t30 : CPow 10 30 := by unfold CPow; omega
  refine ⟨.ref a, rfl, .ref q0, rfl, a, q0, ns, rfl, p0, hq, ok, fun r p H1 okr e1 p1 dr => ?_⟩
  obtain ⟨b, c, eb, hb, hc⟩ := da_rul dr
  cases eb
  refine ⟨_, _, rfl, sqt_more hb, rfl, nmV r.1, [.int (r.2.1 : Nat), .ref c], rfl, .int (r.2.1 : Nat), [.ref c], rfl, .ref c, [], rfl, rfl, ?_⟩
  have zp : DaA K a (nmsD r.2.2) (.ref c) H1 := da_nms hc
  have q1 : SqT K (less a H1) q0 (ns.map nmV) := ex_t (less_step e1) hq
  clear hb hc dr
  refine ⟨.ref a, rfl, .ref q0, rfl, a, q0, ns, rfl, p1, q1, ok, fun D x H2 eo e2 p2 zx => ?_⟩
  have zp2 : DaA K a (nmsD r.2.2) (.ref c) H2 := daA_from zp e2
  have e12 : Ex (less a H) H2 := (ex_less less_at e1).trans e2
  have okn : ∀ n ∈ ns, NameOk n := ok.ok
  clear e1 e2 p1 q1 zp p0
  obtain ⟨o, at_⟩ := p2.is
  have vn : ∀ {H9 : Hp}, Yi (tVar 2) [some (.ref a), some (.ref q0), some (nmV r.1), some (.int (r.2.1 : Nat)), some (.ref c), some x, none, none, none] H9 (DaA K a (nmD r.1)) := yi_dat (ev_var rfl) fun _ => .str _
  have vi : ∀ {H9 : Hp}, Yi (tVar 3) [some (.ref a), some (.ref q0), some (nmV r.1), some (.int (r.2.1 : Nat)), some (.ref c), some x, none, none, none] H9 (DaA K a (.int (r.2.1 : Nat))) := yi_dat (ev_var rfl) fun _ => .int _
  refine q_asgY (P := LstOf (DaA K a) (mr1 D r)) (yi_lst daA_mono (ys_cons daA_mono (yi_dtup at_ (ys_cons daA_mono (yi_daA (ev_var rfl) zx) (ys_cons daA_mono vi (ys_cons daA_mono (yi_daA (ev_var rfl) zp2) ys_nil))) (by simp)) (ys_cons daA_mono (yi_dtup at_ (ys_cons daA_mono vn (ys_cons daA_mono vi (ys_cons daA_mono (yi_dadd p2 (yi_daA (ev_var rfl) zp2) (yi_dtup at_ (ys_cons daA_mono (yi_daA (ev_var rfl) zx) ys_nil) (by simp)) (by simp; have := okr.len; omega)) ys_nil))) (by simp))
    (ys_cons daA_mono (yi_dtup at_ (ys_cons daA_mono vn (ys_cons daA_mono vi (ys_cons daA_mono (yi_dadd p2 (yi_dtup at_ (ys_cons daA_mono (yi_daA (ev_var rfl) zx) ys_nil) (by simp)) (yi_ddrop (n := 1) p2 (ev_var rfl) zp2 (eo_some ev_c) eo_none) (by simp; have := okr.len; omega)) ys_nil))) (by simp)) ys_nil))) (by unfold mr1; simp)) fun v3 H3 e3 l3 => ?_
  have zx3 := daA_mono _ _ _ _ e3 zx
  have zp3 := daA_mono _ _ _ _ e3 zp2
  have p3 := p2.keep e3
  have at3 := e3 _ _ at_
  have vn' : ∀ {H9 : Hp} {v : V}, Yi (tVar 2) [some (.ref a), some (.ref q0), some (nmV r.1), some (.int (r.2.1 : Nat)), some (.ref c), some x, some v, none, none] H9 (DaA K a (nmD r.1)) := yi_dat (ev_var rfl) fun _ => .str _
  have vi' : ∀ {H9 : Hp} {v : V}, Yi (tVar 3) [some (.ref a), some (.ref q0), some (nmV r.1), some (.int (r.2.1 : Nat)), some (.ref c), some x, some v, none, none] H9 (DaA K a (.int (r.2.1 : Nat))) := yi_dat (ev_var rfl) fun _ => .int _
  refine q_asgY (P := LstOf (DaA K a) (mr1 D r ++ mr2 D r)) (yi_catX daA_mono (yi_var rfl fun H' e => l3.mono daA_mono e) (yi_lst daA_mono (ys_cons daA_mono (yi_dtup at3 (ys_cons daA_mono vn' (ys_cons daA_mono vi' ys_nil)) (by simp)) (ys_cons daA_mono (yi_dtup at3 (ys_cons daA_mono vn' (ys_cons daA_mono vi' (ys_cons daA_mono (yi_daA (ev_var rfl) zx3) ys_nil))) (by simp))
    (ys_cons daA_mono (yi_dtup at3 (ys_cons daA_mono vn' (ys_cons daA_mono vi' (ys_cons daA_mono (yi_dlist p3 (ev_var rfl) zp3) ys_nil))) (by simp)) (ys_cons daA_mono (yi_dtup at3 (ys_cons daA_mono vn' (ys_cons daA_mono vi' (ys_cons daA_mono (yi_daA (ev_var rfl) zp3) (ys_cons daA_mono (yi_dtup at3 ys_nil (by simp)) ys_nil)))) (by simp)) ys_nil)))) (by unfold mr2; simp)) (by unfold mr1 mr2; simp)) fun v4 H4 e4 l4 => ?_
  have zx4 := daA_mono _ _ _ _ e4 zx3
  have zp4 := daA_mono _ _ _ _ e4 zp3
  have p4 := p3.keep e4
  have at4 := e4 _ _ at3
  refine q_asgY (P := LstOf (DaA K a) ((mr1 D r ++ mr2 D r) ++ mr3 r)) (yi_catX daA_mono (yi_var rfl fun H' e => l4.mono daA_mono e) (yi_lst daA_mono (ys_cons daA_mono (yi_dlst at4 (ys_cons daA_mono vn' (ys_cons daA_mono vi' (ys_cons daA_mono (yi_daA (ev_var rfl) zp4) ys_nil))) (by simp)) (ys_cons daA_mono vn' (ys_cons daA_mono (yi_dat ev_c fun _ => .non) (ys_cons daA_mono (yi_dat ev_c fun _ => .int 0) (ys_cons daA_mono (yi_dtup at4 ys_nil (by simp))
    (ys_cons daA_mono (yi_dtup at4 (ys_cons daA_mono vi' (ys_cons daA_mono vn' (ys_cons daA_mono (yi_daA (ev_var rfl) zp4) ys_nil))) (by simp)) ys_nil)))))) (by unfold mr3; simp)) (by unfold mr1 mr2 mr3; simp)) fun v5 H5 e5 l5 => ?_
  have zp5 := daA_mono _ _ _ _ e5 zp4
  have p5 := p4.keep e5
  have at5 := e5 _ _ at4
  refine q_asgY (P := LstOf (DaA K a) (sizesD r)) (yi_lst daA_mono (ys_cons daA_mono (yi_dat ev_c fun _ => .int 0) (ys_cons daA_mono (yi_dat ev_c fun _ => .int 10) (ys_cons daA_mono (yi_dat (ev_un ev_c ru_neg) fun _ => .int (-1)) (ys_cons daA_mono (yi_dat ev_c fun _ => .bl true) (ys_cons daA_mono (yi_dat ev_c fun _ => .non) (ys_cons daA_mono (yi_dat (ev_strI (ev_var rfl) (by have := okr.hi; omega)) fun _ => .str _)
    (ys_cons daA_mono (yi_dtup at5 (ys_cons daA_mono vi' ys_nil) (by simp)) (ys_cons daA_mono (yi_dlst at5 (ys_cons daA_mono vi' ys_nil) (by simp)) (ys_cons daA_mono (yi_dat (ev_op ev_c ev_c (rv_I t30)) fun _ => .int _) (ys_cons daA_mono (yi_dat ev_c fun _ => .int 9) (ys_cons daA_mono (yi_dat ev_c fun _ => .int 1) ys_nil))))))))))) (by unfold sizesD; simp)) fun v6 H6 e6 l6 => ?_
  have zp6 := daA_mono _ _ _ _ e6 zp5
  have p6 := p5.keep e6
  refine q_asgY (P := LstOf (DaA K a) (((mr1 D r ++ mr2 D r) ++ mr3 r) ++ mr4 r)) (yi_catX daA_mono (yi_var rfl fun H' e => (l5.mono daA_mono e6).mono daA_mono e) (yi_lcT3 (d2 := nmD r.1) (d4 := nmsD r.2.2) (x2 := nmV r.1) (x4 := .ref c) p6 (ev_var rfl) l6 (by unfold sizesD; simp) (by unfold sizesD; simp) (.str _) zp6 (fun _ => rfl) (fun y H1 => by
    funext Q
    apply propext
    exact ⟨fun ⟨v, e, z⟩ => by cases e; exact z, fun z => ⟨_, rfl, z⟩⟩) (fun y H1 => by
    funext Q
    apply propext
    exact ⟨fun ⟨v, e, z⟩ => by cases e; exact z, fun z => ⟨_, rfl, z⟩⟩) fun y => rfl) (by unfold mr1 mr2 mr3 mr4 sizesD; simp)) fun v7 H7 e7 l7 => ?_
  refine s_pick rfl rfl l7 (by unfold mr1 mr2 mr3 mr4 sizesD; simp) (by unfold mr1 mr2 mr3 mr4 sizesD; simp) (by unfold mr1 mr2 mr3 mr4 sizesD; simp) (p6.keep e7) fun d hd y H' e p z => q d y H' (menuR_ru eo okr okn d hd) ((ex_less less_at (e12.trans ((((e3.trans e4).trans e5).trans e6).trans e7))).trans e) p z
end
end K17
set_option Elab.async false
set_option linter.all false
set_option maxRecDepth 100000
set_option maxHeartbeats 4000000
namespace K17
open PySem PySem.Spec PyProof.Rows L2 Evl SwX
section
variable {P : Program} {w : World} {K : PySem.W.Frag} {mg : Str → Option Value} {base : Heap} {f : Addr} {fd : FuncData}
def RuIt (D : PyData) : Prop := ∀ ds, D = .tuple ds → ds.length ≤ 1000 ∧ ∀ d ∈ ds, RitX d
theorem ru_it {d : PyData} (h : Ru d) : RuIt d := fun ds e => by
  subst e
  obtain ⟨l, z⟩ := ru_items h
  exact ⟨by omega, z⟩
theorem pick3 {a b c : V} {i : Int} (h0 : 0 ≤ i) (h1 : i < 3) : atI [a, b, c] i = some (if i = 0 then a else if i = 1 then b else c) := pick2 h0 h1
def spBentR (K : PySem.W.Frag) : Sp := fun vs H Q _ => ∃ (a q0 : Addr) (ns : List Nm), vs = [.ref a, .ref q0] ∧ Pur H a ∧ SqT K (less a H) q0 (ns.map nmV) ∧ NamesOk ns ∧ ∀ D x H', RuIt D → Ex (less a H) H' → Pur H' a → DaA K a D x H' → Q x H'
abbrev s__law_bent_rules : Stmt := top 61
abbrev sc__law_bent_rules_N : List Str := ["_law_purse_here", "_law_names_here", "_law_rules_here", "_law_way", "_law_slot", "_law_odd"]
theorem sc__law_bent_rules : FnScope sc__law_bent_rules_N ["_law_purse_here", "_law_names_here"] (defScope s__law_bent_rules) := ⟨rfl, rfl, rfl, by decide +kernel, rfl, by decide +kernel, by decide +kernel⟩
theorem ok_brules (D__law_draw : Has P w K mg base "_law_draw" 1 ["_law_purse_here", "_law_many"] spDraw) (D__law_odd_rule : Has P w K mg base "_law_odd_rule" 4 ["_law_purse_here", "_law_names_here"] (spOddR K)) (D__law_rules : Has P w K mg base "_law_rules" 3 ["_law_purse_here", "_law_names_here", "_law_most"] (spRules K)) (m_len : mg "len" = none) (m_list : mg "list" = none) (F : FnP K "_law_bent_rules" s__law_bent_rules f fd) : FnOk P w K mg base CX0 5 f fd ["_law_purse_here", "_law_names_here"] (spBentR K) := by
  refine F.ok sc__law_bent_rules (fun vs H Q E h => by obtain ⟨a, q0, ns, rfl, _⟩ := h; rfl) (fun cdv A outer s H vs Q E hr h => ⟨_, PSs.nox
    (pss_cons (ps_set (i := 2) sc__law_bent_rules.nd rfl (Or.inl rfl) (pe_has D__law_rules (hr.mono (by decide)) (pa_cons (pv 0) (pa_cons (pv 1) (pa_cons pe_int pa_nil))))) (pss_cons (ps_par3 (i := 3) (j := 4) (l := 5) (by rfl) sc__law_bent_rules.nd rfl rfl rfl (by decide) (by decide) (by decide) rfl rfl rfl (pa_cons (pe_has D__law_draw (hr.mono (by decide)) (pa_cons (pv 0) (pa_cons pe_int pa_nil))) (pa_cons (pe_has D__law_draw (hr.mono (by decide)) (pa_cons (pv 0) (pa_cons (pe_op (addK K) (pe_callB (lenK K) (by rfl) m_len (by decide +kernel) (pa_cons (pv 2) pa_nil)) pe_int) pa_nil))) (pa_cons (pe_has D__law_odd_rule (hr.mono (by decide)) (pa_cons (pv 0) (pa_cons (pv 1) pa_nil))) pa_nil))) (by rfl)) (pss_cons (ps_if (pt_cmpR op_lt (pv 3) pe_int (nomark _)) (pss_one (ps_ret (pv 2))) pss_nil) (pss_cons (ps_if (pt_cmpR op_lt (pv 3) pe_int (nomark _)) (pss_one (ps_ret (pe_op (addK K) (pe_op (addK K) (pe_slice (slK K) (pv 2) po_none (po_some (pv 4))) (pe_tup (pa_cons (pv 5) pa_nil))) (pe_slice (slK K) (pv 2) (po_some (pe_ix (ixK K) (pe_lst (pa_cons (pv 4) (pa_cons (pe_op (addK K) (pv 4) pe_int) (pa_cons (pv 4) pa_nil)))) (pe_op op_sub (pv 3) pe_int) (fun _ _ => rfl))) po_none)))) pss_nil) (pss_one (ps_ret (pe_ix (ixK K) (pe_lst (pa_cons (pe_callTy (listK K) (by rfl) m_list (by decide +kernel) (pa_cons (pv 2) pa_nil)) (pa_cons (pv 5) (pa_cons (pe_op (addK K) (pe_op (addK K) (pe_slice (slK K) (pv 2) po_none (po_some (pv 4))) (pe_slice (slK K) (pv 2) po_none (po_some pe_int))) (pe_slice (slK K) (pv 2) (po_some (pv 4)) po_none)) pa_nil)))) (pe_op op_sub (pv 3) pe_int) (fun _ _ => rfl)))))))), ?_⟩)
  obtain ⟨a, q0, ns, rfl, p0, hq, ok, q⟩ := h
  refine ⟨.ref a, rfl, .ref q0, rfl, a, q0, ns, 12, rfl, by decide, p0, hq, ok, fun rs r H1 lr nd okr e1 p1 dr => ?_⟩
  have rit : ∀ d ∈ rs.map rulD, RitX d := fun d hd => by
    obtain ⟨r, hr, rfl⟩ := List.mem_map.mp hd
    exact ru_rit (rul_ru (okr r hr) ok.ok)
  obtain ⟨q9, xs, er, hr9, pr9⟩ := da_items dr
  cases er
  have ln : xs.length = rs.length := by rw [← paired_len pr9, List.length_map]
  have q1 : SqT K (less a H1) q0 (ns.map nmV) := ex_t (less_step e1) hq
  refine (dr_draw (m := 9) less_at rfl ev_c (by decide) (by decide) : Dr a _ [some (.ref a), some (.ref q0), some (.ref r), none, none, none] (less a H1) _) H1 less_ex p1 _ fun v1 H2 pv1 e2 p2 => ?_
  obtain ⟨wy, rfl, w0, w9⟩ := pv1
  refine (dr_draw (m := (rs.length : Int) + 1) less_at rfl (ev_op (ev_is (ev_lenL (ev_var rfl) (.inr hr9)) (by rw [ln])) ev_c rv_addI) (by omega) (by omega) : Dr a _ [some (.ref a), some (.ref q0), some (.ref r), none, none, none] (less a H1) _) H2 e2 p2 _ fun v2 H3 pv2 e3 p3 => ?_
  obtain ⟨sl, rfl, s0, s1⟩ := pv2
  refine ⟨.ref a, rfl, .ref q0, rfl, a, q0, ns, rfl, p3, ex_t (less_step e3) q1, ok, fun D x H4 eo e4' p4 zx => ?_⟩
  have e14 : Ex (less a H1) H4 := (less_step e3).trans e4'
  have e4 : Ex (less a H) H4 := (less_step e1).trans e14
  refine ⟨.int wy, .int sl, x, rfl, ?_⟩
  have hn : DaA K a (rulsD rs) (.ref r) H4 := daA_from dr e14
  have pu := p4
  clear e2 e3 e4' e14 e1 p1 p2 p3 p4 q1 hr9 pr9 dr
  refine q_when (b := decide (wy < 3)) (et_B (ev_op (ev_var (i := 3) rfl) ev_c rv_I0)) (fun _ H5 e5 => ?_) fun z3 H5 e5 => ?_
  · exact s_retY (P := DaA K a (rulsD rs)) (yi_daA (ev_var rfl) (daA_mono _ _ _ _ e5 hn)) fun v H6 e6 z6 => q _ v H6 (fun ds e => by
      unfold rulsD at e
      cases e
      exact ⟨by rw [List.length_map]; omega, rit⟩) (e4.trans (e5.trans e6)) (pu.keep (e5.trans e6)) z6
  have z3 := of_decide_eq_false z3
  refine q_when (b := decide (wy < 6)) (et_B (ev_op (ev_var rfl) ev_c rv_I0)) (fun z5 H6 e6 => ?_) fun z5 H6 e6 => ?_
  · have z5 := of_decide_eq_true z5
    have e56 := e5.trans e6
    have hn' := daA_mono _ _ _ _ e56 hn
    have zx' := daA_mono _ _ _ _ e56 zx
    have pu' := pu.keep e56
    obtain ⟨j, hj, lj⟩ : ∃ j : Nat, (if wy - 3 = 0 then V.int sl else if wy - 3 = 1 then V.int (sl + 1) else V.int sl) = .int (j : Int) ∧ j ≤ 100 := by
      by_cases c : wy - 3 = 0
      · exact ⟨sl.toNat, by rw [if_pos c, show ((sl.toNat : Nat) : Int) = sl by omega], by omega⟩
      · by_cases c1 : wy - 3 = 1
        · exact ⟨(sl + 1).toNat, by rw [if_neg c, if_pos c1, show (((sl + 1).toNat : Nat) : Int) = sl + 1 by omega], by omega⟩
        · exact ⟨sl.toNat, by rw [if_neg c, if_neg c1, show ((sl.toNat : Nat) : Int) = sl by omega], by omega⟩
    have es : (sl.toNat : Int) = sl := by omega
    obtain ⟨o, at_⟩ := pu'.is
    refine s_retY (P := DaA K a (.tuple ((rs.map rulD).take sl.toNat ++ [D] ++ (rs.map rulD).drop j))) (yi_dadd pu' (yi_dadd pu' (yi_dtake (n := sl.toNat) pu' (ev_var rfl) hn' (eo_some (by rw [es]; exact ev_var rfl)) eo_none) (yi_dtup at_ (ys_cons daA_mono (yi_daA (ev_var rfl) zx') ys_nil) (by simp)) (by simp; omega))
      (yi_ddrop (n := j) pu' (ev_var rfl) hn' (eo_some (ev_is (ev_opL2 (xs := [.int sl, .int (sl + 1), .int sl]) (el_lst (ea_cons (ev_var rfl) (ea_cons (ev_op (ev_var rfl) ev_c rv_addI) (ea_cons (ev_var rfl) ea_nil))) (by simp)) (ev_op (ev_var rfl) ev_c rv_I0) fun p H7 h7 e7 => rv_ixLX (sq_of h7) (pick3 (by omega) (by omega))) hj)) eo_none) (by simp; omega)) fun v H7 e7 z7 => q _ v H7 (fun ds e => ?_) (e4.trans (e56.trans e7)) (pu'.keep e7) z7
    cases e
    refine ⟨by simp; omega, fun d hd => ?_⟩
    rcases List.mem_append.mp hd with hd | hd
    · rcases List.mem_append.mp hd with hd | hd
      · exact rit d (List.mem_of_mem_take hd)
      · rw [List.mem_singleton.mp hd]
        exact ru_rit eo
    · exact rit d (List.mem_of_mem_drop hd)
  · have z5 := of_decide_eq_false z5
    have e56 := e5.trans e6
    have hn' := daA_mono _ _ _ _ e56 hn
    have zx' := daA_mono _ _ _ _ e56 zx
    have pu' := pu.keep e56
    have es : (sl.toNat : Int) = sl := by omega
    refine yi_dlist pu' (ev_var rfl) hn' H6 (Ex.refl H6) _ fun v1 H7 e7 y1 => ?_
    have hn7 := daA_mono _ _ _ _ e7 hn'
    have zx7 := daA_mono _ _ _ _ e7 zx'
    have pu7 := pu'.keep e7
    refine ⟨x, rfl, ?_⟩
    refine (yi_dadd pu7 (yi_dadd pu7 (yi_dtake (n := sl.toNat) pu7 (ev_var (i := 2) rfl) hn7 (eo_some (by rw [es]; exact ev_var (i := 4) rfl)) eo_none) (yi_dtake (n := 1) pu7 (ev_var (i := 2) rfl) hn7 (eo_some ev_c) eo_none) (by simp; omega)) (yi_ddrop (n := sl.toNat) pu7 (ev_var (i := 2) rfl) hn7 (eo_some (by rw [es]; exact ev_var (i := 4) rfl)) eo_none) (by simp; omega) : Yi _ [some (.ref a), some (.ref q0), some (.ref r), some (.int wy), some (.int sl), some x] H7 _) H7 (Ex.refl H7) _ fun v3 H10 e10 y10 => ?_
    refine ⟨show 3 ≤ sizeLine by decide, fun c hc => ?_⟩
    refine (ev_op (ev_var (i := 3) rfl) ev_c rv_I0 : Ev _ [some (.ref a), some (.ref q0), some (.ref r), some (.int wy), some (.int sl), some x] _ (.int (wy - 6))) _ (Ex.refl _) _ fun H11 e11 => ?_
    have ec := (Ex.new (o := .lst [v1, x, v3]) hc).trans e11
    have efin : Ex (less a H) H11 := (e4.trans (e56.trans e7)).trans (e10.trans ec)
    have pfin : Pur H11 a := (pu7.keep e10).keep ec
    refine .inl ⟨c, [v1, x, v3], wy - 6, _, rfl, rfl, sq_of (e11 _ _ upd_same), pick3 (by omega) (by omega), ?_⟩
    by_cases c0 : wy - 6 = 0
    · rw [if_pos c0]
      exact q (.list (rs.map rulD)) _ _ (fun ds e => by cases e) efin pfin (daA_mono _ _ _ _ (e10.trans ec) y1)
    · rw [if_neg c0]
      by_cases c1 : wy - 6 = 1
      · rw [if_pos c1]
        exact q D _ _ (ru_it eo) efin pfin (daA_mono _ _ _ _ (e10.trans ec) zx7)
      · rw [if_neg c1]
        refine q _ _ _ (fun ds e => ?_) efin pfin (daA_mono _ _ _ _ ec y10)
        cases e
        refine ⟨by simp; omega, fun d hd => ?_⟩
        rcases List.mem_append.mp hd with hd | hd
        · rcases List.mem_append.mp hd with hd | hd
          · exact rit d (List.mem_of_mem_take hd)
          · exact rit d (List.mem_of_mem_take hd)
        · exact rit d (List.mem_of_mem_drop hd)
/-! ### what was told is what is due -/
/-- what is told of a good one, of a refused one -/
def toldL (code : Int) : Option (Option Nat) → Str → List V
  | none, z => [.str "told", .str z]
  | some r, _ => [.int code, .str (PyData.shown (.list [optD r]))]
def spToldR (K : PySem.W.Frag) : Sp := fun vs H Q _ => ∃ (p q : Addr) (code : Int) (r : Option (Option Nat)) (z : Str), vs = [.ref p, .ref q] ∧ H p = some (.lst (toldL code r z)) ∧ H q = some (.lst (dueL code r)) ∧ (∀ o, r = some o → (PyData.str (PyData.shown (.list [optD o]))).canLay0 = true) ∧ ∀ H', Ex H H' → Q (.bl true) H'
theorem due_da {K : PySem.W.Frag} {H : Hp} {q : Addr} {code : Int} {r : Option (Option Nat)} (h : H q = some (.lst (dueL code r))) : Da K H (.ref q) (.list (dueDs code r)) := by
  cases r with
  | none => exact da_list h .nil
  | some o => exact da_list h (.cons (.int _) (.cons (.str _) .nil))
theorem due_pl {code : Int} {r : Option (Option Nat)} (h : ∀ o, r = some o → (PyData.str (PyData.shown (.list [optD o]))).canLay0 = true) : Pl (.list (dueDs code r)) := by
  cases r with
  | none =>
    show Pl (.list [])
    exact ⟨rfl, by decide⟩
  | some o =>
    have z := h o rfl
    generalize PyData.shown (.list [optD o]) = x at z
    have e : dueDs code (some o) = [.int code, .str (PyData.shown (.list [optD o]))] := rfl
    refine ⟨?_, shaped_of ?_ ?_⟩
    · rw [e] <;> rfl
    · rw [e]
      have z' := h o rfl
      simp only [PyData.canLay0, PyData.canLayAll0] at z' ⊢
      simp [z']
    · rw [e]
      show (PyData.depthAll [_, _]) + 1 ≤ 64
      simp [PyData.depthAll, PyData.depth]
abbrev s__law_told_right : Stmt := top 62
abbrev sc__law_told_right_N : List Str := ["_law_told", "_law_due"]
theorem sc__law_told_right : FnScope sc__law_told_right_N ["_law_told", "_law_due"] (defScope s__law_told_right) := ⟨rfl, rfl, rfl, by decide +kernel, rfl, by decide +kernel, by decide +kernel⟩
theorem ok_told (F : FnP K "_law_told_right" s__law_told_right f fd) : FnOk P w K mg base CX0 1 f fd ["_law_told", "_law_due"] (spToldR K) := by
  refine F.ok sc__law_told_right (fun vs H Q E h => by obtain ⟨p, q, code, r, z, rfl, _⟩ := h; rfl) (fun cdv A outer s H vs Q E hr h => ⟨_, PSs.nox
    (pss_one (ps_ret (pe_ifExp (pt_cmpR (eqK K hr) (pv 1) (pe_lst pa_nil) (nomark _)) (pe_cmpR (eqK K hr) (pe_ix (ixK K) (pv 0) pe_int (fun _ _ => rfl)) pe_str (nomark _)) (pe_cmpR (eqK K hr) (pv 0) (pv 1) (nomark _))))), ?_⟩)
  obtain ⟨p, q0, code, r, z, rfl, hp, hq, lay, q⟩ := h
  have d1 := due_da (K := K) hq
  have pl1 := due_pl (code := code) lay
  cases r with
  | none =>
    refine s_ret (ev_if (b := true) (et_B (ev_opL (ev_var rfl) (el_lst ea_nil (by simp)) fun u H3 h3 e3 => rv_eqDat (b := true) (d := .list []) (e := .list []) (d1.mono e3) (da_list h3 .nil) pl1 pl1 rfl)) (fun _ => ev_is (ev_op (ev_op (ev_var rfl) ev_c (rv_ixLn (i := 0) (sq_of hp) rfl)) ev_c (rv_l (rv_eq rfl))) (by simp)) fun z => nomatch z) q
  | some o =>
    refine s_ret (ev_if (b := false) (et_B (ev_opL (ev_var rfl) (el_lst ea_nil (by simp)) fun u H3 h3 e3 => rv_eqDat (b := false) (d := .list (dueDs code (some o))) (e := .list []) (d1.mono e3) (da_list h3 .nil) pl1 ⟨rfl, by decide⟩ rfl)) (fun z => nomatch z) fun _ => ev_op (ev_var rfl) (ev_var rfl) (rv_eqDat (b := true) (d := .list (dueDs code (some o))) (e := .list (dueDs code (some o))) (due_da (r := some o) hp) d1 pl1 pl1 ?_)) q
    show PyData.eqv (.list [.int code, .str _]) (.list [.int code, .str _]) = true
    simp [PyData.eqv, PyData.eqvAll]
end
end K17
set_option Elab.async false
set_option linter.all false
set_option maxRecDepth 100000
set_option maxHeartbeats 4000000
namespace K17
open PySem PySem.Spec PyProof.Rows L2 Evl SwX
open LamX (Tabs ExtN TabB GivesTo tLam lamCx lamEnv LamS)
/-- _law_caught and what it calls -/
structure Caught (P : Program) (w : World) (K : PySem.W.Frag) (mg : Str → Option Value) (base : Heap) (rs : List Nat) (C : Nat → Addr) (WV WN NA : Addr) : Prop where
  cl : Cl P w K mg base rs C WV WN NA
  fault : HasC P w K mg base "_law_fault" 1 ["_law_e"] (spFaultC rs C)
  kept : HasC P w K mg base "_law_kept" 1 ["_law_e", "_law_slot"] (spKeptC rs C)
  sys : SysIn K
  rep : mg "repr" = none
  ex : ∃ g fd, FunD K "_law_caught" "_law_caught" (defArgs s__law_caught) (defBody s__law_caught) (defScope s__law_caught) [] [] g fd ∧ mg "_law_caught" = some (.ref g)
/-- how repr reads, anywhere -/
def ReprRule (P : Program) (w : World) (K : PySem.W.Frag) (mg : Str → Option Value) (base : Heap) (j : Nat) (rr : List V → Hp → VK → Prop) : Prop := ∀ Y : Cx, Y.prog = P → Y.w = w → Y.K = K → Y.mg = mg → Y.base = base → Calm Y.A → Room j Y.A → CallR Y (.builtin "repr") rr
theorem pe_caught {X : Cx} {rs : List Nat} {C : Nat → Addr} {WV WN NA : Addr} {rr : List V → Hp → VK → Prop} {c P0 : Addr} {T : List (Addr × Str)} {params : Arguments} {body : Expr} {scope : Scope} {t : XK → TE} {p lpos pos : Pos} (G : Caught X.prog X.w X.K X.mg X.base rs C WV WN NA) (RR : ReprRule X.prog X.w X.K X.mg X.base 2 rr) (hr : Room 8 X.A) (calm : Calm X.A)
    (TB : TabB X.base X.mg c P0) (hcode : X.env.code = .ref c) (hmT : (P0, X.env.qual ++ "<lambda>") ∈ T) (hu : ∀ p ∈ T, p.1 = P0 → p.2 = X.env.qual ++ "<lambda>") (Ls : LamS X.env.scope scope)
    (hbody : ∀ (A : Around) (outer : List Env) (s : Shared) (H : Hp) (E : XK) (f c' : Addr), Room 6 (A.deeper (lamEnv X scope s.heap.objs.size f c')) → PE (lamCx X A outer s H E scope f c') body (t E))
    (hg : Gl X "_law_caught" := by rfl) (hdef : defaultsOf params X.env = ([], []) := by rfl)
    (hbind : ∀ (q : Str) (cl : List (Str × Addr)) (pm cv ctv : Value), bindArgs (PySem.W.kla_fn "<lambda>" q params body scope cl pm cv ctv) ⟨[], []⟩ = pure [] := by intros; rfl) :
    PE X (.Call (.Name "_law_caught" p) [.Lambda params body scope lpos] [] pos) (tLam T (TTc X.K rs C rr) t) := by
  obtain ⟨g, fd, F, hm⟩ := G.ex
  have hb := FunD.bindsN (ps := ["_law_act"]) F fun _ _ _ _ _ _ us hl => match us, hl with | [_], _ => rfl
  have hk := F.kp
  obtain ⟨oc, od, dV, kV, doc, pm, an, cdv, ct, osl, rfl, lk, hcd, _, _⟩ := F.ex
  exact LamX.pe_lamcall (k := 6) (t := t) hg hm hk lk hcd hb sc__law_caught rfl (Or.inl rfl) (caught_gives (k := 6) G.cl G.fault G.kept G.sys G.rep hr calm (fun Y h1 h2 h3 h4 h5 cm r => RR Y h1 h2 h3 h4 h5 cm (r.mono (by decide))) g cdv _) TB hcode hmT hu hr Ls hdef hbind hbody
section
variable {X : Cx} {rs : List Nat} {C : Nat → Addr} {Cc WV WN NA : Addr} {rr : List V → Hp → VK → Prop} {c P0 : Addr} {T : List (Addr × Str)} {scope : Scope} {e : Expr} {es : List Expr} {kws : List (Keyword)} {t tk : TA} {p lpos pos p' pos' : Pos}
theorem lam_pass {X : Cx} {A : Around} {outer : List Env} {s : Shared} {H : Hp} {E : XK} {scope : Scope} {f c' : Addr} : Passes (L2.CX (lamCx X A outer s H E scope f c').prog (lamCx X A outer s H E scope f c').w) (lamCx X A outer s H E scope f c') E := pass_E (takes_of rfl rfl rfl rfl) fun _ _ _ _ z => z
theorem pe_cgt2 (G : Caught X.prog X.w X.K X.mg X.base rs C WV WN NA) (RR : ReprRule X.prog X.w X.K X.mg X.base 2 rr) (M : CatM X.prog X.w X.K X.mg X.base Cc (C 8) (C 9)) (hr : Room 8 X.A) (calm : Calm X.A)
    (TB : TabB X.base X.mg c P0) (hcode : X.env.code = .ref c) (hmT : (P0, X.env.qual ++ "<lambda>") ∈ T) (hu : ∀ p ∈ T, p.1 = P0 → p.2 = X.env.qual ++ "<lambda>") (Ls : LamS X.env.scope scope)
    (ha : ∀ (A : Around) (outer : List Env) (s : Shared) (H : Hp) (E : XK) (f c' : Addr), PA (lamCx X A outer s H E scope f c') (e :: es) t)
    (hg : Gl X "_law_caught" := by rfl) (hgC : ∀ (A : Around) (outer : List Env) (s : Shared) (H : Hp) (E : XK) (f c' : Addr), Gl (lamCx X A outer s H E scope f c') "Catalogue" := by intros; rfl)
    (he : ∀ (A : Around) (outer : List Env) (s : Shared) (H : Hp) (E : XK) (f c' : Addr), starEach (e :: es) (lamCx X A outer s H E scope f c').env = (false, eval e (lamCx X A outer s H E scope f c').env) :: starEach es (lamCx X A outer s H E scope f c').env := by intros; rfl)
    (hpl : ∀ (A : Around) (outer : List Env) (s : Shared) (H : Hp) (E : XK) (f c' : Addr), (backTo pos' (starEach es (lamCx X A outer s H E scope f c').env)).any (·.1) = false := by intros; rfl) :
    PE X (.Call (.Name "_law_caught" p) [.Lambda ⟨[], [], none, [], [], none, []⟩ (.Call (.Name "Catalogue" p') (e :: es) [] pos') scope lpos] [] pos) (tLam T (TTc X.K rs C rr) fun E => tMake Cc (spInitD X.K Cc (C 8) (C 9)) [] E t) :=
  pe_caught G RR hr calm TB hcode hmT hu Ls (fun A outer s H E f c' hr2 => pe_catX2 M hr2 lam_pass (ha A outer s H E f c') (hgC A outer s H E f c') (he A outer s H E f c') (hpl A outer s H E f c')) hg
theorem pe_cgt1 (G : Caught X.prog X.w X.K X.mg X.base rs C WV WN NA) (RR : ReprRule X.prog X.w X.K X.mg X.base 2 rr) (M : CatM X.prog X.w X.K X.mg X.base Cc (C 8) (C 9)) (hr : Room 8 X.A) (calm : Calm X.A)
    (TB : TabB X.base X.mg c P0) (hcode : X.env.code = .ref c) (hmT : (P0, X.env.qual ++ "<lambda>") ∈ T) (hu : ∀ p ∈ T, p.1 = P0 → p.2 = X.env.qual ++ "<lambda>") (Ls : LamS X.env.scope scope)
    (ha : ∀ (A : Around) (outer : List Env) (s : Shared) (H : Hp) (E : XK) (f c' : Addr), PA (lamCx X A outer s H E scope f c') (e :: es) t)
    (hg : Gl X "_law_caught" := by rfl) (hgC : ∀ (A : Around) (outer : List Env) (s : Shared) (H : Hp) (E : XK) (f c' : Addr), Gl (lamCx X A outer s H E scope f c') "Catalogue" := by intros; rfl)
    (he : ∀ (A : Around) (outer : List Env) (s : Shared) (H : Hp) (E : XK) (f c' : Addr), starEach (e :: es) (lamCx X A outer s H E scope f c').env = (false, eval e (lamCx X A outer s H E scope f c').env) :: starEach es (lamCx X A outer s H E scope f c').env := by intros; rfl)
    (hpl : ∀ (A : Around) (outer : List Env) (s : Shared) (H : Hp) (E : XK) (f c' : Addr), (backTo pos' (starEach es (lamCx X A outer s H E scope f c').env)).any (·.1) = false := by intros; rfl) :
    PE X (.Call (.Name "_law_caught" p) [.Lambda ⟨[], [], none, [], [], none, []⟩ (.Call (.Name "Catalogue" p') (e :: es) [] pos') scope lpos] [] pos) (tLam T (TTc X.K rs C rr) fun E => tCatX1 X.K Cc (C 8) (C 9) E t) :=
  pe_caught G RR hr calm TB hcode hmT hu Ls (fun A outer s H E f c' hr2 => pe_catX1 M hr2 lam_pass (ha A outer s H E f c') (hgC A outer s H E f c') (he A outer s H E f c') (hpl A outer s H E f c')) hg
theorem pe_cgtK (G : Caught X.prog X.w X.K X.mg X.base rs C WV WN NA) (RR : ReprRule X.prog X.w X.K X.mg X.base 2 rr) (M : CatM X.prog X.w X.K X.mg X.base Cc (C 8) (C 9)) (hr : Room 8 X.A) (calm : Calm X.A)
    (TB : TabB X.base X.mg c P0) (hcode : X.env.code = .ref c) (hmT : (P0, X.env.qual ++ "<lambda>") ∈ T) (hu : ∀ p ∈ T, p.1 = P0 → p.2 = X.env.qual ++ "<lambda>") (Ls : LamS X.env.scope scope)
    (ha : ∀ (A : Around) (outer : List Env) (s : Shared) (H : Hp) (E : XK) (f c' : Addr), PK (lamCx X A outer s H E scope f c') kws tk)
    (hg : Gl X "_law_caught" := by rfl) (hgC : ∀ (A : Around) (outer : List Env) (s : Shared) (H : Hp) (E : XK) (f c' : Addr), Gl (lamCx X A outer s H E scope f c') "Catalogue" := by intros; rfl)
    (hall : ∀ (A : Around) (outer : List Env) (s : Shared) (H : Hp) (E : XK) (f c' : Addr), (backToKw pos' (keywordEach kws (lamCx X A outer s H E scope f c').env)).all (·.1.isSome) = true := by intros; rfl)
    (hks : ∀ (A : Around) (outer : List Env) (s : Shared) (H : Hp) (E : XK) (f c' : Addr), (backToKw pos' (keywordEach kws (lamCx X A outer s H E scope f c').env)).filterMap (·.1) = (["recipes", "kinds"] : List Str) := by intros; rfl)
    (hpl : ∀ (A : Around) (outer : List Env) (s : Shared) (H : Hp) (E : XK) (f c' : Addr), ((backTo pos' (starEach [] (lamCx X A outer s H E scope f c').env)).any (·.1) || (backToKw pos' (keywordEach kws (lamCx X A outer s H E scope f c').env)).any (·.1.isNone)) = false := by intros; rfl) :
    PE X (.Call (.Name "_law_caught" p) [.Lambda ⟨[], [], none, [], [], none, []⟩ (.Call (.Name "Catalogue" p') [] kws pos') scope lpos] [] pos) (tLam T (TTc X.K rs C rr) fun E => tMakeK Cc 0 2 (spInitD X.K Cc (C 8) (C 9)) (fun vs zs => vs ++ zs.reverse) E tNil tk) :=
  pe_caught G RR hr calm TB hcode hmT hu Ls (fun A outer s H E f c' hr2 => pe_catXK M hr2 lam_pass (ha A outer s H E f c') (hgC A outer s H E f c') (hall A outer s H E f c') (hks A outer s H E f c') (hpl A outer s H E f c')) hg
end
/-! ### verdicts -/
structure Verd (D1 D2 : PyData) (code : Int) (r : Option (Option Nat)) : Prop where
  v8 : ∀ r8, chkK D1 = some r8 → code = 8 ∧ r = some r8
  v9 : ∀ ns, D1 = nmsD ns → NamesOk ns → ∀ r9, chkR ns D2 = some r9 → code = 9 ∧ r = some r9
  v0 : ∀ ns, D1 = nmsD ns → NamesOk ns → chkR ns D2 = none → r = none
theorem not_before' {α : Type} [DecidableEq α] {l : List α} {i : Nat} {x : α} (d : l.Nodup) (h : l[i]? = some x) : x ∉ l.take i := fun z => by
  obtain ⟨j, hj⟩ := List.getElem?_of_mem z
  rw [List.getElem?_take] at hj
  split at hj
  · rename_i lt
    obtain ⟨h1, e1⟩ := List.getElem?_eq_some_iff.mp h
    obtain ⟨h2, e2⟩ := List.getElem?_eq_some_iff.mp hj
    exact List.pairwise_iff_getElem.mp d j i h2 h1 lt (e2.trans e1.symm)
  · cases hj
theorem chkR_ruls {ns : List Nm} {rl : List Rul} (h : RulesOk ns rl) : chkR ns (rulsD rl) = none := by
  show (firstB (rl.map rulD).length (badR ns (rl.map rulD))).map some = none
  rw [firstB_none fun i hi => ?_] <;> try rfl
  rw [List.length_map] at hi
  have e : (rl.map rulD)[i]? = some (rulD rl[i]) := by rw [List.getElem?_map, List.getElem?_eq_getElem hi]; rfl
  have l4 := h.len
  unfold badR
  rw [at_get e, ← List.map_take, any_rul, recD_rul (h.ok _ (List.getElem_mem hi)), decide_eq_false (not_before' h.nd (List.getElem?_eq_getElem hi)), Bool.or_false]
  simp
  omega
theorem chkK_nms {ns : List Nm} (h : NamesOk ns) : chkK (nmsD ns) = none := by
  unfold nmsD
  rw [chk_first (fun e => h.ne (List.map_eq_nil_iff.mp e)), firstB_none fun i hi => ?_] <;> try rfl
  rw [List.length_map] at hi
  have e : (ns.map nmD)[i]? = some (nmD ns[i]) := by rw [List.getElem?_map, List.getElem?_eq_getElem hi]; rfl
  have l4 := h.len
  unfold badK
  rw [at_get e, ← List.map_take, any_nm, nameD_nm.mpr (h.ok _ (List.getElem_mem hi)), decide_eq_false (not_before' h.nd (List.getElem?_eq_getElem hi)), Bool.or_false]
  simp
  omega
theorem nms_inj {ns ms : List Nm} (h : nmsD ns = nmsD ms) : ns = ms := by
  have z := nmsD_eqv ns ms
  rw [h, nmsD_eqv] at z
  simpa using z.symm
theorem verd_nms {ms : List Nm} {D2 : PyData} (okm : NamesOk ms) : Verd (nmsD ms) D2 9 (chkR ms D2) := by
  refine ⟨fun r9 z => ?_, fun ns e okn r9 z => ?_, fun ns e okn z => ?_⟩
  · rw [chkK_nms okm] at z
    cases z
  · have e' := nms_inj e
    subst e'
    exact ⟨rfl, z⟩
  · have e' := nms_inj e
    subst e'
    exact z
theorem verd_k {D1 D2 : PyData} {r8 : Option Nat} (c1 : chkK D1 = some r8) : Verd D1 D2 8 (some r8) := by
  refine ⟨fun r9 z => ⟨rfl, by rw [← c1, z]⟩, fun ns e okn => ?_, fun ns e okn => ?_⟩
  · rw [e, chkK_nms okn] at c1
    cases c1
  · rw [e, chkK_nms okn] at c1
    cases c1
theorem verd_1 {D1 : PyData} : Verd D1 (.tuple []) 8 (chkK D1) := by
  refine ⟨fun r8 z => ⟨rfl, z⟩, fun ns e okn r9 z => ?_, fun ns e okn _ => ?_⟩
  · cases z
  · rw [e]
    exact chkK_nms okn
theorem first_le {n c i : Nat} {bad : Nat → Bool} (h : firstB n bad = some i) (hc : bad c = true) : i ≤ c := by
  refine Nat.le_of_not_lt fun lt => ?_
  obtain ⟨_, j, hj, e, z⟩ := List.find?_eq_some_iff_getElem.mp h
  rw [List.getElem_range] at e
  subst e
  have y := z c lt
  rw [List.getElem_range, hc] at y
  cases y
theorem chkK_le {D : PyData} {i : Nat} (h : chkK D = some (some i)) : i ≤ 10 := by
  unfold chkK at h
  split at h
  · cases h
  · obtain ⟨j, hj, e⟩ := Option.map_eq_some_iff.mp h
    cases e
    have z := first_le (c := 4) hj (by simp [badK])
    omega
  · cases h
theorem chkR_le {ns : List Nm} {D : PyData} {i : Nat} (h : chkR ns D = some (some i)) : i ≤ 10 := by
  unfold chkR at h
  split at h
  · obtain ⟨j, hj, e⟩ := Option.map_eq_some_iff.mp h
    cases e
    exact first_le (c := 10) hj (by simp [badR])
  · cases h
theorem lay_ix : ∀ i : Nat, i < 11 → (PyData.str (PyData.shown (.list [.int (i : Nat)]))).canLay0 = true := by decide +kernel
theorem lay_none : (PyData.str (PyData.shown (.list [.none]))).canLay0 = true := by decide +kernel
theorem lay_opt {o : Option Nat} (h : ∀ i, o = some i → i ≤ 10) : (PyData.str (PyData.shown (.list [optD o]))).canLay0 = true := by
  cases o with
  | none => exact lay_none
  | some i => exact lay_ix i (by have := h i rfl; omega)
theorem good_opt {o : Option Nat} (h : ∀ i, o = some i → i ≤ 10) : Good (.list [optD o]) 3 300 := by
  cases o with
  | none => exact ⟨by decide +kernel, by decide +kernel, by decide +kernel, by decide +kernel⟩
  | some i => exact good_ix (by have := h i rfl; omega)
theorem opt_da {K : PySem.W.Frag} {H : Hp} (o : Option Nat) : Da K H (optV o) (optD o) := by
  cases o with
  | none => exact .non
  | some i => exact .int _
section
variable {K : PySem.W.Frag} {rs : List Nat} {C : Nat → Addr} {Cc : Addr} {H1 : Hp} {D1 D2 : PyData} {code : Int} {r : Option (Option Nat)} {Qf : VK}
/-- what Catalogue(..) in the lambda comes to, as _law_caught tells it -/
theorem verd_out (v : Verd D1 D2 code r) (h8 : 8 ∈ rs) (h9 : 9 ∈ rs) (hQ : ∀ p z H2, Ex H1 H2 → H2 p = some (.lst (toldL code r z)) → Qf (.ref p) H2) :
    CatOut K Cc (C 8) (C 9) D1 D2 (Thrown rs C fun i v H' => ∃ D : PyData, (∀ H2, Ex H' H2 → Da K H2 v D) ∧ (PyData.list [D]).showable = true ∧ (PyData.list [D]).depth ≤ 150 ∧ (PyData.list [D]).shown.length ≤ sizeLine ∧ ∀ p H2, Ex H' H2 → H2 p = some (.lst [.int (i : Nat), .str (PyData.shown (.list [D]))]) → Qf (.ref p) H2) H1
      (fun v H' => rReprOwn Cc (spCatRepr K Cc) [v] H' fun x H2 => ([V.str "told", x] : List V).length ≤ sizeLine ∧ ∀ p, H2 p = none → Qf (.ref p) (upd H2 p (.lst [.str "told", x]))) := by
  refine ⟨fun r8 z d H' e fl => ?_, fun ns ed okn r9 z d H' e fl => ?_, fun ns rl ed ed2 okn okr z H' e hc => ?_⟩
  · obtain ⟨rfl, rfl⟩ := v.v8 r8 z
    have b : ∀ i, r8 = some i → i ≤ 10 := fun i hi => chkK_le (by rw [z, hi])
    have g := good_opt b
    exact ⟨8, optV r8, h8, rfl, fl, optD r8, fun _ _ => opt_da r8, g.sh, Nat.le_trans g.dp (by decide), g.len (by decide), fun p H2 e2 h2 => hQ p "" H2 (e.trans e2) h2⟩
  · obtain ⟨rfl, rfl⟩ := v.v9 ns ed okn r9 z
    have b : ∀ i, r9 = some i → i ≤ 10 := fun i hi => chkR_le (by rw [z, hi])
    have g := good_opt b
    exact ⟨9, optV r9, h9, rfl, fl, optD r9, fun _ _ => opt_da r9, g.sh, Nat.le_trans g.dp (by decide), g.len (by decide), fun p H2 e2 h2 => hQ p "" H2 (e.trans e2) h2⟩
  · have rn : r = none := v.v0 ns ed okn (by
      rw [ed2]
      cases y : chkR ns (rulsD rl) with
      | none => rfl
      | some o => exact absurd y (by rw [chkR_ruls okr]; simp))
    subst rn
    obtain ⟨a, rfl, ia⟩ := hc.is
    exact ⟨a, rfl, ia, .ref a, ns, rl, rfl, hc, okn.len, okr.len, fun H2 e2 => ⟨_, rfl, show 2 ≤ sizeLine by decide, fun p hp => hQ p _ _ (e.trans (e2.trans (Ex.new hp))) upd_same⟩⟩
end
/-! ### one of the law's looks -/
section
variable {K : PySem.W.Frag} {T : List (Addr × Str)} {rs : List Nat} {C : Nat → Addr} {rr : List V → Hp → VK → Prop} {t : XK → TE} {te : TE} {σ : L2.St} {H : Hp} {code : Int} {r : Option (Option Nat)} {tu tz : TS} {D : Ends}
theorem q_told (tabs : Tabs T H) (lay : ∀ o, r = some o → (PyData.str (PyData.shown (.list [optD o]))).canLay0 = true)
    (hdue : ∀ H2, ExtN H H2 → ∀ Q : VK, (∀ pd H3, Ex H2 H3 → H3 pd = some (.lst (dueL code r)) → Q (.ref pd) H3) → te σ H2 Q)
    (run : ∀ H1, ExtN H H1 → ∀ Qf : VK, (∀ p z H2, Ex H1 H2 → H2 p = some (.lst (toldL code r z)) → Qf (.ref p) H2) → TTc K rs C rr (fun E H' Q' => t E σ H' Q') H1 Qf) (next : ∀ H', ExtN H H' → Tabs T H' → tz D σ H') :
    tSeq (tIfS (tNot (tTest (tCall (spToldR K) [] E0 (tCons (tLam T (TTc K rs C rr) t) (tCons te tNil))))) tu tNext) tz D σ H :=
  ⟨tabs, fun H1 ext tabs1 => run H1 ext _ fun p z H2 e2 h2 => hdue H2 (ext.trans (LamX.ExtN.of e2)) _ fun pd H3 e3 h3 => ⟨p, pd, code, r, z, rfl, e3 _ _ h2, h3, lay, fun H4 e4 => ⟨true, rfl, next H4 (ext.trans (LamX.ExtN.of ((e2.trans e3).trans e4))) (tabs1.ext ((e2.trans e3).trans e4))⟩⟩⟩
theorem s_told (tabs : Tabs T H) (lay : ∀ o, r = some o → (PyData.str (PyData.shown (.list [optD o]))).canLay0 = true)
    (hdue : ∀ H2, ExtN H H2 → ∀ Q : VK, (∀ pd H3, Ex H2 H3 → H3 pd = some (.lst (dueL code r)) → Q (.ref pd) H3) → te σ H2 Q)
    (run : ∀ H1, ExtN H H1 → ∀ Qf : VK, (∀ p z H2, Ex H1 H2 → H2 p = some (.lst (toldL code r z)) → Qf (.ref p) H2) → TTc K rs C rr (fun E H' Q' => t E σ H' Q') H1 Qf) (next : ∀ H', ExtN H H' → Tabs T H' → D.nx σ H') :
    tIfS (tNot (tTest (tCall (spToldR K) [] E0 (tCons (tLam T (TTc K rs C rr) t) (tCons te tNil))))) tu tNext D σ H := q_told (tz := tNext) tabs lay hdue run next
end
def spRight (T : List (Addr × Str)) : Sp := fun vs H Q _ => ∃ a : Addr, vs = [.ref a] ∧ Pur H a ∧ Tabs T H ∧ ∀ H', ExL a H H' → Tabs T H' → Q (.bl true) H'
section
variable {P : Program} {w : World} {K : PySem.W.Frag} {mg : Str → Option Value} {base : Heap} {f : Addr} {fd : FuncData} {rs : List Nat} {C : Nat → Addr} {WV WN NA : Addr} {Cc P0 : Addr} {T : List (Addr × Str)}
abbrev s__law_right : Stmt := top 63
abbrev sc__law_right_N : List Str := ["_law_purse_here", "_law_turn", "_law_names_here", "_law_some", "_law_rules_here", "_law_due"]
theorem sc__law_right : FnScope sc__law_right_N ["_law_purse_here"] (defScope s__law_right) := ⟨rfl, rfl, rfl, by decide +kernel, rfl, by decide +kernel, by decide +kernel⟩
def qR : Str := (envOfC "_law_right" (defScope s__law_right) 0 0 .none).qual ++ "<lambda>"
theorem ok_right (G : Caught P w K mg base rs C WV WN NA) (RR : ReprRule P w K mg base 2 (rReprOwn Cc (spCatRepr K Cc))) (M : CatM P w K mg base Cc (C 8) (C 9)) (h8 : 8 ∈ rs) (h9 : 9 ∈ rs) (D__law_names : Has P w K mg base "_law_names" 3 ["_law_purse_here"] spNames) (D__law_bent_names : Has P w K mg base "_law_bent_names" 4 ["_law_purse_here", "_law_names_here"] (spBentN K)) (D__law_bent_rules : Has P w K mg base "_law_bent_rules" 5 ["_law_purse_here", "_law_names_here"] (spBentR K))
    (D__law_names_due : HasG P w K mg base "_law_names_due" 2 ["_law_value"] (spNamesDue K)) (D__law_rules_due : HasG P w K mg base "_law_rules_due" 2 ["_law_value", "_law_names_here"] (spRulesDue K)) (D__law_told_right : Has P w K mg base "_law_told_right" 1 ["_law_told", "_law_due"] (spToldR K)) (m_range : mg "range" = none)
    (TB : TabB base mg (codeAt K f) P0) (hmT : (P0, qR) ∈ T) (hu : ∀ p ∈ T, p.1 = P0 → p.2 = qR) (F : FnP K "_law_right" s__law_right f fd) : FnG P w K mg base CX0 9 f fd ["_law_purse_here"] (spRight T) := by
  refine SwX.FunD.okT F sc__law_right (fun vs H Q E h => by obtain ⟨a, rfl, _⟩ := h; rfl) (fun A outer s H vs Q E hr calm h => ⟨_, PSs.nox
    (pss_cons (ps_for PassesOwn.never rfl (pi_range1 (by rfl) m_range (pa_cons pe_int pa_nil)) (pg_name (i := 1) sc__law_right.nd rfl (Or.inl rfl)) (pss_cons (ps_set (i := 2) sc__law_right.nd rfl (Or.inl rfl) (pe_has D__law_names (hr.mono (by decide)) (pa_cons (pv 0) pa_nil))) (pss_cons (ps_asg (pe_tup (pa_cons (pe_has D__law_bent_names (hr.mono (by decide)) (pa_cons (pv 0) (pa_cons (pv 2) pa_nil))) (pa_cons (pe_has D__law_bent_rules (hr.mono (by decide)) (pa_cons (pv 0) (pa_cons (pv 2) pa_nil))) pa_nil))) (pg_tup rfl (pgs_cons (pg_name (i := 3) sc__law_right.nd rfl (Or.inr rfl)) (pgs_cons (pg_name (i := 4) sc__law_right.nd rfl (Or.inr rfl)) pgs_nil)))) (pss_cons (ps_set (i := 5) sc__law_right.nd rfl (Or.inl rfl) (pe_hasG D__law_names_due (hr.mono (by decide)) calm (pa_cons (pv 3) pa_nil))) (pss_cons (ps_set (i := 5) sc__law_right.nd rfl (Or.inl rfl) (pe_ifExp (pt_cmpR (neK K hr) (pv 5) (pe_lst pa_nil) (nomark _)) (pv 5) (pe_hasG D__law_rules_due (hr.mono (by decide)) calm (pa_cons (pv 4) (pa_cons (pv 3) pa_nil))))) (pss_cons (ps_if (pt_not (pt_val (pe_has D__law_told_right (hr.mono (by decide)) (pa_cons (pe_cgt2 G RR M (hr.mono (by decide)) calm TB rfl hmT hu (LamX.lamS_by (sc := defScope s__law_right) (by decide +kernel)) fun A outer s H E f c1 => (pa_cons (pv 3) (pa_cons (pv 4) pa_nil))) (pa_cons (pv 5) pa_nil))))) (pss_one (ps_ret pe_bl)) pss_nil) (pss_cons (ps_if (pt_not (pt_val (pe_has D__law_told_right (hr.mono (by decide)) (pa_cons (pe_cgtK G RR M (hr.mono (by decide)) calm TB rfl hmT hu (LamX.lamS_by (sc := defScope s__law_right) (by decide +kernel)) fun A outer s H E f c1 => (pk_cons (pv 4) (pk_cons (pv 3) pk_nil))) (pa_cons (pv 5) pa_nil))))) (pss_one (ps_ret pe_bl)) pss_nil) (pss_one (ps_if (pt_not (pt_val (pe_has D__law_told_right (hr.mono (by decide)) (pa_cons (pe_cgt1 G RR M (hr.mono (by decide)) calm TB rfl hmT hu (LamX.lamS_by (sc := defScope s__law_right) (by decide +kernel)) fun A outer s H E f c1 => (pa_cons (pv 3) pa_nil)) (pa_cons (pe_hasG D__law_names_due (hr.mono (by decide)) calm (pa_cons (pv 3) pa_nil)) pa_nil))))) (pss_one (ps_ret pe_bl)) pss_nil))))))))) (pss_one (ps_ret pe_bl))), ?_⟩)
  obtain ⟨a, rfl, p0, tabs0, q⟩ := h
  refine q_forR1 (ea_cons ev_c ea_nil) (by decide) (fun i σ' H' => (∃ x1 x2 x3 x4 x5, σ' = [some (.ref a), x1, x2, x3, x4, x5]) ∧ Pur H' a ∧ Tabs T H' ∧ ExL a H H') (fun H1 e1 => ⟨⟨_, _, _, _, _, rfl⟩, p0.keep e1, tabs0.ext e1, exl_of (less_ex.trans e1)⟩) (fun i σ' H0 hi z => ?_) fun σ' H' z => s_ret ev_c fun H2 e2 => q H2 (z.2.2.2.trans (exl_of (less_ex.trans e2))) (z.2.2.1.ext e2)
  obtain ⟨⟨y1, y2, y3, y4, y5, rfl⟩, pu, tabs, far⟩ := z
  refine ⟨.ref a, rfl, a, rfl, pu, fun ns p H1 okn e1 p1 h1 => ?_⟩
  have hq : SqT K (less a H1) p (ns.map nmV) := sqt_less (.inl (.inl h1)) p1
  have tabs1 := tabs_less tabs pu e1
  refine ⟨.ref a, rfl, .ref p, rfl, a, p, ns, rfl, p1, hq, okn, fun D1 x1 H2 k1 e2 p2 z1 => ?_⟩
  have tabs2 := tabs_less tabs1 p1 e2
  refine ⟨.ref a, rfl, .ref p, rfl, a, p, ns, rfl, p2, ex_t (less_step e2) hq, okn, fun D2 x2 H3 k2 e3 p3 z2 => ?_⟩
  have tabs3 := tabs_less tabs2 p2 e3
  refine ⟨show 2 ≤ sizeLine by decide, fun u hu2 => ⟨u, _, rfl, .inl (.inl upd_same), rfl, x1, [x2], rfl, x2, [], rfl, rfl, ?_⟩⟩
  have eu := Ex.new (o := .tup [x1, x2]) hu2
  have w1 : DaB K a D1 x1 (upd H3 u (.tup [x1, x2])) := daB_of (daA_mono _ _ _ _ eu (daA_from z1 e3))
  have w2 : DaB K a D2 x2 (upd H3 u (.tup [x1, x2])) := daB_of (daA_mono _ _ _ _ eu z2)
  have tabs4 := tabs3.ext eu
  have far4 : ExL a H (upd H3 u (.tup [x1, x2])) := far.trans ((exl_of e1).trans ((exl_of e2).trans ((exl_of e3).trans (exl_of (less_ex.trans eu)))))
  have p4 := p3.keep eu
  generalize upd H3 u (.tup [x1, x2]) = H4 at w1 w2 tabs4 far4 p4
  clear tabs3 tabs2 tabs1 tabs far p3 p2 p1 pu z1 z2 e1 e2 e3 hq h1 hu2 eu
  have kit : KIt D1 := fun ds e d hd => el_short ((k1 ds e).2 d hd)
  have lit : LIt D1 := fun ds e => (k1 ds e).1
  have rit : RsIt D2 := fun ds e d hd => (k2 ds e).2 d hd
  have lit2 : LIt D2 := fun ds e => (k2 ds e).1
  refine ⟨x1, rfl, x1, D1, rfl, w1.da, kit, lit, fun p5 H5 n5 e5 h5 => ?_⟩
  have w15 := w1.step (exl_of (less_ex.trans e5))
  have w25 := w2.step (exl_of (less_ex.trans e5))
  have tabs5 := tabs4.ext e5
  have far5 := far4.trans (exl_of (less_ex.trans e5))
  have p5' := p4.keep e5
  -- what is due in the end
  have fin : ∀ (code : Int) (r : Option (Option Nat)) (pd : Addr) (H6 : Hp), Verd D1 D2 code r → (∀ o, r = some o → ∀ i, o = some i → i ≤ 10) → Ex H5 H6 → H6 pd = some (.lst (dueL code r)) →
      (tSeq (tIfS (tNot (tTest (tCall (spToldR K) [] E0 (tCons (tLam T (TTc K rs C (rReprOwn Cc (spCatRepr K Cc))) fun E => tMake Cc (spInitD K Cc (C 8) (C 9)) [] E (tCons (tVar 3) (tCons (tVar 4) tNil))) (tCons (tVar 5) tNil))))) (tRet (tC (.bl false))) tNext)
        (tSeq (tIfS (tNot (tTest (tCall (spToldR K) [] E0 (tCons (tLam T (TTc K rs C (rReprOwn Cc (spCatRepr K Cc))) fun E => tMakeK Cc 0 2 (spInitD K Cc (C 8) (C 9)) (fun vs zs => vs ++ zs.reverse) E tNil (tCons (tVar 4) (tCons (tVar 3) tNil))) (tCons (tVar 5) tNil))))) (tRet (tC (.bl false))) tNext)
          (tIfS (tNot (tTest (tCall (spToldR K) [] E0 (tCons (tLam T (TTc K rs C (rReprOwn Cc (spCatRepr K Cc))) fun E => tCatX1 K Cc (C 8) (C 9) E (tCons (tVar 3) tNil)) (tCons (tCall (spNamesDue K) [] E0 (tCons (tVar 3) tNil)) tNil))))) (tRet (tC (.bl false))) tNext)))
        { nx := fun σ' H' => (∃ x1 x2 x3 x4 x5, σ' = [some (.ref a), x1, x2, x3, x4, x5]) ∧ Pur H' a ∧ Tabs T H' ∧ ExL a H H', rt := Q, ct := fun σ' H' => (∃ x1 x2 x3 x4 x5, σ' = [some (.ref a), x1, x2, x3, x4, x5]) ∧ Pur H' a ∧ Tabs T H' ∧ ExL a H H', bk := fun _ _ => True } [some (.ref a), some (.int (i : Int)), some (.ref p), some x1, some x2, some (.ref pd)] H6 := by
    intro code r pd H6 vd bd e6 h6
    have lay : ∀ o, r = some o → (PyData.str (PyData.shown (.list [optD o]))).canLay0 = true := fun o ho => lay_opt (bd o ho)
    have w16 := w15.step (exl_of (less_ex.trans e6))
    have w26 := w25.step (exl_of (less_ex.trans e6))
    refine q_told (tabs5.ext e6) lay (fun H2 ex Q' k => ⟨.ref pd, rfl, k pd H2 (Ex.refl H2) (ex _ _ h6 fun _ z => nomatch z)⟩) (fun H7 ex Qf hQ => out_2 (ev_var rfl) (ev_var rfl) (fun H8 e8 => ((w16.step (exl_ext ex)).step (exl_of (less_ex.trans e8))).da) (fun H8 e8 => ((w26.step (exl_ext ex)).step (exl_of (less_ex.trans e8))).da) kit rit (verd_out vd h8 h9 hQ)) fun H7 ex7 tabs7 => ?_
    have w17 := w16.step (exl_ext ex7)
    have w27 := w26.step (exl_ext ex7)
    have h7 := ex7 _ _ h6 fun _ z => nomatch z
    refine q_told tabs7 lay (fun H2 ex Q' k => ⟨.ref pd, rfl, k pd H2 (Ex.refl H2) (ex _ _ h7 fun _ z => nomatch z)⟩) (fun H8 ex Qf hQ => out_K (ev_var rfl) (ev_var rfl) (fun H9 e9 => ((w17.step (exl_ext ex)).step (exl_of (less_ex.trans e9))).da) (fun H9 e9 => ((w27.step (exl_ext ex)).step (exl_of (less_ex.trans e9))).da) kit rit (verd_out vd h8 h9 hQ)) fun H8 ex8 tabs8 => ?_
    have w18 := w17.step (exl_ext ex8)
    have vd3 : Verd D1 (.tuple []) 8 (chkK D1) := verd_1
    have lay3 : ∀ o, chkK D1 = some o → (PyData.str (PyData.shown (.list [optD o]))).canLay0 = true := fun o ho => lay_opt fun i hi => chkK_le (by rw [ho, hi])
    refine s_told tabs8 lay3 (fun H2 ex Q' k => ⟨x1, rfl, x1, D1, rfl, (w18.step (exl_ext ex)).da, kit, lit, fun pd' H3 n3 e3 h3 => k pd' H3 e3 h3⟩) (fun H9 ex Qf hQ => out_1 (ev_var rfl) (fun H10 e10 => ((w18.step (exl_ext ex)).step (exl_of (less_ex.trans e10))).da) kit (verd_out vd3 h8 h9 hQ)) fun H9 ex9 tabs9 => ?_
    exact ⟨⟨_, _, _, _, _, rfl⟩, (((p5'.keep e6).ext ex7).ext ex8).ext ex9, tabs9, (((far5.trans (exl_of (less_ex.trans e6))).trans (exl_ext ex7)).trans (exl_ext ex8)).trans (exl_ext ex9)⟩
  cases c1 : chkK D1 with
  | some r8 =>
    rw [c1] at h5
    have d5 := due_da (K := K) h5
    have b8 : ∀ o, some r8 = some o → ∀ i, o = some i → i ≤ 10 := fun o ho i hi => chkK_le (by rw [c1, ho, hi])
    have pl5 := due_pl (code := 8) (r := some r8) fun o ho => lay_opt (b8 o ho)
    have vd : Verd D1 D2 8 (some r8) := verd_k c1
    exact q_asg (v := .ref p5) (ev_if (b := true) (et_B (ev_opL (ev_var (i := 5) rfl) (el_lst ea_nil (by simp)) fun u H6 h6 e6 => rv_neDat (b := false) (d := .list (dueDs 8 (some r8))) (e := .list []) (d5.mono e6) (da_list h6 .nil) pl5 ⟨rfl, by decide⟩ rfl)) (fun _ => ev_var (i := 5) rfl) fun z => nomatch z) fun H6 e6 => fin 8 (some r8) p5 H6 vd b8 e6 (e6 _ _ h5)
  | none =>
    rw [c1] at h5
    obtain ⟨ms, rfl, okm⟩ := chkK_none c1
    obtain ⟨pm, rfl, hpm⟩ := da_nmsI w15.da
    have d5 := due_da (K := K) h5
    have pl0 : Pl (.list []) := ⟨rfl, by decide⟩
    have vd : Verd (nmsD ms) D2 9 (chkR ms D2) := verd_nms okm
    have bR : ∀ o, chkR ms D2 = some o → ∀ i, o = some i → i ≤ 10 := fun o ho i hi => chkR_le (by rw [ho, hi])
    refine (et_B (ev_opL (ev_var (i := 5) rfl) (el_lst ea_nil (by simp)) fun u H6 h6 e6 => rv_neDat (b := true) (d := .list []) (e := .list []) (d5.mono e6) (da_list h6 .nil) pl0 pl0 rfl) : EvT _ [some (.ref a), some (.int (i : Int)), some (.ref p), some (.ref pm), some x2, some (.ref p5)] H5 false) H5 (Ex.refl H5) _ fun H6 e6 => ?_
    exact ⟨x2, rfl, .ref pm, rfl, x2, pm, D2, ms, rfl, (w25.step (exl_of (less_ex.trans e6))).da, ex_t e6 hpm, okm.ok, rit, lit2, fun pd H7 n7 e7 h7 => fin 9 (chkR ms D2) pd H7 vd bR (e6.trans e7) h7⟩
end
end K17
set_option Elab.async false
set_option linter.all false
set_option maxRecDepth 100000
set_option maxHeartbeats 4000000
namespace K17
open PySem PySem.Spec PyProof.Rows L2 Evl SwX
open LamX (Tabs ExtN TabB GivesTo tLam lamCx lamEnv LamS)
abbrev s_law : Stmt := top 64
abbrev sc_law_N : List Str := ["_law_script", "_law_k"]
theorem sc_law : FnScope sc_law_N ["_law_script"] (defScope s_law) := ⟨rfl, rfl, rfl, by decide +kernel, rfl, by decide +kernel, by decide +kernel⟩
def cnt (ns : List Int) : Int := if (if (5 : Int) < ns.length then (5 : Int) else ns.length) > 2 then (if (5 : Int) < ns.length then (5 : Int) else ns.length) else 2
theorem cnt_le (ns : List Int) : cnt ns ≤ 5 := by
  unfold cnt
  split <;> (try split) <;> omega
theorem cnt_ok (ns : List Int) : 0 ≤ cnt ns ∧ cnt ns ≤ 40000 := by
  unfold cnt
  split <;> (try split) <;> omega
def qL : Str := (envOfC "law" (defScope s_law) 0 0 .none).qual ++ "<lambda>"
theorem none_lit : toldL 8 (some none) "" = [V.int 8, .str "[None]"] := by
  show [V.int 8, V.str (PyData.shown (.list [optD none]))] = _
  rw [← none_shown]
theorem sql_ext {K : PySem.W.Frag} {H H' : Hp} {a : Addr} {xs : List V} (h : SqL K H a xs) (e : ExtN H H') : SqL K H' a xs := by
  rcases h with (h | ⟨o, h⟩) | h
  · exact .inl (.inl (e _ _ h fun _ z => nomatch z))
  · exact .inl (.inr ⟨o, e _ _ h fun _ z => nomatch z⟩)
  · exact .inr h
theorem extn_less {H H' : Hp} {D : Addr} (e : ExtN H H') : ExtN (less D H) (less D H') := fun b o h n => by
  obtain ⟨h1, ne⟩ := less_some h
  rw [less_ne ne]
  exact e b o h1 n
theorem tabs_mut {T : List (Addr × Str)} {H : Hp} {D : Addr} {xs ys : List V} (t : Tabs T H) (h : H D = some (.lst xs)) : Tabs T (upd H D (.lst ys)) := fun p hp => by
  obtain ⟨ps, h1, h2, h3⟩ := t p hp
  refine ⟨ps, by rw [upd_ne (fun z => by rw [z, h] at h1; cases h1)]; exact h1, h2, fun pos cv hc => ?_⟩
  obtain ⟨c, e1, e2⟩ := h3 pos cv hc
  exact ⟨c, e1, by rw [upd_ne (fun z => by rw [z, h] at e2; cases e2)]; exact e2⟩
theorem ext_fresh {H H1 H2 : Hp} {b : Addr} (hb : H b = none) (e1 : Ex H H1) (e2 : ExL b H1 H2) : ExtN H H2 := fun q o h n => by
  have ne : q ≠ b := fun z => by rw [z, hb] at h; cases h
  exact e2 q o (bare_of (by rw [less_ne ne]; exact e1 _ _ h) n)
section
variable {K : PySem.W.Frag} {T : List (Addr × Str)} {rs : List Nat} {C : Nat → Addr} {rr : List V → Hp → VK → Prop} {t : XK → TE} {σ : L2.St} {H : Hp} {tu tz : TS} {D : Ends}
theorem s_allR {ta : TA} {te : TE} {tt : TT} {g : TG} {vs : List Nat} {n : Int} (h : EvA ta σ H [.int n]) (hn : 0 ≤ n ∧ n ≤ 40000) (Pv : Addr → Nat → Hp → Prop) (h0 : ∀ H1 D, Ex H H1 → H1 D = none → Pv D 0 (upd H1 D (.lst [])))
    (hs : ∀ (Dl : Addr) (i : Nat) (H' : Hp), i < n.toNat → Pv Dl i H' → g (.int (0 + (i : Int))) (wipe σ vs) H' fun σ2 H2 => wipe σ2 vs = wipe σ vs ∧ tt σ2 H2 fun b H3 => if b = true then te σ2 H3 fun y H4 => ∃ acc, H4 Dl = some (.lst acc) ∧ acc.length < sizeLine ∧ Pv Dl (i + 1) (upd H4 Dl (.lst (acc ++ [y]))) else Pv Dl (i + 1) H3)
    (hd : ∀ Dl H', Pv Dl n.toNat H' → ∃ bs : List Bool, SqL K H' Dl (bs.map V.bl) ∧ D.rt (.bl (bs.all id)) H') : tRet (tCB (rAll K) (tCons (tLc (iRng1 ta) g tt te vs) tNil)) D σ H :=
  h H (Ex.refl H) _ fun H1 e1 => ⟨n, rfl, by omega, by omega, fun Dl hD => lc_range (lo := 0) (n := n.toNat) (Pv Dl) (h0 H1 Dl e1 hD) (hs Dl) fun H' p => by
    obtain ⟨bs, h1, h2⟩ := hd Dl H' p
    exact ⟨Dl, bs, rfl, h1, h2⟩⟩
theorem q_caught8 (tabs : Tabs T H) (run : ∀ H1, ExtN H H1 → ∀ Qf : VK, (∀ p z H2, Ex H1 H2 → H2 p = some (.lst (toldL 8 (some none) z)) → Qf (.ref p) H2) → TTc K rs C rr (fun E H' Q' => t E σ H' Q') H1 Qf) (next : ∀ H', ExtN H H' → Tabs T H' → tz D σ H') :
  tSeq (tIfS (tTest (tOp (fun x y H Q => rNe x y H Q ∨ rEqDat K not x y H Q) (tLam T (TTc K rs C rr) t) (tLst (tCons (tC (.int 8)) (tCons (tC (.str "[None]")) tNil))))) tu tNext) tz D σ H :=
  ⟨tabs, fun H1 ext tabs1 => run H1 ext _ fun p z H2 e2 h2 => ⟨by decide, fun u hu => by
    have e3 := Ex.new (o := .lst [.int 8, .str "[None]"]) hu
    have d := due_da (K := K) (code := 8) (r := some none) (e3 _ _ h2)
    have h4 : upd H2 u (.lst [.int 8, .str "[None]"]) u = some (.lst (dueL 8 (some none))) := by
      rw [upd_same]
      exact congrArg (fun x => some (HO.lst x)) none_lit.symm
    have pl := due_pl (code := 8) (r := some none) fun o ho => lay_opt fun i hi => by cases ho; cases hi
    refine rv_neDat (b := true) (d := .list (dueDs 8 (some none))) (e := .list (dueDs 8 (some none))) d (due_da h4) pl pl (by decide +kernel) _ (Ex.refl _) _ fun H4 e4 => ?_
    exact ⟨false, rfl, next H4 (ext.trans (LamX.ExtN.of ((e2.trans e3).trans e4))) (tabs1.ext ((e2.trans e3).trans e4))⟩⟩⟩
end
def spLaw (K : PySem.W.Frag) (T : List (Addr × Str)) : Sp := fun vs H Q _ => ∃ (a : Addr) (ns : List Int), vs = [.ref a] ∧ SqL K H a (ns.map V.int) ∧ Tabs T H ∧ ∀ H', Q (.bl true) H'
section
variable {P : Program} {w : World} {K : PySem.W.Frag} {mg : Str → Option Value} {base : Heap} {f : Addr} {fd : FuncData} {rs : List Nat} {C : Nat → Addr} {WV WN NA : Addr} {Cc P0 : Addr} {T : List (Addr × Str)}
theorem ok_law (G : Caught P w K mg base rs C WV WN NA) (RR : ReprRule P w K mg base 2 (rReprOwn Cc (spCatRepr K Cc))) (M : CatM P w K mg base Cc (C 8) (C 9)) (h8 : 8 ∈ rs) (h9 : 9 ∈ rs) (D__law_seed : Has P w K mg base "_law_seed" 1 ["_law_script", "_law_k"] (spSeed K)) (D__law_purse : Has P w K mg base "_law_purse" 1 ["_law_number"] spPurse) (D__law_right : HasG P w K mg base "_law_right" 9 ["_law_purse_here"] (spRight T))
    (m_len : mg "len" = none) (m_all : mg "all" = none) (m_range : mg "range" = none) (m_max : mg "max" = none) (m_min : mg "min" = none)
    (TB : TabB base mg (codeAt K f) P0) (hmT : (P0, qL) ∈ T) (hu : ∀ p ∈ T, p.1 = P0 → p.2 = qL) (F : FnP K "law" s_law f fd) : FnG P w K mg base CX0 10 f fd ["_law_script"] (spLaw K T) := by
  refine SwX.FunD.okT F sc_law (fun vs H Q E h => by obtain ⟨a, ns, rfl, _⟩ := h; rfl) (fun A outer s H vs Q E hr calm h => ⟨_, PSs.nox
    (pss_cons (ps_if (pt_cmpR (neK K hr) (pe_cgt1 G RR M (hr.mono (by decide)) calm TB rfl hmT hu (LamX.lamS_by (sc := defScope s_law) (by decide +kernel)) fun A outer s H E f c1 => (pa_cons (pe_tup pa_nil) pa_nil)) (pe_lst (pa_cons pe_int (pa_cons pe_str pa_nil))) (nomark _)) (pss_one (ps_ret pe_bl)) pss_nil) (pss_cons (ps_if (pt_cmpR (neK K hr) (pe_cgt2 G RR M (hr.mono (by decide)) calm TB rfl hmT hu (LamX.lamS_by (sc := defScope s_law) (by decide +kernel)) fun A outer s H E f c1 => (pa_cons (pe_tup pa_nil) (pa_cons (pe_tup pa_nil) pa_nil))) (pe_lst (pa_cons pe_int (pa_cons pe_str pa_nil))) (nomark _)) (pss_one (ps_ret pe_bl)) pss_nil) (pss_one (ps_ret (pe_callB (cr_all rfl) (by rfl) m_all (by decide +kernel) (pa_cons (pe_lc (own := [("_law_k", 1)]) (g := gName 1) (tt := tYes) rfl sc_law.nd (pi_range1 (by rfl) m_range (pa_cons (pe_callB (call_max2 rfl) (by rfl) m_max (by decide +kernel) (pa_cons pe_int (pa_cons (pe_callB (call_min2 rfl) (by rfl) m_min (by decide +kernel) (pa_cons (pe_callB (lenK K) (by rfl) m_len (by decide +kernel) (pa_cons (pv 0) pa_nil)) (pa_cons pe_int pa_nil))) pa_nil))) pa_nil)) (blkOk_by (N := sc_law_N) (sc := defScope s_law) (by decide +kernel)) (fun _ _ _ _ _ => pg_name (i := 1) sc_law.nd rfl (Or.inl rfl)) (fun _ _ _ _ _ => pts_nil) (fun _ _ _ _ _ => (pe_hasG D__law_right (hr.mono (by decide)) calm (pa_cons (pe_has D__law_purse (hr.mono (by decide)) (pa_cons (pe_has D__law_seed (hr.mono (by decide)) (pa_cons (pv 0) (pa_cons (pv 1) pa_nil))) pa_nil)) pa_nil)))) pa_nil)))))), ?_⟩)
  obtain ⟨a, ns, rfl, hS, tabs, q⟩ := h
  have vd : Verd (.tuple []) (.tuple []) 8 (some none) := verd_k rfl
  have i1 : KIt (.tuple []) := fun ds e d hd => by cases e; cases hd
  have i2 : RsIt (.tuple []) := fun ds e d hd => by cases e; cases hd
  refine q_caught8 tabs (fun H1 ext Qf hQ => fun d0 z0 => ⟨by decide, fun u hu => ?_⟩) fun H1 ext1 tabs1 => ?_
  · have hu' : SqT K (upd H1 u (.tup [])) u [] := .inl (.inl upd_same)
    exact (out_1 (ta := tHere (.ref u)) ev_here (fun H' e => da_tuple (ex_t e hu') .nil) i1 (verd_out vd h8 h9 fun p z H2 e2 h2 => hQ p z H2 ((Ex.new hu).trans e2) h2) : tCatX1 K Cc (C 8) (C 9) _ (tCons (tHere (.ref u)) tNil) (L2.start sc_law_N [.ref a]) _ _) d0 z0
  refine q_caught8 tabs1 (fun H2 ext Qf hQ => ⟨by decide, fun u hu => ⟨by decide, fun u2 hu2 => ?_⟩⟩) fun H2 ext2 tabs2 => ?_
  · have hu' : SqT K (upd (upd H2 u (.tup [])) u2 (.tup [])) u [] := ex_t (Ex.new hu2) (.inl (.inl upd_same))
    have hu2' : SqT K (upd (upd H2 u (.tup [])) u2 (.tup [])) u2 [] := .inl (.inl upd_same)
    exact out_2 (σ := L2.start sc_law_N [.ref a]) (ta := tHere (.ref u)) (tb := tHere (.ref u2)) ev_here ev_here (fun H' e => da_tuple (ex_t e hu') .nil) (fun H' e => da_tuple (ex_t e hu2') .nil) i1 i2 (verd_out vd h8 h9 fun p z H3 e2 h2 => hQ p z H3 (((Ex.new hu).trans (Ex.new hu2)).trans e2) h2)
  have hS2 := sql_ext hS (ext1.trans ext2)
  have small := cnt_ok ns
  refine s_allR (K := K) (ea_cons (ev_is (ev_max2 ev_c (ev_min2 (ev_lenL (ev_var (i := 0) rfl) (.inl hS2)) ev_c)) (by rw [List.length_map]; rfl)) ea_nil : EvA _ (L2.start sc_law_N [.ref a]) H2 [.int (cnt ns)]) small (fun D i H' => H' D = some (.lst (List.replicate i (.bl true))) ∧ SqL K (less D H') a (ns.map V.int) ∧ Tabs T H') (fun H3 D e3 hD => ⟨upd_same, by rw [less_upd_same]; exact ex_l (ex_less hD (Ex.refl H3)) (ex_l e3 hS2), tabs2.ext (e3.trans (Ex.new hD))⟩) (fun D i H4 hi p => ?_) fun D H4 p => ?_
  · obtain ⟨p1, p2, p3⟩ := p
    refine ⟨rfl, .ref a, rfl, .int (0 + (i : Int)), rfl, a, ns, _, rfl, ex_l less_ex p2, by omega, by have := cnt_le ns; omega, fun n H5 e5 => ⟨n, rfl, fun b H6 hb e6 pu6 => ⟨b, rfl, pu6, (p3.ext e5).ext e6, fun H7 far7 tabs7 => ?_⟩⟩⟩
    have x7 : ExtN H5 H7 := ext_fresh hb e6 far7
    refine ⟨List.replicate i (.bl true), x7 _ _ (e5 _ _ p1) (fun _ z => nomatch z), ?_, ?_, ?_, ?_⟩
    · rw [List.length_replicate]
      have := cnt_le ns
      exact Nat.lt_of_lt_of_le (show i < 6 by omega) (by decide)
    · rw [upd_same, List.replicate_succ']
    · rw [less_upd_same]
      exact sql_ext p2 (extn_less ((LamX.ExtN.of e5).trans x7))
    · exact tabs_mut tabs7 (x7 _ _ (e5 _ _ p1) fun _ z => nomatch z)
  · refine ⟨List.replicate (cnt ns).toNat true, .inl (.inl (by rw [p.1, List.map_replicate])), ?_⟩
    rw [show (List.replicate (cnt ns).toNat true).all id = true by simp]
    exact q H4

end
end K17
set_option Elab.async false
set_option linter.all false
set_option maxRecDepth 100000
set_option maxHeartbeats 0
namespace K17
open PySem PySem.Spec PyProof.Rows L2 SwX
abbrev R : PySem.W.OpenRow := PySem.W.OpenLaw.row PySem.Challenge.rw_sealedweights_k17_catalogues_refused
def dL (x : Str) (i : Nat) : He5.DefA := ⟨fun K => He.ga K x, x, x, defArgs (top i), defBody (top i), defScope (top i), [], []⟩
def dM (c m q : Str) (i j : Nat) (ds : List He.Dv) : He5.DefA := ⟨fun K => He.ma K (He.ga K c) m, m, q, defArgs (inClass (top i) j), defBody (inClass (top i) j), defScope (inClass (top i) j), ds, []⟩
def dR (c m q : Str) (i j : Nat) : He5.DefA := ⟨fun K => He5.wf K (He.ga K c) "classmethod" m, m, q, defArgs (inClass (top i) j), defBody (inClass (top i) j), defScope (inClass (top i) j), [], []⟩
def fn : List He5.DefA := [dL "is_integer" 30, dL "is_between" 31, dL "is_name" 32, dL "number_of" 33, dL "is_recipe" 35, dL "check_kinds" 36, dL "check_recipes" 37, dL "text_of" 38, dL "recipe_of" 39, dL "parts_of_text" 40, dL "check_catalogue" 42, dL "_law_seed" 44, dL "_law_purse" 45, dL "_law_draw" 46, dL "_law_fault" 47, dL "_law_kept" 48, dL "_law_caught" 49, dL "_law_name" 50, dL "_law_names" 51, dL "_law_rule" 52, dL "_law_rules" 53, dL "_law_is_name" 54, dL "_law_names_due" 55, dL "_law_is_rule" 56, dL "_law_rules_due" 57, dL "_law_odd_name" 58, dL "_law_bent_names" 59, dL "_law_odd_rule" 60, dL "_law_bent_rules" 61, dL "_law_told_right" 62, dL "_law_right" 63, dL "law" 64, dM "InvalidKinds" "__init__" "InvalidKinds.__init__" 11 0 [], dM "InvalidRecipes" "__init__" "InvalidRecipes.__init__" 12 0 [], dM "Catalogue" "__init__" "Catalogue.__init__" 41 0 [.adr (He.dflAt ("Catalogue", some "__init__") 0)], dM "Catalogue" "__repr__" "Catalogue.__repr__" 41 8 []]
def fa : List He.Fa := [.glo "is_integer", .glo "is_between", .glo "is_name", .glo "number_of", .glo "is_recipe", .glo "check_kinds", .glo "check_recipes", .glo "text_of", .glo "recipe_of", .glo "parts_of_text", .glo "check_catalogue", .glo "_law_seed", .glo "_law_purse", .glo "_law_draw", .glo "_law_fault", .glo "_law_kept", .glo "_law_caught", .glo "_law_name", .glo "_law_names", .glo "_law_rule", .glo "_law_rules", .glo "_law_is_name", .glo "_law_names_due", .glo "_law_is_rule", .glo "_law_rules_due", .glo "_law_odd_name", .glo "_law_bent_names", .glo "_law_odd_rule", .glo "_law_bent_rules", .glo "_law_told_right", .glo "_law_right", .glo "law", .glo "InvalidNumber", .glo "InvalidText", .glo "InvalidName", .glo "InvalidIndex", .glo "InvalidClaim", .glo "InvalidThing", .glo "NotACatalogue", .glo "NotWeights", .glo "InvalidKinds", .glo "InvalidRecipes", .glo "InvalidMembers", .glo "InvalidRows", .glo "UnknownName", .glo "InUse", .glo "TooMany", .glo "NothingToUndo", .glo "Broken", .glo "WrongValue", .glo "WrongName", .glo "NoAnswer", .glo "Catalogue", .free "len", .free "str", .free "repr", .free "isinstance", .free "range", .free "all", .free "max", .free "min", .free "int", .free "bool", .free "list", .free "tuple", .free "enumerate", .free "divmod", .free "ValueError", .free "LookupError", .free "ArithmeticError", .int "MOST_KINDS" 4, .int "MOST_RECIPES" 10, .int "MOST_PARTS" 3, .int "MOST_OWN" 9, .int "LONGEST_NAME" 8, .str "DIGITS" "0123456789", .str "LETTERS" "abcdefghijklmnopqrstuvwxyz", .cls "Catalogue", .noat "Catalogue" "all_kinds", .noat "Catalogue" "all_recipes", .noat "Catalogue" "words", .meth "Catalogue" "__repr__", .mkr "Catalogue"]
def tf : TfZ := [fun K => He.ga K "_law_right", fun K => He.ga K "law"]
def chk (K : PySem.W.Frag) : Bool := tupE K (He.dflAt ("Catalogue", some "__init__") 0 K) && (He.eqO (PySem.W.findIn K (.ref (He.ga K "Catalogue")) "__class__") (some (some (.builtin "object.__class__"))) && (He.eqO (PySem.W.specialIn K (.builtin "object.__class__") "__get__") (some (some (.builtin "getset_descriptor.__get__"))) && (decide (PySem.W.takesIn K (.builtin "object.__class__") = some true) && (decide (PySem.W.mroIn K (He.ga K "Catalogue") (.type "object") = some true) && (decide (PySem.W.kitOne K (.ref (He.ga K "Catalogue")) (.ref (He.ga K "Catalogue")) = some true) && (decide ((ctZ K (He.ga K "_law_right")).2 ≠ (ctZ K (He.ga K "law")).2) && (clsZ K [8, 9])))))))
abbrev hk : PySem.W.Hook := hookZ 5 fa fn tf chk
def ob (s : PySem.W.SharedT) : AlZ := obsZ 5 fa fn tf chk (HandSHeadRun.getT s)
theorem ob_eq (s : PySem.W.SharedT) : ob s = hk.obs s.abs := obsZ_eq (HandSHeadRun.getT_eq s)
def names1 : List PySem.Str := ["_wall", "__name__", "WrongValue", "InvalidNumber", "InvalidText", "InvalidName", "InvalidIndex", "InvalidClaim", "InvalidThing", "NotACatalogue", "NotWeights", "InvalidKinds", "InvalidRecipes", "InvalidMembers", "InvalidRows", "WrongName", "UnknownName", "InUse", "NoAnswer", "TooMany"]
def names2 : List PySem.Str := ["NothingToUndo", "Broken", "MOST_KINDS", "MOST_RECIPES", "MOST_PARTS", "MOST_OWN", "DIGITS", "LETTERS", "LONGEST_NAME", "is_integer", "is_between", "is_name", "number_of", "is_recipe", "check_kinds", "check_recipes", "text_of", "recipe_of", "parts_of_text", "Catalogue"]
def names3 : List PySem.Str := ["check_catalogue", "_law_seed", "_law_purse", "_law_draw", "_law_fault", "_law_kept", "_law_caught", "_law_name", "_law_names", "_law_rule", "_law_rules", "_law_is_name", "_law_names_due", "_law_is_rule", "_law_rules_due", "_law_odd_name", "_law_bent_names", "_law_odd_rule", "_law_bent_rules", "_law_told_right"]
def names4 : List PySem.Str := ["_law_right"]
def names : List PySem.Str := names1 ++ (names2 ++ (names3 ++ (names4)))
theorem run (w : World) : HandSHeadRun.RunEq R (PySem.W.view R.prog [64]) hk ob 20000 names w := by
  intro os
  kernel_rfl
end K17
set_option Elab.async false
set_option linter.all false
set_option maxRecDepth 100000
set_option maxHeartbeats 0
namespace K17
open PySem PySem.Spec PyProof.Rows L2 SwX
section
variable {P : Program} {w : World} {K : PySem.W.Frag} {h : Heap} {mg : Str → Option Value} {base : Heap} {f : Addr} {fd : FuncData}
theorem sci_8 : FnScope ["self", "index"] ["self", "index"] (defScope (inClass (top 11) 0)) := ⟨rfl, rfl, rfl, by decide +kernel, rfl, by decide +kernel, by decide +kernel⟩
theorem has_8 {C : Addr} (T : Oex K C) (n : Free K C "index") (i : Ini K C f) (F : FunD K "__init__" "InvalidKinds.__init__" (defArgs (inClass (top 11) 0)) (defBody (inClass (top 11) 0)) (defScope (inClass (top 11) 0)) [] [] f fd) (m : mg "InvalidKinds" = some (.ref C)) : HasX P w K mg base "InvalidKinds" 1 C 1 ["index"] (fun us ws => us ++ ws.reverse) (spIni1 C "index") := by
  refine ⟨f, fd, ["self", "index"], T, i, F.ok sci_8 (fun vs H Q E h => by obtain ⟨a, v, rfl, _⟩ := h; rfl) (fun cdv A outer s H vs Q E hr h => ⟨_, PSs.nox
    (pss_one (ps_setX (pv 0) (pv 1))), ?_⟩), m, kbn_of F 2 [] (fun us ws => us ++ ws.reverse) (fun r z => r.append (vals_rev z)) (fun _ _ _ _ _ _ us ws h1 h2 => match us, ws, h1, h2 with | [_, _], [], _, _ => rfl) |> kbn_pos, kbn_of F 1 ["index"] (fun us ws => us ++ ws.reverse) (fun r z => r.append (vals_rev z)) (fun _ _ _ _ _ _ us ws h1 h2 => match us, ws, h1, h2 with | [_], [_], _, _ => rfl)⟩
  obtain ⟨a, v, rfl, h, q⟩ := h
  exact body_ini1 T n rfl rfl h q
theorem sci_9 : FnScope ["self", "index"] ["self", "index"] (defScope (inClass (top 12) 0)) := ⟨rfl, rfl, rfl, by decide +kernel, rfl, by decide +kernel, by decide +kernel⟩
theorem has_9 {C : Addr} (T : Oex K C) (n : Free K C "index") (i : Ini K C f) (F : FunD K "__init__" "InvalidRecipes.__init__" (defArgs (inClass (top 12) 0)) (defBody (inClass (top 12) 0)) (defScope (inClass (top 12) 0)) [] [] f fd) (m : mg "InvalidRecipes" = some (.ref C)) : HasX P w K mg base "InvalidRecipes" 1 C 1 ["index"] (fun us ws => us ++ ws.reverse) (spIni1 C "index") := by
  refine ⟨f, fd, ["self", "index"], T, i, F.ok sci_9 (fun vs H Q E h => by obtain ⟨a, v, rfl, _⟩ := h; rfl) (fun cdv A outer s H vs Q E hr h => ⟨_, PSs.nox
    (pss_one (ps_setX (pv 0) (pv 1))), ?_⟩), m, kbn_of F 2 [] (fun us ws => us ++ ws.reverse) (fun r z => r.append (vals_rev z)) (fun _ _ _ _ _ _ us ws h1 h2 => match us, ws, h1, h2 with | [_, _], [], _, _ => rfl) |> kbn_pos, kbn_of F 1 ["index"] (fun us ws => us ++ ws.reverse) (fun r z => r.append (vals_rev z)) (fun _ _ _ _ _ _ us ws h1 h2 => match us, ws, h1, h2 with | [_], [_], _, _ => rfl)⟩
  obtain ⟨a, v, rfl, h, q⟩ := h
  exact body_ini1 T n rfl rfl h q
def T (K : PySem.W.Frag) : List (Addr × Str) := [((ctZ K (He.ga K "_law_right")).2, qR), ((ctZ K (He.ga K "law")).2, qL)]
def cs (K : PySem.W.Frag) : List (Addr × Addr) := [ctZ K (He.ga K "_law_right"), ctZ K (He.ga K "law")]
theorem facts {f : Addr} (X : K.In h) (G : h.Ns mainGlobals mg) (hfa : mg ("law" : Str) = some (.ref f)) (c : SaysZ fa fn tf chk h K) :
    ∃ (K : PySem.W.Frag) (fd : FuncData) (sp : Sp) (cs : List (Addr × Addr)), K.In h ∧ (∀ p ∈ cs, h.get? p.2 = some tab0) ∧ (∀ p ∈ cs, K.lookup p.2 = none) ∧ (∀ p ∈ cs, PySem.W.CodeHd h p.1 p.2) ∧ (∀ (s : Shared) (u : Value), BindsTo s fd ⟨[u], []⟩ [("_law_script", u)]) ∧
        (∀ (H : Hp) (a : Addr) (ns : List Int), ns.length ≤ 63 → (∀ p ∈ cs, H p.2 = some (.tbl #[])) → SqL K H a (ns.map V.int) → sp [.ref a] H (fun v _ => v = .bl true) fun _ _ _ => False) ∧
        ∀ base : Heap, K.In base → base.Ns mainGlobals mg → (∀ p ∈ cs, LamX.TabB base mg p.1 p.2) → FnG P w K mg base CX0 10 f fd ["_law_script"] sp := by
  obtain ⟨sys, ck, sd, hd, ot, em⟩ := c
  unfold chk at ck
  simp only [Bool.and_eq_true] at ck
  obtain ⟨c0, c1, c2, c3, c4, c5, c6, c7⟩ := ck
  have dne := of_decide_eq_true c6
  obtain ⟨fd0, F0⟩ := sd.def_ 0 (d := dL "is_integer" 30) rfl
  obtain ⟨fd1, F1⟩ := sd.def_ 1 (d := dL "is_between" 31) rfl
  obtain ⟨fd2, F2⟩ := sd.def_ 2 (d := dL "is_name" 32) rfl
  obtain ⟨fd3, F3⟩ := sd.def_ 3 (d := dL "number_of" 33) rfl
  obtain ⟨fd4, F4⟩ := sd.def_ 4 (d := dL "is_recipe" 35) rfl
  obtain ⟨fd5, F5⟩ := sd.def_ 5 (d := dL "check_kinds" 36) rfl
  obtain ⟨fd6, F6⟩ := sd.def_ 6 (d := dL "check_recipes" 37) rfl
  obtain ⟨fd7, F7⟩ := sd.def_ 7 (d := dL "text_of" 38) rfl
  obtain ⟨fd8, F8⟩ := sd.def_ 8 (d := dL "recipe_of" 39) rfl
  obtain ⟨fd9, F9⟩ := sd.def_ 9 (d := dL "parts_of_text" 40) rfl
  obtain ⟨fd10, F10⟩ := sd.def_ 10 (d := dL "check_catalogue" 42) rfl
  obtain ⟨fd11, F11⟩ := sd.def_ 11 (d := dL "_law_seed" 44) rfl
  obtain ⟨fd12, F12⟩ := sd.def_ 12 (d := dL "_law_purse" 45) rfl
  obtain ⟨fd13, F13⟩ := sd.def_ 13 (d := dL "_law_draw" 46) rfl
  obtain ⟨fd14, F14⟩ := sd.def_ 14 (d := dL "_law_fault" 47) rfl
  obtain ⟨fd15, F15⟩ := sd.def_ 15 (d := dL "_law_kept" 48) rfl
  obtain ⟨fd16, F16⟩ := sd.def_ 16 (d := dL "_law_caught" 49) rfl
  obtain ⟨fd17, F17⟩ := sd.def_ 17 (d := dL "_law_name" 50) rfl
  obtain ⟨fd18, F18⟩ := sd.def_ 18 (d := dL "_law_names" 51) rfl
  obtain ⟨fd19, F19⟩ := sd.def_ 19 (d := dL "_law_rule" 52) rfl
  obtain ⟨fd20, F20⟩ := sd.def_ 20 (d := dL "_law_rules" 53) rfl
  obtain ⟨fd21, F21⟩ := sd.def_ 21 (d := dL "_law_is_name" 54) rfl
  obtain ⟨fd22, F22⟩ := sd.def_ 22 (d := dL "_law_names_due" 55) rfl
  obtain ⟨fd23, F23⟩ := sd.def_ 23 (d := dL "_law_is_rule" 56) rfl
  obtain ⟨fd24, F24⟩ := sd.def_ 24 (d := dL "_law_rules_due" 57) rfl
  obtain ⟨fd25, F25⟩ := sd.def_ 25 (d := dL "_law_odd_name" 58) rfl
  obtain ⟨fd26, F26⟩ := sd.def_ 26 (d := dL "_law_bent_names" 59) rfl
  obtain ⟨fd27, F27⟩ := sd.def_ 27 (d := dL "_law_odd_rule" 60) rfl
  obtain ⟨fd28, F28⟩ := sd.def_ 28 (d := dL "_law_bent_rules" 61) rfl
  obtain ⟨fd29, F29⟩ := sd.def_ 29 (d := dL "_law_told_right" 62) rfl
  obtain ⟨fd30, F30⟩ := sd.def_ 30 (d := dL "_law_right" 63) rfl
  obtain ⟨fd31, F31⟩ := sd.def_ 31 (d := dL "law" 64) rfl
  obtain ⟨fd32, F32⟩ := sd.def_ 32 (d := dM "InvalidKinds" "__init__" "InvalidKinds.__init__" 11 0 []) rfl
  obtain ⟨fd33, F33⟩ := sd.def_ 33 (d := dM "InvalidRecipes" "__init__" "InvalidRecipes.__init__" 12 0 []) rfl
  obtain ⟨fd34, F34⟩ := sd.def_ 34 (d := dM "Catalogue" "__init__" "Catalogue.__init__" 41 0 [.adr (He.dflAt ("Catalogue", some "__init__") 0)]) rfl
  obtain ⟨fd35, F35⟩ := sd.def_ 35 (d := dM "Catalogue" "__repr__" "Catalogue.__repr__" 41 8 []) rfl
  have k_is_integer := He.glo_ok X G (sd.fact 0 (f := .glo "is_integer") rfl)
  have k_is_between := He.glo_ok X G (sd.fact 1 (f := .glo "is_between") rfl)
  have k_is_name := He.glo_ok X G (sd.fact 2 (f := .glo "is_name") rfl)
  have k_number_of := He.glo_ok X G (sd.fact 3 (f := .glo "number_of") rfl)
  have k_is_recipe := He.glo_ok X G (sd.fact 4 (f := .glo "is_recipe") rfl)
  have k_check_kinds := He.glo_ok X G (sd.fact 5 (f := .glo "check_kinds") rfl)
  have k_check_recipes := He.glo_ok X G (sd.fact 6 (f := .glo "check_recipes") rfl)
  have k_text_of := He.glo_ok X G (sd.fact 7 (f := .glo "text_of") rfl)
  have k_recipe_of := He.glo_ok X G (sd.fact 8 (f := .glo "recipe_of") rfl)
  have k_parts_of_text := He.glo_ok X G (sd.fact 9 (f := .glo "parts_of_text") rfl)
  have k_check_catalogue := He.glo_ok X G (sd.fact 10 (f := .glo "check_catalogue") rfl)
  have k__law_seed := He.glo_ok X G (sd.fact 11 (f := .glo "_law_seed") rfl)
  have k__law_purse := He.glo_ok X G (sd.fact 12 (f := .glo "_law_purse") rfl)
  have k__law_draw := He.glo_ok X G (sd.fact 13 (f := .glo "_law_draw") rfl)
  have k__law_fault := He.glo_ok X G (sd.fact 14 (f := .glo "_law_fault") rfl)
  have k__law_kept := He.glo_ok X G (sd.fact 15 (f := .glo "_law_kept") rfl)
  have k__law_caught := He.glo_ok X G (sd.fact 16 (f := .glo "_law_caught") rfl)
  have k__law_name := He.glo_ok X G (sd.fact 17 (f := .glo "_law_name") rfl)
  have k__law_names := He.glo_ok X G (sd.fact 18 (f := .glo "_law_names") rfl)
  have k__law_rule := He.glo_ok X G (sd.fact 19 (f := .glo "_law_rule") rfl)
  have k__law_rules := He.glo_ok X G (sd.fact 20 (f := .glo "_law_rules") rfl)
  have k__law_is_name := He.glo_ok X G (sd.fact 21 (f := .glo "_law_is_name") rfl)
  have k__law_names_due := He.glo_ok X G (sd.fact 22 (f := .glo "_law_names_due") rfl)
  have k__law_is_rule := He.glo_ok X G (sd.fact 23 (f := .glo "_law_is_rule") rfl)
  have k__law_rules_due := He.glo_ok X G (sd.fact 24 (f := .glo "_law_rules_due") rfl)
  have k__law_odd_name := He.glo_ok X G (sd.fact 25 (f := .glo "_law_odd_name") rfl)
  have k__law_bent_names := He.glo_ok X G (sd.fact 26 (f := .glo "_law_bent_names") rfl)
  have k__law_odd_rule := He.glo_ok X G (sd.fact 27 (f := .glo "_law_odd_rule") rfl)
  have k__law_bent_rules := He.glo_ok X G (sd.fact 28 (f := .glo "_law_bent_rules") rfl)
  have k__law_told_right := He.glo_ok X G (sd.fact 29 (f := .glo "_law_told_right") rfl)
  have k__law_right := He.glo_ok X G (sd.fact 30 (f := .glo "_law_right") rfl)
  have k_law := He.glo_ok X G (sd.fact 31 (f := .glo "law") rfl)
  have k_InvalidNumber := He.glo_ok X G (sd.fact 32 (f := .glo "InvalidNumber") rfl)
  have k_InvalidText := He.glo_ok X G (sd.fact 33 (f := .glo "InvalidText") rfl)
  have k_InvalidName := He.glo_ok X G (sd.fact 34 (f := .glo "InvalidName") rfl)
  have k_InvalidIndex := He.glo_ok X G (sd.fact 35 (f := .glo "InvalidIndex") rfl)
  have k_InvalidClaim := He.glo_ok X G (sd.fact 36 (f := .glo "InvalidClaim") rfl)
  have k_InvalidThing := He.glo_ok X G (sd.fact 37 (f := .glo "InvalidThing") rfl)
  have k_NotACatalogue := He.glo_ok X G (sd.fact 38 (f := .glo "NotACatalogue") rfl)
  have k_NotWeights := He.glo_ok X G (sd.fact 39 (f := .glo "NotWeights") rfl)
  have k_InvalidKinds := He.glo_ok X G (sd.fact 40 (f := .glo "InvalidKinds") rfl)
  have k_InvalidRecipes := He.glo_ok X G (sd.fact 41 (f := .glo "InvalidRecipes") rfl)
  have k_InvalidMembers := He.glo_ok X G (sd.fact 42 (f := .glo "InvalidMembers") rfl)
  have k_InvalidRows := He.glo_ok X G (sd.fact 43 (f := .glo "InvalidRows") rfl)
  have k_UnknownName := He.glo_ok X G (sd.fact 44 (f := .glo "UnknownName") rfl)
  have k_InUse := He.glo_ok X G (sd.fact 45 (f := .glo "InUse") rfl)
  have k_TooMany := He.glo_ok X G (sd.fact 46 (f := .glo "TooMany") rfl)
  have k_NothingToUndo := He.glo_ok X G (sd.fact 47 (f := .glo "NothingToUndo") rfl)
  have k_Broken := He.glo_ok X G (sd.fact 48 (f := .glo "Broken") rfl)
  have k_WrongValue := He.glo_ok X G (sd.fact 49 (f := .glo "WrongValue") rfl)
  have k_WrongName := He.glo_ok X G (sd.fact 50 (f := .glo "WrongName") rfl)
  have k_NoAnswer := He.glo_ok X G (sd.fact 51 (f := .glo "NoAnswer") rfl)
  have k_Catalogue := He.glo_ok X G (sd.fact 52 (f := .glo "Catalogue") rfl)
  have m_len := He.free_ok X G (sd.fact 53 (f := .free "len") rfl)
  have m_str := He.free_ok X G (sd.fact 54 (f := .free "str") rfl)
  have m_repr := He.free_ok X G (sd.fact 55 (f := .free "repr") rfl)
  have m_isinstance := He.free_ok X G (sd.fact 56 (f := .free "isinstance") rfl)
  have m_range := He.free_ok X G (sd.fact 57 (f := .free "range") rfl)
  have m_all := He.free_ok X G (sd.fact 58 (f := .free "all") rfl)
  have m_max := He.free_ok X G (sd.fact 59 (f := .free "max") rfl)
  have m_min := He.free_ok X G (sd.fact 60 (f := .free "min") rfl)
  have m_int := He.free_ok X G (sd.fact 61 (f := .free "int") rfl)
  have m_bool := He.free_ok X G (sd.fact 62 (f := .free "bool") rfl)
  have m_list := He.free_ok X G (sd.fact 63 (f := .free "list") rfl)
  have m_tuple := He.free_ok X G (sd.fact 64 (f := .free "tuple") rfl)
  have m_enumerate := He.free_ok X G (sd.fact 65 (f := .free "enumerate") rfl)
  have m_divmod := He.free_ok X G (sd.fact 66 (f := .free "divmod") rfl)
  have m_ValueError := He.free_ok X G (sd.fact 67 (f := .free "ValueError") rfl)
  have m_LookupError := He.free_ok X G (sd.fact 68 (f := .free "LookupError") rfl)
  have m_ArithmeticError := He.free_ok X G (sd.fact 69 (f := .free "ArithmeticError") rfl)
  have g_MOST_KINDS := He.int_ok X G (sd.fact 70 (f := .int "MOST_KINDS" 4) rfl)
  have g_MOST_RECIPES := He.int_ok X G (sd.fact 71 (f := .int "MOST_RECIPES" 10) rfl)
  have g_MOST_PARTS := He.int_ok X G (sd.fact 72 (f := .int "MOST_PARTS" 3) rfl)
  have g_MOST_OWN := He.int_ok X G (sd.fact 73 (f := .int "MOST_OWN" 9) rfl)
  have g_LONGEST_NAME := He.int_ok X G (sd.fact 74 (f := .int "LONGEST_NAME" 8) rfl)
  have g_DIGITS := He.str_ok X G (sd.fact 75 (f := .str "DIGITS" "0123456789") rfl)
  have g_LETTERS := He.str_ok X G (sd.fact 76 (f := .str "LETTERS" "abcdefghijklmnopqrstuvwxyz") rfl)
  have cls_Catalogue := He.cls_ok (sd.fact 77 (f := .cls "Catalogue") rfl)
  have n_Catalogue_all_kinds := He.noat_ok (sd.fact 78 (f := .noat "Catalogue" "all_kinds") rfl)
  have n_Catalogue_all_recipes := He.noat_ok (sd.fact 79 (f := .noat "Catalogue" "all_recipes") rfl)
  have n_Catalogue_words := He.noat_ok (sd.fact 80 (f := .noat "Catalogue" "words") rfl)
  have t_Catalogue___repr__ := He.meth_ok (sd.fact 81 (f := .meth "Catalogue" "__repr__") rfl)
  have mk_Catalogue := He.mkr_ok (sd.fact 82 (f := .mkr "Catalogue") rfl)
  have e := hfa.symm.trans k_law
  cases e
  have b := FunD.bindsA (ps := ["_law_script"]) F31 fun _ _ _ _ _ _ us hl => match us, hl with | [_], _ => rfl
  have of2 : ∀ {Q : Addr × Addr → Prop}, (∀ p ∈ tf, Q (ctZ K (p K))) → ∀ p ∈ cs K, Q p := fun {Q} z p hp => by
    simp only [cs, List.mem_cons, List.not_mem_nil, or_false] at hp
    rcases hp with rfl | rfl
    · exact z _ (List.mem_cons_self)
    · exact z _ (List.mem_cons_of_mem _ List.mem_cons_self)
  refine ⟨K, fd31, spLaw K (T K), cs K, X, of2 em, of2 ot, of2 fun p hp => PySem.W.codeHd_of_K X (hd p hp), fun s v => b s [v] rfl, fun H a ns hl hT hS => ⟨a, ns, rfl, hS, fun p hp => ?_, fun _ => rfl⟩, fun base _ _ TB => ?_⟩
  · simp only [T, List.mem_cons, List.not_mem_nil, or_false] at hp
    rcases hp with rfl | rfl
    · exact LamX.TabS.nil (hT _ (List.mem_cons_self))
    · exact LamX.TabS.nil (hT _ (List.mem_cons_of_mem _ List.mem_cons_self))
  have gE : ∀ i, i < 17 → mg (exNm i) = some (.ref (CxZ K i)) := fun i hi => match i, hi with
    | 0, _ => k_InvalidNumber
    | 1, _ => k_InvalidText
    | 2, _ => k_InvalidName
    | 3, _ => k_InvalidIndex
    | 4, _ => k_InvalidClaim
    | 5, _ => k_InvalidThing
    | 6, _ => k_NotACatalogue
    | 7, _ => k_NotWeights
    | 8, _ => k_InvalidKinds
    | 9, _ => k_InvalidRecipes
    | 10, _ => k_InvalidMembers
    | 11, _ => k_InvalidRows
    | 12, _ => k_UnknownName
    | 13, _ => k_InUse
    | 14, _ => k_TooMany
    | 15, _ => k_NothingToUndo
    | 16, _ => k_Broken
    | n + 17, z => absurd z (by omega)
  have c : Cl P w K mg base [8, 9] (CxZ K) (He.ga K "WrongValue") (He.ga K "WrongName") (He.ga K "NoAnswer") := clsZ_ok c7 gE k_WrongValue k_WrongName k_NoAnswer fun i hi T n ini m => by
    simp only [List.mem_cons, List.not_mem_nil, or_false] at hi
    rcases hi with rfl | rfl
    · exact has_8 T n ini F32 m
    · exact has_9 T n ini F33 m
  have D__law_seed : Has P w K mg base "_law_seed" 1 ["_law_script", "_law_k"] (spSeed K) := ⟨_, fd11, ok_seed F11 m_len m_int, k__law_seed, F11.kp, (FunD.bindsN (ps := ["_law_script", "_law_k"]) F11 fun _ _ _ _ _ _ us hl => match us, hl with | [_, _], _ => rfl)⟩
  have D__law_purse : Has P w K mg base "_law_purse" 1 ["_law_number"] (spPurse) := ⟨_, fd12, ok_purse F12 m_int, k__law_purse, F12.kp, (FunD.bindsN (ps := ["_law_number"]) F12 fun _ _ _ _ _ _ us hl => match us, hl with | [_], _ => rfl)⟩
  have D__law_draw : Has P w K mg base "_law_draw" 1 ["_law_purse_here", "_law_many"] (spDraw) := ⟨_, fd13, ok_draw F13 m_int m_divmod, k__law_draw, F13.kp, (FunD.bindsN (ps := ["_law_purse_here", "_law_many"]) F13 fun _ _ _ _ _ _ us hl => match us, hl with | [_, _], _ => rfl)⟩
  have D__law_name : Has P w K mg base "_law_name" 2 ["_law_purse_here"] (spName) := ⟨_, fd17, ok_name D__law_draw F17 m_range, k__law_name, F17.kp, (FunD.bindsN (ps := ["_law_purse_here"]) F17 fun _ _ _ _ _ _ us hl => match us, hl with | [_], _ => rfl)⟩
  have D__law_names : Has P w K mg base "_law_names" 3 ["_law_purse_here"] (spNames) := ⟨_, fd18, ok_names D__law_draw D__law_name F18 m_range m_tuple, k__law_names, F18.kp, (FunD.bindsN (ps := ["_law_purse_here"]) F18 fun _ _ _ _ _ _ us hl => match us, hl with | [_], _ => rfl)⟩
  have D__law_rule : Has P w K mg base "_law_rule" 2 ["_law_purse_here", "_law_names_here"] (spRule K) := ⟨_, fd19, ok_rule D__law_draw F19 m_range m_tuple m_len, k__law_rule, F19.kp, (FunD.bindsN (ps := ["_law_purse_here", "_law_names_here"]) F19 fun _ _ _ _ _ _ us hl => match us, hl with | [_, _], _ => rfl)⟩
  have D__law_rules : Has P w K mg base "_law_rules" 3 ["_law_purse_here", "_law_names_here", "_law_most"] (spRules K) := ⟨_, fd20, ok_rules D__law_draw D__law_rule F20 m_range m_tuple, k__law_rules, F20.kp, (FunD.bindsN (ps := ["_law_purse_here", "_law_names_here", "_law_most"]) F20 fun _ _ _ _ _ _ us hl => match us, hl with | [_, _, _], _ => rfl)⟩
  have D_text_of : Has P w K mg base "text_of" 1 ["kinds", "recipes"] (spText K) := ⟨_, fd7, ok_text_of F7, k_text_of, F7.kp, (FunD.bindsN (ps := ["kinds", "recipes"]) F7 fun _ _ _ _ _ _ us hl => match us, hl with | [_, _], _ => rfl)⟩
  have D__law_fault : HasC P w K mg base "_law_fault" 1 ["_law_e"] (spFaultC [8, 9] (CxZ K)) := ⟨_, fd14, ok_fault c F14 m_isinstance m_ValueError m_LookupError m_ArithmeticError, k__law_fault, F14.kp, (FunD.bindsN (ps := ["_law_e"]) F14 fun _ _ _ _ _ _ us hl => match us, hl with | [_], _ => rfl)⟩
  have D__law_kept : HasC P w K mg base "_law_kept" 1 ["_law_e", "_law_slot"] (spKeptC [8, 9] (CxZ K)) := ⟨_, fd15, ok_kept c F15, k__law_kept, F15.kp, (FunD.bindsN (ps := ["_law_e", "_law_slot"]) F15 fun _ _ _ _ _ _ us hl => match us, hl with | [_, _], _ => rfl)⟩
  have D_is_integer : Has P w K mg base "is_integer" 1 ["value"] (spIsIntD K) := ⟨_, fd0, ok_is_integer m_isinstance m_int m_bool F0, k_is_integer, F0.kp, (FunD.bindsN (ps := ["value"]) F0 fun _ _ _ _ _ _ us hl => match us, hl with | [_], _ => rfl)⟩
  have D_is_between : Has P w K mg base "is_between" 2 ["value", "low", "high"] (spBtwD K) := ⟨_, fd1, ok_is_between D_is_integer F1, k_is_between, F1.kp, (FunD.bindsN (ps := ["value", "low", "high"]) F1 fun _ _ _ _ _ _ us hl => match us, hl with | [_, _, _], _ => rfl)⟩
  have D_is_name : Has P w K mg base "is_name" 1 ["value"] (spIsNameD K) := ⟨_, fd2, ok_is_name m_isinstance m_str m_len m_all g_LONGEST_NAME g_LETTERS g_DIGITS F2, k_is_name, F2.kp, (FunD.bindsN (ps := ["value"]) F2 fun _ _ _ _ _ _ us hl => match us, hl with | [_], _ => rfl)⟩
  have D_is_recipe : Has P w K mg base "is_recipe" 3 ["value", "kinds"] (spIsRecD K) := ⟨_, fd4, ok_is_recipe m_isinstance m_tuple m_len m_all g_MOST_OWN g_MOST_PARTS D_is_between F4, k_is_recipe, F4.kp, (FunD.bindsN (ps := ["value", "kinds"]) F4 fun _ _ _ _ _ _ us hl => match us, hl with | [_, _], _ => rfl)⟩
  have D_check_kinds : HasE P w K mg base "check_kinds" 3 ["kinds"] (spChkKD K (CxZ K 8)) := ⟨_, fd5, ok_check_kinds c (by decide) m_isinstance m_tuple m_enumerate g_MOST_KINDS D_is_name F5, k_check_kinds, F5.kp, (FunD.bindsN (ps := ["kinds"]) F5 fun _ _ _ _ _ _ us hl => match us, hl with | [_], _ => rfl)⟩
  have D_check_recipes : HasE P w K mg base "check_recipes" 4 ["recipes", "kinds"] (spChkRD K (CxZ K 9)) := ⟨_, fd6, ok_check_recipes c (by decide) m_isinstance m_tuple m_enumerate g_MOST_RECIPES D_is_recipe F6, k_check_recipes, F6.kp, (FunD.bindsN (ps := ["recipes", "kinds"]) F6 fun _ _ _ _ _ _ us hl => match us, hl with | [_, _], _ => rfl)⟩
  have cC : CatC K (He.ga K "Catalogue") := ⟨cls_Catalogue, n_Catalogue_all_kinds, n_Catalogue_all_recipes, n_Catalogue_words, He.eqO_ok c1, He.eqO_ok c2, of_decide_eq_true c3, of_decide_eq_true c4, of_decide_eq_true c5⟩
  obtain ⟨da, va, ba⟩ := FunD.binds1 (ps := ["self", "kinds", "recipes"]) F34 3 1 (List.cons_ne_nil _ _) rfl fun T kV doc pm an cdv ct us its h1 h2 => match us, its, h1, h2 with | [_, _, _], [_], _, _ => ⟨_, rfl, rfl⟩
  obtain rfl : da = [] := by cases va; rfl
  obtain ⟨db, vb, bb⟩ := FunD.binds1 (ps := ["self", "kinds", "recipes"]) F34 2 0 (List.cons_ne_nil _ _) rfl fun T kV doc pm an cdv ct us its h1 h2 => match us, its, h1, h2 with | [_, _], [_], _, _ => ⟨_, rfl, rfl⟩
  obtain ⟨dk, kb⟩ := FunD.kbindsD (ps := ["self", "kinds", "recipes"]) F34 1 ["recipes", "kinds"] (fun us its ws => us ++ ws.reverse) (List.cons_ne_nil _ _) (fun r _ z => r.append (vals_rev z)) fun T kV doc pm an cdv ct us its ws h1 h2 h3 => match us, its, ws, h1, h2, h3 with | [_], [_], [_, _], _, _, _ => ⟨_, rfl, rfl⟩
  have M : CatM P w K mg base (He.ga K "Catalogue") (CxZ K 8) (CxZ K 9) := ⟨⟨_, fd34, He.dflAt ("Catalogue", some "__init__") 0 K, db, mk_Catalogue, ok_Cat_init cC D_check_kinds D_check_recipes D_text_of F34, ba, bb, vb, tupE_ok c0, kb⟩, k_Catalogue, cC⟩
  have RR : ReprRule P w K mg base 2 (rReprOwn (He.ga K "Catalogue") (spCatRepr K (He.ga K "Catalogue"))) := fun Y e1 e2 e3 e4 e5 cm r => by
    subst e1 e2 e3 e4 e5
    exact call_reprOwn (n := 1) (ok_Cat_repr cC m_len F35) ⟨t_Catalogue___repr__.1, t_Catalogue___repr__.2⟩ (FunD.bindsN (ps := ["self"]) F35 fun _ _ _ _ _ _ us hl => match us, hl with | [_], _ => rfl) r.in1
  have G0 : Caught P w K mg base [8, 9] (CxZ K) (He.ga K "WrongValue") (He.ga K "WrongName") (He.ga K "NoAnswer") := ⟨c, D__law_fault, D__law_kept, sys, m_repr, _, fd16, F16, k__law_caught⟩
  have D__law_is_name : Has P w K mg base "_law_is_name" 1 ["_law_value"] (spIsNameD K) := ⟨_, fd21, ok_lname m_isinstance m_str m_len m_all F21, k__law_is_name, F21.kp, (FunD.bindsN (ps := ["_law_value"]) F21 fun _ _ _ _ _ _ us hl => match us, hl with | [_], _ => rfl)⟩
  have D__law_names_due : HasG P w K mg base "_law_names_due" 2 ["_law_value"] (spNamesDue K) := ⟨_, fd22, ok_ndue sys m_repr m_range m_isinstance m_tuple m_len D__law_is_name F22, k__law_names_due, F22.kp, (FunD.bindsN (ps := ["_law_value"]) F22 fun _ _ _ _ _ _ us hl => match us, hl with | [_], _ => rfl)⟩
  have D__law_is_rule : Has P w K mg base "_law_is_rule" 1 ["_law_value", "_law_names_here"] (spIsRecD K) := ⟨_, fd23, ok_lrule m_isinstance m_tuple m_int m_bool m_len m_all F23, k__law_is_rule, F23.kp, (FunD.bindsN (ps := ["_law_value", "_law_names_here"]) F23 fun _ _ _ _ _ _ us hl => match us, hl with | [_, _], _ => rfl)⟩
  have D__law_rules_due : HasG P w K mg base "_law_rules_due" 2 ["_law_value", "_law_names_here"] (spRulesDue K) := ⟨_, fd24, ok_rdue sys m_repr m_range m_isinstance m_tuple m_len D__law_is_rule F24, k__law_rules_due, F24.kp, (FunD.bindsN (ps := ["_law_value", "_law_names_here"]) F24 fun _ _ _ _ _ _ us hl => match us, hl with | [_, _], _ => rfl)⟩
  have D__law_odd_name : Has P w K mg base "_law_odd_name" 3 ["_law_purse_here", "_law_names_here"] (spOdd K) := ⟨_, fd25, ok_oname D__law_draw D__law_name m_len F25, k__law_odd_name, F25.kp, (FunD.bindsN (ps := ["_law_purse_here", "_law_names_here"]) F25 fun _ _ _ _ _ _ us hl => match us, hl with | [_, _], _ => rfl)⟩
  have D__law_bent_names : Has P w K mg base "_law_bent_names" 4 ["_law_purse_here", "_law_names_here"] (spBentN K) := ⟨_, fd26, ok_bnames D__law_draw D__law_odd_name D__law_names m_len m_list F26, k__law_bent_names, F26.kp, (FunD.bindsN (ps := ["_law_purse_here", "_law_names_here"]) F26 fun _ _ _ _ _ _ us hl => match us, hl with | [_, _], _ => rfl)⟩
  have D__law_odd_rule : Has P w K mg base "_law_odd_rule" 4 ["_law_purse_here", "_law_names_here"] (spOddR K) := ⟨_, fd27, ok_orule D__law_draw D__law_rule D__law_odd_name m_len m_list m_str F27, k__law_odd_rule, F27.kp, (FunD.bindsN (ps := ["_law_purse_here", "_law_names_here"]) F27 fun _ _ _ _ _ _ us hl => match us, hl with | [_, _], _ => rfl)⟩
  have D__law_bent_rules : Has P w K mg base "_law_bent_rules" 5 ["_law_purse_here", "_law_names_here"] (spBentR K) := ⟨_, fd28, ok_brules D__law_draw D__law_odd_rule D__law_rules m_len m_list F28, k__law_bent_rules, F28.kp, (FunD.bindsN (ps := ["_law_purse_here", "_law_names_here"]) F28 fun _ _ _ _ _ _ us hl => match us, hl with | [_, _], _ => rfl)⟩
  have D__law_told_right : Has P w K mg base "_law_told_right" 1 ["_law_told", "_law_due"] (spToldR K) := ⟨_, fd29, ok_told F29, k__law_told_right, F29.kp, (FunD.bindsN (ps := ["_law_told", "_law_due"]) F29 fun _ _ _ _ _ _ us hl => match us, hl with | [_, _], _ => rfl)⟩
  have huR : ∀ p ∈ T K, p.1 = (ctZ K (He.ga K "_law_right")).2 → p.2 = qR := fun p hp e => by
    simp only [T, List.mem_cons, List.not_mem_nil, or_false] at hp
    rcases hp with rfl | rfl
    · rfl
    · exact absurd e.symm dne
  have huL : ∀ p ∈ T K, p.1 = (ctZ K (He.ga K "law")).2 → p.2 = qL := fun p hp e => by
    simp only [T, List.mem_cons, List.not_mem_nil, or_false] at hp
    rcases hp with rfl | rfl
    · exact absurd e dne
    · rfl
  have D__law_right : HasG P w K mg base "_law_right" 9 ["_law_purse_here"] (spRight (T K)) := ⟨_, fd30, ok_right (Cc := He.ga K "Catalogue") G0 RR M (by decide) (by decide) D__law_names D__law_bent_names D__law_bent_rules D__law_names_due D__law_rules_due D__law_told_right m_range (TB _ List.mem_cons_self) List.mem_cons_self huR F30, k__law_right, F30.kp, (FunD.bindsN (ps := ["_law_purse_here"]) F30 fun _ _ _ _ _ _ us hl => match us, hl with | [_], _ => rfl)⟩
  exact ok_law (Cc := He.ga K "Catalogue") G0 RR M (by decide) (by decide) D__law_seed D__law_purse D__law_right m_len m_all m_range m_max m_min (TB _ (List.mem_cons_of_mem _ List.mem_cons_self)) (List.mem_cons_of_mem _ List.mem_cons_self) huL F31
end
end K17
open PySem PySem.W PySem.Calls PyProof.Rows
theorem PySem.Challenge.cw_sealedweights_k17_catalogues_refused_holds : PySem.Challenge.rw_sealedweights_k17_catalogues_refused.Holds := by
  w_on; o_law
  refine HandSHeadRun.head_any (r := K17.R) (q := view K17.R.prog [64]) (H := K17.hk) (ob := K17.ob) (M := 20000) (loose := K17.names) (d := HandSHeadRun.topDef K17.R.prog 64) (kwd := []) K17.ob_eq
    (by kernel_rfl) (fun s => by kernel_rfl) K17.run (by kernel_rfl) (by kernel_rfl) (by kernel_rfl) (by rfl) (by first | assumption | decide +kernel) (by decide +kernel) ⟨rfl, rfl, rfl, rfl, rfl, by decide +kernel⟩ ?hw ?hc
  case hw => w_witness2
  case hc =>
    refine SwX.walk_ofT (l := PySem.Challenge.rw_sealedweights_k17_catalogues_refused) (n := 63) (k := 10) (x := "_law_script") (CX := L2.CX0) rfl (by decide) (by kernel_rfl) ⟨rfl, by decide, by decide⟩ ?F (fun _ _ _ _ z => z)
    intro w mg fa h Y G hmg0
    obtain ⟨K, KX, c⟩ := Y
    have hmg : mg ("law" : PySem.Str) = some (.ref fa) := by
      have e : (HandSHeadRun.topDef K17.R.prog 64).name = ("law" : PySem.Str) := by kernel_rfl
      rw [← e]
      exact hmg0
    exact K17.facts (P := (PySem.Challenge.rw_sealedweights_k17_catalogues_refused).prog) (w := w) KX G hmg c
