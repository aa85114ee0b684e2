import PyProof.Rows.All
import Wide.All
import OpenK.AllK
import Wide.FinOn
import HandS.ForMost
import HandS.ExcInit
import HandS.ExcIs
import HandS.MakeKw
import KE.KExcIs
import HandS.IsInst
import HandS.ExcOwn
import HandS.ExcValue
import PyProof.EqAt
import PyProof.EqKinds
import PyProof.ReprRoads
import HandS.Deep
import HandS.Defaults
import HandS.Evl
import HandS.Exc
import HandS.Head0
import HandS.Head1
import HandS.Head2
import HandS.HeadHook1
import HandS.HeadHook2
import HandS.WideBits
import PyProof.ReprLen
import PyProof.FitsInt
import PyProof.InstNe
import OpenK.KMeth
import OpenK.KOps
import KE.KCallOwn
import HandS.OwnEq
import KE.GoesEnum
import HandS.More
import HandS.ClsMeth
import HandS.CallLocal
import HandS.FStr
import PyProof.P3In
import HandS.TupAny
import HandS.RaiseMore
import HandS.Codes
import HandS.JoinGen
import HandS.Walk
import HandS.Star
import PyProof.Conv_bool
import KE.KRevSl
import HandS.Style
import HandS.HeadNt
import PySem.Challenge.RW_sealedweights_k20_whole_catalogues_recip
import HandS.Conv
import KE.KStateDown
import HandS.HeadEnd
set_option Elab.async false
set_option linter.all false
set_option maxRecDepth 100000
set_option maxHeartbeats 4000000
/-! own exceptions made by a call with keywords, over any of the built-in bases -/
namespace SwX
open PySem PySem.W
/-- C is a class of the text whose bases end in a built-in exception's -/
structure Born (h : Heap) (C : Addr) (newId : String) (bm : List Value) : Prop where
  ex : ∃ nm q N bs hd sn sub ab col dd k0 k1 k2 k3 k5, h.get? C = some (excClassObj nm q C N bs bm hd sn sub ab col dd k0 k1 k2 k3 k5 newId)
local macro_rules | `(tactic| walk_at "sw ask") => `(tactic| repeat (first
  | refine wpAny_loadPart_at ‹_› ?_
  | (refine wpAny_isSubtype_exc ‹_› ?_; first | rw [show List.contains (_ :: _) _ = true from ‹_›] | rw [show List.contains (_ :: _) _ = false from ‹_›])
  | refine wpAny_staticBase_exc ‹_› ?_
  | refine wpAny_madeBy_exc ‹_› ?_
  | simp only [bne_self_eq_false, Bool.false_eq_true, if_false]
  | wp_step))
local macro_rules | `(tactic| walk_at "sw ask1") => `(tactic| first
  | refine wpAny_loadPart_at ‹_› ?_
  | (refine wpAny_isSubtype_exc ‹_› ?_; first | rw [show List.contains (_ :: _) _ = true from ‹_›] | rw [show List.contains (_ :: _) _ = false from ‹_›])
  | wp_step)
section
variable {prog : Program} {w : World} {A : Around} {R : Result → Shared → Prop} {E : Value → Shared → Prop} {h : Heap} {g : Array GenState} {d : Drawn} {t : Nat} {os : OsState}
variable {C fI : Addr} {bm bmB : List Value} {B newId initId : String} {pos : List Value} {kw : List (Str × Value)}
/-- what of the bases is asked -/
structure Line (bm bmB : List Value) (B : String) : Prop where
  own : ∀ C : Addr, (Value.ref C :: bm).contains (.type B) = true
  noA : ∀ C : Addr, (Value.ref C :: bm).contains (.type "AttributeError") = false
  noN : ∀ C : Addr, (Value.ref C :: bm).contains (.type "NameError") = false
theorem line_of (F : ExcBaseFacts B newId initId bmB) (same : ∀ T : String, bm.contains (.type T) = bmB.contains (.type T)) : Line bm bmB B :=
  ⟨fun C => by rw [List.contains_cons, same, F.hasB]; exact Bool.or_true _, fun C => by rw [List.contains_cons, same, F.noAttr]; rfl, fun C => by rw [List.contains_cons, same, F.noName]; rfl⟩
/-- the two objects that a call lays: the arguments' tuple, the exception -/
abbrev laid2 (h : Heap) (C : Addr) (pos : List Value) : Heap := (h.push (kdv_tup pos)).push (PySem.HandSPX.excO C h.objs.size)
theorem look_new (F : ExcBaseFacts B newId initId bmB) (l : Line bm bmB B) (c : Born h C newId bm) {Q : Unit → Shared → Prop} (q : Q () ⟨h, g, d, t, os⟩) :
    wpAny (model prog w) A (checkBuiltinCall newId ⟨.ref C :: pos, kw⟩) Q E ⟨h, g, d, t, os⟩ := by
  obtain ⟨nm, qn, N, bs, hd, sn, sub, ab, col, dd, k0, k1, k2, k3, k5, hC⟩ := c.ex
  have own := l.own C
  have hs := F.noStar
  simp only [checkBuiltinCall, F.newKind, F.newSplit, F.newRow]
  walk_at "sw ask"
  exact q

/-- BaseException.__new__: keywords are not asked -/
theorem run_new (F : ExcBaseFacts B newId initId bmB) (l : Line bm bmB B) (c : Born h C newId bm) (hz : pos.length ≤ sizeLine) (q : R (.ok (.ret (.ref (h.objs.size + 1)))) ⟨laid2 h C pos, g, d, t, os⟩) :
    codeAny (model prog w) A (.builtin newId ⟨.ref C :: pos, kw⟩) R ⟨h, g, d, t, os⟩ := by
  obtain ⟨nm, qn, N, bs, hd, sn, sub, ab, col, dd, k0, k1, k2, k3, k5, hC⟩ := c.ex
  have e1 := l.own C
  have e2 := l.noA C
  have e3 := l.noN C
  have e4 := F.ends
  refine codeAny_builtinAt F.entry ?_
  unfold Builtin.«BaseException.__new__»
  refine PySem.wpAt_bind ?_
  show PySem.wpAt _ _ _ (stack >>= _) _ _ _
  refine PySem.wpAt_bind (wpAt_stack fun p below => PySem.wpAt_of_wpAny ?_)
  wp_walk
  refine PySem.wpAt_of_wpAny ?_
  rw [F.owner]
  repeat (first | with_reducible refine wpAny_madeHere_exc F.canon hC ?_ | walk_at "sw ask1")
  show R _ _
  rw [Heap.size_push]
  exact q

/-- a call of the class: the arguments' tuple and the exception are laid, __init__ runs -/
theorem run_class (F : ExcBaseFacts B newId initId bmB) (l : Line bm bmB B) (c : Born h C newId bm) (hz : pos.length ≤ sizeLine) (hi : Looks (model prog w) h (typeLookup (.ref C) "__init__") (some (.ref fI)))
    (hb : ∀ self, Looks (model prog w) h (bindSpecial (.ref fI) self) (.ref fI, [self]))
    (q : codeAny (model prog w) (A.under (.builtin "type.__call__" ⟨.ref C :: pos, kw⟩)) (.call (.ref fI) ⟨.ref (h.objs.size + 1) :: pos, kw⟩) (InitBack (h.objs.size + 1) R) ⟨laid2 h C pos, g, d, t, os⟩) :
    codeAny (model prog w) A (.call (.ref C) ⟨pos, kw⟩) R ⟨h, g, d, t, os⟩ := by
  obtain ⟨nm, qn, N, bs, hd, sn, sub, ab, col, dd, k0, k1, k2, k3, k5, hC⟩ := id c.ex
  have up : ∀ b o, h.get? b = some o → (laid2 h C pos).get? b = some o := fun b o z => Heap.get?_push_of_some _ (Heap.get?_push_of_some _ z)
  have hC' := up _ _ hC
  have it : (laid2 h C pos).get? (h.objs.size + 1) = some (PySem.HandSPX.excO C h.objs.size) := by heap_get
  have self : (Value.ref C :: bm).contains (.ref C) = true := by simp
  have isT : Looks (model prog w) h (isInstance (.ref C) (.type "type")) true := fun A' Q' E' s' k z => by
    have hC1 := k _ _ hC
    have sub1 := tc_sub
    obtain ⟨h1, g1, d1, t1, os1⟩ := s'
    unfold isInstance
    repeat (first | assumption | with_reducible refine wpAny_loadPart_at hC1 ?_ | wp_step)
  have i1 := hi.keeps up
  have b1 := (hb (.ref (h.objs.size + 1))).keeps up
  have c1 := tc_lookup
  have c2 := tc_bind (.ref C)
  have ty : (⟨h, g, d, t, os⟩ : Shared).TypeIs (.ref C) "type" := ⟨_, hC, rfl⟩
  refine codeAny_of_tree ?_
  show wpAny _ _ (callAny (.ref C) _) _ _ _
  repeat (any_goals (first | assumption | with_reducible refine wpAny_loadPart_at hC ?_ | wp_step))
  refine And.intro rfl ?_
  refine codeAny_call_builtin_at (Code.quiet_builtin _ (by decide +kernel)) entry_typeCall (check_slot tc_kind tc_split isT (tc_args _ _ _) ?_)
  unfold Builtin.«type.__call__»
  repeat (first | with_reducible refine wpAny_loadPart_at hC ?_ | with_reducible refine wpAny_madeBy_exc hC ?_ | wp_step)
  refine codeAny_call_builtin_code (Code.quiet_builtin _ F.quiet) (look_new F l c (run_new F l c hz ?_))
  show wpAny _ _ _ _ _ _
  unfold isInstance
  repeat (first | with_reducible refine wpAny_loadPart_at it ?_ | wp_step)
  show wpAny _ _ (isSubtype (.ref C) (.ref C)) _ _ _
  refine wpAny_isSubtype_exc hC' ?_
  rw [self]
  repeat (first | with_reducible refine wpAny_loadPart_at it ?_ | wp_step)
  show wpAny _ _ (typeLookup (.ref C) "__init__") _ _ _
  refine i1.at (wpAny_holding (wpAny_bind (b1.at ?_)))
  refine wpAny_bind (wpAny_call (codeAny_mono q fun r s' z => ?_))
  cases r with
  | error e => exact z
  | ok f =>
    cases f with
    | ret v =>
      obtain ⟨rfl, z⟩ := z
      first | exact wpAny_pure (wpAny_pure z) | (wp_walk; exact z)
    | next => exact z
    | brk => exact z
    | cont => exact z
end
end SwX
set_option Elab.async false
set_option linter.all false
set_option maxRecDepth 100000
set_option maxHeartbeats 4000000
/-! own exceptions as values: made, their fields stored and read, isinstance; over any of the built-in bases -/
namespace SwX
open PySem PySem.Spec PyProof.Rows L2
/-- a built-in base: its facts at calls and at stores -/
structure Base (B newId initId : String) (bmB : List Value) : Prop where
  call : ExcBaseFacts B newId initId bmB
  sto : StoreFacts B bmB "object.__setattr__" "object"
/-- what the written part says of an own exception class over one of them -/
structure Oex (K : PySem.W.Frag) (C : Addr) : Prop where
  base : ∃ B newId initId bmB, Base B newId initId bmB ∧ PySem.W.excOver K C bmB = true ∧
    ∃ nm q N bs bm hd sn sub ab col dd k0 k1 k2 k3 k5, K.lookup C = some (excClassObj nm q C N bs bm hd sn sub ab col dd k0 k1 k2 k3 k5 newId) ∧ PySem.W.excTail bmB bm = true
  set : PySem.W.findIn K (.ref C) "__setattr__" = some (some (.builtin "object.__setattr__"))
  get : PySem.W.findIn K (.ref C) "__getattribute__" = some (some (.builtin "BaseException.__getattribute__"))
  miss : PySem.W.findIn K (.ref C) "__getattr__" = some none
  exc : PySem.W.subIn K (.ref C) (.type "BaseException") = some true
  dct : PySem.W.hasDictIn K C = true
  cl : PySem.W.findIn K (.ref C) "__class__" = some (some (.builtin "object.__class__"))
  clg : PySem.W.specialIn K (.builtin "object.__class__") "__get__" = some (some (.builtin "getset_descriptor.__get__"))
  clt : PySem.W.takesIn K (.builtin "object.__class__") = some true
  top : PySem.W.mroIn K C (.type "object") = some true
  kp : PySem.W.keepIn K (.ref C) = true
/-- a field's name that the class has not -/
structure Free (K : PySem.W.Frag) (C : Addr) (f : Str) : Prop where
  no : PySem.W.findIn K (.ref C) f = some none
  tk : PySem.W.takerIn K C f = some none
section
variable {prog : Program} {w : World} {A : Around} {R : Result → Shared → Prop} {hp : Heap} {g : Array GenState} {d : Drawn} {t : Nat} {os : OsState}
open PySem.W Builtin Builtin.ObjectAttr in
/-- the first field of an exception: its dict is laid -/
theorem put_first {K : Frag} {f : Str} {tk : Tok} {v : Value} {x C t1 : Addr} (T : Oex K C) (no : Free K C f) (X : K.In hp) (hx : hp.get? x = some (PySem.HandSPX.excO C t1))
    (q : ∀ h' tk' dx, (∀ b o, b ≠ x → hp.get? b = some o → h'.get? b = some o) → hp.objs.size ≤ dx → dx ≠ x → h'.get? x = some { PySem.HandSPX.excO C t1 with dict := some dx } → h'.Ns1 dx (fun y => if y = f then some v else none) → R (.ok (.ret .none)) ⟨h', g, d, tk', os⟩) :
    codeAny (model prog w) A (.call (.builtin "object.__setattr__") ⟨[.ref x, .str f tk, v], []⟩) R ⟨hp, g, d, t, os⟩ := by
  obtain ⟨B, newId, initId, bmB, base, over, _⟩ := T.base
  obtain ⟨cd, hcd, hdc⟩ := any_some T.dct
  have cls : Looks (model prog w) hp (classData C) cd := looks_clsIn X hcd
  have far : x ≠ hp.objs.size := Nat.ne_of_lt (Heap.lt_size hx)
  refine osa_openX (s := ⟨hp, g, d, t, os⟩) (ox := PySem.HandSPX.excO C t1) (od := none) (r := none) base.sto X ⟨hx, rfl, rfl, trivial⟩ over no.tk fun b => ?_
  obtain ⟨nm, bs, mro, ns, qn, hasD, sn, sb, ab, col, del⟩ := cd
  dsimp only at hdc
  subst hdc
  show wpAny _ _ (storeInOwnDict _ _ _ _ _ _) _ _ _
  unfold storeInOwnDict ownDictForStores
  repeat (first | with_reducible refine PySem.HandSPX.store_in_new ?_ ?_ | with_reducible refine wpAny_loadPart_at hx ?_ | with_reducible refine cls.at ?_ | wp_step)
  · refine ⟨_, #[], _, (Heap.get?_update_ne _ _ _ _ (Ne.symm far)).trans (Heap.get?_push_at rfl rfl), rfl, ?_, fun _ => rfl⟩
    intro e he
    simp at he
  · intro h' tk' hn hs
    have old : ∀ {b : Addr} {o : Obj}, b ≠ x → hp.get? b = some o → h'.get? b = some o := fun {b o} ne ho => by
      rw [hs.2 b (Nat.ne_of_lt (Heap.lt_size ho)), Heap.get?_update_ne _ _ _ _ ne]
      exact Heap.get?_push_of_some _ ho
    refine q h' tk' _ (fun b o => old) (Nat.le_refl _) (Ne.symm far) ?_ hn
    rw [hs.2 x far, Heap.get?_update_self _ (Heap.get?_push_of_some _ hx) rfl]
open PySem.W Builtin Builtin.ObjectAttr in
/-- a further field -/
theorem put_next {K : Frag} {f : Str} {tk : Tok} {v : Value} {x C t1 dx : Addr} {m0 : Str → Option Value} {nl : List Str} (T : Oex K C) (no : Free K C f) (X : K.In hp) (hx : hp.get? x = some { PySem.HandSPX.excO C t1 with dict := some dx })
    (hns : hp.Ns1 dx m0) (hw : Within m0 nl) (hz : nl.length ≤ 1000) (q : ∀ h' tk', (∀ b o, b ≠ dx → hp.get? b = some o → h'.get? b = some o) → h'.Ns1 dx (fun y => if y = f then some v else m0 y) → R (.ok (.ret .none)) ⟨h', g, d, tk', os⟩) :
    codeAny (model prog w) A (.call (.builtin "object.__setattr__") ⟨[.ref x, .str f tk, v], []⟩) R ⟨hp, g, d, t, os⟩ := by
  obtain ⟨B, newId, initId, bmB, base, over, _⟩ := T.base
  obtain ⟨cd, hcd, hdc⟩ := any_some T.dct
  have cls : Looks (model prog w) hp (classData C) cd := looks_clsIn X hcd
  obtain ⟨oD, _, _, hoD, _, _⟩ := hns.count hw
  refine osa_openX (s := ⟨hp, g, d, t, os⟩) (ox := { PySem.HandSPX.excO C t1 with dict := some dx }) (od := some oD) (r := none) base.sto X ⟨hx, rfl, rfl, hoD⟩ over no.tk fun b => ?_
  obtain ⟨nm, bs, mro, ns, qn, hasD, sn, sb, ab, col, del⟩ := cd
  dsimp only at hdc
  subst hdc
  show wpAny _ _ (storeInOwnDict _ _ _ _ _ _) _ _ _
  unfold storeInOwnDict ownDictForStores
  repeat (first | with_reducible refine PySem.OEX.store_in_old hns hw hz ?_ | with_reducible refine wpAny_loadPart_at hx ?_ | with_reducible refine cls.at ?_ | wp_step)
  exact fun h' tk' hn hs => q h' tk' (fun b o ne ho => (hs.2 b ne).trans ho) hn
end
/-- the exception at a: of the class at C, its fields fs (its dict is not made while there is none) -/
def ExAt (H : Hp) (a C : Addr) (fs : List (Str × V)) : Prop := (H a = some (exo a C none) ∧ fs = []) ∨ ∃ d, H a = some (exo a C (some d)) ∧ H d = some (exd d fs)
section
variable {X : Cx} {pins : List (Addr × Obj)} {σ : L2.St} {H : Hp} {s : Shared} {a C d : Addr} {f : Str} {y v : V} {u : Value} {fs : List (Str × V)}
theorem ex_at_none (I : Inv X pins σ H s) (e : H a = some (exo a C none)) : ∃ t1, s.heap.get? a = some (PySem.HandSPX.excO C t1) := exo_at I.hok e
theorem ex_at_some (I : Inv X pins σ H s) (e : H a = some (exo a C (some d))) : ∃ t1, s.heap.get? a = some { PySem.HandSPX.excO C t1 with dict := some d } := exo_at I.hok e
theorem no_own {b c : Addr} {o : HO} (e : H b = some o) (h : H c = some (.own b)) (n : o ≠ .own b) : c ≠ b := fun z => n (Option.some.inj (e.symm.trans (z ▸ h)))
/-- what is tracked as something else stands elsewhere -/
theorem apart {b c : Addr} {o o' : HO} (e : H b = some o) (h : H c = some o') (n : o ≠ o') : c ≠ b := fun z => n (Option.some.inj (e.symm.trans (z ▸ h)))
theorem gone_apart {b c : Addr} {o : HO} (e : H b = some o) (h : H c = none) : c ≠ b := fun z => by rw [z, e] at h; cases h
/-- x.f = u, the first field of the exception at x -/
theorem set_first {A : Around} {E : Value → Shared → Prop} {Q : Unit → Shared → Prop} (T : Oex X.K C) (no : Free X.K C f) (I : Inv X pins σ H s) (e : H a = some (exo a C none)) (r : RelV y u)
    (k : ∀ d s', H d = none → d ≠ a → Inv X pins σ (upd (upd H d (exd d [(f, y)])) a (exo a C (some d))) s' → Q () s') : wpAny (model X.prog X.w) A (setAttr (.ref a) f u) Q E s := by
  obtain ⟨t1, ho⟩ := ex_at_none I e
  obtain ⟨hp, g, dr, t, os⟩ := s
  refine PySem.W.set_plain I.kIn (od := none) ⟨ho, rfl, rfl, trivial⟩ T.set (put_first T no I.kIn ho fun h' tk' d old dn dne hx hn => ?_)
  have fresh : H d = none := I.hok.fresh dn
  have far : ∀ {b : Addr} {o : Obj}, hp.get? b = some o → b ≠ d := fun z => Nat.ne_of_lt (Nat.lt_of_lt_of_le (Heap.lt_size z) dn)
  have same : ∀ {b : Addr} {o : HO}, H b = some o → exo a C none ≠ o → upd (upd H d (exd d [(f, y)])) a (exo a C (some d)) b = some o := fun {b o} z n => by
    rw [upd_ne (apart e z n), upd_ne (ne_of_none z fresh)]
    exact z
  have un : Un X.fs [] H (upd (upd H d (exd d [(f, y)])) a (exo a C (some d))) hp h' :=
    ⟨fun b o z n _ _ => old b o (gone_apart e n) z, fun b o z n _ _ => ⟨o.slots, old b o (gone_apart e n) z⟩, fun b o z n _ => by rw [upd_ne (gone_apart e n), upd_ne (far z)]; exact n,
      fun b o z _ => if hb : b = a then ⟨_, hb ▸ hx⟩ else ⟨o, old b o hb z⟩, fun b xs z => same z exo_tup, fun b o w z => same z exo_frz, fun b ps z => ⟨#[], by rw [same z exo_tbl]; simp⟩⟩
  refine k d _ fresh dne (I.un (t' := tk') un fun b o z => ?_)
  by_cases hb : b = a
  · subst hb
    rw [upd_same] at z
    cases z
    exact exo_ok hx
  rw [upd_ne hb] at z
  by_cases hd : b = d
  · subst hd
    rw [upd_same] at z
    cases z
    exact exd_ok hn (relO_put (fs := []) r fun _ => True.intro)
  rw [upd_ne hd] at z
  refine (I.hok b o z).stay (fun c w hc z' => old c w ?_ z') (fun c hc => same hc exo_own) (fun c xs hc => same hc exo_tup)
  rcases hc with hc | hc
  · exact hc ▸ hb
  · exact apart e hc exo_own
/-- a further field -/
theorem set_next {A : Around} {E : Value → Shared → Prop} {Q : Unit → Shared → Prop} (T : Oex X.K C) (no : Free X.K C f) (I : Inv X pins σ H s) (e : H a = some (exo a C (some d))) (ed : H d = some (exd d fs)) (hl : fs.length ≤ 900) (r : RelV y u)
    (k : ∀ s', Inv X pins σ (upd H d (exd d ((f, y) :: fs))) s' → Q () s') : wpAny (model X.prog X.w) A (setAttr (.ref a) f u) Q E s := by
  obtain ⟨t1, ho⟩ := ex_at_some I e
  obtain ⟨mA, hns, rel⟩ := exd_at I.hok ed
  obtain ⟨hp, g, dr, t, os⟩ := s
  obtain ⟨oD, _, _, hoD, _, _⟩ := hns.count (within_of rel)
  refine PySem.W.set_plain I.kIn (od := some oD) ⟨ho, rfl, rfl, hoD⟩ T.set (put_next T no I.kIn ho hns (within_of rel) (by rw [List.length_map]; omega) fun h' tk' old hn => ?_)
  have there : ∃ o, h'.get? d = some o := let ⟨o, _, _, z, _⟩ := hn; ⟨o, z⟩
  exact k _ (I.write (t' := tk') (x := d) (e := d) (by rw [ed]; exact True.intro) (.inl rfl) old there (exd_ok hn (relO_put r rel)))
/-- such an exception as the library's rules see it -/
theorem ExAt.seen (I : Inv X pins σ H s) (h : ExAt H a C fs) : ∃ ox od, PySem.W.InstAt s.heap a ox C od ∧ ∀ f v, fs.lookup f = some v → ∃ o u, od = some o ∧ PySem.W.lookIn f o = some (some u) ∧ RelV v u := by
  rcases h with ⟨e, rfl⟩ | ⟨d, e, ed⟩
  · obtain ⟨t1, ho⟩ := ex_at_none I e
    exact ⟨_, none, ⟨ho, rfl, rfl, trivial⟩, fun f v z => by cases z⟩
  · obtain ⟨t1, ho⟩ := ex_at_some I e
    obtain ⟨mA, hns, rel⟩ := exd_at I.hok ed
    obtain ⟨o, hod, look⟩ := lookIn_ns hns
    refine ⟨_, some o, ⟨ho, rfl, rfl, hod⟩, fun f v z => ?_⟩
    have ro := rel f
    rw [z] at ro
    cases q : mA f with
    | none => rw [q] at ro; exact ro.elim
    | some u => rw [q] at ro; exact ⟨o, u, rfl, (look f).trans (congrArg some q), ro⟩
end
/-- x.f = e, x an exception that is being made -/
def tSetX (K : PySem.W.Frag) (f : Str) (to te : TE) : TS := fun D σ H => te σ H fun y H1 => to σ H1 fun x H2 => ∃ a C : Addr, x = .ref a ∧ Oex K C ∧ Free K C f ∧
  ((H2 a = some (exo a C none) ∧ ∀ d, H2 d = none → d ≠ a → D.nx σ (upd (upd H2 d (exd d [(f, y)])) a (exo a C (some d)))) ∨
    ∃ (d : Addr) (fs : List (Str × V)), H2 a = some (exo a C (some d)) ∧ H2 d = some (exd d fs) ∧ fs.length ≤ 900 ∧ D.nx σ (upd H2 d (exd d ((f, y) :: fs))))
theorem ps_setX {X : Cx} {o e : Expr} {to te : TE} {f : Str} {p' pos : Pos} (ho : PE X o to) (he : PE X e te) (hs : swapsWith e (some (.Attribute o f p')) pos.line X.env = pure false := by rfl) : PS X (.Assign [.Attribute o f p'] e pos) (tSetX X.K f to te) := by
  refine ⟨fun pins s σ H D I h => plainObj_wpAny_Assign_Attribute (thn (he.run pins s σ H _ I h) fun v s1 hv => ?_) hs⟩
  obtain ⟨y, H1, I1, r1, q1⟩ := hv
  refine thn (ho.run pins s1 σ H1 _ I1 q1) fun u s2 hu => ?_
  obtain ⟨x, H2, I2, r2, a, C, rfl, T, no, q⟩ := hu
  obtain rfl : u = Value.ref a := r2
  rcases q with ⟨e2, q⟩ | ⟨d, fs, e2, ed, hl, q⟩
  · exact set_first T no I2 e2 r1 fun d s' n ne J => ⟨σ, _, J, q d n ne⟩
  · exact set_next T no I2 e2 ed hl r1 fun s' J => ⟨σ, _, J, q⟩
/-- isinstance(e, c), e such an exception -/
def rIsX (K : PySem.W.Frag) : List V → Hp → VK → Prop := fun xs H Q => ∃ (a C : Addr) (fs : List (Str × V)) (c : V) (u : Value) (b : Bool), xs = [.ref a, c] ∧ ExAt H a C fs ∧ Oex K C ∧ ClsV c u ∧ PySem.W.kitOne K (.ref C) u = some b ∧ Q (.bl b) H
theorem call_isX {X : Cx} : CallR X (.builtin "isinstance") (rIsX X.K) := fun pins s σ H xs us Q I r h => by
  obtain ⟨a, C, fs, c, u, b, rfl, at_, T, k, ans, q⟩ := h
  obtain ⟨u1, u2, rfl, r1, r2⟩ := vals2 r
  obtain rfl : u1 = Value.ref a := r1
  obtain rfl : u2 = u := k.eq r2
  obtain ⟨ox, od, J, _⟩ := at_.seen I
  obtain ⟨cd, hcd, _⟩ := PySem.W.any_some T.dct
  exact PySem.W.kia_one (PySem.W.kitx_exc (by rw [hcd]; rfl) T.get T.miss T.exc T.cl T.clg T.clt T.top) I.kIn J ans (fun z => nomatch z) fun tk => ⟨.bl b, H, I.tok tk, rfl, q⟩
/-- e.f, e such an exception -/
def tFldX (K : PySem.W.Frag) (f : Str) (te : TE) : TE := fun σ H Q => te σ H fun x H1 => ∃ (a C : Addr) (fs : List (Str × V)) (v : V), x = .ref a ∧ ExAt H1 a C fs ∧ Oex K C ∧ Free K C f ∧ fs.lookup f = some v ∧ Q v H1
theorem pe_fldX {X : Cx} {e : Expr} {te : TE} {f : Str} {pos : Pos} (he : PE X e te) (hb : attributeBase e f X.env (eval e X.env) = eval e X.env := by rfl) : PE X (.Attribute e f pos) (tFldX X.K f te) := by
  refine ⟨fun pins s σ H Q I h => attr_of hb (thn (he.run pins s σ H _ I h) fun u s1 hu => ?_)⟩
  obtain ⟨x, H1, I1, rx, a, C, fs, v, rfl, at_, T, no, hl, q⟩ := hu
  obtain rfl : u = Value.ref a := rx
  obtain ⟨ox, od, J, z⟩ := at_.seen I1
  obtain ⟨o, w, rfl, hw, rw'⟩ := z f v hl
  exact PySem.HandSPX.exc_get I1.kIn J T.get T.miss T.exc (PySem.W.findObj_own T.dct no.no rfl hw) (handed_of rw') ⟨v, H1, I1.tok _, rw', q⟩
/-- C(e, .., k = v, ..) as a value: a new exception, then __init__, which keeps sp -/
def tNewX (C : Addr) (n m : Nat) (sp : Sp) (gV : List V → List V → List V) (E : XK) (t tk : TA) : TE := fun σ H Q => t σ H fun vs H1 => tk σ H1 fun zs H2 => (vs.length = n ∧ zs.length = m ∧ n ≤ 1000) ∧
  ∀ a, H2 a = none → sp (gV (.ref a :: vs) zs) (upd H2 a (exo a C none)) (fun v H3 => v = .non ∧ Q (.ref a) H3) E
/-- the class at C has the def at fI for its __init__ -/
structure Ini (K : PySem.W.Frag) (C fI : Addr) : Prop where
  at_ : PySem.W.findIn K (.ref C) "__init__" = some (some (.ref fI))
  ty : PySem.W.typeIn K (.ref fI) = some (.type "function")
section
variable {X : Cx} {CX : CXT} {k n : Nat} {fI C : Addr} {fd : FuncData} {ps ks : List Str} {sp : Sp} {E : XK} {x : Str} {p pos : Pos} {e : Expr} {es : List Expr} {kws : List Keyword} {t tk : TA} {g : List Value → List Value → List Value} {gV : List V → List V → List V}
theorem new_runs {pins : List (Addr × Obj)} {σ : L2.St} {H : Hp} {s : Shared} {Q : VK} {us ws : List Value} {vs zs : List V} (T : Oex X.K C) (i : Ini X.K C fI) (F : FnOk X.prog X.w X.K X.mg X.base CX k fI fd ps sp) (room : Room (k + 1) X.A) (b : KBn X.K fd ps (n + 1) ks g gV) (out : Passes CX X E)
    (I : Inv X pins σ H s) (r : Vals vs us) (rz : Vals zs ws) (len : vs.length = n ∧ zs.length = ks.length ∧ n ≤ 1000) (h : ∀ a, H a = none → sp (gV (.ref a :: vs) zs) (upd H a (exo a C none)) (fun v H2 => v = .non ∧ Q (.ref a) H2) E) :
    wpAny (model X.prog X.w) X.A (call (.ref C) us (ks.zip ws)) (EP X pins σ Q) X.xe s := by
  obtain ⟨B, newId, initId, bmB, base, _, nm, qn, N, bs, bm, hd, sn, sub, ab, col, dd, k0, k1, k2, k3, k5, hC, tail⟩ := T.base
  obtain ⟨l1, l2, l3⟩ := len
  obtain ⟨hp, gs, dr, tok, os⟩ := s
  have new : H (hp.objs.size + 1) = none := I.hok.fresh (Nat.le_succ _)
  have there : (laid2 hp C us).get? (hp.objs.size + 1) = some (PySem.HandSPX.excO C hp.objs.size) := by heap_get
  have J : Inv X pins σ (upd H (hp.objs.size + 1) (exo (hp.objs.size + 1) C none)) ⟨laid2 hp C us, gs, dr, tok, os⟩ := I.laid (t' := tok) (fun _ _ z => Heap.get?_push_of_some _ (Heap.get?_push_of_some _ z)) (Nat.le_succ _) (exo_ok there)
  have ra : Vals (V.ref (hp.objs.size + 1) :: vs) (Value.ref (hp.objs.size + 1) :: us) := .cons rfl r
  have small : us.length ≤ sizeLine := by have := r.length; rw [sizeLine_eq]; omega
  refine wpAny_call (run_class base.call (line_of base.call fun Y => PySem.W.excTail_contains Y bm tail) ⟨_, _, _, _, _, _, _, _, _, _, _, _, _, _, _, I.kIn _ _ hC⟩ small (PySem.W.looks_findIn I.kIn i.at_) (fun self => PySem.W.bind_fn I.kIn self i.ty) ?_)
  refine codeAny_mono (F.run _ X.stack _ _ ⟨Value.ref (hp.objs.size + 1) :: us, ks.zip ws⟩ (g (Value.ref (hp.objs.size + 1) :: us) ws) _ _ E (room.make C us (ks.zip ws)) (J.env0.make C us (ks.zip ws)) (b.to _ (_ :: us) ws J.kIn ?_ ?_) (b.rel ra rz) (h _ new)) fun r s' z => ?_
  · exact ra.length.symm.trans (congrArg Nat.succ l1)
  · exact rz.length.symm.trans l2
  cases r with
  | error er => exact out pins σ _ _ er s' J z
  | ok fl =>
    cases fl with
    | ret u =>
      obtain ⟨v, H', I3, rv, ev, q3⟩ := J.after z
      subst ev
      exact ⟨rv, V.ref (hp.objs.size + 1), H', I3, rfl, q3⟩
    | next => exact z.elim
    | brk => exact z.elim
    | cont => exact z.elim
theorem pe_newX (T : Oex X.K C) (i : Ini X.K C fI) (F : FnOk X.prog X.w X.K X.mg X.base CX k fI fd ps sp) (room : Room (k + 1) X.A) (hg : Gl X x) (hm : X.mg x = some (.ref C)) (b : KBn X.K fd ps (n + 1) [] g gV) (out : Passes CX X E) (ha : PA X (e :: es) t)
    (hdb : (x == ("__debug__" : Str)) = false := by decide) (he : starEach (e :: es) X.env = (false, eval e X.env) :: starEach es X.env := by rfl) (hpl : (backTo pos (starEach es X.env)).any (·.1) = false := by rfl) :
    PE X (.Call (.Name x p) (e :: es) [] pos) (tNewX C n 0 sp gV E t tNil) := by
  refine ⟨fun pins s σ H Q I h => wpAny_Call_Name_kw (ld_glob I hg hm ?_ hdb)⟩
  refine PySem.W.callWith_K (h₀ := X.base) I.ok.mod.kin T.kp (thn (ha.run pos pins s σ H _ I h) fun us s1 hu => ?_) he hpl
  obtain ⟨vs, H1, I1, r, len, q⟩ := hu
  exact ⟨I1.kIn, new_runs (ks := []) (ws := []) (zs := []) T i F room b out I1 r .nil len q⟩
theorem pe_newXK (T : Oex X.K C) (i : Ini X.K C fI) (F : FnOk X.prog X.w X.K X.mg X.base CX k fI fd ps sp) (room : Room (k + 1) X.A) (hg : Gl X x) (hm : X.mg x = some (.ref C)) (b : KBn X.K fd ps 1 ks g gV) (out : Passes CX X E) (hkw : PK X kws tk)
    (hall : (backToKw pos (keywordEach kws X.env)).all (·.1.isSome) = true := by rfl) (hks : (backToKw pos (keywordEach kws X.env)).filterMap (·.1) = ks := by rfl) (hdb : (x == ("__debug__" : Str)) = false := by decide)
    (hpl : ((backTo pos (starEach [] X.env)).any (·.1) || (backToKw pos (keywordEach kws X.env)).any (·.1.isNone)) = false := by rfl) : PE X (.Call (.Name x p) [] kws pos) (tNewX C 0 ks.length sp gV E tNil tk) := by
  refine ⟨fun pins s σ H Q I h => wpAny_Call_Name_kw (ld_glob I hg hm ?_ hdb)⟩
  refine PySem.W.callWith_KW0 (h₀ := X.base) I.ok.mod.kin T.kp hall (thn (hkw.run pos pins s σ H _ I h) fun ws s2 hu => ?_) hpl
  obtain ⟨zs, H2, I2, rz, len, q2⟩ := hu
  rw [hks]
  exact ⟨I2.kIn, new_runs (us := []) (vs := []) T i F room b out I2 .nil rz len q2⟩
/-- C(), C without an __init__ of its own -/
theorem pe_newX0 {C : Addr} {bmB : List Value} {B newId initId : String} {x : Str} {p pos : Pos} (F : ExcBaseFacts B newId initId bmB) (ok : PySem.W.excIn X.K C bmB newId = true) (hm : X.mg x = some (.ref C)) (kC : PySem.W.keepIn X.K (.ref C) = true) (hg : Gl X x) (hdb : (x == ("__debug__" : Str)) = false := by decide) :
    PE X (.Call (.Name x p) [] [] pos) (fun _ H Q => ∀ a, H a = none → Q (.ref a) (upd H a (exo a C none))) := by
  refine ⟨fun pins s σ H Q I h => wpAny_Call_Name_kw (ld_glob I hg hm (PySem.W.callWith_K0 I.kIn kC ?_) hdb)⟩
  obtain ⟨bm, N, nm, qn, bs, hdct, sn, sub, ab, col, dd, k0, k1, k2, k3, k5, mN, hC, hN, hni, same⟩ := exc_obj I.kIn ok
  refine wpAny_call_exc_subT F same hC hN hni (fun h' a new => ?_) (Nat.zero_le _)
  have free : H a = none := I.hok.gone new.new
  obtain ⟨t1, ht, _, _⟩ := new.there
  exact ⟨.ref a, _, I.laidN new.keeps new.new free (exo_ok ht), rfl, h a free⟩
end
end SwX
set_option Elab.async false
set_option linter.all false
set_option maxRecDepth 100000
set_option maxHeartbeats 4000000
/-! defs whose frames stand outside of every repr (so that repr tells the whole text), from the law's call on; repr, count over data -/
namespace SwX
open PySem PySem.Spec PyProof.Rows L2
/-- no repr is under way around A -/
def Calm (A : Around) : Prop := A.guards = some []
/-- a def's promise, where no repr is under way -/
structure FnG (P : Program) (w : World) (K : PySem.W.Frag) (mg : Str → Option Value) (base : Heap) (CX : CXT) (k : Nat) (f : Addr) (fd : FuncData) (ps : List Str) (sp : Sp) : Prop where
  len : ∀ vs H Q E, sp vs H Q E → vs.length = ps.length
  run : ∀ (A : Around) (outer : List Env) (s : Shared) (H : Hp) (args : Args) (us : List Value) (vs : List V) (Q : VK) (E : XK), Room k A → Calm A → Env0 P w K mg base A outer s H → BindsTo s fd args (ps.zip us) → Vals vs us → sp vs H Q E →
    codeAny (model P w) A (.call (.ref f) args) (CR CX outer P w H s Q E) s
section
variable {P : Program} {w : World} {K : PySem.W.Frag} {mg : Str → Option Value} {base : Heap} {CX : CXT} {k : Nat} {f : Addr} {fd : FuncData} {N ps : List Str} {sp : Sp}
theorem FnOk.calm (F : FnOk P w K mg base CX k f fd ps sp) : FnG P w K mg base CX k f fd ps sp := ⟨F.len, fun A outer s H args us vs Q E hr _ => F.run A outer s H args us vs Q E hr⟩
variable {x qual : Str} {params : Arguments} {body : List Stmt} {scope : Scope} {dvs : List V} {kws : List (Str × V)}
/-- the rule of such a def -/
theorem FunD.okG (F : FunD K x qual params body scope dvs kws f fd) (S : FnScope N ps scope) (len : ∀ vs H Q E, sp vs H Q E → vs.length = ps.length)
    (hb : ∀ (cdv : Value) (A : Around) (outer : List Env) (s : Shared) (H : Hp) (vs : List V) (Q : VK) (E : XK), Room k (A.deeper (envOfC qual scope s.heap.objs.size f cdv)) → Calm A → sp vs H Q E →
      ∃ t, PSs (cxOf CX P w K mg base N qual scope f cdv A outer s H E) body t ∧ t { nx := fun _ H' => Q .non H', rt := Q } (start N vs) H) : FnG P w K mg base CX (k + 1) f fd ps sp := by
  obtain ⟨oc, od, dV, kV, doc, pm, an, cdv, ct, osl, rfl, lk, hcd, _, _⟩ := F.ex
  refine ⟨len, fun A outer s H args us vs Q E hr calm e0 bind r hsp => ?_⟩
  have base_in : ∀ b o, base.get? b = some o → s.heap.get? b = some o := fun b o z => (e0.bs b o z).1
  have KX : K.In s.heap := e0.mod.kin.keeps base_in
  have par : ∀ y ∈ ps.zip us, scope.names.lookup y.1 = some .local ∨ (scope.names.lookup y.1 = some .cell ∧ ((cellsFrom (s.heap.objs.size + 1) scope.names []).lookup y.1).isSome = true) := fun y hy => by
    cases S.par y.1 (List.of_mem_zip hy).1 with
    | inl q => exact Or.inl q
    | inr q => exact Or.inr ⟨q, PySem.W.cellsFrom_some _ _ _ (Or.inl q)⟩
  refine codeAny_call_function hr.depth (KX _ _ lk) rfl S.co S.gen rfl (PySem.W.codeRec_of KX hcd) (bind _ _ _ _ (wpAny_newFunctionEnv_cells S.kind par fun env he s1 made => ?_))
  subst he
  refine And.intro ((e0.mod.nolimit.keeps base_in).keeps made.toInCall.keep) (codeAny_func ?_)
  obtain ⟨t, ht, hq⟩ := hb cdv A outer s H vs Q E (hr.deeper _) calm hsp
  refine wpAny_mono (ht.run [] s1 (start N vs) H _ (inv_start S hr.hd e0 (len _ _ _ _ hsp) r made) hq) (fun fl s' z => ?_) fun _ _ z => z
  cases fl with
  | ret u =>
    obtain ⟨v, σ', H', J, rv, q⟩ := z
    exact ⟨v, H', J.os, J.bare, J.base, J.hok, rv, q⟩
  | next =>
    obtain ⟨σ', H', J, q⟩ := z
    exact ⟨V.non, H', J.os, J.bare, J.base, J.hok, rfl, q⟩
  | brk =>
    obtain ⟨_, _, _, q⟩ := z
    exact q.elim
  | cont =>
    obtain ⟨_, _, _, q⟩ := z
    exact q.elim
end
/-! ### calls of such defs -/
section
variable {X : Cx} {CX : CXT} {k : Nat} {f : Addr} {fd : FuncData} {ps : List Str} {sp : Sp} {dvs : List V} {ds : List Value} {E : XK} {x : Str} {p pos : Pos} {e : Expr} {es : List Expr} {t : TA}
theorem pe_callG (F : FnG X.prog X.w X.K X.mg X.base CX k f fd ps sp) (hr : Room k X.A) (calm : Calm X.A) (hg : Gl X x) (hm : X.mg x = some (.ref f)) (hk : PySem.W.keepIn X.K (.ref f) = true) (hb : Binds X.K fd ps ds) (hd : Vals dvs ds) (hx : Passes CX X E) (ha : PA X (e :: es) t)
    (hdb : (x == ("__debug__" : Str)) = false := by decide) (he : starEach (e :: es) X.env = (false, eval e X.env) :: starEach es X.env := by rfl) (hpl : (backTo pos (starEach es X.env)).any (·.1) = false := by rfl) :
    PE X (.Call (.Name x p) (e :: es) [] pos) (tCall sp dvs E t) := by
  refine ⟨fun pins s σ H Q I h => wpAny_Call_Name_kw (ld_glob I hg hm ?_ hdb)⟩
  refine PySem.W.callWith_K (h₀ := X.base) I.ok.mod.kin hk (thn (ha.run pos pins s σ H _ I h) fun us s1 hu => ?_) he hpl
  obtain ⟨vs, H1, I1, r, q⟩ := hu
  have all := r.append hd
  refine ⟨I1.kIn, wpAny_call (codeAny_mono (F.run X.A X.stack s1 H1 ⟨us, []⟩ (us ++ ds) (vs ++ dvs) Q E hr calm I1.env0 (hb s1 us I1.kIn ?_) all q) fun res s' z => ?_)⟩
  · rw [← all.length]
    exact F.len _ _ _ _ q
  cases res with
  | error er => exact hx pins σ H1 s1 er s' I1 z
  | ok fl =>
    cases fl with
    | ret u => exact I1.after z
    | next => exact z.elim
    | brk => exact z.elim
    | cont => exact z.elim
end
/-! ### the law's call -/
/-- the abstract heap ahead of the law: the script alone, where it is none of the module's own -/
def scriptH (K : PySem.W.Frag) (a : Addr) (o : Obj) (ns : List Int) : Hp := fun b => if b = a ∧ K.lookup a = none then some (.frz o (.lst (ns.map V.int))) else none
theorem scriptH_some {K : PySem.W.Frag} {a b : Addr} {o : Obj} {ns : List Int} {u : HO} (h : scriptH K a o ns b = some u) : b = a ∧ K.lookup a = none ∧ u = .frz o (.lst (ns.map V.int)) := by
  unfold scriptH at h
  split at h
  · rename_i c
    exact ⟨c.1, c.2, (Option.some.inj h).symm⟩
  · cases h
theorem law_runG {P : Program} {w : World} {K : PySem.W.Frag} {mg mb : Str → Option Value} {CX : CXT} {k : Nat} {fa a : Addr} {fd : FuncData} {x : Str} {sp : Sp} {s1 : Shared} {vs : List Value} {ns : List Int}
    (KX : K.In s1.heap) (gl : s1.heap.Ns mainGlobals mg) (bl : s1.heap.Ns builtinsNs mb) (bb : ∀ x : Str, x ≠ "__name__" → mb x = bootBuiltins x) (lim : s1.heap.NoLimit) (gens : s1.gens = #[])
    (ha : s1.heap.get? a = some { cls := .type "list", data := .seq vs.toArray }) (hi : IntsAre vs ns) (hl : ns.length ≤ sizeLine) (room : Room k callerA)
    (F : ∀ base : Heap, K.In base → base.Ns mainGlobals mg → FnG P w K mg base CX k fa fd [x] sp) (bind : ∀ (s : Shared) (u : Value), BindsTo s fd ⟨[u], []⟩ [(x, u)])
    (hsp : ∀ H : Hp, SqL K H a (ns.map V.int) → sp [.ref a] H (fun v _ => v = .bl true) fun _ _ _ => False) (out : ∀ H e s', CX [] H s1 (fun _ _ _ => False) e s' → False) :
    codeAny (model P w) callerA (.call (.ref fa) ⟨[.ref a], []⟩) (fun r s' => r = .ok (.ret (.bool true)) ∧ OldK s1.heap s'.heap ∧ s'.os = s1.os ∧ AllBare s'.gens) s1 := by
  let o : Obj := { cls := .type "list", data := .seq vs.toArray }
  let H : Hp := scriptH K a o ns
  have rv := vals_ints hi
  have short : (ns.map V.int).length ≤ sizeLine := by rw [List.length_map]; exact hl
  have seen : SqL K H a (ns.map V.int) := by
    cases q : K.lookup a with
    | none => exact Or.inl (Or.inr ⟨o, if_pos ⟨rfl, q⟩⟩)
    | some u =>
      have z := KX a u q
      rw [ha] at z
      cases z
      exact Or.inr ⟨_, vs.toArray, _, q, rfl, rfl, rfl, by rw [List.size_toArray, hi.length]; exact hl, by simpa using rv⟩
  have held : HOk P w H s1.heap := fun b u z => by
    obtain ⟨rfl, _, rfl⟩ := scriptH_some z
    exact ⟨ha, short, vs, _, rv, ha⟩
  -- nothing of the written part and no table of names is tracked
  have part : ∀ b u, K.lookup b = some u → H b = none := fun b u z => by
    cases q : H b with
    | none => rfl
    | some c =>
      obtain ⟨rfl, n, _⟩ := scriptH_some q
      rw [n] at z
      cases z
  have table : ∀ {b : Addr} {m : Str → Option Value}, s1.heap.Ns b m → (hidT s1.heap H).Ns b m := fun {b m} z => by
    obtain ⟨ob, es, ep, e1, e2, rest⟩ := z
    refine ⟨ob, es, ep, hidT_get e1 ?_, e2, rest⟩
    cases q : H b with
    | none => rfl
    | some c =>
      obtain ⟨rfl, _, _⟩ := scriptH_some q
      rw [ha] at e1
      cases e1
      exact nomatch (show Data.seq vs.toArray _ = Data.dict es ep from e2)
  have kin : K.In (hidT s1.heap H) := fun b u z => hidT_get (KX b u z) (part b u z)
  have env : Env0 P w K mg (hidT s1.heap H) callerA [] s1 H := by
    refine ⟨rfl, ⟨kin, table gl, ⟨mb, table bl, bb⟩, ?_⟩, fun b u z => of_hidT z, Nat.le_of_eq (hidT_size _ _), trivial, fun b z => ?_, held, .of_eq gens⟩
    · obtain ⟨mc, h1, h2⟩ := lim
      exact ⟨mc, table h1, h2⟩
    · exact absurd (show b ∈ ([] : List Addr) from z) List.not_mem_nil
  refine codeAny_mono ((F _ kin (table gl)).run callerA [] s1 H ⟨[.ref a], []⟩ [.ref a] [.ref a] _ _ room rfl env (bind s1 (.ref a)) (.cons rfl .nil) (hsp H seen)) fun r s' z => ?_
  cases r with
  | error e => exact (out H e s' z).elim
  | ok fl =>
    cases fl with
    | next => exact z.elim
    | brk => exact z.elim
    | cont => exact z.elim
    | ret u =>
      obtain ⟨v, H', os, bare, un, held', r', rfl⟩ := z
      obtain rfl : u = Value.bool true := r'
      refine ⟨rfl, OldK.of_keep fun b ob e => ?_, os, bare⟩
      cases q : H b with
      | none => exact un.keep b ob e q (fun z => absurd (show b ∈ ([] : List Addr) from z) List.not_mem_nil) (fun z => absurd z List.not_mem_nil)
      | some c =>
        obtain ⟨rfl, _, rfl⟩ := scriptH_some q
        have z1 := (held b _ q).1
        have z2 := (held' b _ (un.frzs b _ _ q)).1
        rw [e] at z1
        cases z1
        exact z2
/-- the end of a law's row over a head by facts: the law's def keeps its promise where no repr is under way -/
theorem walk_ofG {l : PySem.W.OpenLaw} {n k : Nat} {q : Program} {loose : List Str} {XP : (Str → Option Value) → Heap → Prop} {YP : World → Heap → Prop} {d : DefRec} {CX : CXT} {x : Str}
    (hn : l.most = some n) (hn2 : n ≤ sizeLine) (hdf : d.params.defaults = []) (room : Room k callerA)
    (F : ∀ (w : World) (mg : Str → Option Value) (fa : Addr) (h : Heap), YP w h → h.Ns mainGlobals mg → mg d.name = some (.ref fa) →
      ∃ (K : PySem.W.Frag) (fd : FuncData) (sp : Sp), K.In h ∧ (∀ (s : Shared) (u : Value), BindsTo s fd ⟨[u], []⟩ [(x, u)]) ∧
        (∀ (H : Hp) (a : Addr) (ns : List Int), ns.length ≤ n → SqL K H a (ns.map V.int) → sp [.ref a] H (fun v _ => v = .bl true) fun _ _ _ => False) ∧
        ∀ base : Heap, K.In base → base.Ns mainGlobals mg → FnG l.prog w K mg base CX k fa fd [x] sp)
    (out : ∀ (H : Hp) (s : Shared) (e : Value) (s' : Shared), CX [] H s (fun _ _ _ => False) e s' → False) : PySem.W.WalkO q loose XP YP l.row.toRowW d [] (fun f vs => PySem.call f vs) := by
  refine Att.attach_call hn hdf fun w s0 s1 mg mb fa o pm cd doc a vs ns G Y _ _ _ hm hobj hints hlen hg => ?_
  obtain ⟨K, fd, sp, KX, bind, hsp, hF⟩ := F w mg fa _ Y G.T.g hm
  exact law_runG KX G.T.g G.T.b G.T.builtins G.T.nolimit hg hobj hints (Nat.le_trans hlen hn2) room hF bind (fun H z => hsp H a ns hlen z) fun H e s' => out H s1 e s'
end SwX
set_option Elab.async false
set_option linter.all false
set_option maxRecDepth 100000
set_option maxHeartbeats 4000000
/-! data in the abstract heap, dicts with flat keys among it; its repr; counting truths -/
namespace SwX
open PySem PySem.Spec PyProof.Rows L2
def keyD : Key → PyData
  | .inl i => .int i
  | .inr x => .str x
/-- v stands for the data d -/
inductive Da (K : PySem.W.Frag) (H : Hp) : V → PyData → Prop
  | non : Da K H .non .none
  | bl (b : Bool) : Da K H (.bl b) (.bool b)
  | int (i : Int) : Da K H (.int i) (.int i)
  | str (x : Str) : Da K H (.str x) (.str x)
  | lst {a : Addr} {xs : List V} {ds : List PyData} (h : H a = some (.lst xs)) (l : xs.length = ds.length) (each : ∀ (i : Nat) x d, xs[i]? = some x → ds[i]? = some d → Da K H x d) : Da K H (.ref a) (.list ds)
  | tup {a : Addr} {xs : List V} {ds : List PyData} (h : SqT K H a xs) (l : xs.length = ds.length) (each : ∀ (i : Nat) x d, xs[i]? = some x → ds[i]? = some d → Da K H x d) : Da K H (.ref a) (.tuple ds)
  | dic {a : Addr} {kvs : List (Key × V)} {ds : List PyData} (h : H a = some (.dK kvs)) (l : kvs.length = ds.length) (each : ∀ (i : Nat) kv d, kvs[i]? = some kv → ds[i]? = some d → Da K H kv.2 d) :
      Da K H (.ref a) (.dict ((kvs.map fun q => keyD q.1).zip ds))
theorem Da.mono {K : PySem.W.Frag} {H H' : Hp} (e : Evl.Ex H H') {v : V} {d : PyData} (h : Da K H v d) : Da K H' v d := by
  induction h with
  | non => exact .non
  | bl b => exact .bl b
  | int i => exact .int i
  | str x => exact .str x
  | lst h l _ ih => exact .lst (e _ _ h) l ih
  | tup h l _ ih => exact .tup (Evl.ex_t e h) l ih
  | dic h l _ ih => exact .dic (e _ _ h) l ih
/-- what the written part holds of sys.modules -/
def SysIn (K : PySem.W.Frag) : Prop := ∃ o, K.lookup sysModules = some o
section
variable {X : Cx} {pins : List (Addr × Obj)} {σ : L2.St} {H : Hp} {s : Shared}
theorem reads_each {h : Heap} : ∀ {us : List Value} {ds : List PyData}, us.length = ds.length → (∀ (i : Nat) u d, us[i]? = some u → ds[i]? = some d → ∃ as, Reads h u d as ∧ sysModules ∉ as) → ∃ as, ReadsAll h us ds as ∧ sysModules ∉ as
  | [], [], _, _ => ⟨[], .nil, List.not_mem_nil⟩
  | [], _ :: _, l, _ => by cases l
  | _ :: _, [], l, _ => by cases l
  | u :: us, d :: ds, l, k => by
    obtain ⟨as, r, n⟩ := k 0 u d rfl rfl
    obtain ⟨bs, rs, ns⟩ := reads_each (us := us) (ds := ds) (Nat.succ.inj l) fun i u' d' e1 e2 => k (i + 1) u' d' (by simpa using e1) (by simpa using e2)
    exact ⟨as ++ bs, .cons r rs, fun z => (List.mem_append.mp z).elim n ns⟩
/-- the other way: an item of the values is one of what is paired -/
theorem Vals.back : ∀ {xs : List V} {us : List Value} {i : Nat} {u : Value}, Vals xs us → us[i]? = some u → ∃ x, xs[i]? = some x ∧ RelV x u
  | _, _, _, _, .nil, e => by simp at e
  | _, _, 0, _, .cons r _, e => by
    simp at e
    subst e
    exact ⟨_, rfl, r⟩
  | _, _, i + 1, u, .cons _ t, e => by
    obtain ⟨x, e1, r⟩ := Vals.back (i := i) (u := u) t (by simpa using e)
    exact ⟨x, by simpa using e1, r⟩
theorem kv_back : ∀ {kvs : List (Key × V)} {vs : List (Key × Value)}, KV kvs vs → vs.length = kvs.length ∧ vs.map (·.1) = kvs.map (·.1) ∧ ∀ (i : Nat) q, vs[i]? = some q → ∃ p, kvs[i]? = some p ∧ RelV p.2 q.2
  | _, _, .nil => ⟨rfl, rfl, fun i q e => by simp at e⟩
  | _, _, .cons (a := p) (b := q) r t => by
    obtain ⟨l, m, k⟩ := kv_back t
    refine ⟨congrArg Nat.succ l, by rw [List.map_cons, List.map_cons, m, r.1], fun i q' e => ?_⟩
    cases i with
    | zero =>
      simp at e
      subst e
      exact ⟨p, rfl, r.2⟩
    | succ i =>
      obtain ⟨p', e1, r'⟩ := k i q' (by simpa using e)
      exact ⟨p', by simpa using e1, r'⟩
theorem keys_read {h : Heap} {knd : PySem.KeyKind X.prog X.w Key} (hk : ∀ k v, knd.is k v = keyIs k v) : ∀ {es : List DictEntry} {vs : List (Key × Value)}, Pairs knd es vs → ReadsAll h (es.map (·.key)) (vs.map fun q => keyD q.1) [] ∧ es.map (·.val) = vs.map (·.2)
  | _, _, .nil => ⟨.nil, rfl⟩
  | _, _, .cons (e := e) (kv := kv) i v t => by
    obtain ⟨r, m⟩ := keys_read hk t
    refine ⟨?_, by rw [List.map_cons, List.map_cons, m, v]⟩
    rw [hk] at i
    have one : Reads h e.key (keyD kv.1) [] := by
      rcases keyIs_shape i with ⟨j, tk, e1, e2⟩ | ⟨x, tk, e1, e2⟩
      · rw [e1, e2]
        exact .int j tk
      · rw [e1, e2]
        exact .str x tk
    exact ReadsAll.cons (as := []) (bs := []) one r
theorem not_sys (I : Inv X pins σ H s) (S : SysIn X.K) {a : Addr} {o : HO} (h : H a = some o) : sysModules ≠ a := fun e => by
  obtain ⟨ob, z⟩ := S
  have n := (I.bs _ _ (I.ok.mod.kin _ _ z)).2
  rw [e, h] at n
  cases n
theorem Da.reads (I : Inv X pins σ H s) (S : SysIn X.K) {v : V} {d : PyData} (h : Da X.K H v d) : ∀ u, RelV v u → ∃ as, Reads s.heap u d as ∧ sysModules ∉ as := by
  induction h with
  | non => intro u r; cases r; exact ⟨_, .none, List.not_mem_nil⟩
  | bl b => intro u r; cases r; exact ⟨_, .bool b, List.not_mem_nil⟩
  | int i =>
    intro u r
    obtain ⟨t, rfl⟩ := r
    exact ⟨_, .int i t, List.not_mem_nil⟩
  | str x =>
    intro u r
    obtain ⟨t, rfl⟩ := r
    exact ⟨_, .str x t, List.not_mem_nil⟩
  | @lst a xs ds h l _ ih =>
    intro u r
    cases r
    obtain ⟨its, rv, ⟨o, n, ho, hc, _, hd⟩, _⟩ := I.list (Evl.sq_of h)
    obtain ⟨as, ra, na⟩ := reads_each (h := s.heap) (us := its) (ds := ds) (rv.length.symm.trans l) fun i u d e1 e2 => by
      obtain ⟨x, e3, r⟩ := Vals.back rv e1
      exact ih i x d e3 e2 u r
    exact ⟨_, .list ho hc hd ra, fun z => (List.mem_cons.mp z).elim (not_sys I S h) na⟩
  | @tup a xs ds h l _ ih =>
    intro u r
    cases r
    obtain ⟨its, rv, ⟨o, ho, hc, n, hd⟩, _⟩ := I.tuple h
    obtain ⟨as, ra, na⟩ := reads_each (h := s.heap) (us := its) (ds := ds) (rv.length.symm.trans l) fun i u d e1 e2 => by
      obtain ⟨x, e3, r⟩ := Vals.back rv e1
      exact ih i x d e3 e2 u r
    exact ⟨_, .tuple ho hc hd ra, na⟩
  | @dic a kvs ds h l _ ih =>
    intro u r
    cases r
    have ok : ObjOk X.prog X.w H s.heap a (.dK kvs) := I.hok a _ h
    obtain ⟨_, _, vs, kv, o, es, ep, ho, hx, hd, _, hp, _⟩ := ok
    obtain ⟨l2, m2, k2⟩ := kv_back kv
    obtain ⟨rk, mv⟩ := keys_read (X := X) (h := s.heap) (mixKind_is X.prog X.w) hp
    have lk : (kvs.map fun q => keyD q.1).length = ds.length := by rw [List.length_map]; exact l
    obtain ⟨as, ra, na⟩ := reads_each (h := s.heap) (us := es.toList.map (·.val)) (ds := ds) (by rw [mv, List.length_map, l2]; exact l) fun i u d e1 e2 => by
      rw [mv, List.getElem?_map] at e1
      cases q : vs[i]? with
      | none => rw [q] at e1; cases e1
      | some p =>
        rw [q] at e1
        obtain ⟨p', e3, r⟩ := k2 i p q
        cases e1
        exact ih i p' d e3 e2 p.2 r
    have f1 : ((kvs.map fun q => keyD q.1).zip ds).map (·.1) = vs.map fun q => keyD q.1 := by
      rw [List.map_fst_zip (Nat.le_of_eq lk)]
      have z := congrArg (List.map keyD) m2
      rw [List.map_map, List.map_map] at z
      exact z.symm
    have f2 : ((kvs.map fun q => keyD q.1).zip ds).map (·.2) = ds := List.map_snd_zip (Nat.le_of_eq lk.symm)
    refine ⟨_, .dict (as := []) (bs := as) ho hx.1 hd (by rw [f1]; exact rk) (by rw [f2]; exact ra), fun z => ?_⟩
    rcases List.mem_cons.mp (show sysModules ∈ a :: as from z) with z | z
    · exact not_sys I S h z
    · exact na z
end
/-- repr(x), x a list or a tuple that is data -/
def rRepr (K : PySem.W.Frag) : List V → Hp → VK → Prop := fun xs H Q => ∃ (a : Addr) (d : PyData), xs = [.ref a] ∧ Da K H (.ref a) d ∧ d.showable = true ∧ d.depth ≤ 150 ∧ d.shown.length ≤ sizeLine ∧ Q (.str d.shown) H
theorem call_repr {X : Cx} {k : Nat} (S : SysIn X.K) (calm : Calm X.A) (hr : Room k X.A) : CallR X (.builtin "repr") (rRepr X.K) := fun pins s σ H xs us Q I r h => by
  obtain ⟨a, d, rfl, da, sh, dp, len, q⟩ := h
  obtain ⟨u, rfl, ru⟩ := Vals.one r
  obtain ⟨as, rd, ns⟩ := da.reads I S u ru
  cases ru
  have un := hr.un
  exact repr_of_reads' rd sh (fun _ => ns) calm (by omega) (fun _ _ e => e) (fun h' u tk keep => ⟨.str d.shown, H, I.kept keep, ⟨u, rfl⟩, q⟩) len
/-- xs.count(b), xs a list of truths -/
def rCountB (K : PySem.W.Frag) : V → List V → Hp → VK → Prop := fun x xs H Q => ∃ (p : Addr) (bs : List Bool) (b : Bool), x = .ref p ∧ xs = [.bl b] ∧ SqL K H p (bs.map V.bl) ∧ Q (.int (bs.count b : Nat)) H
theorem bools_of : ∀ {bs : List Bool} {its : List Value}, Vals (bs.map V.bl) its → its = bs.map Value.bool
  | [], _, r => by cases r; rfl
  | b :: bs, _, r => by
    cases r with
    | cons r t => rw [bools_of t, List.map_cons, show _ = Value.bool b from r]
def isB (b : Bool) : Value → Bool
  | .bool c => c == b
  | _ => false
theorem isB_count (b : Bool) : ∀ bs : List Bool, (bs.map Value.bool).countP (isB b) = bs.count b
  | [] => rfl
  | c :: bs => by rw [List.map_cons, List.countP_cons, List.count_cons, isB_count b bs]; rfl
theorem mt_countB {X : Cx} {k : Nat} (hr : Room k X.A) : MtR X "list.count" (rCountB X.K) := fun pins s σ H x xs v us Q I rx rxs h => by
  obtain ⟨p, bs, b, rfl, rfl, hs, q⟩ := h
  cases rx
  obtain ⟨u, rfl, ru⟩ := Vals.one rxs
  obtain rfl : u = Value.bool b := ru
  obtain ⟨its, rv, ⟨⟨cls, dd, data, sl⟩, n, ho, hc, hdn, hd⟩, _⟩ := I.list hs
  simp only at hc hd
  subst hc hd
  have e := bools_of rv
  subst e
  have un := hr.un
  refine call_meets PySem.F.slot_list_count ⟨_, ho, rfl⟩ PySem.F.entry_list_count (PySem.F.args_list_count_2 _ _) (SeqAt.list_countAt p _ n dd sl (.bool b) (isB b)) ⟨ho, fun y hy => ?_, ?_⟩
  · obtain ⟨c, _, rfl⟩ := List.mem_map.mp (show y ∈ bs.map Value.bool by simpa using hy)
    exact SeqAt.eqAt_reads (.bool c) (.bool b) _ _ _ _ [] [] (.bool c) (.bool b) rfl rfl (by show X.A.units + 1 + min _ _ < cLine; simp only [PyData.depth]; omega)
  · refine ⟨.int (bs.count b : Nat), H, I.tok _, ⟨s.toks, ?_⟩, q⟩
    rw [isB_count]
end SwX
set_option Elab.async false
set_option linter.all false
set_option maxRecDepth 100000
set_option maxHeartbeats 4000000
/-! what a head tells of own exception classes, and a Hook with a further look -/
namespace SwX
open PySem PySem.Spec PyProof.Rows L2 He
/-- the bases: 0 ValueError, 1 LookupError, else ArithmeticError -/
def baseN : Nat → String
  | 0 => "ValueError"
  | 1 => "LookupError"
  | _ => "ArithmeticError"
def newN (i : Nat) : String := match i with
  | 0 => "ValueError.__new__"
  | 1 => "LookupError.__new__"
  | _ => "ArithmeticError.__new__"
def mroN (i : Nat) : List Value := [.type (baseN i), .type "Exception", .type "BaseException", .type "object"]
theorem base_of (i : Nat) : ∃ initId, Base (baseN i) (newN i) initId (mroN i) := match i with
  | 0 => ⟨_, PySem.F.excBase_ValueError, PySem.F.store_ValueError⟩
  | 1 => ⟨_, PySem.F.excBase_LookupError, PySem.F.store_LookupError⟩
  | _ + 2 => ⟨_, PySem.F.excBase_ArithmeticError, PySem.F.store_ArithmeticError⟩
def oB (a b : Option Bool) : Bool := decide (a = b)
/-- the class at C is an own exception over base i -/
def oexB (K : PySem.W.Frag) (i : Nat) (C : Addr) : Bool :=
  PySem.W.excOver K C (mroN i) && (PySem.W.excInitIn K C (mroN i) (newN i) && (eqO (PySem.W.findIn K (.ref C) "__setattr__") (some (some (.builtin "object.__setattr__"))) &&
  (eqO (PySem.W.findIn K (.ref C) "__getattribute__") (some (some (.builtin "BaseException.__getattribute__"))) && (eqO (PySem.W.findIn K (.ref C) "__getattr__") (some none) &&
  (oB (PySem.W.subIn K (.ref C) (.type "BaseException")) (some true) && (PySem.W.hasDictIn K C && (eqO (PySem.W.findIn K (.ref C) "__class__") (some (some (.builtin "object.__class__"))) &&
  (eqO (PySem.W.specialIn K (.builtin "object.__class__") "__get__") (some (some (.builtin "getset_descriptor.__get__"))) && (oB (PySem.W.takesIn K (.builtin "object.__class__")) (some true) &&
  (oB (PySem.W.mroIn K C (.type "object")) (some true) && PySem.W.keepIn K (.ref C)))))))))))
theorem born_in {K : PySem.W.Frag} {C : Addr} {bmB : List Value} {newId : String} (q : PySem.W.excInitIn K C bmB newId = true) :
    ∃ nm qn N bs bm hd sn sub ab col dd k0 k1 k2 k3 k5, K.lookup C = some (excClassObj nm qn C N bs bm hd sn sub ab col dd k0 k1 k2 k3 k5 newId) ∧ PySem.W.excTail bmB bm = true := by
  unfold PySem.W.excInitIn at q
  split at q
  · rename_i dd cd sl at_
    obtain ⟨nm, bs, mro, ns, qn, hd, sn, sub, ab, col, del⟩ := cd
    obtain ⟨l⟩ := sl
    cases mro with
    | nil => cases q
    | cons c bm =>
      cases c with
      | ref C' =>
        match l, q with
        | [k0, k1, k2, k3, some (.builtin n), k5], q =>
          have q' : (C' == C && n == newId && !del && PySem.W.excTail bmB bm) = true := q
          simp only [Bool.and_eq_true, beq_iff_eq, Bool.not_eq_true'] at q'
          obtain ⟨⟨⟨rfl, rfl⟩, rfl⟩, tail⟩ := q'
          exact ⟨nm, qn, ns, bs, bm, hd, sn, sub, ab, col, dd, k0, k1, k2, k3, k5, at_, tail⟩
      | _ => cases q
  · cases q
theorem oex_of {K : PySem.W.Frag} {i : Nat} {C : Addr} (h : oexB K i C = true) : Oex K C := by
  simp only [oexB, Bool.and_eq_true, eqO, oB, decide_eq_true_eq] at h
  obtain ⟨over, ini, set, get, miss, exc, dct, cl, clg, clt, top, kp⟩ := h
  obtain ⟨initId, base⟩ := base_of i
  obtain ⟨nm, qn, N, bs, bm, hd, sn, sub, ab, col, dd, k0, k1, k2, k3, k5, at_, tail⟩ := born_in ini
  exact ⟨⟨_, _, initId, _, base, over, nm, qn, N, bs, bm, hd, sn, sub, ab, col, dd, k0, k1, k2, k3, k5, at_, tail⟩, set, get, miss, exc, dct, cl, clg, clt, top, kp⟩
theorem free_of {K : PySem.W.Frag} {C : Addr} {f : Str} (h : PySem.W.findIn K (.ref C) f = some none) : Free K C f := ⟨h, by unfold PySem.W.takerIn; rw [h] <;> rfl⟩
/-- the class at C has the def at fI for its __init__ -/
def iniB (K : PySem.W.Frag) (C : Addr) : Bool := eqO (PySem.W.findIn K (.ref C) "__init__") (some (some (.ref (ma K C "__init__")))) && decide (PySem.W.typeIn K (.ref (ma K C "__init__")) = some (.type "function"))
theorem ini_of {K : PySem.W.Frag} {C : Addr} (h : iniB K C = true) : Ini K C (ma K C "__init__") := by
  simp only [iniB, Bool.and_eq_true, eqO, decide_eq_true_eq] at h
  exact ⟨h.1, h.2⟩
/-! ### a Hook with a further look; sys.modules is among what is seen -/
def asS (g : Addr → Option Obj) (n : Nat) : List Addr := sysModules :: asD g n
abbrev AlS : Type := Bool × AlD
def obsS (fa : List Fa) (fn : List DefD) (chk : PySem.W.Frag → Bool) (K : PySem.W.Frag) : AlS := ((K.lookup sysModules).isSome && chk K, obsD fa fn K)
def obsSG (n : Nat) (fa : List Fa) (fn : List DefD) (chk : PySem.W.Frag → Bool) (g : Addr → Option Obj) : AlS := obsS fa fn chk (frG g (asS g n))
def hookS (n : Nat) (fa : List Fa) (fn : List DefD) (chk : PySem.W.Frag → Bool) : PySem.W.Hook where
  α := AlS
  obs := fun s => obsSG n fa fn chk s.heap.get?
  val := fun _ => (true, valD fn)
  says := fun _ h => ∃ K : PySem.W.Frag, K.In h ∧ obsS fa fn chk K = (true, valD fn)
  of := fun _ _ e => ⟨_, frG_in, e⟩
  keeps := fun _ _ _ ⟨K, hK, c⟩ k => ⟨K, PySem.W.Frag.In.keeps hK k, c⟩
theorem obsSG_eq {n : Nat} {fa : List Fa} {fn : List DefD} {chk : PySem.W.Frag → Bool} {g : Addr → Option Obj} {s : Shared} (h : ∀ a, g a = s.heap.get? a) : obsSG n fa fn chk g = (hookS n fa fn chk).obs s := by
  rw [show g = s.heap.get? from funext h] <;> rfl
theorem saysS {fa : List Fa} {fn : List DefD} {chk : PySem.W.Frag → Bool} {K : PySem.W.Frag} (h : obsS fa fn chk K = (true, valD fn)) : SysIn K ∧ chk K = true ∧ SaysD fa fn K := by
  have h1 : ((K.lookup sysModules).isSome && chk K) = true := congrArg (fun z : AlS => z.1) h
  have h2 : obsD fa fn K = valD fn := congrArg (fun z : AlS => z.2) h
  obtain ⟨a, b⟩ := Bool.and_eq_true_iff.mp h1
  exact ⟨Option.isSome_iff_exists.mp a, b, h2⟩
end SwX
set_option Elab.async false
set_option linter.all false
set_option maxRecDepth 100000
set_option maxHeartbeats 4000000
/-! a def by its name; joined rules, so that a body's term needs no types; heaps that grow -/
namespace SwX
open PySem PySem.Spec PyProof.Rows L2
/-- the module's name x is a def that keeps sp -/
structure Has (P : Program) (w : World) (K : PySem.W.Frag) (mg : Str → Option Value) (base : Heap) (x : Str) (k : Nat) (ps : List Str) (sp : Sp) : Prop where
  ex : ∃ f fd, FnOk P w K mg base CX0 k f fd ps sp ∧ mg x = some (.ref f) ∧ PySem.W.keepIn K (.ref f) = true ∧ Binds K fd ps []
/-- the same where no repr is under way -/
structure HasG (P : Program) (w : World) (K : PySem.W.Frag) (mg : Str → Option Value) (base : Heap) (x : Str) (k : Nat) (ps : List Str) (sp : Sp) : Prop where
  ex : ∃ f fd, FnG P w K mg base CX0 k f fd ps sp ∧ mg x = some (.ref f) ∧ PySem.W.keepIn K (.ref f) = true ∧ Binds K fd ps []
/-- the module's name x is an own exception class, its __init__ keeps sp; m keywords ks -/
structure HasX (P : Program) (w : World) (K : PySem.W.Frag) (mg : Str → Option Value) (base : Heap) (x : Str) (k : Nat) (C : Addr) (n : Nat) (ks : List Str) (g : {α : Type} → List α → List α → List α) (sp : Sp) : Prop where
  ex : ∃ fI fd ps, Oex K C ∧ Ini K C fI ∧ FnOk P w K mg base CX0 k fI fd ps sp ∧ mg x = some (.ref C) ∧ KBn K fd ps (n + 1) [] (fun us _ => us) (fun vs _ => vs) ∧ KBn K fd ps 1 ks (fun us ws => g us ws) (fun vs zs => g vs zs)
section
variable {X : Cx} {k n : Nat} {C : Addr} {ps ks : List Str} {sp : Sp} {x : Str} {p pos : Pos} {e : Expr} {es : List Expr} {kws : List Keyword} {t tk : TA} {gg : {α : Type} → List α → List α → List α}
theorem pe_has (D : Has X.prog X.w X.K X.mg X.base x k ps sp) (hr : Room k X.A) (ha : PA X (e :: es) t) (hg : Gl X x := by rfl) (hdb : (x == ("__debug__" : Str)) = false := by decide)
    (he : starEach (e :: es) X.env = (false, eval e X.env) :: starEach es X.env := by rfl) (hpl : (backTo pos (starEach es X.env)).any (·.1) = false := by rfl) : PE X (.Call (.Name x p) (e :: es) [] pos) (tCall sp [] E0 t) := by
  obtain ⟨f, fd, F, hm, hk, hb⟩ := D.ex
  exact pe_call F hr hg hm hk hb .nil pass0 ha hdb he hpl
theorem pe_hasG (D : HasG X.prog X.w X.K X.mg X.base x k ps sp) (hr : Room k X.A) (calm : Calm X.A) (ha : PA X (e :: es) t) (hg : Gl X x := by rfl) (hdb : (x == ("__debug__" : Str)) = false := by decide)
    (he : starEach (e :: es) X.env = (false, eval e X.env) :: starEach es X.env := by rfl) (hpl : (backTo pos (starEach es X.env)).any (·.1) = false := by rfl) : PE X (.Call (.Name x p) (e :: es) [] pos) (tCall sp [] E0 t) := by
  obtain ⟨f, fd, F, hm, hk, hb⟩ := D.ex
  exact pe_callG F hr calm hg hm hk hb .nil pass0 ha hdb he hpl
theorem pe_newH (D : HasX X.prog X.w X.K X.mg X.base x k C n ks gg sp) (hr : Room (k + 1) X.A) (ha : PA X (e :: es) t) (hg : Gl X x := by rfl) (hdb : (x == ("__debug__" : Str)) = false := by decide)
    (he : starEach (e :: es) X.env = (false, eval e X.env) :: starEach es X.env := by rfl) (hpl : (backTo pos (starEach es X.env)).any (·.1) = false := by rfl) :
    PE X (.Call (.Name x p) (e :: es) [] pos) (tNewX C n 0 sp (fun vs _ => vs) E0 t tNil) := by
  obtain ⟨fI, fd, ps, T, i, F, hm, b, _⟩ := D.ex
  exact pe_newX T i F hr hg hm b pass0 ha hdb he hpl
theorem pe_newHK (D : HasX X.prog X.w X.K X.mg X.base x k C n ks gg sp) (hr : Room (k + 1) X.A) (hkw : PK X kws tk) (hg : Gl X x := by rfl)
    (hall : (backToKw pos (keywordEach kws X.env)).all (·.1.isSome) = true := by rfl) (hks : (backToKw pos (keywordEach kws X.env)).filterMap (·.1) = ks := by rfl) (hdb : (x == ("__debug__" : Str)) = false := by decide)
    (hpl : ((backTo pos (starEach [] X.env)).any (·.1) || (backToKw pos (keywordEach kws X.env)).any (·.1.isNone)) = false := by rfl) : PE X (.Call (.Name x p) [] kws pos) (tNewX C 0 ks.length sp (fun vs zs => gg vs zs) E0 tNil tk) := by
  obtain ⟨fI, fd, ps, T, i, F, hm, _, b⟩ := D.ex
  exact pe_newXK T i F hr hg hm b pass0 hkw hall hks hdb hpl
end
/-! ### joined rules -/
section
variable {X : Cx} {k : Nat}
theorem op_join {f : Value → Value → Sem Value} {r r' : R2} (h : OpR X f r) (h' : OpR X f r') : OpR X f (fun x y H Q => r x y H Q ∨ r' x y H Q) := fun pins s σ H x y v u Q I rx ry z => z.elim (h pins s σ H x y v u Q I rx ry) (h' pins s σ H x y v u Q I rx ry)
theorem ix_join {r r' : R2} (h : IxR X r) (h' : IxR X r') : IxR X (fun x y H Q => r x y H Q ∨ r' x y H Q) := fun a b pins s σ H x y v u Q I rx ry z hs => z.elim (fun z => h a b pins s σ H x y v u Q I rx ry z hs) fun z => h' a b pins s σ H x y v u Q I rx ry z hs
theorem cr_join {f : Value} {r r' : List V → Hp → VK → Prop} (h : CallR X f r) (h' : CallR X f r') : CallR X f (fun xs H Q => r xs H Q ∨ r' xs H Q) := fun pins s σ H xs us Q I rx z => z.elim (h pins s σ H xs us Q I rx) (h' pins s σ H xs us Q I rx)
/-- a + b: ints | lists -/
theorem op_addA : OpR X (binaryOp .Add) (fun x y H Q => rI0 (fun i j => .int (i + j)) x y H Q ∨ rCat x y H Q) := op_join op_add op_cat
/-- a == b: flat things | data -/
theorem op_eqA (hr : Room k X.A) : OpR X (compareOp .Eq) (fun x y H Q => rEq x y H Q ∨ rEqD X.K x y H Q) := op_join op_eq (op_eqD (by have := hr.un; omega))
theorem op_neA (hr : Room k X.A) : OpR X (compareOp .NotEq) (fun x y H Q => rNe x y H Q ∨ rNeD X.K x y H Q) := op_join op_ne (op_neD (by have := hr.un; omega))
/-- a[i]: lists | tuples -/
theorem ix_A : IxR X (fun x y H Q => rIxL X.K x y H Q ∨ rIxT X.K x y H Q) := ix_join ix_list ix_tup
end
/-! ### heaps that grow -/
open Evl (Ex)
theorem ex_new {H : Hp} {p : Addr} {o : HO} (h : H p = none) : Ex H (upd H p o) := Evl.Ex.new h
theorem ExAt.mono {H H' : Hp} {a C : Addr} {fs : List (Str × V)} (e : Ex H H') (h : ExAt H a C fs) : ExAt H' a C fs := by
  rcases h with ⟨h1, h2⟩ | ⟨d, h1, h2⟩
  · exact .inl ⟨e _ _ h1, h2⟩
  · exact .inr ⟨d, e _ _ h1, e _ _ h2⟩
/-- te gives, over any greater heap, a value of which P holds in a greater heap still -/
def Yi (te : TE) (σ : L2.St) (H : Hp) (P : V → Hp → Prop) : Prop := ∀ H1, Ex H H1 → ∀ Q : VK, (∀ v H2, Ex H1 H2 → P v H2 → Q v H2) → te σ H1 Q
/-- the same of an argument list -/
def Ys (ta : TA) (σ : L2.St) (H : Hp) (P : List V → Hp → Prop) : Prop := ∀ H1, Ex H H1 → ∀ Q : List V → Hp → Prop, (∀ vs H2, Ex H1 H2 → P vs H2 → Q vs H2) → ta σ H1 Q
section
variable {σ : L2.St} {H : Hp} {te : TE} {ta : TA} {P : V → Hp → Prop} {R : List V → Hp → Prop}
theorem Yi.mono {H' : Hp} (h : Yi te σ H P) (e : Ex H H') : Yi te σ H' P := fun H1 e1 => h H1 (e.trans e1)
theorem Ys.mono {H' : Hp} (h : Ys ta σ H R) (e : Ex H H') : Ys ta σ H' R := fun H1 e1 => h H1 (e.trans e1)
/-- items of a list, one predicate each -/
theorem ys_nil {α : Type} {F : α → V → Hp → Prop} : Ys tNil σ H fun vs H' => Paired (fun i v => F i v H') [] vs := fun H1 _ Q q => q [] H1 (Evl.Ex.refl H1) .nil
theorem ys_cons {α : Type} {F : α → V → Hp → Prop} {i : α} {is : List α} (mono : ∀ i v H H', Ex H H' → F i v H → F i v H') (h : Yi te σ H (F i)) (t : Ys ta σ H fun vs H' => Paired (fun i v => F i v H') is vs) :
    Ys (tCons te ta) σ H fun vs H' => Paired (fun i v => F i v H') (i :: is) vs := fun H1 e1 Q q =>
  h H1 e1 _ fun v H2 e2 p => t H2 (e1.trans e2) _ fun vs H3 e3 r => q (v :: vs) H3 (e2.trans e3) (.cons (mono i v H2 H3 e3 p) r)
theorem paired_mono {α : Type} {F : α → V → Hp → Prop} {H H' : Hp} (e : Ex H H') (mono : ∀ i v H H', Ex H H' → F i v H → F i v H') : ∀ {is : List α} {vs : List V}, Paired (fun i v => F i v H) is vs → Paired (fun i v => F i v H') is vs
  | _, _, .nil => .nil
  | _, _, .cons h t => .cons (mono _ _ _ _ e h) (paired_mono e mono t)
theorem paired_append {α β : Type} {F : α → β → Prop} : ∀ {is js : List α} {vs ws : List β}, Paired F is vs → Paired F js ws → Paired F (is ++ js) (vs ++ ws)
  | _, _, _, _, .nil, t => t
  | _, _, _, _, .cons h r, t => .cons h (paired_append r t)
theorem paired_get {α β : Type} {F : α → β → Prop} : ∀ {is : List α} {vs : List β} {n : Nat} {i : α}, Paired F is vs → is[n]? = some i → ∃ v, vs[n]? = some v ∧ F i v
  | _, _, n, _, .nil, e => by simp at e
  | _, _, 0, _, .cons h _, e => by
    simp at e
    subst e
    exact ⟨_, rfl, h⟩
  | _, _, n + 1, i, .cons _ t, e => by
    obtain ⟨v, e1, h⟩ := paired_get (n := n) (i := i) t (by simpa using e)
    exact ⟨v, by simpa using e1, h⟩
theorem paired_len {α β : Type} {F : α → β → Prop} {is : List α} {vs : List β} (h : Paired F is vs) : is.length = vs.length := Paired.length h
end
end SwX
set_option Elab.async false
set_option linter.all false
set_option maxRecDepth 100000
set_option maxHeartbeats 4000000
/-! readings of joined rules evaluated; the purse of the laws' draws -/
namespace SwX
open PySem PySem.Spec PyProof.Rows L2 Evl
section
variable {K : PySem.W.Frag} {σ : L2.St} {H : Hp} {x y z v : V} {r r' : R2} {te : TE}
theorem rv_l (h : RV r x y H z) : RV (fun x y H Q => r x y H Q ∨ r' x y H Q) x y H z := fun H1 e Q q => .inl (h H1 e Q q)
theorem rv_r (h : RV r' x y H z) : RV (fun x y H Q => r x y H Q ∨ r' x y H Q) x y H z := fun H1 e Q q => .inr (h H1 e Q q)
theorem rv_add {i j : Int} : RV (fun x y H Q => rI0 (fun i j => .int (i + j)) x y H Q ∨ rCat x y H Q) (.int i) (.int j) H (.int (i + j)) := rv_l rv_I0
theorem rv_at {p : Addr} {xs : List V} {i : Int} (h : SqL K H p xs) (ha : atI xs i = some v) : RV (fun x y H Q => rIxL K x y H Q ∨ rIxT K x y H Q) (.ref p) (.int i) H v := rv_l (rv_ixL h ha)
theorem rv_atT {p : Addr} {xs : List V} {i : Int} (h : SqT K H p xs) (ha : atI xs i = some v) : RV (fun x y H Q => rIxL K x y H Q ∨ rIxT K x y H Q) (.ref p) (.int i) H v := rv_r (rv_ixT h ha)
/-- a statement, then the rest -/
theorem s_seq {t u : TS} {D : Ends} (h : t { D with nx := u D } σ H) : tSeq t u D σ H := h
/-- int(i) -/
def rInt1 : List V → Hp → VK → Prop := fun xs H Q => (∃ i, xs = [.int i] ∧ Q (.int i) H) ∨ ∃ k, xs = [.bl k] ∧ Q (.int (if k then 1 else 0)) H
theorem ev_int1 {i : Int} (h : Ev te σ H (.int i)) : Ev (tCB rInt1 (tCons te tNil)) σ H (.int i) := ev_cb (ea_cons h ea_nil) fun H1 _ _ q => .inl ⟨i, rfl, q H1 (Ex.refl H1)⟩
end
/-- the purse at a: its state, what is left of a great number, its count -/
def Pur (H : Hp) (a : Addr) : Prop := ∃ x y z : Int, H a = some (.lst [.int x, .int y, .int z]) ∧ 0 ≤ x ∧ x < 2147483629 ∧ 0 ≤ y
/-- the heap without what stands at a -/
def less (a : Addr) (H : Hp) : Hp := fun b => if b = a then none else H b
theorem less_at {a : Addr} {H : Hp} : less a H a = none := if_pos rfl
theorem less_ne {a b : Addr} {H : Hp} (h : b ≠ a) : less a H b = H b := if_neg h
theorem less_ex {a : Addr} {H : Hp} : Ex (less a H) H := fun b o e => by
  unfold less at e
  split at e
  · cases e
  · exact e
theorem ex_less {a : Addr} {G H : Hp} (n : G a = none) (e : Ex G H) : Ex G (less a H) := fun b o h => by
  rw [less_ne (fun z => by rw [z, n] at h; cases h)]
  exact e b o h
theorem less_upd {a : Addr} {H H1 : Hp} {o : HO} (e : Ex (less a H) H1) : Ex (less a H) (upd H1 a o) := e.mut less_at
/-- what was known aside of the purse is known still -/
theorem ex_past {a : Addr} {G H H' : Hp} (n : G a = none) (e : Ex G H) (e' : Ex (less a H) H') : Ex G H' := (ex_less n e).trans e'
theorem Pur.keep {a : Addr} {H H' : Hp} (h : Pur H a) (e : Ex H H') : Pur H' a := by
  obtain ⟨x, y, z, q, r⟩ := h
  exact ⟨x, y, z, e _ _ q, r⟩
/-! promises of the three defs that draw -/
def spSeed (K : PySem.W.Frag) : Sp := fun vs H Q _ => ∃ (a : Addr) (ns : List Int) (k : Int), vs = [.ref a, .int k] ∧ SqL K H a (ns.map V.int) ∧ 0 ≤ k ∧ k ≤ 1000 ∧ ∀ n H', Ex H H' → Q (.int n) H'
def spPurse : Sp := fun vs H Q _ => ∃ n : Int, vs = [.int n] ∧ ∀ a H', H a = none → Ex H H' → Pur H' a → Q (.ref a) H'
def spDraw : Sp := fun vs H Q _ => ∃ (a : Addr) (m : Int), vs = [.ref a, .int m] ∧ 0 < m ∧ m ≤ 1000000 ∧ Pur H a ∧ ∀ k H', 0 ≤ k → k < m → Pur H' a → Ex (less a H) H' → Q (.int k) H'
theorem pylong_small {i j : Int} (h : 0 < j) (h2 : j ≤ 1000000) : CDivP i j := by
  refine ⟨h, ?_⟩
  have e : (2 : Nat) ^ 20 = 1048576 := by decide
  have l : j.natAbs.log2 < 20 := (Nat.log2_lt (by omega)).mpr (by omega)
  have n : j ≠ 0 := by omega
  simp [Builtin.divisionGoesByPylong, n]
  intro q
  omega
theorem cut_mem {xs : List V} {lo hi : Option Int} {i : Nat} {x : V} (h : (cutV xs lo hi)[i]? = some x) : x ∈ xs := List.mem_of_mem_drop (List.mem_of_mem_take (List.mem_of_getElem? h))
end SwX
set_option Elab.async false
set_option linter.all false
set_option maxRecDepth 100000
set_option maxHeartbeats 4000000
/-! own exceptions and lists of things, evaluated over heaps that grow -/
namespace SwX
open PySem PySem.Spec PyProof.Rows L2 Evl
/-! ### keywords without defaults -/
theorem kbn_of {K : PySem.W.Frag} {x qual : Str} {params : Arguments} {body : List Stmt} {scope : Scope} {kws : List (Str × V)} {f : Addr} {fd : FuncData} {ps : List Str} (F : FunD K x qual params body scope [] kws f fd) (n : Nat) (ks : List Str) (g : {α : Type} → List α → List α → List α)
    (hrel : ∀ {vs zs : List V} {us ws : List Value}, Vals vs us → Vals zs ws → Vals (g vs zs) (g us ws))
    (h : ∀ (kV doc pm : Value) (an : Option Addr) (cdv ct : Value) (us ws : List Value), us.length = n → ws.length = ks.length → bindArgs (PySem.W.fnOf x qual params body scope .none kV doc pm an cdv ct) ⟨us, ks.zip ws⟩ = pure (ps.zip (g us ws))) : KBn K fd ps n ks (fun us ws => g us ws) (fun vs zs => g vs zs) := by
  obtain ⟨oc, od, dV, kV, doc, pm, an, cdv, ct, osl, rfl, lk, hcd, hD, hK⟩ := F.ex
  rcases hD with ⟨_, rfl⟩ | ⟨e, _⟩
  · exact ⟨fun s us ws _ l1 l2 => .of_eq (h kV doc pm an cdv ct us ws l1 l2), fun r1 r2 => hrel r1 r2⟩
  · exact absurd rfl e
theorem vals_rev : ∀ {vs : List V} {us : List Value}, Vals vs us → Vals vs.reverse us.reverse
  | _, _, .nil => .nil
  | _, _, .cons r t => by
    rw [List.reverse_cons, List.reverse_cons]
    exact (vals_rev t).append (.cons r .nil)
/-! ### things over growing heaps -/
section
variable {K : PySem.W.Frag} {σ : L2.St} {H H' : Hp} {te ta' tb' : TE} {ta : TA} {P P' : V → Hp → Prop} {D : Ends} {tz : TS} {v : V}
theorem Yi.imp (h : Yi te σ H P) (i : ∀ v H', Ex H H' → P v H' → P' v H') : Yi te σ H P' := fun H1 e1 Q q => h H1 e1 Q fun v H2 e2 p => q v H2 e2 (i v H2 (e1.trans e2) p)
theorem yi_ev (h : Ev te σ H v) : Yi te σ H fun x _ => x = v := fun H1 e1 Q q => h H1 e1 Q fun H2 e2 => q v H2 e2 rfl
theorem yi_var {i : Nat} (h : σ[i]? = some (some v)) (m : ∀ H1, Ex H H1 → P v H1) : Yi (tVar i) σ H P := fun H1 e1 Q q => ⟨v, h, q v H1 (Ex.refl H1) (m H1 e1)⟩
theorem q_asgY {i : Nat} (h : Yi te σ H P) (k : ∀ v H1, Ex H H1 → P v H1 → tz D (σ.set i (some v)) H1) : tSeq (tAsg te (gName i)) tz D σ H := h H (Ex.refl H) _ k
theorem s_retY (h : Yi te σ H P) (k : ∀ v H1, Ex H H1 → P v H1 → D.rt v H1) : tRet te D σ H := h H (Ex.refl H) _ k
/-- a list, each of its items as F says of its index's datum -/
def LstOf {α : Type} (F : α → V → Hp → Prop) (is : List α) (x : V) (H : Hp) : Prop := ∃ p vs, x = .ref p ∧ H p = some (.lst vs) ∧ Paired (fun i v => F i v H) is vs
section
variable {α : Type} {F : α → V → Hp → Prop} {is js : List α}
theorem LstOf.mono {x : V} (m : ∀ i v H H', Ex H H' → F i v H → F i v H') (e : Ex H H') (h : LstOf F is x H) : LstOf F is x H' := by
  obtain ⟨p, vs, rfl, hp, q⟩ := h
  exact ⟨p, vs, rfl, e _ _ hp, paired_mono e m q⟩
theorem yi_lst (m : ∀ i v H H', Ex H H' → F i v H → F i v H') (h : Ys ta σ H fun vs H' => Paired (fun i v => F i v H') is vs) (l : is.length ≤ 100000) : Yi (tLst ta) σ H (LstOf F is) := fun H1 e1 Q q =>
  h H1 e1 _ fun vs H2 e2 p => ⟨sz_of (by rw [← paired_len p]; exact l), fun a ha => q (.ref a) _ (e2.trans (Ex.new ha)) ⟨a, vs, rfl, upd_same, paired_mono (Ex.new ha) m p⟩⟩
theorem yi_cat (m : ∀ i v H H', Ex H H' → F i v H → F i v H') (ha : Yi ta' σ H (LstOf F is)) (hb : Yi tb' σ H (LstOf F js)) (l : is.length + js.length ≤ 100000) :
    Yi (tOp (fun x y H Q => rI0 (fun i j => .int (i + j)) x y H Q ∨ rCat x y H Q) ta' tb') σ H (LstOf F (is ++ js)) := fun H1 e1 Q q =>
  ha H1 e1 _ fun x H2 e2 p => hb H2 (e1.trans e2) _ fun y H3 e3 p' => by
    obtain ⟨a, vs, rfl, ha, pa⟩ := p.mono m e3
    obtain ⟨b, ws, rfl, hb, pb⟩ := p'
    refine .inr ⟨a, b, vs, ws, rfl, rfl, ha, hb, sz_of (by rw [← paired_len pa, ← paired_len pb]; exact l), fun c hc => ?_⟩
    exact q _ _ ((e2.trans e3).trans (Ex.new hc)) ⟨c, _, rfl, upd_same, paired_mono (Ex.new hc) m (paired_append pa pb)⟩
end
/-! truths in a list -/
def Tru (b : Bool) (v : V) (_ : Hp) : Prop := v = .bl b
theorem tru_mono (i : Bool) (v : V) (H H' : Hp) (_ : Ex H H') (h : Tru i v H) : Tru i v H' := h
theorem trus : ∀ {bs : List Bool} {vs : List V} {H : Hp}, Paired (fun b v => Tru b v H) bs vs → vs = bs.map V.bl
  | _, _, _, .nil => rfl
  | _, _, _, .cons h t => by rw [trus t, List.map_cons, show _ = V.bl _ from h]
theorem LstOf.trus {bs : List Bool} {x : V} (h : LstOf Tru bs x H) : ∃ p, x = .ref p ∧ H p = some (.lst (bs.map V.bl)) := by
  obtain ⟨p, vs, rfl, hp, q⟩ := h
  rw [SwX.trus q] at hp
  exact ⟨p, rfl, hp⟩
theorem dpAll_bl : ∀ bs : List Bool, DpAll K H (bs.map V.bl) (bs.map PyData.bool)
  | [] => .nil
  | b :: r => .cons (.bl b) (dpAll_bl r)
/-! isinstance -/
theorem ev_isX {a C : Addr} {fs : List (Str × V)} {c : V} {u : Value} {b : Bool} (h : Ev te σ H (.ref a)) (hc : Ev tb' σ H c) (x : ExAt H a C fs) (T : Oex K C) (k : ClsV c u) (e : PySem.W.kitOne K (.ref C) u = some b) : Ev (tCB (rIsX K) (tCons te (tCons tb' tNil))) σ H (.bl b) := fun H1 e1 Q q =>
  h H1 e1 _ fun H2 e2 => hc H2 (e1.trans e2) _ fun H3 e3 => ⟨a, C, fs, c, u, b, rfl, x.mono ((e1.trans e2).trans e3), T, k, e, q H3 (e2.trans e3)⟩
theorem ev_fldX {a C : Addr} {fs : List (Str × V)} {f : Str} {v : V} (h : Ev te σ H (.ref a)) (x : ExAt H a C fs) (T : Oex K C) (n : Free K C f) (l : fs.lookup f = some v) : Ev (tFldX K f te) σ H v := fun H1 e1 Q q =>
  h H1 e1 _ fun H2 e2 => ⟨a, C, fs, v, rfl, x.mono (e1.trans e2), T, n, l, q H2 e2⟩
theorem yi_tru {b : Bool} (h : Ev te σ H (.bl b)) : Yi te σ H (Tru b) := yi_ev h
theorem dp_trus {bs : List Bool} {p : Addr} (h : H p = some (.lst (bs.map V.bl))) : Dp K H (.ref p) (.list (bs.map PyData.bool)) := .lst (sq_of h) (dpAll_bl bs)
/-- two lists of truths -/
theorem rv_neTru {bs cs : List Bool} {p q : Addr} {z : Bool} (hp : H p = some (.lst (bs.map V.bl))) (hq : H q = some (.lst (cs.map V.bl))) (s1 : SeqAt.shaped (.list (bs.map PyData.bool)) = true) (s2 : SeqAt.shaped (.list (cs.map PyData.bool)) = true) (e : PyData.eqv (.list (bs.map PyData.bool)) (.list (cs.map PyData.bool)) = z) :
    RV (fun x y H Q => rNe x y H Q ∨ rNeD K x y H Q) (.ref p) (.ref q) H (.bl (!z)) := fun H1 e1 Q k => .inr ⟨_, _, dp_trus (e1 _ _ hp), dp_trus (e1 _ _ hq), s1, s2, by rw [e]; exact k H1 (Ex.refl H1)⟩
theorem ev_eqTru {bs cs : List Bool} {p : Addr} {z : Bool} (ha : Ev te σ H (.ref p)) (hp : H p = some (.lst (bs.map V.bl))) (hb : Yi tb' σ H (LstOf Tru cs)) (s1 : SeqAt.shaped (.list (bs.map PyData.bool)) = true) (s2 : SeqAt.shaped (.list (cs.map PyData.bool)) = true) (e : PyData.eqv (.list (bs.map PyData.bool)) (.list (cs.map PyData.bool)) = z) :
    Ev (tOp (fun x y H Q => rEq x y H Q ∨ rEqD K x y H Q) te tb') σ H (.bl z) := fun H1 e1 Q k => ha H1 e1 _ fun H2 e2 => hb H2 (e1.trans e2) _ fun y H3 e3 l => by
  obtain ⟨q, rfl, hq⟩ := l.trus
  exact .inr ⟨_, _, dp_trus (((e1.trans e2).trans e3) _ _ hp), dp_trus hq, s1, s2, by rw [e]; exact k H3 (e2.trans e3)⟩
theorem ev_chainI {f g : Int → Int → Bool} {i j l : Int} {tc : TE} (ha : Ev te σ H (.int i)) (hb : Ev ta' σ H (.int j)) (hc : Ev tc σ H (.int l)) : Ev (tChain (rI0 fun a b => .bl (f a b)) (rI0 fun a b => .bl (g a b)) te ta' tc) σ H (.bl (f i j && g j l)) := fun H1 e1 Q k =>
  ha H1 e1 _ fun H2 e2 => hb H2 (e1.trans e2) _ fun H3 e3 => ⟨i, j, rfl, rfl, f i j, rfl, by
    have fin : ∀ H4, Ex H3 H4 → Q (.bl (f i j && g j l)) H4 := fun H4 e4 => k H4 ((e2.trans e3).trans e4)
    cases c : f i j with
    | false =>
      rw [c] at fin
      exact fin H3 (Ex.refl H3)
    | true =>
      rw [c] at fin
      exact hc H3 ((e1.trans e2).trans e3) _ fun H4 e4 => ⟨j, l, rfl, rfl, fin H4 e4⟩⟩
theorem el_ifY {b : Bool} {tt : TT} {xs : List V} (h : EvT tt σ H b) (h1 : b = true → EvL ta' σ H xs) (h2 : b = false → EvL tb' σ H xs) : EvL (tIf tt ta' tb') σ H xs := fun H1 e1 Q k => h H1 e1 _ fun H2 e2 => by
  have k2 : ∀ p H3, H2 p = none → Ex H2 H3 → H3 p = some (.lst xs) → Q (.ref p) H3 := fun p H3 n e3 h3 => k p H3 (fresh_back e2 n) (e2.trans e3) h3
  cases b with
  | true =>
    show ta' σ H2 Q
    exact h1 rfl H2 (e1.trans e2) Q k2
  | false =>
    show tb' σ H2 Q
    exact h2 rfl H2 (e1.trans e2) Q k2
/-! making one -/
def spIni1 (C : Addr) (f : Str) : Sp := fun vs H Q _ => ∃ a v, vs = [.ref a, v] ∧ H a = some (exo a C none) ∧ ∀ d, H d = none → d ≠ a → Q .non (upd (upd H d (exd d [(f, v)])) a (exo a C (some d)))
def spIni2 (C : Addr) (f g : Str) : Sp := fun vs H Q _ => ∃ a v u, vs = [.ref a, v, u] ∧ H a = some (exo a C none) ∧ ∀ d, H d = none → d ≠ a → ∀ H', H' = upd (upd (upd H d (exd d [(f, v)])) a (exo a C (some d))) d (exd d [(g, u), (f, v)]) → Q .non H'
theorem exAt_new {a C d : Addr} {H : Hp} {fs : List (Str × V)} (h : H a = none) (hd : upd H a (exo a C none) d = none) : Ex H (upd (upd (upd H a (exo a C none)) d (exd d fs)) a (exo a C (some d))) ∧ ExAt (upd (upd (upd H a (exo a C none)) d (exd d fs)) a (exo a C (some d))) a C fs := by
  have ne : d ≠ a := fun z => by rw [z, upd_same] at hd; cases hd
  have hd' : H d = none := by rwa [upd_ne ne] at hd
  exact ⟨((Ex.refl H).mut h).mut hd' |>.mut h, .inr ⟨d, upd_same, by rw [upd_ne ne, upd_same]⟩⟩
section
variable {C : Addr} {E : XK} {f g : Str} {tv tu : TE} {u : V} {gV : List V → List V → List V}
theorem yi_new1 (h : Ev tv σ H v) (hg : ∀ x, gV [x, v] [] = [x, v] := by intros; rfl) : Yi (tNewX C 1 0 (spIni1 C f) gV E (tCons tv tNil) tNil) σ H fun x H' => ∃ a, x = .ref a ∧ ExAt H' a C [(f, v)] := fun H1 e1 Q q =>
  h H1 e1 _ fun H2 e2 => ⟨⟨rfl, rfl, by decide⟩, fun a ha => ⟨a, v, hg _, upd_same, fun d hd ne => ⟨rfl, q _ _ (e2.trans (exAt_new ha hd).1) ⟨a, rfl, (exAt_new ha hd).2⟩⟩⟩⟩
theorem yi_newK1 (h : Ev tv σ H v) (hg : ∀ x, gV [x] [v] = [x, v] := by intros; rfl) : Yi (tNewX C 0 1 (spIni1 C f) gV E tNil (tCons tv tNil)) σ H fun x H' => ∃ a, x = .ref a ∧ ExAt H' a C [(f, v)] := fun H1 e1 Q q =>
  h H1 e1 _ fun H2 e2 => ⟨⟨rfl, rfl, by decide⟩, fun a ha => ⟨a, v, hg _, upd_same, fun d hd ne => ⟨rfl, q _ _ (e2.trans (exAt_new ha hd).1) ⟨a, rfl, (exAt_new ha hd).2⟩⟩⟩⟩
theorem exAt_new2 {a d : Addr} {H : Hp} (h : H a = none) (hd : upd H a (exo a C none) d = none) :
    Ex H (upd (upd (upd (upd H a (exo a C none)) d (exd d [(f, v)])) a (exo a C (some d))) d (exd d [(g, u), (f, v)])) ∧ ExAt (upd (upd (upd (upd H a (exo a C none)) d (exd d [(f, v)])) a (exo a C (some d))) d (exd d [(g, u), (f, v)])) a C [(g, u), (f, v)] := by
  have ne : d ≠ a := fun z => by rw [z, upd_same] at hd; cases hd
  have hd' : H d = none := by rwa [upd_ne ne] at hd
  exact ⟨(exAt_new h hd).1.mut hd', .inr ⟨d, by rw [upd_ne (Ne.symm ne), upd_same], upd_same⟩⟩
theorem yi_new2 (h : Ev tv σ H v) (hu : Ev tu σ H u) (hg : ∀ x, gV [x, v, u] [] = [x, v, u] := by intros; rfl) : Yi (tNewX C 2 0 (spIni2 C f g) gV E (tCons tv (tCons tu tNil)) tNil) σ H fun x H' => ∃ a, x = .ref a ∧ ExAt H' a C [(g, u), (f, v)] := fun H1 e1 Q q =>
  h H1 e1 _ fun H2 e2 => hu H2 (e1.trans e2) _ fun H3 e3 => ⟨⟨rfl, rfl, by decide⟩, fun a ha => ⟨a, v, u, hg _, upd_same, fun d hd ne H' e => by
    subst e
    exact ⟨rfl, q _ _ ((e2.trans e3).trans (exAt_new2 ha hd).1) ⟨a, rfl, (exAt_new2 ha hd).2⟩⟩⟩⟩
theorem yi_newK2 (h : Ev tv σ H v) (hu : Ev tu σ H u) (hg : ∀ x, gV [x] [u, v] = [x, v, u] := by intros; rfl) : Yi (tNewX C 0 2 (spIni2 C f g) gV E tNil (tCons tu (tCons tv tNil))) σ H fun x H' => ∃ a, x = .ref a ∧ ExAt H' a C [(g, u), (f, v)] := fun H1 e1 Q q =>
  hu H1 e1 _ fun H2 e2 => h H2 (e1.trans e2) _ fun H3 e3 => ⟨⟨rfl, rfl, by decide⟩, fun a ha => ⟨a, v, u, hg _, upd_same, fun d hd ne H' e => by
    subst e
    exact ⟨rfl, q _ _ ((e2.trans e3).trans (exAt_new2 ha hd).1) ⟨a, rfl, (exAt_new2 ha hd).2⟩⟩⟩⟩
theorem yi_new0 : Yi (fun _ H Q => ∀ a, H a = none → Q (.ref a) (upd H a (exo a C none))) σ H fun x H' => ∃ a, x = .ref a ∧ ExAt H' a C [] := fun H1 e1 Q q a ha => q _ _ (Ex.new ha) ⟨a, rfl, .inl ⟨upd_same, rfl⟩⟩
/-- the bodies of the two inits -/
theorem body_ini1 {D : Ends} {a C : Addr} {f : Str} {v : V} {H : Hp} {σ : L2.St} (T : Oex K C) (n : Free K C f) (h0 : σ[0]? = some (some (.ref a))) (h1 : σ[1]? = some (some v)) (h : H a = some (exo a C none)) (k : ∀ d, H d = none → d ≠ a → D.nx σ (upd (upd H d (exd d [(f, v)])) a (exo a C (some d)))) :
    tSetX K f (tVar 0) (tVar 1) D σ H := ⟨v, h1, .ref a, h0, a, C, rfl, T, n, .inl ⟨h, k⟩⟩
end
end
/-! ### names of the module, of the builtins -/
theorem pe_own {X : Cx} {x : Str} {C : Addr} {pos : Pos} (hm : X.mg x = some (.ref C)) (hg : Gl X x := by rfl) (hd : (x == ("__debug__" : Str)) = false := by decide) : PE X (.Name x pos) (tC (.ref C)) := pe_glob hg hm rfl hd
theorem pe_gint {X : Cx} {x : Str} {i : Int} {pos : Pos} (hm : ∃ t, X.mg x = some (.int i t)) (hg : Gl X x := by rfl) (hd : (x == ("__debug__" : Str)) = false := by decide) : PE X (.Name x pos) (tC (.int i)) := by
  obtain ⟨t, h⟩ := hm
  exact pe_glob hg h ⟨t, rfl⟩ hd
theorem pe_bty {X : Cx} {x : Str} {n : String} {pos : Pos} (hm : X.mg x = none) (hv : bootBuiltins x = some (.type n) := by decide +kernel) (hg : Gl X x := by rfl) (hn : x ≠ "__name__" := by decide) (hd : (x == ("__debug__" : Str)) = false := by decide) : PE X (.Name x pos) (tC (.ty n)) := pe_bltn hg hm hv rfl hn hd
/-! ### the rules of a list's count and index -/
section
variable {X : Cx} {k : Nat} {o e : Expr} {to te : TE} {apos cpos : Pos}
theorem rc_count {K : PySem.W.Frag} {σ : L2.St} {H : Hp} {p : Addr} {bs : List Bool} {b : Bool} {to te : TE} (ho : Ev to σ H (.ref p)) (hs : SqL K H p (bs.map V.bl)) (he : Ev te σ H (.bl b)) : Ev (tBM K "list" (rCountB K) to (tCons te tNil)) σ H (.int (bs.count b : Nat)) := fun H1 e1 Q q =>
  ho H1 e1 _ fun H2 e2 => ⟨.inl ⟨rfl, _, ex_l (e1.trans e2) hs⟩, he H2 (e1.trans e2) _ fun H3 e3 => ⟨p, bs, b, rfl, rfl, ex_l ((e1.trans e2).trans e3) hs, q H3 (e2.trans e3)⟩⟩
theorem rc_index {K : PySem.W.Frag} {σ : L2.St} {H : Hp} {p : Addr} {bs : List Bool} {j : Nat} {to te : TE} (ho : Ev to σ H (.ref p)) (hs : SqL K H p (bs.map V.bl)) (he : Ev te σ H (.bl true)) (h1 : bs[j]? = some true) (h2 : ∀ m, m < j → bs[m]? = some false) :
    Ev (tBM K "list" (rIndex K) to (tCons te tNil)) σ H (.int (j : Nat)) := fun H1 e1 Q q =>
  ho H1 e1 _ fun H2 e2 => ⟨.inl ⟨rfl, _, ex_l (e1.trans e2) hs⟩, he H2 (e1.trans e2) _ fun H3 e3 => ⟨p, bs.map V.bl, .bl true, j, .bl true, rfl, rfl, ex_l ((e1.trans e2).trans e3) hs, rfl, by
    rw [List.all_eq_true]
    intro x hx
    obtain ⟨c, _, rfl⟩ := List.mem_map.mp hx
    rfl, by rw [List.getElem?_map, h1]; rfl, rfl, fun m z hm hz => by
    rw [List.getElem?_map, h2 m hm] at hz
    cases hz
    rfl, q H3 (e2.trans e3)⟩⟩
end
end SwX
set_option Elab.async false
set_option linter.all false
set_option maxRecDepth 100000
set_option maxHeartbeats 4000000
/-! draws in readings; data beside the purse; repr of lists that are data -/
namespace SwX
open PySem PySem.Spec PyProof.Rows L2 Evl
/-! ### what repr can show shortly -/
structure Good (d : PyData) (n w : Nat) : Prop where
  sh : d.showable = true
  dp : d.depth ≤ n
  lv : d.leavesShort 100 = true
  wt : d.weight ≤ w
theorem Good.len {d : PyData} {n w : Nat} (h : Good d n w) (hw : w ≤ 100000) : d.shown.length ≤ sizeLine := by
  have z := PyData.shown_le 100 (by decide) d h.lv
  have y := h.wt
  exact Nat.le_trans z (Nat.le_trans (show (100 + 2) * d.weight + 100 ≤ 11000000 by omega) (by decide))
theorem good_int {i : Int} (h : i.natAbs < 10 ^ 41) : Good (.int i) 0 137 := by
  have big : (10 : Nat) ^ 41 < 2 ^ 137 := by decide
  refine ⟨?_, Nat.le_refl _, ?_, ?_⟩
  · show decide (i.natAbs.log2 < 1920) = true
    have p : (2 : Nat) ^ 137 ≤ 2 ^ 1920 := Nat.pow_le_pow_right (by decide) (by decide)
    have l : i.natAbs.log2 < 1920 := by
      by_cases z : i.natAbs = 0
      · rw [z]
        decide
      · exact (Nat.log2_lt z).mpr (by omega)
    exact decide_eq_true l
  · show decide ((PyData.shown (.int i)).length ≤ 100) = true
    rw [PyData.shown_int]
    have l := int_text_length_le10 (a := i) (k := 41) (by decide) h
    refine decide_eq_true ?_
    rw [PySem.ofString_length]
    omega
  · show (if (i == 0) = true then 0 else i.natAbs.log2 + 1) ≤ 137
    split
    · omega
    · rename_i c
      have z : i.natAbs ≠ 0 := by simpa using c
      have l := (Nat.log2_lt z).mpr (show i.natAbs < 2 ^ 137 by omega)
      omega
/-! ### repr of a new list that is data -/
section
variable {K : PySem.W.Frag} {σ : L2.St} {H : Hp} {te : TE} {v : V}
theorem da_list {xs : List V} {ds : List PyData} {p : Addr} (h : H p = some (.lst xs)) (q : Paired (fun d v => Da K H v d) ds xs) : Da K H (.ref p) (.list ds) :=
  .lst h (paired_len q).symm fun i x d e1 e2 => by
    obtain ⟨y, e3, r⟩ := paired_get q e2
    rw [e1] at e3
    cases e3
    exact r
theorem da_tuple {xs : List V} {ds : List PyData} {p : Addr} (h : SqT K H p xs) (q : Paired (fun d v => Da K H v d) ds xs) : Da K H (.ref p) (.tuple ds) :=
  .tup h (paired_len q).symm fun i x d e1 e2 => by
    obtain ⟨y, e3, r⟩ := paired_get q e2
    rw [e1] at e3
    cases e3
    exact r
theorem ev_reprL {xs : List V} {ds : List PyData} {n w : Nat} (h : EvL te σ H xs) (da : ∀ H1, Ex H H1 → Paired (fun d v => Da K H1 v d) ds xs) (g : Good (.list ds) n w) (hn : n ≤ 150) (hw : w ≤ 100000) : Ev (tCB (rRepr K) (tCons te tNil)) σ H (.str (PyData.shown (.list ds))) := fun H1 e1 Q q =>
  h H1 e1 _ fun p H2 _ e2 h2 => ⟨p, .list ds, rfl, da_list h2 (da H2 (e1.trans e2)), g.sh, Nat.le_trans g.dp hn, g.len hw, q H2 e2⟩
theorem ev_reprV {p : Addr} {xs : List V} {ds : List PyData} {n w : Nat} (h : Ev te σ H (.ref p)) (hp : H p = some (.lst xs)) (da : ∀ H1, Ex H H1 → Paired (fun d v => Da K H1 v d) ds xs) (g : Good (.list ds) n w) (hn : n ≤ 150) (hw : w ≤ 100000) : Ev (tCB (rRepr K) (tCons te tNil)) σ H (.str (PyData.shown (.list ds))) := fun H1 e1 Q q =>
  h H1 e1 _ fun H2 e2 => ⟨p, .list ds, rfl, da_list (e2 _ _ (e1 _ _ hp)) (da H2 (e1.trans e2)), g.sh, Nat.le_trans g.dp hn, g.len hw, q H2 e2⟩
end
/-! ### draws: te gives a value of which P holds, the purse at a is kept, all else grows -/
def Dr (a : Addr) (te : TE) (σ : L2.St) (G : Hp) (P : V → Prop) : Prop := ∀ H1, Ex G H1 → Pur H1 a → ∀ Q : VK, (∀ v H2, P v → Ex G H2 → Pur H2 a → Q v H2) → te σ H1 Q
section
variable {K : PySem.W.Frag} {σ : L2.St} {G H : Hp} {a : Addr} {te ta tb : TE} {v : V} {P P1 P2 : V → Prop} {D : Ends} {tz : TS}
theorem dr_ev (h : Ev te σ G v) (hp : P v) : Dr a te σ G P := fun H1 e p Q q => h H1 e Q fun H2 e2 => q v H2 hp (e.trans e2) (p.keep e2)
theorem dr_op {r : R2} (ha : Dr a ta σ G P1) (hb : Dr a tb σ G P2) (hr : ∀ x y, P1 x → P2 y → ∃ z, P z ∧ ∀ H, RV r x y H z) : Dr a (tOp r ta tb) σ G P := fun H1 e p Q q =>
  ha H1 e p _ fun x H2 px e2 p2 => hb H2 e2 p2 _ fun y H3 py e3 p3 => by
    obtain ⟨z, pz, rv⟩ := hr x y px py
    exact rv H3 H3 (Ex.refl _) Q fun H4 e4 => q z H4 pz (e3.trans e4) (p3.keep e4)
theorem dr_draw {m : Int} {E : XK} {tm : TE} (n : G a = none) (h : σ[0]? = some (some (.ref a))) (hm : Ev tm σ G (.int m)) (m0 : 0 < m) (m1 : m ≤ 1000000) : Dr a (tCall spDraw [] E (tCons (tVar 0) (tCons tm tNil))) σ G fun v => ∃ k, v = .int k ∧ 0 ≤ k ∧ k < m := fun H1 e p Q q =>
  ⟨.ref a, h, hm H1 e _ fun H2 e2 => ⟨a, m, rfl, m0, m1, p.keep e2, fun k H3 k0 k1 p3 e3 => q _ H3 ⟨k, rfl, k0, k1⟩ ((ex_less n (e.trans e2)).trans e3) p3⟩⟩
theorem atI_nat {xs : List V} {k : Int} (h0 : 0 ≤ k) (h1 : k < xs.length) : ∃ v, atI xs k = some v ∧ xs[k.toNat]? = some v := by
  obtain ⟨j, rfl⟩ := Int.eq_ofNat_of_zero_le h0
  have hj : j < xs.length := by omega
  refine ⟨xs[j], ?_, by simp [hj]⟩
  unfold atI
  rw [ixN_nat hj]
  simp
/-- a new list's item by a draw -/
theorem dr_pick {xs : List V} (n : G a = none) (ha : EvL ta σ G xs) (hb : ∀ G', G' a = none → Ex G G' → Dr a tb σ G' fun v => ∃ k, v = .int k ∧ 0 ≤ k ∧ k < xs.length) : Dr a (tOp (fun x y H Q => rIxL K x y H Q ∨ rIxT K x y H Q) ta tb) σ G fun v => v ∈ xs := fun H1 e p Q q =>
  ha H1 e _ fun l H2 hl e2 h2 => by
    obtain ⟨x, y, z, hp, _⟩ := p
    have ne : l ≠ a := fun w => by rw [w, hp] at hl; cases hl
    refine hb (less a H2) less_at (ex_less n (e.trans e2)) H2 less_ex (Pur.keep ⟨x, y, z, hp, by assumption⟩ e2) _ fun k H3 pk e3 p3 => ?_
    obtain ⟨k, rfl, k0, k1⟩ := pk
    obtain ⟨v, hv, hv2⟩ := atI_nat k0 k1
    refine .inl ⟨l, xs, k, v, rfl, rfl, sq_of (e3 _ _ (by rw [less_ne ne]; exact h2)), hv, q v H3 (List.mem_of_getElem? hv2) ((ex_less n (e.trans e2)).trans e3) p3⟩
theorem q_asgDr {i : Nat} (h : Dr a te σ G P) (e : Ex G H) (p : Pur H a) (k : ∀ v H1, P v → Ex G H1 → Pur H1 a → tz D (σ.set i (some v)) H1) : tSeq (tAsg te (gName i)) tz D σ H := h H e p _ k
theorem s_retDr (h : Dr a te σ G P) (e : Ex G H) (p : Pur H a) (k : ∀ v H1, P v → Ex G H1 → Pur H1 a → D.rt v H1) : tRet te D σ H := h H e p _ k
end
/-! ### data beside the purse -/
def DaA (K : PySem.W.Frag) (a : Addr) (d : PyData) (v : V) (H : Hp) : Prop := Da K (less a H) v d
theorem less_mono {a : Addr} {H H' : Hp} (e : Ex H H') : Ex (less a H) (less a H') := ex_less less_at (less_ex.trans e)
theorem daA_mono {K : PySem.W.Frag} {a : Addr} (d : PyData) (v : V) (H H' : Hp) (e : Ex H H') (h : DaA K a d v H) : DaA K a d v H' := Da.mono (less_mono e) h
section
variable {K : PySem.W.Frag} {σ : L2.St} {H : Hp} {a : Addr} {te : TE} {ta : TA} {ds : List PyData} {o : HO}
theorem yi_dat {v : V} {d : PyData} (h : Ev te σ H v) (q : ∀ G, Da K G v d) : Yi te σ H (DaA K a d) := (yi_ev h).imp fun x H' _ e => by
  subst e
  exact q _
theorem yi_dtup (at_ : H a = some o) (h : Ys ta σ H fun vs H' => Paired (fun d v => DaA K a d v H') ds vs) (l : ds.length ≤ 100000) : Yi (tTup ta) σ H (DaA K a (.tuple ds)) := fun H1 e1 Q q =>
  h H1 e1 _ fun vs H2 e2 p => ⟨sz_of (by rw [← paired_len p]; exact l), fun c hc => by
    have ne : c ≠ a := fun z => by rw [z, (e1.trans e2) _ _ at_] at hc; cases hc
    have p' : Paired (fun d v => DaA K a d v (upd H2 c (.tup vs))) ds vs := paired_mono (Ex.new hc) daA_mono p
    exact q (.ref c) _ (e2.trans (Ex.new hc)) (da_tuple (.inl (.inl (by rw [less_ne ne, upd_same]))) p')⟩
theorem yi_dlst (at_ : H a = some o) (h : Ys ta σ H fun vs H' => Paired (fun d v => DaA K a d v H') ds vs) (l : ds.length ≤ 100000) : Yi (tLst ta) σ H (DaA K a (.list ds)) := fun H1 e1 Q q =>
  h H1 e1 _ fun vs H2 e2 p => ⟨sz_of (by rw [← paired_len p]; exact l), fun c hc => by
    have ne : c ≠ a := fun z => by rw [z, (e1.trans e2) _ _ at_] at hc; cases hc
    have p' : Paired (fun d v => DaA K a d v (upd H2 c (.lst vs))) ds vs := paired_mono (Ex.new hc) daA_mono p
    exact q (.ref c) _ (e2.trans (Ex.new hc)) (da_list (by rw [less_ne ne, upd_same]) p')⟩
theorem yi_ddic0 (at_ : H a = some o) : Yi tDNewK σ H (DaA K a (.dict [])) := fun H1 e1 Q q c hc => by
  have ne : c ≠ a := fun z => by rw [z, e1 _ _ at_] at hc; cases hc
  exact q (.ref c) _ (Ex.new hc) (.dic (kvs := []) (ds := []) (by rw [less_ne ne, upd_same]) rfl (fun i kv d e => by simp at e))
theorem yi_ddic1 {x : Str} {v : V} {d : PyData} {tk tv : TE} (at_ : H a = some o) (hk : Ev tk σ H (.str x)) (hv : Ev tv σ H v) (q : ∀ G, Da K G v d) : Yi (tDisp [(tk, tv)]) σ H (DaA K a (.dict [(.str x, d)])) := fun H1 e1 Q k c hc => by
  have ne : c ≠ a := fun z => by rw [z, e1 _ _ at_] at hc; cases hc
  refine hk _ (e1.trans (Ex.new hc)) _ fun H2 e2 => hv H2 ((e1.trans (Ex.new hc)).trans e2) _ fun H3 e3 => ⟨e3 _ _ (e2 _ _ upd_same), [(.inr x, v)], rfl, by simp, ?_⟩
  refine k (.ref c) _ ((show Ex H1 H3 from ((Ex.new hc).trans e2).trans e3).mut hc) (.dic (kvs := [(.inr x, v)]) (ds := [d]) (by rw [less_ne ne, upd_same]; rfl) rfl fun i kv d' h1 h2 => ?_)
  · cases i with
    | zero =>
      cases h1
      cases h2
      exact q _
    | succ i => simp at h1
end
theorem q_par {i j : Nat} {ta : TA} {u : TS} {D : Ends} {σ : L2.St} {H : Hp} (h : ta σ H fun vs H1 => ∃ v w, vs = [v, w] ∧ u D ((σ.set i (some v)).set j (some w)) H1) : tSeq (tPar i j ta) u D σ H := h
/-! ### a loop over a new list of such things -/
section
variable {α : Type} {F : α → V → Hp → Prop} {is : List α} {K : PySem.W.Frag} {σ : L2.St} {H : Hp} {tl : TE} {g : TG} {tu tz : TS} {D : Ends}
theorem q_forY (m : ∀ i v H H', Ex H H' → F i v H → F i v H') (h : Yi tl σ H (LstOf F is)) (Pv : Nat → L2.St → Prop) (h0 : Pv 0 σ)
    (hs : ∀ i d x H1 σ' H', is[i]? = some d → Ex H H1 → Ex H1 H' → F d x H' → Pv i σ' → g x σ' H' fun σ2 H2 => tu { D with nx := fun σ3 H3 => Pv (i + 1) σ3 ∧ Ex H1 H3, ct := fun σ3 H3 => Pv (i + 1) σ3 ∧ Ex H1 H3, bk := tz D } σ2 H2)
    (hd : ∀ σ' H', Ex H H' → Pv is.length σ' → tz D σ' H') : tSeq (tFor (iList K tl) g tu) tz D σ H := h H (Ex.refl H) _ fun x H1 e1 l => by
  obtain ⟨p, vs, rfl, hp, q⟩ := l
  refine ⟨p, rfl, ⟨vs, sq_of hp⟩, for_list (fun i σ' H' => Pv i σ' ∧ Ex H1 H') ⟨h0, Ex.refl H1⟩ (fun i σ' H' _ z => sq_of (z.2 _ _ hp)) (fun i x σ' H' hx z => ?_) fun σ' H' z => ?_⟩
  · have lt : i < is.length := by
      have := (List.getElem?_eq_some_iff.mp hx).1
      rw [← paired_len q] at this
      exact this
    have e2 : is[i]? = some is[i] := by simp [lt]
    obtain ⟨y, e3, f⟩ := paired_get q e2
    rw [hx] at e3
    cases e3
    exact hs i _ x H1 σ' H' e2 e1 z.2 (m _ _ _ _ z.2 f) z.1
  · rw [← paired_len q] at z
    exact hd σ' H' (e1.trans z.2) z.1
end
theorem kbn_pos {K : PySem.W.Frag} {fd : FuncData} {ps : List Str} {n : Nat} (h : KBn K fd ps n [] (fun us ws => us ++ ws.reverse) (fun vs zs => vs ++ zs.reverse)) : KBn K fd ps n [] (fun us _ => us) (fun vs _ => vs) :=
  ⟨fun s us ws X l1 l2 => (by
    cases ws with
    | nil =>
      have z := h.to s us [] X l1 rfl
      rw [List.reverse_nil, List.append_nil] at z
      exact z
    | cons _ _ => cases l2), fun {vs us zs ws} r1 _ => r1⟩
section
variable {K : PySem.W.Frag} {σ : L2.St} {H : Hp} {te ta tb : TE} {D : Ends}
theorem body_ini2 {a C : Addr} {f g : Str} {v u : V} (T : Oex K C) (n : Free K C f) (n2 : Free K C g) (h0 : σ[0]? = some (some (.ref a))) (h1 : σ[1]? = some (some v)) (h2 : σ[2]? = some (some u)) (h : H a = some (exo a C none))
    (k : ∀ d, H d = none → d ≠ a → ∀ H', H' = upd (upd (upd H d (exd d [(f, v)])) a (exo a C (some d))) d (exd d [(g, u), (f, v)]) → D.nx σ H') : tSeq (tSetX K f (tVar 0) (tVar 1)) (tSetX K g (tVar 0) (tVar 2)) D σ H :=
  ⟨v, h1, .ref a, h0, a, C, rfl, T, n, .inl ⟨h, fun d hd ne => ⟨u, h2, .ref a, h0, a, C, rfl, T, n2, .inr ⟨d, [(f, v)], upd_same, by rw [upd_ne ne, upd_same], by simp, k d hd ne _ rfl⟩⟩⟩⟩
theorem el_cat {l : Addr} {xs ys : List V} (ha : Ev ta σ H (.ref l)) (hl : H l = some (.lst xs)) (hb : EvL tb σ H ys) (z : xs.length + ys.length ≤ 100000) : EvL (tOp (fun x y H Q => rI0 (fun i j => .int (i + j)) x y H Q ∨ rCat x y H Q) ta tb) σ H (xs ++ ys) := fun H1 e1 Q q =>
  ha H1 e1 _ fun H2 e2 => hb H2 (e1.trans e2) _ fun p H3 _ e3 h3 => .inr ⟨l, p, xs, ys, rfl, rfl, e3 _ _ (e2 _ _ (e1 _ _ hl)), h3, sz_of z, fun c hc => q c _ (fresh_back (e2.trans e3) hc) ((e2.trans e3).trans (Ex.new hc)) upd_same⟩
theorem el_is {xs ys : List V} (h : EvL te σ H xs) (e : xs = ys) : EvL te σ H ys := e ▸ h
theorem ev_allT {bs : List Bool} (h : EvL te σ H (bs.map V.bl)) : Ev (tCB (rAll K) (tCons te tNil)) σ H (.bl (bs.all id)) := fun H1 e1 Q q => h H1 e1 _ fun p H2 _ e2 h2 => ⟨p, bs, rfl, sq_of h2, q H2 e2⟩
def rMin2 : List V → Hp → VK → Prop := fun xs H Q => ∃ i j, xs = [.int i, .int j] ∧ Q (.int (if j < i then j else i)) H
theorem ev_min2 {i j : Int} (ha : Ev ta σ H (.int i)) (hb : Ev tb σ H (.int j)) : Ev (tCB rMin2 (tCons ta (tCons tb tNil))) σ H (.int (if j < i then j else i)) := fun H1 e Q q =>
  ha H1 e _ fun H2 e2 => hb H2 (e.trans e2) _ fun H3 e3 => ⟨i, j, rfl, q H3 (e2.trans e3)⟩
end
end SwX
set_option Elab.async false
set_option linter.all false
set_option maxRecDepth 100000
set_option maxHeartbeats 4000000
/-! own +, ==, !=, str, len, bool of instances; statements that are never come to -/
namespace SwX
open PySem PySem.Spec PyProof.Rows L2
/-! ### what is never come to -/
theorem ps_never {X : Cx} {st : Stmt} : PS X st (fun _ _ _ => False) := ⟨fun _ _ _ _ _ _ z => z.elim⟩
theorem pss_never {X : Cx} {ss : List Stmt} : PSs X ss (fun _ _ _ => False) := ⟨fun _ _ _ _ _ _ z => z.elim⟩
theorem pe_never {X : Cx} {e : Expr} : PE X e (fun _ _ _ => False) := ⟨fun _ _ _ _ _ _ z => z.elim⟩
theorem rel_ref (a : Addr) : RelV (.ref a) (.ref a) := rfl
theorem rel_bl (k : Bool) : RelV (.bl k) (.bool k) := rfl
/-! ### a def called by the machine, at an around of its own -/
section
variable {X : Cx} {CX : CXT} {n : Nat} {f C : Addr} {fd : FuncData} {ps : List Str} {sp : Sp} {E : XK}
theorem by_machine {A' : Around} {pins : List (Addr × Obj)} {σ : L2.St} {H : Hp} {s : Shared} {Q : VK} {us : List Value} {vs : List V} (F : FnOk X.prog X.w X.K X.mg X.base CX n f fd ps sp) (room : Room n A') (same : A'.frames = X.A.frames) (b : Binds X.K fd ps []) (out : Passes CX X E)
    (I : Inv X pins σ H s) (r : Vals vs us) (h : sp vs H Q E) : wpAny (model X.prog X.w) A' (call (.ref f) us) (fun u s' => ∃ v H', Inv X pins σ H' s' ∧ RelV v u ∧ Q v H') X.xe s := by
  obtain ⟨fr, md, bs, bz, fu, ff, ho, ba⟩ := I.env0
  have z := b s us I.kIn (by simpa [← r.length] using F.len _ _ _ _ h)
  simp only [List.append_nil] at z
  refine wpAny_call (codeAny_mono (F.run A' X.stack s H ⟨us, []⟩ us vs Q E room ⟨same ▸ fr, md, bs, bz, fu, ff, ho, ba⟩ z r h) fun res s' q => ?_)
  cases res with
  | error er => exact out pins σ H s er s' I q
  | ok fl =>
    cases fl with
    | ret u =>
      obtain ⟨v, H', J, rv, q'⟩ := I.after q
      exact ⟨v, H', J, rv, q'⟩
    | next => exact q.elim
    | brk => exact q.elim
    | cont => exact q.elim
/-- the class at C has the def at f for its m -/
structure Spc (K : PySem.W.Frag) (C : Addr) (m : Str) (f : Addr) : Prop where
  at_ : PySem.W.findIn K (.ref C) m = some (some (.ref f))
  fn : PySem.W.isFn K (.ref f) = true
/-- an instance of the class at C in the abstract heap -/
def IsI (H : Hp) (a C : Addr) : Prop := ∃ dx fs, H a = some (.ins C dx fs)
theorem IsI.look {pins : List (Addr × Obj)} {σ : L2.St} {H : Hp} {s : Shared} {a : Addr} (I : Inv X pins σ H s) (h : IsI H a C) : ∃ ox od, PySem.W.InstAt s.heap a ox C od := by
  obtain ⟨dx, fs, e⟩ := h
  obtain ⟨mA, J, _⟩ := ins_get I.hok e
  obtain ⟨od, J, _⟩ := J.look
  exact ⟨_, _, J⟩
theorem IsI.mono {H H' : Hp} {a : Addr} (e : Evl.Ex H H') (h : IsI H a C) : IsI H' a C := by
  obtain ⟨dx, fs, z⟩ := h
  exact ⟨dx, fs, e _ _ z⟩
/-- a op b, both of the class at C -/
def rOwn (C : Addr) (sp : Sp) (E : XK) : R2 := fun x y H Q => ∃ a b, x = .ref a ∧ y = .ref b ∧ IsI H a C ∧ IsI H b C ∧ sp [.ref a, .ref b] H (fun v H' => (∃ c, v = .ref c) ∧ Q v H') E
theorem op_own {op : Operator} (F : FnOk X.prog X.w X.K X.mg X.base CX n f fd ps sp) (S : Spc X.K C (PySem.dunder op.info.2) f) (first : PySem.W.selfFirst X.K C = true) (b : Binds X.K fd ps []) (out : Passes CX X E) (room : Room n X.A) : OpR X (binaryOp op) (rOwn C sp E) := by
  intro pins s σ H x y v u Q I rx ry h
  obtain ⟨a, c, rfl, rfl, ia, ic, q⟩ := h
  cases rx
  cases ry
  obtain ⟨ox, od, J⟩ := ia.look I
  obtain ⟨oy, oe, J'⟩ := ic.look I
  obtain ⟨m, fr⟩ := I.fr
  refine PySem.W.binop_K fr I.ok.mod.kin J J'.type first S.at_ S.fn (wpAny_mono (by_machine F room rfl b out I (.cons (rel_ref _) (.cons (rel_ref _) .nil)) q) (fun r s' z => ?_) fun _ _ z => z)
  obtain ⟨v, H', K', rv, ⟨w, rfl⟩, q'⟩ := z
  cases rv
  exact ⟨_, H', K', rel_ref _, q'⟩
/-- a == b, both of the class at C -/
def rOwnB (C : Addr) (sp : Sp) (E : XK) (g : Bool → Bool) : R2 := fun x y H Q => ∃ a b, x = .ref a ∧ y = .ref b ∧ IsI H a C ∧ IsI H b C ∧ sp [.ref a, .ref b] H (fun v H' => ∃ k, v = .bl k ∧ Q (.bl (g k)) H') E
theorem op_eqOwn (F : FnOk X.prog X.w X.K X.mg X.base CX n f fd ps sp) (S : Spc X.K C "__eq__" f) (b : Binds X.K fd ps []) (out : Passes CX X E) (room : Room n X.A) : OpR X (compareOp .Eq) (rOwnB C sp E id) := by
  intro pins s σ H x y v u Q I rx ry h
  obtain ⟨a, c, rfl, rfl, ia, ic, q⟩ := h
  cases rx
  cases ry
  obtain ⟨ox, od, J⟩ := ia.look I
  obtain ⟨oy, oe, J'⟩ := ic.look I
  obtain ⟨m, fr⟩ := I.fr
  have un := room.un
  show wpAny (model X.prog X.w) X.A (richCompare .Eq _ _) _ _ _
  refine PySem.W.cmp_K (op := .Eq) (tb := .ref C) (by omega) fr I.ok.mod.kin J J'.type (by simp [PySem.W.notFirst]) S.at_ S.fn (wpAny_mono (by_machine F room rfl b out I (.cons (rel_ref _) (.cons (rel_ref _) .nil)) q) (fun r s' z => ?_) fun _ _ z => z)
  obtain ⟨v, H', K', rv, k, rfl, q'⟩ := z
  cases rv
  exact ⟨_, H', K', rel_bl _, q'⟩
/-! != of a class that has == alone -/
/-- the class at C: over object alone, the def at f for its ==, no != -/
def eqOnly (K : PySem.W.Frag) (C f : Addr) : Bool := match K.lookup C with
  | some ⟨ty, _, .cls ⟨_, _, mro, N, _, _, _, _, _, _, del⟩, ⟨[_, _, _, _, some (.builtin _), _]⟩⟩ => decide (ty = .type "type") && (decide (mro = [.ref C, .type "object"]) && (!del && (PySem.W.nsOkIn K N && (He.eqO (PySem.W.nsIn K N "__eq__") (some (some (.ref f))) && (He.eqO (PySem.W.nsIn K N "__ne__") (some none) &&
    (match K.lookup f with
    | some o => decide (o.cls = .type "function")
    | none => false))))))
  | _ => false
theorem ns_some_of {K : PySem.W.Frag} {h : Heap} {N : Addr} {mp : Str → Option Value} {x : Str} {v : Value} (L : K.In h) (G : h.Ns N mp) (e : PySem.W.nsIn K N x = some (some v)) : mp x = some v := by
  obtain ⟨o, es, ep, ho, hd, _, look⟩ := G
  unfold PySem.W.nsIn at e
  split at e
  · rename_i c d es' n' sl at_
    have z := L _ _ at_
    rw [ho] at z
    cases z
    cases hd
    split at e
    · rename_i en found
      cases e
      have y := look x
      unfold nsFind findBy at y
      rw [← Array.find?_toList, found] at y
      exact y.symm
    · split at e <;> cases e
  · cases e
theorem eqOnly_of {K : PySem.W.Frag} {h : Heap} {a : Addr} {ox : Obj} {od : Option Obj} (L : K.In h) (J : PySem.W.InstAt h a ox C od) (e : eqOnly K C f = true) : h.OwnEqNoNe a C f "object" [.type "object"] := by
  unfold eqOnly at e
  split at e
  · rename_i ty dd nm bs mro N qn hd sn sub ab col del k0 k1 k2 k3 nid k5 at_
    simp only [Bool.and_eq_true, decide_eq_true_eq, Bool.not_eq_true', He.eqO] at e
    obtain ⟨rfl, rfl, rfl, ok, eq, ne, fn⟩ := e
    split at fn
    · rename_i o lk
      have G := Heap.Ns.of_isNs (PySem.W.isNs_of_in L ok)
      exact ⟨ox, o, nm, qn, N, bs, hd, sn, sub, ab, col, dd, k0, k1, k2, k3, k5, nid, _, _, J.at_, J.cls, L _ _ at_, G, ns_some_of L G eq, L _ _ lk, of_decide_eq_true fn, PySem.F.mro_object, PySem.F.cmp_object.eq.lookup, PySem.W.ns_none_of L G ne⟩
    · cases fn
  · cases e
theorem op_neOwn (F : FnOk X.prog X.w X.K X.mg X.base CX n f fd ps sp) (S : eqOnly X.K C f = true) (b : Binds X.K fd ps []) (out : Passes CX X E) (room : Room n X.A.in1) : OpR X (compareOp .NotEq) (rOwnB C sp E not) := by
  intro pins s σ H x y v u Q I rx ry h
  obtain ⟨a, c, rfl, rfl, ia, ic, q⟩ := h
  cases rx
  cases ry
  obtain ⟨ox, od, J⟩ := ia.look I
  obtain ⟨oy, oe, J'⟩ := ic.look I
  have un := room.un
  have Y := eqOnly_of I.kIn J S
  obtain ⟨hh, g, d, t, os⟩ := s
  have more : X.A.in1.units = X.A.units + 1 := rfl
  refine compareOp_ne_ownEq PySem.F.cmp_object Y J'.at_ J'.cls (by omega) (wpAny_mono (by_machine F room rfl b out I (.cons (rel_ref _) (.cons (rel_ref _) .nil)) q) (fun r s' z => ?_) fun _ _ z => z)
  obtain ⟨v, H', K', rv, k, rfl, q'⟩ := z
  cases rv
  exact ⟨k, rfl, .bl (!k), H', K', rel_bl _, q'⟩
/-! len, bool, str -/
def rLenOwn (C : Addr) (sp : Sp) (E : XK) : List V → Hp → VK → Prop := fun xs H Q => ∃ a, xs = [.ref a] ∧ IsI H a C ∧ sp [.ref a] H (fun v H' => ∃ k : Int, v = .int k ∧ 0 ≤ k ∧ k < 2 ^ 63 ∧ Q (.int k) H') E
theorem call_lenOwn (F : FnOk X.prog X.w X.K X.mg X.base CX n f fd ps sp) (S : Spc X.K C "__len__" f) (b : Binds X.K fd ps []) (out : Passes CX X E) (room : Room n X.A.in1) : CallR X (.builtin "len") (rLenOwn C sp E) := by
  intro pins s σ H xs us Q I r h
  obtain ⟨a, rfl, ia, q⟩ := h
  obtain ⟨u, rfl, ru⟩ := Vals.one r
  cases ru
  obtain ⟨ox, od, J⟩ := ia.look I
  obtain ⟨m, fr⟩ := I.fr
  refine PySem.W.len_K fr I.ok.mod.kin J S.at_ S.fn (wpAny_mono (by_machine F room rfl b out I (.cons (rel_ref _) .nil) q) (fun r s' z => ?_) fun _ _ z => z)
  obtain ⟨v, H', K', rv, k, rfl, k0, k1, q'⟩ := z
  obtain ⟨t, rfl⟩ := rv
  exact ⟨⟨k0, k1⟩, .int k, H', K'.tok _, ⟨_, rfl⟩, q'⟩
def rStrOwn (C : Addr) (sp : Sp) (E : XK) : List V → Hp → VK → Prop := fun xs H Q => ∃ a, xs = [.ref a] ∧ IsI H a C ∧ sp [.ref a] H (fun v H' => ∃ z : Str, v = .str z ∧ Q (.str z) H') E
theorem call_strOwn (F : FnOk X.prog X.w X.K X.mg X.base CX n f fd ps sp) (S : Spc X.K C "__str__" f) (b : Binds X.K fd ps []) (out : Passes CX X E) (room : Room n X.A.in1.in1) : CallR X (.type "str") (rStrOwn C sp E) := by
  intro pins s σ H xs us Q I r h
  obtain ⟨a, rfl, ia, q⟩ := h
  obtain ⟨u, rfl, ru⟩ := Vals.one r
  cases ru
  obtain ⟨ox, od, J⟩ := ia.look I
  have un := room.un
  refine PySem.W.kso_call (by omega) I.kIn J S.at_ S.fn (wpAny_mono (by_machine F room rfl b out I (.cons (rel_ref _) .nil) q) (fun r s' z => ?_) fun _ _ z => z)
  obtain ⟨v, H', K', rv, k, rfl, q'⟩ := z
  obtain ⟨t, rfl⟩ := rv
  exact ⟨.str k, H', K', ⟨_, rfl⟩, q'⟩
end
end SwX
set_option Elab.async false
set_option linter.all false
set_option maxRecDepth 100000
set_option maxHeartbeats 4000000
/-! for i, x in enumerate(a tuple) -/
namespace SwX
open PySem PySem.Spec PyProof.Rows L2
theorem enum_made {v : Value} {o : Obj} {Ok : Heap → Prop} (B : Begins v o Ok) : Meets (Builtin.«enumerate.__new__» ⟨[.type "enumerate", v], []⟩) (fun _ R s => Ok s.heap ∧
    R (.ok (.ret (.ref (s.heap.push o).objs.size))) { s with heap := (s.heap.push o).push { cls := .type "enumerate", data := .fields #[.none, .bool false, .ref s.heap.objs.size, rawInt 0, .none, .none] } }) :=
  .of_wp fun prog w A R s z => by
    obtain ⟨ok, fin⟩ := z
    obtain ⟨hp, gs, dr, tk, os⟩ := s
    have sub := sub_enumerate
    have starts : ∀ {A' : Around} {E Q : Value → Shared → Prop}, Q (.ref hp.objs.size) ⟨hp.push o, gs, dr, tk, os⟩ → wpAny (model prog w) A' (pyIter v) Q E ⟨hp, gs, dr, tk, os⟩ := fun q => B.iter prog w _ _ ⟨hp, gs, dr, tk, os⟩ _ ok q
    wp_walk using starts
    refine wpAny_stack_any fun st => wpAny_pure ?_
    split
    · rename_i c _ _ _ _ _
      cases (c == Value.type "enumerate") <;> (wp_walk using starts; exact ⟨_, rfl, fin⟩)
    · wp_walk using starts
      exact ⟨_, rfl, fin⟩
section
variable {prog : Program} {w : World} {A : Around} {E : Value → Shared → Prop} {s : Shared}
theorem call_enum1 {v : Value} {o : Obj} {Ok : Heap → Prop} {Q : Value → Shared → Prop} (B : Begins v o Ok) (ok : Ok s.heap)
    (k : ∀ h', IsEnum h' (s.heap.objs.size + 1) s.heap.objs.size 0 .none → h'.get? s.heap.objs.size = some o → (∀ b u, s.heap.get? b = some u → h'.get? b = some u) → Q (.ref (s.heap.objs.size + 1)) { s with heap := h' }) : wpAny (model prog w) A (call (.type "enumerate") [v]) Q E s := by
  have size1 : (s.heap.push o).objs.size = s.heap.objs.size + 1 := Heap.size_push ..
  have made := Heap.get?_push_size (s.heap.push o) (o := { cls := .type "enumerate", data := .fields #[.none, .bool false, .ref s.heap.objs.size, rawInt 0, .none, .none] }) rfl
  rw [size1] at made
  refine callType_new F.called_enumerate (by decide) (F.typeCall_enumerate_1 _) (F.newCall_enumerate_1 _) (fun z => F.args_object_init_2 z _) F.entry_enumerate_new (enum_made B) ⟨ok, ?_⟩
  rw [size1]
  exact ⟨⟨_, made, rfl⟩, k _ made (Heap.get?_push_of_some _ (Heap.get?_push_size _ B.free)) fun b u e => Heap.get?_push_of_some _ (Heap.get?_push_of_some _ e)⟩
end
/-- the tuple at a, each item in a new pair with its place -/
def Itu (K : PySem.W.Frag) (a : Addr) : It :=
  ⟨fun i H => ∃ (xs : List V) (x : V), SqT K H a xs ∧ xs[i]? = some x, fun i H v H' => ∃ T x, v = .ref T ∧ H T = none ∧ H' = upd H T (.tup [.int (i : Nat), x]) ∧ ∀ xs, SqT K H a xs → xs[i]? = some x, fun i H => ∃ xs : List V, SqT K H a xs ∧ i = xs.length⟩
theorem tuple_same {X : Cx} {pins : List (Addr × Obj)} {σ : L2.St} {H : Hp} {s : Shared} {a : Addr} {xs ys : List V} (I : Inv X pins σ H s) (h : SqT X.K H a xs) (h' : SqT X.K H a ys) : xs = ys := I.tuple_inj h h'
theorem turn_enumT {P : Program} {w : World} {K : PySem.W.Frag} {elts : List Expr} {kk : Nat} {tpos : Pos} (a e it : Addr) :
    Turn P w K (.Tuple elts kk tpos) (Itu K a) [e, it] e (fun i h => (∃ old, IsEnum h e it ((i : Nat) : Int) old) ∧ h.IsTupleIter it a i ∧ e ≠ it) where
  mem := List.mem_cons_self
  obj := fun i h st b hb => by
    obtain ⟨⟨old, he⟩, ⟨o, ho, _, hd⟩, _⟩ := st
    rcases (show b = e ∨ b = it by simpa using hb) with rfl | rfl
    · exact ⟨_, he, fun v q => nomatch q⟩
    · exact ⟨o, ho, fun v q => by rw [hd] at q; cases q⟩
  keep := fun i h h' st k => by
    obtain ⟨⟨old, he⟩, hi, ne⟩ := st
    exact ⟨⟨old, k e (by simp) _ he⟩, hi.at fun o q => k it (by simp) o q, ne⟩
  item := by
    rintro X rfl rfl rfl hc i pins s σ H E I hf ⟨⟨old, he⟩, hit, ne⟩ ⟨xs, x, hq, hx⟩
    obtain ⟨its, rv, tup, _⟩ := I.tuple hq
    obtain ⟨u, hu, ru⟩ := rv.get hx
    have el : e < s.heap.objs.size := Heap.lt_size he
    have il : it < s.heap.objs.size := by
      obtain ⟨_, q, _⟩ := hit
      exact Heap.lt_size q
    have ah : a ≠ e ∧ a ≠ it := by
      obtain ⟨o, ho, hcl, _⟩ := tup
      refine ⟨fun z => ?_, fun z => ?_⟩
      · rw [z, he] at ho
        cases ho
        simp at hcl
      · obtain ⟨o', ho', hcl', _⟩ := hit
        rw [z, ho'] at ho
        cases ho
        rw [hcl] at hcl'
        simp at hcl'
    have hlt : i < its.toArray.size := by
      rw [List.size_toArray]
      exact (List.getElem?_eq_some_iff.mp hu).1
    refine wpAny_pyNext_enum_itemD (Draws.tuple (show X.A.in1.handled = none from I.ok.hd hc) it a ah.2 its.toArray) he ⟨hit, tup⟩ hlt ne (by simp [ne, Ne.symm ah.1]) fun x' h' tk px out st' tT sz keep => ?_
    have ex : x' = u := by
      have px : its.toArray[i]? = some x' := px
      rw [List.getElem?_toArray, hu] at px
      exact (Option.some.inj px).symm
    subst ex
    refine ⟨_, rfl, wpAny_letOwnedTupleGo_enum (s := { s with heap := h', toks := tk + 1 }) out fun h2 he2 sb => ?_⟩
    have tT2 := (sb.2 _ (Nat.ne_of_gt el)).trans tT
    have fresh : H s.heap.objs.size = none := I.hok.fresh (Nat.le_refl _)
    have J : Inv X pins σ (upd H s.heap.objs.size (.tup [.int (i : Nat), x])) { s with heap := h2, toks := tk + 1 } :=
      I.turnedNew (ch := [e, it]) (fun b ob hb q => (sb.2 b fun z => hb (by simp [z])).trans (keep b ob (fun z => hb (by simp [z])) (fun z => hb (by simp [z])) q)) hf (Nat.le_refl _)
        ⟨show 2 ≤ sizeLine by decide, [.int i tk, x'], .cons ⟨_, rfl⟩ (.cons ru .nil), ⟨_, tT2, rfl, _, rfl⟩⟩
    refine ⟨.ref s.heap.objs.size, _, J, rfl, ⟨_, x, rfl, fresh, rfl, fun ys hy => by rw [tuple_same I hy hq]; exact hx⟩, ⟨⟨x', ?_⟩, st'.1.at fun o q => (sb.2 it (Ne.symm ne)).trans q, ne⟩, fun b hb => ?_⟩
    · rw [show (((i + 1 : Nat) : Int)) = (i : Int) + 1 by omega]
      exact he2
    · have hb' : b < s.heap.objs.size := by
        rcases (show b = e ∨ b = it by simpa using hb) with rfl | rfl
        · exact el
        · exact il
      rw [upd_ne (Nat.ne_of_lt hb')]
      exact (hf b hb).1
  done := by
    rintro X rfl rfl rfl hc i pins s σ H E I hf ⟨⟨old, he⟩, hit, ne⟩ ⟨xs, hq, hx⟩
    obtain ⟨its, rv, tup, _⟩ := I.tuple hq
    obtain ⟨f0, f1, f2, f3, f4, f5⟩ := hf it (by simp)
    have len := rv.length
    have ah : a ≠ it := by
      obtain ⟨o, ho, hcl, _⟩ := tup
      intro z
      obtain ⟨o', ho', hcl', _⟩ := hit
      rw [z, ho'] at ho
      cases ho
      rw [hcl] at hcl'
      simp at hcl'
    have eq : i = its.toArray.size := by
      rw [List.size_toArray]
      omega
    subst eq
    exact wpAny_pyNext_enum_endD (Draws.tuple (show X.A.in1.handled = none from I.ok.hd hc) it a ah its.toArray) he ⟨hit, tup⟩ fun h' eb => ⟨rfl, I.turned (t' := s.toks) (fun b o hb q => eb b o hb q) f0 f1 f3 f4 f5⟩
  self := fun A i s Q E st h => by
    obtain ⟨⟨_, he⟩, _⟩ := st
    exact wpAny_pyIter_enum he h
def iEnumT (K : PySem.W.Frag) (ta : TA) : TI := fun σ H R => ta σ H fun vs H1 => ∃ a xs, vs = [.ref a] ∧ SqT K H1 a xs ∧ R (Itu K a) H1
theorem pi_enumT {X : Cx} {e : Expr} {ta : TA} {p pos tpos : Pos} {elts : List Expr} {kk : Nat} (hg : Gl X "enumerate") (hm : X.mg "enumerate" = none) (ha : PA X [e] ta) (hs : starEach [e] X.env = [(false, eval e X.env)] := by rfl) :
    PI X (.Tuple elts kk tpos) (.Call (.Name "enumerate" p) [e] [] pos) (iEnumT X.K ta) := by
  refine ⟨fun pins s σ H R I h => Call_ (ld_blt I hg hm boot_enumerate (PyProof.Rows.callWith_type1 (thn (ha.run pos pins s σ H _ I h) fun us s1 z => ?_) hs rfl))⟩
  obtain ⟨vs, H1, I1, r1, a, xs, rfl, hq, q⟩ := z
  obtain ⟨u, rfl, ru⟩ := Vals.one r1
  cases ru
  obtain ⟨its, rv, tup, _⟩ := I1.tuple hq
  refine call_enum1 (begins_tuple a its.toArray) tup fun h' he hit keep => wpAny_pyIter_enum he ?_
  have J : Inv X pins σ H1 { s1 with heap := h' } := I1.kept (t' := s1.toks) keep
  refine ⟨s1.heap.objs.size + 1, [s1.heap.objs.size + 1, s1.heap.objs.size], _, _, H1, rfl, J, turn_enumT a (s1.heap.objs.size + 1) s1.heap.objs.size, ⟨⟨.none, he⟩, ⟨_, hit, rfl, rfl⟩, Nat.succ_ne_self _⟩, fun b hb => ?_, q⟩
  have le : s1.heap.objs.size ≤ b := by
    rcases (show b = s1.heap.objs.size + 1 ∨ b = s1.heap.objs.size by simpa using hb) with rfl | rfl
    · exact Nat.le_succ _
    · exact Nat.le_refl _
  exact I1.fpOk le (I1.hok.fresh le)
/-- for i, x in enumerate(the tuple at a): by a word of the turn -/
theorem for_enumT {K : PySem.W.Frag} {a : Addr} {xs : List V} {g : TG} {tb : TS} {D : Ends} {σ : L2.St} {H : Hp} (Pv : Nat → L2.St → Hp → Prop) (h0 : Pv 0 σ H) (hl : ∀ i σ H, i ≤ xs.length → Pv i σ H → SqT K H a xs)
    (hs : ∀ i x T σ H, xs[i]? = some x → H T = none → Pv i σ H → g (.ref T) σ (upd H T (.tup [.int (i : Nat), x])) fun σ2 H2 => tb { D with nx := Pv (i + 1), ct := Pv (i + 1), bk := D.nx } σ2 H2) (hd : ∀ σ H, Pv xs.length σ H → D.nx σ H) :
    ∃ W : Nat → Nat → L2.St → Hp → Prop, (∃ m, W 0 m σ H) ∧ ∀ i m σ H, W i m σ H →
      ((Itu K a).stop i H ∧ D.nx σ H) ∨ ((Itu K a).go i H ∧ ∃ N : L2.St → Hp → Prop, (∀ σ' H', N σ' H' → ∃ m', m' < m ∧ W (i + 1) m' σ' H') ∧ ∀ x H', (Itu K a).yld i H x H' → g x σ H' fun σ2 H2 => tb { D with nx := N, ct := N, bk := D.nx } σ2 H2) := by
  refine ⟨fun i m σ H => m + i = xs.length ∧ Pv i σ H, ⟨xs.length, rfl, h0⟩, fun i m σ H w => ?_⟩
  obtain ⟨le, p⟩ := w
  have q := hl i σ H (by omega) p
  rcases Nat.lt_or_ge i xs.length with lt | ge
  · have some_ : xs[i]? = some xs[i] := List.getElem?_eq_getElem lt
    refine .inr ⟨⟨xs, _, q, some_⟩, Pv (i + 1), fun σ' H' p' => ⟨m - 1, by omega, by omega, p'⟩, fun x H' y => ?_⟩
    obtain ⟨T, x, rfl, fresh, rfl, at_⟩ := y
    exact hs i x T σ H (at_ xs q) fresh p
  · have eq : i = xs.length := by omega
    subst eq
    exact .inl ⟨⟨xs, q, rfl⟩, hd σ H p⟩
end SwX
set_option Elab.async false
set_option linter.all false
set_option maxRecDepth 100000
set_option maxHeartbeats 4000000
/-! fields as targets in a tuple; a class held by a local name called -/
namespace SwX
open PySem PySem.Spec PyProof.Rows L2
/-- .., o.f, .. = .. -/
def gFld (K : PySem.W.Frag) (to : TE) (f : Str) : TG := fun v σ H Q => to σ H fun x H1 => ∃ a C dx fs, x = .ref a ∧ H1 a = some (.ins C dx fs) ∧ Cls K C ∧ NoAttr K C f ∧ fs.length < 1000 ∧ Q σ (upd H1 a (.ins C dx (putF f v fs)))
theorem pg_fldT {X : Cx} {o : Expr} {to : TE} {f : Str} {pos : Pos} (ho : PE X o to) : PG X (.Attribute o f pos) (gFld X.K to f) := by
  refine ⟨fun pins s σ H v u Q I r h => ?_⟩
  rw [arm_assign_Attribute]
  refine wpAny_bind (wpAny_holding (thn (ho.run pins s σ H _ I h) fun ov s1 z => ?_))
  obtain ⟨x, H1, I1, rx, a, C, dx, fs, rfl, ea, c, n, l, q⟩ := z
  cases rx
  refine wpAny_bind (wpAny_standAt (wpAny_bind (wpAny_holding (setattr_ok I1 ea c n l r fun s3 I3 => ?_))))
  first
    | exact wpAny_release ⟨σ, _, I3, q⟩
    | exact wpAny_pure ⟨σ, _, I3, q⟩
/-- x(e, ..), x a local name that holds the class at C -/
def tMakeL (i : Nat) (C : Addr) (sp : Sp) (dvs : List V) (E : XK) (t : TA) : TE := fun σ H Q => σ[i]? = some (some (.ref C)) ∧ tMake C sp dvs E t σ H Q
theorem pe_makeL {X : Cx} {CX : CXT} {k i : Nat} {f C : Addr} {fd : FuncData} {ps : List Str} {sp : Sp} {E : XK} {dvs : List V} {ds : List Value} {x : Str} {p pos : Pos} {e : Expr} {es : List Expr} {t : TA} (M : Mk X.K C f) (F : FnOk X.prog X.w X.K X.mg X.base CX k f fd ps sp) (room : Room (k + 1) X.A) (hN : X.N[i]? = some x) (hv : Vis X.env.scope x) (hb : Binds X.K fd ps ds) (hd : Vals dvs ds) (out : Passes CX X E) (ha : PA X (e :: es) t)
    (hdb : (x == ("__debug__" : Str)) = false := by decide) (hcd : (x == ("__classdict__" : Str)) = false := by decide) (he : starEach (e :: es) X.env = (false, eval e X.env) :: starEach es X.env := by rfl) (hpl : (backTo pos (starEach es X.env)).any (·.1) = false := by rfl) :
    PE X (.Call (.Name x p) (e :: es) [] pos) (tMakeL i C sp dvs E t) := by
  refine ⟨fun pins s σ H Q I h => ?_⟩
  have look := (pe_var (pos := p) hN hv hdb hcd).run pins s σ H (fun v H1 => v = .ref C ∧ H1 = H) I ⟨.ref C, h.1, rfl, rfl⟩
  refine wpAny_Call_Name_kw (thn look fun u s1 z => ?_)
  obtain ⟨v, H1, I1, r1, rfl, rfl⟩ := z
  cases r1
  refine PySem.W.callWith_K (h₀ := X.base) I1.ok.mod.kin M.kp (thn (ha.run pos pins s1 σ _ _ I1 h.2) fun us s2 z => ?_) he hpl
  obtain ⟨vs, H2, I2, r, q⟩ := z
  exact ⟨I2.kIn, run_make M F room hb hd out I2 r q⟩
end SwX
set_option Elab.async false
set_option linter.all false
set_option maxRecDepth 100000
set_option maxHeartbeats 4000000
/-! data compared, looked for; texts, tuples, lists by joined rules -/
namespace SwX
open PySem PySem.Spec PyProof.Rows L2 Evl
/-! ### data without dicts -/
theorem dpAll_of {K : PySem.W.Frag} {H : Hp} : ∀ {xs : List V} {ds : List PyData}, xs.length = ds.length → (∀ (i : Nat) x d, xs[i]? = some x → ds[i]? = some d → Dp K H x d) → DpAll K H xs ds
  | [], [], _, _ => .nil
  | [], _ :: _, l, _ => by cases l
  | _ :: _, [], l, _ => by cases l
  | x :: xs, d :: ds, l, k => .cons (k 0 x d rfl rfl) (dpAll_of (Nat.succ.inj l) fun i x' d' e1 e2 => k (i + 1) x' d' (by simpa using e1) (by simpa using e2))
theorem noDict_at : ∀ {ds : List PyData} {i : Nat} {d : PyData}, PyData.hasDictAll ds = false → ds[i]? = some d → d.hasDict = false
  | [], _, _, _, e => by simp at e
  | x :: xs, 0, d, n, e => by
    simp at e
    subst e
    simp only [PyData.hasDictAll, Bool.or_eq_false_iff] at n
    exact n.1
  | x :: xs, i + 1, d, n, e => by
    simp only [PyData.hasDictAll, Bool.or_eq_false_iff] at n
    exact noDict_at (i := i) n.2 (by simpa using e)
theorem Da.dp {K : PySem.W.Frag} {H : Hp} {v : V} {d : PyData} (h : Da K H v d) : d.hasDict = false → Dp K H v d := by
  induction h with
  | non => exact fun _ => .non
  | bl b => exact fun _ => .bl b
  | int i => exact fun _ => .int i
  | str x => exact fun _ => .str x
  | lst h l _ ih => exact fun n => .lst (sq_of h) (dpAll_of l fun i x d e1 e2 => ih i x d e1 e2 (noDict_at (by simpa only [PyData.hasDict] using n) e2))
  | tup h l _ ih => exact fun n => .tup h (dpAll_of l fun i x d e1 e2 => ih i x d e1 e2 (noDict_at (by simpa only [PyData.hasDict] using n) e2))
  | dic h l _ _ => exact fun n => by simp [PyData.hasDict] at n
/-- plain enough for == -/
structure Pl (d : PyData) : Prop where
  nd : d.hasDict = false
  sh : SeqAt.shaped d = true
section
variable {X : Cx} {k : Nat}
/-- x in y, y a list | a tuple that is data -/
def rInDat (K : PySem.W.Frag) (neg : Bool) : R2 := fun x y H Q => ∃ d c ds, (c = .list ds ∨ c = .tuple ds) ∧ Da K H x d ∧ Da K H y c ∧ Pl d ∧ Pl c ∧ Q (.bl (if neg then !ds.any fun z => PyData.eqv z d else ds.any fun z => PyData.eqv z d)) H
theorem op_inDat (hr : Room k X.A) : OpR X (compareOp .In) (rInDat X.K false) := by
  intro pins s σ H x y v u Q I rx ry h
  obtain ⟨d, c, ds, hc, hx, hy, px, py, q⟩ := h
  obtain ⟨as, r1⟩ := Dp.reads I d x v (hx.dp px.nd) rx
  obtain ⟨bs, r2⟩ := Dp.reads I c y u (hy.dp py.nd) ry
  have un := hr.un
  rcases hc with rfl | rfl
  · exact SeqAt.in_list_reads r2 r1 (SeqAt.canLay_of_shaped py.sh) (SeqAt.canLay_of_shaped px.sh) (room_in_shaped px.sh (by omega)) ⟨.bl _, H, I, rel_bl _, q⟩
  · exact SeqAt.in_tuple_reads r2 r1 (SeqAt.canLay_of_shaped py.sh) (SeqAt.canLay_of_shaped px.sh) (room_in_shaped px.sh (by omega)) ⟨.bl _, H, I, rel_bl _, q⟩
theorem op_niDat (hr : Room k X.A) : OpR X (compareOp .NotIn) (rInDat X.K true) := by
  intro pins s σ H x y v u Q I rx ry h
  obtain ⟨d, c, ds, hc, hx, hy, px, py, q⟩ := h
  obtain ⟨as, r1⟩ := Dp.reads I d x v (hx.dp px.nd) rx
  obtain ⟨bs, r2⟩ := Dp.reads I c y u (hy.dp py.nd) ry
  have un := hr.un
  rcases hc with rfl | rfl
  · exact SeqAt.notIn_list_reads r2 r1 (SeqAt.canLay_of_shaped py.sh) (SeqAt.canLay_of_shaped px.sh) (room_in_shaped px.sh (by omega)) ⟨.bl _, H, I, rel_bl _, q⟩
  · exact SeqAt.notIn_tuple_reads r2 r1 (SeqAt.canLay_of_shaped py.sh) (SeqAt.canLay_of_shaped px.sh) (room_in_shaped px.sh (by omega)) ⟨.bl _, H, I, rel_bl _, q⟩
/-- x == y, both data -/
def rEqDat (K : PySem.W.Frag) (g : Bool → Bool) : R2 := fun x y H Q => ∃ d e, Da K H x d ∧ Da K H y e ∧ Pl d ∧ Pl e ∧ Q (.bl (g (PyData.eqv d e))) H
theorem op_eqDat (hr : Room k X.A) : OpR X (compareOp .Eq) (rEqDat X.K id) := fun pins s σ H x y v u Q I rx ry ⟨d, e, hx, hy, px, py, q⟩ =>
  op_eqD (by have := hr.un; omega) pins s σ H x y v u Q I rx ry ⟨d, e, hx.dp px.nd, hy.dp py.nd, px.sh, py.sh, q⟩
theorem op_neDat (hr : Room k X.A) : OpR X (compareOp .NotEq) (rEqDat X.K not) := fun pins s σ H x y v u Q I rx ry ⟨d, e, hx, hy, px, py, q⟩ =>
  op_neD (by have := hr.un; omega) pins s σ H x y v u Q I rx ry ⟨d, e, hx.dp px.nd, hy.dp py.nd, px.sh, py.sh, q⟩
/-- text + text -/
def rCatZ : R2 := fun x y H Q => ∃ i j, x = .str i ∧ y = .str j ∧ i.length + j.length ≤ sizeLine ∧ Q (.str (i ++ j)) H
/-- a + b: ints | lists | texts | tuples -/
def rAddX (K : PySem.W.Frag) : R2 := fun x y H Q => rI0 (fun i j => .int (i + j)) x y H Q ∨ rCat x y H Q ∨ rCatZ x y H Q ∨ rCatA K x y H Q
theorem op_addX : OpR X (binaryOp .Add) (rAddX X.K) := op_join op_add (op_join op_cat (op_join op_add_str op_catA))
/-- x in y: a sign in a text | data in data -/
theorem op_inX (hr : Room k X.A) : OpR X (compareOp .In) (fun x y H Q => (∃ (c : Nat) (z : Str), x = .str ⟨#[c]⟩ ∧ y = .str z ∧ Q (.bl (decide (c ∈ z.cps.toList))) H) ∨ rInDat X.K false x y H Q) := op_join op_in_sign (op_inDat hr)
theorem op_niX (hr : Room k X.A) : OpR X (compareOp .NotIn) (fun x y H Q => (∃ (c : Nat) (z : Str), x = .str ⟨#[c]⟩ ∧ y = .str z ∧ Q (.bl (!decide (c ∈ z.cps.toList))) H) ∨ rInDat X.K true x y H Q) := op_join op_notIn_sign (op_niDat hr)
/-- x == y: flat things | data -/
theorem op_eqX (hr : Room k X.A) : OpR X (compareOp .Eq) (fun x y H Q => rEq x y H Q ∨ rEqDat X.K id x y H Q) := op_join op_eq (op_eqDat hr)
theorem op_neX (hr : Room k X.A) : OpR X (compareOp .NotEq) (fun x y H Q => rNe x y H Q ∨ rEqDat X.K not x y H Q) := op_join op_ne (op_neDat hr)
/-- lo:hi of a list | a tuple | a text -/
def rSlY (K : PySem.W.Frag) : V → Option Int → Option Int → Hp → VK → Prop := fun x lo hi H Q => rSlL K x lo hi H Q ∨ rSlA K x lo hi H Q ∨ rSlS x lo hi H Q
theorem sl_Y : SlR X (rSlY X.K) := SlR.or sl_list (SlR.or sl_tupA sl_str)
/-- len of a list, a tuple | a text -/
def rLenY (K : PySem.W.Frag) : List V → Hp → VK → Prop := fun xs H Q => (∃ p ys, xs = [.ref p] ∧ (SqL K H p ys ∨ SqT K H p ys) ∧ Q (.int ys.length) H) ∨ ∃ z, xs = [.str z] ∧ z.length ≤ sizeLine ∧ Q (.int z.length) H
theorem call_lenY : CallR X (.builtin "len") (rLenY X.K) := cr_join call_len_seq call_len_str
/-- str(x): an int | a text -/
def rStrY : List V → Hp → VK → Prop := fun xs H Q => (∃ i, xs = [.int i] ∧ i.natAbs.log2 < 1920 ∧ Q (.str (toString i)) H) ∨ ∃ a, xs = [.str a] ∧ Q (.str a) H
theorem call_strY : CallR X (.type "str") rStrY := cr_join call_str_int SkE.call_str_str
end
end SwX
set_option Elab.async false
set_option linter.all false
set_option maxRecDepth 100000
set_option maxHeartbeats 4000000
/-! names, rules of a catalogue: plain, and as data -/
namespace SwX
open PySem PySem.Spec PyProof.Rows L2 Evl
abbrev Nm := List Nat
abbrev Rul := Nm × Nat × List Nm
def okSign (c : Nat) : Prop := (97 ≤ c ∧ c ≤ 122) ∨ (48 ≤ c ∧ c ≤ 57)
structure NameOk (n : Nm) : Prop where
  hd : ∃ c r, n = c :: r ∧ 97 ≤ c ∧ c ≤ 122
  len : n.length ≤ 8
  sg : ∀ c ∈ n, okSign c
structure NamesOk (ns : List Nm) : Prop where
  ne : ns ≠ []
  len : ns.length ≤ 4
  nd : ns.Nodup
  ok : ∀ n ∈ ns, NameOk n
structure RulOk (ns : List Nm) (r : Rul) : Prop where
  wd : r.1 ∈ ns
  lo : 1 ≤ r.2.1
  hi : r.2.1 ≤ 9
  len : r.2.2.length ≤ 3
  pt : ∀ p ∈ r.2.2, p ∈ ns
structure RulesOk (ns : List Nm) (rs : List Rul) : Prop where
  len : rs.length ≤ 10
  nd : rs.Nodup
  ok : ∀ r ∈ rs, RulOk ns r
def nmD (n : Nm) : PyData := .str (SX.S n)
def nmsD (ns : List Nm) : PyData := .tuple (ns.map nmD)
def rulD (r : Rul) : PyData := .tuple [nmD r.1, .int (r.2.1 : Nat), nmsD r.2.2]
def rulsD (rs : List Rul) : PyData := .tuple (rs.map rulD)
theorem nmD_eqv (a b : Nm) : PyData.eqv (nmD a) (nmD b) = decide (a = b) := by
  show (SX.S a == SX.S b) = _
  exact SX.S_beq_eq
theorem nms_eqv : ∀ a b : List Nm, PyData.eqvAll (a.map nmD) (b.map nmD) = decide (a = b)
  | [], [] => by simp [PyData.eqvAll]
  | [], _ :: _ => by simp [PyData.eqvAll]
  | _ :: _, [] => by simp [PyData.eqvAll]
  | x :: a, y :: b => by
    have h1 := nmD_eqv x y
    have h2 := nms_eqv a b
    simp only [List.map_cons, PyData.eqvAll, h1, h2]
    rw [Bool.eq_iff_iff]
    simp
theorem nmsD_eqv (a b : List Nm) : PyData.eqv (nmsD a) (nmsD b) = decide (a = b) := by
  show PyData.eqv (.tuple _) (.tuple _) = _
  simp only [PyData.eqv]
  exact nms_eqv a b
theorem rulD_eqv (a b : Rul) : PyData.eqv (rulD a) (rulD b) = decide (a = b) := by
  obtain ⟨w, o, p⟩ := a
  obtain ⟨w', o', p'⟩ := b
  unfold rulD
  simp only [PyData.eqv, PyData.eqvAll, nmD_eqv, nmsD_eqv]
  rw [Bool.eq_iff_iff]
  simp [Prod.ext_iff]
  omega
theorem ruls_eqv : ∀ a b : List Rul, PyData.eqvAll (a.map rulD) (b.map rulD) = decide (a = b)
  | [], [] => by simp [PyData.eqvAll]
  | [], _ :: _ => by simp [PyData.eqvAll]
  | _ :: _, [] => by simp [PyData.eqvAll]
  | x :: a, y :: b => by
    have h1 := rulD_eqv x y
    have h2 := ruls_eqv a b
    simp only [List.map_cons, PyData.eqvAll, h1, h2]
    rw [Bool.eq_iff_iff]
    simp
theorem any_rul (rs : List Rul) (r : Rul) : (rs.map rulD).any (fun z => PyData.eqv z (rulD r)) = decide (r ∈ rs) := by
  rw [Bool.eq_iff_iff]
  simp only [List.any_map, List.any_eq_true, Function.comp, rulD_eqv, decide_eq_true_eq]
  exact ⟨fun ⟨x, h, e⟩ => e ▸ h, fun h => ⟨r, h, rfl⟩⟩
theorem any_nm (ns : List Nm) (n : Nm) : (ns.map nmD).any (fun z => PyData.eqv z (nmD n)) = decide (n ∈ ns) := by
  rw [Bool.eq_iff_iff]
  simp only [List.any_map, List.any_eq_true, Function.comp, nmD_eqv, decide_eq_true_eq]
  exact ⟨fun ⟨x, h, e⟩ => e ▸ h, fun h => ⟨n, h, rfl⟩⟩
/-! they are plain -/
theorem lay_all {α : Type} {f : α → PyData} : ∀ {l : List α}, (∀ a ∈ l, (f a).canLay0 = true) → PyData.canLayAll0 (l.map f) = true
  | [], _ => by simp [PyData.canLayAll0]
  | x :: l, h => by
    simp only [List.map_cons, PyData.canLayAll0, Bool.and_eq_true]
    exact ⟨h x List.mem_cons_self, lay_all fun a ha => h a (List.mem_cons_of_mem _ ha)⟩
theorem depth_all {α : Type} {f : α → PyData} {n : Nat} : ∀ {l : List α}, (∀ a ∈ l, (f a).depth ≤ n) → PyData.depthAll (l.map f) ≤ n
  | [], _ => by simp [PyData.depthAll]
  | x :: l, h => by
    simp only [List.map_cons, PyData.depthAll]
    exact Nat.max_le.mpr ⟨h x List.mem_cons_self, depth_all fun a ha => h a (List.mem_cons_of_mem _ ha)⟩
theorem nodict_all {α : Type} {f : α → PyData} : ∀ {l : List α}, (∀ a ∈ l, (f a).hasDict = false) → PyData.hasDictAll (l.map f) = false
  | [], _ => by simp [PyData.hasDictAll]
  | x :: l, h => by
    simp only [List.map_cons, PyData.hasDictAll, Bool.or_eq_false_iff]
    exact ⟨h x List.mem_cons_self, nodict_all fun a ha => h a (List.mem_cons_of_mem _ ha)⟩
end SwX
set_option Elab.async false
set_option linter.all false
set_option maxRecDepth 100000
set_option maxHeartbeats 4000000
/-! lists of draws -/
namespace SwX
open PySem PySem.Spec PyProof.Rows L2 Evl
theorem Pur.ne {H : Hp} {a p : Addr} (h : Pur H a) (n : H p = none) : p ≠ a := fun z => by
  obtain ⟨_, _, _, e, _⟩ := h
  rw [z, e] at n
  cases n
theorem Pur.other {H : Hp} {a p : Addr} {o : HO} (h : Pur H a) (e : H p = some o) (ne : ∀ x y z : Int, o ≠ .lst [.int x, .int y, .int z]) : p ≠ a := fun w => by
  obtain ⟨x, y, z, e', _⟩ := h
  rw [w, e'] at e
  exact ne x y z (Option.some.inj e).symm
theorem pur_new {H : Hp} {a p : Addr} {o : HO} (h : Pur H a) (n : H p = none) : Pur (upd H p o) a := h.keep (Ex.new n)
/-- a list of at most m things of which P holds -/
def DrL (a : Addr) (te : TE) (σ : L2.St) (G : Hp) (m : Nat) (P : V → Prop) : Prop := ∀ H1, Ex G H1 → Pur H1 a → ∀ Q : VK, (∀ p xs H2, xs.length ≤ m → (∀ x ∈ xs, P x) → H2 p = some (.lst xs) → p ≠ a → Ex G H2 → Pur H2 a → Q (.ref p) H2) → te σ H1 Q
section
variable {K : PySem.W.Frag} {σ : L2.St} {G H : Hp} {a : Addr} {te ta tb t0 : TE} {v : V} {P P1 P2 : V → Prop} {D : Ends} {tz : TS} {m : Nat}
theorem drl_lc {j : Nat} {vs : List Nat} (n : G a = none) (h0 : Dr a t0 σ G fun v => ∃ k : Int, v = .int k ∧ 0 ≤ k ∧ k ≤ m) (hm : m ≤ 1000) (hw : ∀ x, wipe ((wipe σ vs).set j (some x)) vs = wipe σ vs)
    (he : ∀ (i : Int) G', G' a = none → Ex G G' → Dr a te ((wipe σ vs).set j (some (.int i))) G' P) : DrL a (tLc (iRng1 (tCons t0 tNil)) (gName j) tYes te vs) σ G m P := fun H1 e1 p1 Q q =>
  h0 H1 e1 p1 _ fun v H2 pv e2 p2 => by
    obtain ⟨k, rfl, k0, k1⟩ := pv
    refine ⟨k, rfl, by omega, by omega, fun D' hD => ?_⟩
    have ne := p2.ne hD
    refine lc_range (lo := 0) (n := k.toNat) (fun i H' => ∃ acc, H' D' = some (.lst acc) ∧ acc.length = i ∧ (∀ x ∈ acc, P x) ∧ Ex G H' ∧ Pur H' a) ⟨[], upd_same, rfl, (fun _ h => nomatch h), e2.trans (Ex.new hD), pur_new p2 hD⟩ (fun i H' hi z => ⟨hw _, ?_⟩) fun H' z => ?_
    · obtain ⟨acc, ha, la, pa, ea, pu⟩ := z
      show te ((wipe σ vs).set j (some (.int (0 + (i : Int))))) H' fun y H4 => ∃ acc, H4 D' = some (.lst acc) ∧ acc.length < sizeLine ∧ ∃ acc', upd H4 D' (.lst (acc ++ [y])) D' = some (.lst acc') ∧ acc'.length = i + 1 ∧ (∀ x ∈ acc', P x) ∧ Ex G (upd H4 D' (.lst (acc ++ [y]))) ∧ Pur (upd H4 D' (.lst (acc ++ [y]))) a
      refine he _ (less a H') less_at (ex_less n ea) H' less_ex pu _ fun y H4 py e4 p4 => ?_
      refine ⟨acc, e4 _ _ (by rw [less_ne ne]; exact ha), sz_lt (by omega), _, upd_same, by simp [la], fun x hx => ?_, ?_, ?_⟩
      · rcases List.mem_append.mp hx with hx | hx
        · exact pa x hx
        · rw [List.mem_singleton.mp hx]
          exact py
      · intro b o hb
        by_cases z : b = D'
        · subst z
          have := e2 _ _ hb
          rw [hD] at this
          cases this
        · rw [upd_ne z]
          exact e4 _ _ (by rw [less_ne (fun w => by rw [w, n] at hb; cases hb)]; exact ea _ _ hb)
      · obtain ⟨x, y', z, e, r⟩ := p4
        exact ⟨x, y', z, by rw [upd_ne (Ne.symm ne)]; exact e, r⟩
    · obtain ⟨acc, ha, la, pa, ea, pu⟩ := z
      exact q D' acc H' (by omega) pa ha ne ea pu
theorem Dr.imp (h : Dr a te σ G P) (i : ∀ v, P v → P1 v) : Dr a te σ G P1 := fun H1 e p Q q => h H1 e p Q fun v H2 pv => q v H2 (i v pv)
/-! texts of one sign, joined -/
theorem join_ones : ∀ cs : List Nat, TL.joinL [] (cs.map fun c => [c]) = cs
  | [] => rfl
  | [c] => rfl
  | c :: d :: r => by
    have h := join_ones (d :: r)
    simp only [List.map_cons] at h ⊢
    show [c] ++ ([] ++ TL.joinL [] ([d] :: r.map fun c => [c])) = c :: d :: r
    rw [h] <;> rfl
theorem ones_of {R : Nat → Prop} : ∀ {xs : List V}, (∀ x ∈ xs, ∃ c, x = .str ⟨#[c]⟩ ∧ R c) → ∃ cs : List Nat, xs = ((cs.map fun c => [c]).map SX.S).map V.str ∧ (∀ c ∈ cs, R c) ∧ cs.length = xs.length
  | [], _ => ⟨[], rfl, (fun _ h => nomatch h), rfl⟩
  | x :: xs, h => by
    obtain ⟨c, rfl, rc⟩ := h x List.mem_cons_self
    obtain ⟨cs, rfl, rs, l⟩ := ones_of (xs := xs) fun y hy => h y (List.mem_cons_of_mem _ hy)
    exact ⟨c :: cs, rfl, fun d hd => (List.mem_cons.mp hd).elim (fun e => e ▸ rc) (rs d), congrArg Nat.succ l⟩
/-- "".join(a list of signs drawn) -/
def rJoin (K : PySem.W.Frag) : V → List V → Hp → VK → Prop := fun x xs H Q => ∃ a p, ∃ ys : List Str, x = .str a ∧ xs = [.ref p] ∧ (SqL K H p (ys.map V.str) ∨ SqT K H p (ys.map V.str)) ∧ (ys.map (·.length)).sum + ys.length * a.length ≤ 16777216 ∧ Q (.str (Txt.join a ys)) H
theorem sum_ones : ∀ cs : List Nat, (((cs.map fun c => [c]).map SX.S).map (·.length)).sum = cs.length
  | [] => rfl
  | c :: cs => by
    have h := sum_ones cs
    simp only [List.map_cons, List.sum_cons, List.length_cons]
    rw [h]
    show 1 + _ = _
    omega
theorem dr_join {R : Nat → Prop} {to : TE} (hm : m ≤ 1000) (ho : Ev to σ G (.str (SX.S []))) (h : DrL a te σ G m fun v => ∃ c, v = .str ⟨#[c]⟩ ∧ R c) : Dr a (tM1 (rJoin K) to te) σ G fun v => ∃ cs : List Nat, v = .str (SX.S cs) ∧ cs.length ≤ m ∧ ∀ c ∈ cs, R c := fun H1 e1 p1 Q q =>
  ho H1 e1 _ fun H2 e2 => ⟨⟨_, rfl⟩, h H2 (e1.trans e2) (p1.keep e2) _ fun p xs H3 l3 px h3 _ e3 p3 => by
    obtain ⟨cs, rfl, rc, lc⟩ := ones_of px
    refine ⟨SX.S [], p, _, rfl, rfl, .inl (sq_of h3), ?_, ?_⟩
    · rw [sum_ones]
      simp only [List.length_map]
      have z : (SX.S []).length = 0 := rfl
      rw [z]
      omega
    · rw [SX.join_S, join_ones]
      exact q _ H3 ⟨cs, rfl, by omega, rc⟩ e3 p3⟩
end
/-! ### the joined rules, the written part named -/
section
variable {X : Cx} {k : Nat} (K : PySem.W.Frag)
theorem ixK (h : X.K = K := by rfl) : IxR X (rIx K) := h ▸ ix_seq
theorem addK (h : X.K = K := by rfl) : OpR X (binaryOp .Add) (rAddX K) := h ▸ op_addX
theorem eqK (hr : Room k X.A) (h : X.K = K := by rfl) : OpR X (compareOp .Eq) (fun x y H Q => rEq x y H Q ∨ rEqDat K id x y H Q) := h ▸ op_eqX hr
theorem neK (hr : Room k X.A) (h : X.K = K := by rfl) : OpR X (compareOp .NotEq) (fun x y H Q => rNe x y H Q ∨ rEqDat K not x y H Q) := h ▸ op_neX hr
theorem inK (hr : Room k X.A) (h : X.K = K := by rfl) : OpR X (compareOp .In) (fun x y H Q => (∃ (c : Nat) (z : Str), x = .str ⟨#[c]⟩ ∧ y = .str z ∧ Q (.bl (decide (c ∈ z.cps.toList))) H) ∨ rInDat K false x y H Q) := h ▸ op_inX hr
theorem niK (hr : Room k X.A) (h : X.K = K := by rfl) : OpR X (compareOp .NotIn) (fun x y H Q => (∃ (c : Nat) (z : Str), x = .str ⟨#[c]⟩ ∧ y = .str z ∧ Q (.bl (!decide (c ∈ z.cps.toList))) H) ∨ rInDat K true x y H Q) := h ▸ op_niX hr
theorem slK (h : X.K = K := by rfl) : SlR X (rSlY K) := h ▸ sl_Y
theorem lenK (h : X.K = K := by rfl) : CallR X (.builtin "len") (rLenY K) := h ▸ call_lenY
end
end SwX
set_option Elab.async false
set_option linter.all false
set_option maxRecDepth 100000
set_option maxHeartbeats 4000000
/-! names and rules drawn: evaluation -/
namespace SwX
open PySem PySem.Spec PyProof.Rows L2 Evl
def nmV (n : Nm) : V := .str (SX.S n)
/-! ### plain data -/
theorem okSign_lt {c : Nat} (h : okSign c) : c < 0x110000 := by
  unfold okSign at h
  omega
theorem nm_lay {n : Nm} (h : ∀ c ∈ n, okSign c) : (nmD n).canLay0 = true := by
  show PyData.strOk (SX.S n) = true
  unfold PyData.strOk
  rw [← Array.all_toList]
  show n.all _ = true
  rw [List.all_eq_true]
  exact fun c hc => decide_eq_true (okSign_lt (h c hc))
theorem shaped_of {d : PyData} (a : d.canLay0 = true) (b : d.depth ≤ 64) : SeqAt.shaped d = true := by
  unfold SeqAt.shaped
  rw [a, Bool.true_and]
  exact decide_eq_true b
theorem pl_nm {n : Nm} (h : NameOk n) : Pl (nmD n) := ⟨rfl, shaped_of (nm_lay h.sg) (Nat.zero_le _)⟩
theorem dep_l (xs : List PyData) : (PyData.list xs).depth = PyData.depthAll xs + 1 := by simp only [PyData.depth]
theorem dep_t (xs : List PyData) : (PyData.tuple xs).depth = PyData.depthAll xs + 1 := by simp only [PyData.depth]
theorem nms_lay {ns : List Nm} (h : ∀ n ∈ ns, NameOk n) : PyData.canLayAll0 (ns.map nmD) = true := lay_all fun n hn => nm_lay (h n hn).sg
theorem nms_dep (ns : List Nm) : PyData.depthAll (ns.map nmD) ≤ 0 := depth_all fun n _ => Nat.le_refl _
theorem nms_nod (ns : List Nm) : PyData.hasDictAll (ns.map nmD) = false := nodict_all fun n _ => rfl
theorem pl_nmL {ns : List Nm} (h : ∀ n ∈ ns, NameOk n) : Pl (.list (ns.map nmD)) := ⟨by simp only [PyData.hasDict]; exact nms_nod ns, shaped_of (by simp only [PyData.canLay0]; exact nms_lay h) (by rw [dep_l]; have := nms_dep ns; omega)⟩
theorem pl_nms {ns : List Nm} (h : ∀ n ∈ ns, NameOk n) : Pl (nmsD ns) := ⟨by unfold nmsD; simp only [PyData.hasDict]; exact nms_nod ns, shaped_of (by unfold nmsD; simp only [PyData.canLay0]; exact nms_lay h) (by unfold nmsD; rw [dep_t]; have := nms_dep ns; omega)⟩
/-- a rule's texts are names -/
def RulNm (r : Rul) : Prop := NameOk r.1 ∧ ∀ p ∈ r.2.2, NameOk p
theorem RulOk.nm {ns : List Nm} {r : Rul} (h : RulOk ns r) (n : ∀ m ∈ ns, NameOk m) : RulNm r := ⟨n _ h.wd, fun p hp => n _ (h.pt p hp)⟩
theorem rul_parts {r : Rul} (h : RulNm r) : (rulD r).canLay0 = true ∧ (rulD r).depth ≤ 2 ∧ (rulD r).hasDict = false := by
  have z := nms_dep r.2.2
  unfold rulD nmsD
  refine ⟨?_, ?_, ?_⟩
  · simp only [PyData.canLay0, PyData.canLayAll0, nm_lay h.1.sg, nms_lay h.2, Bool.and_self]
  · have e : (nmD r.1).depth = 0 := rfl
    simp only [PyData.depth, PyData.depthAll, e]
    omega
  · have e : (nmD r.1).hasDict = false := rfl
    simp only [PyData.hasDict, PyData.hasDictAll, nms_nod, e, Bool.or_self]
theorem pl_rul {r : Rul} (h : RulNm r) : Pl (rulD r) := by
  obtain ⟨a, b, c⟩ := rul_parts h
  refine ⟨c, ?_⟩
  unfold SeqAt.shaped
  rw [a, Bool.true_and]
  exact decide_eq_true (by omega)
theorem ruls_dep {rs : List Rul} (h : ∀ r ∈ rs, RulNm r) : PyData.depthAll (rs.map rulD) ≤ 2 := depth_all fun r hr => (rul_parts (h r hr)).2.1
theorem pl_rulL {rs : List Rul} (h : ∀ r ∈ rs, RulNm r) : Pl (.list (rs.map rulD)) := ⟨by simp only [PyData.hasDict]; exact nodict_all fun r hr => (rul_parts (h r hr)).2.2, shaped_of (by simp only [PyData.canLay0]; exact lay_all fun r hr => (rul_parts (h r hr)).1) (by rw [dep_l]; have := ruls_dep h; omega)⟩
theorem pl_ruls {rs : List Rul} (h : ∀ r ∈ rs, RulNm r) : Pl (rulsD rs) := ⟨by unfold rulsD; simp only [PyData.hasDict]; exact nodict_all fun r hr => (rul_parts (h r hr)).2.2, shaped_of (by unfold rulsD; simp only [PyData.canLay0]; exact lay_all fun r hr => (rul_parts (h r hr)).1) (by unfold rulsD; rw [dep_t]; have := ruls_dep h; omega)⟩
/-! ### in the heap -/
section
variable {K : PySem.W.Frag} {H : Hp} {p : Addr}
theorem nms_pair (ns : List Nm) : Paired (fun d v => Da K H v d) (ns.map nmD) (ns.map nmV) := by
  induction ns with
  | nil => exact .nil
  | cons n ns ih => exact .cons (.str _) ih
theorem da_nmL {ns : List Nm} (h : H p = some (.lst (ns.map nmV))) : Da K H (.ref p) (.list (ns.map nmD)) := da_list h (nms_pair ns)
theorem da_nms {ns : List Nm} (h : SqT K H p (ns.map nmV)) : Da K H (.ref p) (nmsD ns) := da_tuple h (nms_pair ns)
end
/-! ### evaluation -/
section
variable {K : PySem.W.Frag} {σ : L2.St} {G H : Hp} {a : Addr} {te ta tb t0 : TE} {v : V} {P P1 P2 : V → Prop} {D : Ends} {tz tu : TS} {m : Nat} {t u : TT}
theorem el_catX {l : Addr} {xs ys : List V} (ha : Ev ta σ H (.ref l)) (hl : H l = some (.lst xs)) (hb : EvL tb σ H ys) (z : xs.length + ys.length ≤ 100000) : EvL (tOp (rAddX K) ta tb) σ H (xs ++ ys) := fun H1 e1 Q q =>
  ha H1 e1 _ fun H2 e2 => hb H2 (e1.trans e2) _ fun p H3 _ e3 h3 => .inr (.inl ⟨l, p, xs, ys, rfl, rfl, e3 _ _ (e2 _ _ (e1 _ _ hl)), h3, sz_of z, fun c hc => q c _ (fresh_back (e2.trans e3) hc) ((e2.trans e3).trans (Ex.new hc)) upd_same⟩)
theorem rv_niDat {x y : V} {d c : PyData} {ds : List PyData} {b : Bool} (hc : c = .list ds ∨ c = .tuple ds) (hx : Da K H x d) (hy : Da K H y c) (px : Pl d) (py : Pl c) (e : (ds.any fun z => PyData.eqv z d) = b) :
    RV (fun x y H Q => (∃ (c : Nat) (z : Str), x = .str ⟨#[c]⟩ ∧ y = .str z ∧ Q (.bl (!decide (c ∈ z.cps.toList))) H) ∨ rInDat K true x y H Q) x y H (.bl (!b)) := fun H1 e1 Q q => .inr ⟨d, c, ds, hc, hx.mono e1, hy.mono e1, px, py, by subst e; exact q H1 (Ex.refl H1)⟩
theorem rv_inDat {x y : V} {d c : PyData} {ds : List PyData} {b : Bool} (hc : c = .list ds ∨ c = .tuple ds) (hx : Da K H x d) (hy : Da K H y c) (px : Pl d) (py : Pl c) (e : (ds.any fun z => PyData.eqv z d) = b) :
    RV (fun x y H Q => (∃ (c : Nat) (z : Str), x = .str ⟨#[c]⟩ ∧ y = .str z ∧ Q (.bl (decide (c ∈ z.cps.toList))) H) ∨ rInDat K false x y H Q) x y H (.bl b) := fun H1 e1 Q q => .inr ⟨d, c, ds, hc, hx.mono e1, hy.mono e1, px, py, by subst e; exact q H1 (Ex.refl H1)⟩
theorem rv_neDat {x y : V} {d e : PyData} {b : Bool} (hx : Da K H x d) (hy : Da K H y e) (px : Pl d) (py : Pl e) (z : PyData.eqv d e = b) : RV (fun x y H Q => rNe x y H Q ∨ rEqDat K not x y H Q) x y H (.bl (!b)) := fun H1 e1 Q q =>
  .inr ⟨d, e, hx.mono e1, hy.mono e1, px, py, by subst z; exact q H1 (Ex.refl H1)⟩
theorem rv_eqDat {x y : V} {d e : PyData} {b : Bool} (hx : Da K H x d) (hy : Da K H y e) (px : Pl d) (py : Pl e) (z : PyData.eqv d e = b) : RV (fun x y H Q => rEq x y H Q ∨ rEqDat K id x y H Q) x y H (.bl b) := fun H1 e1 Q q =>
  .inr ⟨d, e, hx.mono e1, hy.mono e1, px, py, by subst z; exact q H1 (Ex.refl H1)⟩
theorem rv_addI {i j : Int} : RV (rAddX K) (.int i) (.int j) H (.int (i + j)) := fun H1 _ _ q => .inl ⟨i, j, rfl, rfl, q H1 (Ex.refl H1)⟩
theorem rv_addS {x y : List Nat} (h : x.length + y.length ≤ 100000) : RV (rAddX K) (.str (SX.S x)) (.str (SX.S y)) H (.str (SX.S (x ++ y))) := fun H1 _ _ q => .inr (.inr (.inl ⟨_, _, rfl, rfl, by rw [SX.S_len, SX.S_len]; exact sz_of h, by rw [SX.S_cat]; exact q H1 (Ex.refl H1)⟩))
theorem rv_ixLX {p : Addr} {xs : List V} {i : Int} (h : SqL K H p xs) (ha : atI xs i = some v) : RV (rIx K) (.ref p) (.int i) H v := fun H1 e _ q => .inl ⟨p, xs, i, v, rfl, rfl, ex_l e h, ha, q H1 (Ex.refl H1)⟩
theorem rv_ixTX {p : Addr} {xs : List V} {i : Int} (h : SqT K H p xs) (ha : atI xs i = some v) : RV (rIx K) (.ref p) (.int i) H v := fun H1 e _ q => .inr (.inl ⟨p, xs, i, v, rfl, rfl, ex_t e h, ha, q H1 (Ex.refl H1)⟩)
/-- a test that may draw -/
def DrT (a : Addr) (tt : TT) (σ : L2.St) (G : Hp) (R : Bool → Prop) : Prop := ∀ H1, Ex G H1 → Pur H1 a → ∀ Q : Bool → Hp → Prop, (∀ b H2, R b → Ex G H2 → Pur H2 a → Q b H2) → tt σ H1 Q
theorem dt_ev {R : Bool → Prop} {b : Bool} (h : EvT t σ G b) (r : R b) : DrT a t σ G R := fun H1 e p Q q => h H1 e Q fun H2 e2 => q b H2 r (e.trans e2) (p.keep e2)
theorem dt_B {R : Bool → Prop} (h : Dr a te σ G fun v => ∃ b, v = .bl b ∧ R b) : DrT a (tTest te) σ G R := fun H1 e p Q q => h H1 e p _ fun v H2 pv e2 p2 => by
  obtain ⟨b, rfl, r⟩ := pv
  exact ⟨b, rfl, q b H2 r e2 p2⟩
theorem dt_and {R R1 R2 : Bool → Prop} (h1 : DrT a t σ G R1) (h2 : R1 true → DrT a u σ G R2) (f : R1 false → R false) (g : ∀ b, R1 true → R2 b → R b) : DrT a (tAnd t u) σ G R := fun H1 e p Q q => h1 H1 e p _ fun b H2 r e2 p2 => by
  cases b with
  | true =>
    show u σ H2 Q
    exact h2 r H2 e2 p2 Q fun b H3 r' e3 p3 => q b H3 (g b r r') e3 p3
  | false =>
    show Q false H2
    exact q false H2 (f r) e2 p2
theorem dr_if {R : Bool → Prop} (h : DrT a t σ G R) (h1 : R true → Dr a ta σ G P) (h2 : R false → Dr a tb σ G P) : Dr a (tIf t ta tb) σ G P := fun H1 e p Q q => h H1 e p _ fun b H2 r e2 p2 => by
  cases b with
  | true =>
    show ta σ H2 Q
    exact h1 r H2 e2 p2 Q q
  | false =>
    show tb σ H2 Q
    exact h2 r H2 e2 p2 Q q
/-- for i in range(a drawn number) -/
theorem q_forDr {j : Nat} {R : Int → Prop} (h0 : Dr a t0 σ G fun v => ∃ k : Int, v = .int k ∧ 0 ≤ k ∧ k ≤ m ∧ R k) (hm : m ≤ 1000) (e : Ex G H) (p : Pur H a) (Pv : Nat → L2.St → Hp → Prop) (hp : ∀ H1, Ex G H1 → Pur H1 a → Pv 0 σ H1)
    (hs : ∀ (i : Nat) σ' H', i < m → Pv i σ' H' → tu { D with nx := Pv (i + 1), ct := Pv (i + 1), bk := tz D } (σ'.set j (some (.int (i : Int)))) H') (hd : ∀ (k : Int) σ' H', R k → 0 ≤ k → Pv k.toNat σ' H' → tz D σ' H') : tSeq (tFor (iRng1 (tCons t0 tNil)) (gName j) tu) tz D σ H :=
  h0 H e p _ fun v H1 pv e1 p1 => by
    obtain ⟨k, rfl, k0, k1, r⟩ := pv
    refine ⟨k, rfl, by omega, by omega, for_range (lo := 0) (n := k.toNat) Pv (hp H1 e1 p1) (fun i σ' H' hi z => ?_) fun σ' H' z => hd k σ' H' r k0 z⟩
    show tu { D with nx := Pv (i + 1), ct := Pv (i + 1), bk := tz D } (σ'.set j (some (.int (0 + (i : Int))))) H'
    rw [Int.zero_add]
    exact hs i σ' H' (by omega) z
end
section
variable {K : PySem.W.Frag} {σ : L2.St} {G H : Hp} {a : Addr} {te ta tb t0 : TE} {v : V} {P P1 P2 : V → Prop} {D : Ends} {tz tu : TS} {m : Nat}
theorem dr_opG {r : R2} (ha : Dr a ta σ G P1) (hb : Dr a tb σ G P2) (hr : ∀ x y, P1 x → P2 y → ∃ z, P z ∧ RV r x y G z) : Dr a (tOp r ta tb) σ G P := fun H1 e p Q q =>
  ha H1 e p _ fun x H2 px e2 p2 => hb H2 e2 p2 _ fun y H3 py e3 p3 => by
    obtain ⟨z, pz, rv⟩ := hr x y px py
    exact rv H3 e3 Q fun H4 e4 => q z H4 pz (e3.trans e4) (p3.keep e4)
def rTupOf (K : PySem.W.Frag) : List V → Hp → VK → Prop := fun xs H Q => ∃ p ys, xs = [.ref p] ∧ ((SqL K H p ys ∧ ∀ l, H l = none → Q (.ref l) (upd H l (.tup ys))) ∨ (SqT K H p ys ∧ Q (.ref p) H))
theorem q_asgTupL {i : Nat} (h : DrL a te σ G m P) (e : Ex G H) (p : Pur H a) (k : ∀ q xs H1, xs.length ≤ m → (∀ x ∈ xs, P x) → H1 q = some (.tup xs) → q ≠ a → Ex G H1 → Pur H1 a → tz D (σ.set i (some (.ref q))) H1) : tSeq (tAsg (tCB (rTupOf K) (tCons te tNil)) (gName i)) tz D σ H :=
  h H e p _ fun l xs H1 lx px hl _ e1 p1 => ⟨l, xs, rfl, .inl ⟨sq_of hl, fun c hc => k c xs _ lx px upd_same (p1.ne hc) (e1.trans (Ex.new hc)) (pur_new p1 hc)⟩⟩
theorem ev_lenL {p : Addr} {xs : List V} (ha : Ev te σ H (.ref p)) (h : SqL K H p xs ∨ SqT K H p xs) : Ev (tCB (rLenY K) (tCons te tNil)) σ H (.int (xs.length : Int)) := fun H1 e Q q =>
  ha H1 e _ fun H2 e2 => .inl ⟨p, xs, rfl, h.imp (ex_l (e.trans e2)) (ex_t (e.trans e2)), q H2 e2⟩
theorem ev_lenS {x : List Nat} (ha : Ev te σ H (.str (SX.S x))) (h : x.length ≤ 100000) : Ev (tCB (rLenY K) (tCons te tNil)) σ H (.int (x.length : Int)) := fun H1 e Q q =>
  ha H1 e _ fun H2 e2 => .inr ⟨SX.S x, rfl, by rw [SX.S_len]; exact sz_of h, by rw [SX.S_len]; exact q H2 e2⟩
end
end SwX
set_option Elab.async false
set_option linter.all false
set_option maxRecDepth 100000
set_option maxHeartbeats 4000000
/-! texts of catalogues -/
namespace SwX
open PySem PySem.Spec PyProof.Rows L2 Evl
theorem isiK {X : Cx} (K : PySem.W.Frag) (h : X.K = K := by rfl) : CallR X (.builtin "isinstance") (rIsi K) := h ▸ call_isi
theorem pe_gstr {X : Cx} {x z : Str} {pos : Pos} (hm : ∃ t, X.mg x = some (.str z t)) (hg : Gl X x := by rfl) (hd : (x == ("__debug__" : Str)) = false := by decide) : PE X (.Name x pos) (tC (.str z)) := by
  obtain ⟨t, h⟩ := hm
  exact pe_glob hg h ⟨t, rfl⟩ hd
/-! ### plain texts -/
def kindsL : List Nat := [107, 105, 110, 100, 115]
def tailL (ps : List Nm) : List Nat := if ps = [] then [] else [58, 32] ++ TL.joinL [32] ps
def rowL (r : Rul) : List Nat := r.1 ++ ([32] ++ (TL.numL r.2.1 ++ tailL r.2.2))
def headL (ns : List Nm) : List Nat := TL.joinL [32] (kindsL :: ns)
def textL (ns : List Nm) (rs : List Rul) : List Nat := TL.joinL [10] (headL ns :: rs.map rowL)
theorem numS (o : Nat) : (Str.ofString (toString ((o : Nat) : Int))) = SX.S (TL.numL o) := (SX.S_tl _).symm.trans (congrArg SX.S (TL.tl_num o))
/-! ### data told apart -/
section
variable {K : PySem.W.Frag} {H : Hp} {v : V}
theorem da_pairs : ∀ {xs : List V} {ds : List PyData}, xs.length = ds.length → (∀ (i : Nat) x d, xs[i]? = some x → ds[i]? = some d → Da K H x d) → Paired (fun d x => Da K H x d) ds xs
  | [], [], _, _ => .nil
  | [], _ :: _, l, _ => by cases l
  | _ :: _, [], l, _ => by cases l
  | x :: xs, d :: ds, l, k => .cons (k 0 x d rfl rfl) (da_pairs (Nat.succ.inj l) fun i x' d' e1 e2 => k (i + 1) x' d' (by simpa using e1) (by simpa using e2))
theorem da_tupI {ds : List PyData} (h : Da K H v (.tuple ds)) : ∃ q xs, v = .ref q ∧ SqT K H q xs ∧ Paired (fun d x => Da K H x d) ds xs := by
  cases h with
  | tup h l k => exact ⟨_, _, rfl, h, da_pairs l k⟩
theorem paired_unmap {α β γ : Type} {F : γ → β → Prop} {g : α → γ} : ∀ {is : List α} {vs : List β}, Paired F (is.map g) vs → Paired (fun i v => F (g i) v) is vs
  | [], _, .nil => .nil
  | _ :: _, _, .cons h t => .cons h (paired_unmap t)
theorem da_ruls (rs : List Rul) (h : Da K H v (rulsD rs)) : ∃ q xs, v = .ref q ∧ SqT K H q xs ∧ Paired (fun r x => Da K H x (rulD r)) rs xs := by
  obtain ⟨q, xs, e, s, p⟩ := da_tupI h
  exact ⟨q, xs, e, s, paired_unmap p⟩
theorem da_strI {z : Str} (h : Da K H v (.str z)) : v = .str z := by
  cases h
  rfl
theorem da_intI {i : Int} (h : Da K H v (.int i)) : v = .int i := by
  cases h
  rfl
theorem nms_vals : ∀ {ns : List Nm} {xs : List V}, Paired (fun n x => Da K H x (nmD n)) ns xs → xs = ns.map nmV
  | [], _, .nil => rfl
  | n :: ns, _, .cons h t => by rw [nms_vals t, List.map_cons, da_strI h] <;> rfl
theorem da_nmsI {ns : List Nm} (h : Da K H v (nmsD ns)) : ∃ q, v = .ref q ∧ SqT K H q (ns.map nmV) := by
  obtain ⟨q, xs, e, s, p⟩ := da_tupI h
  rw [nms_vals (paired_unmap p)] at s
  exact ⟨q, e, s⟩
theorem paired3 {α β : Type} {F : α → β → Prop} {a b c : α} : ∀ {xs : List β}, Paired F [a, b, c] xs → ∃ x y z, xs = [x, y, z] ∧ F a x ∧ F b y ∧ F c z
  | _, .cons h1 (.cons h2 (.cons h3 .nil)) => ⟨_, _, _, rfl, h1, h2, h3⟩
theorem da_rul {r : Rul} (h : Da K H v (rulD r)) : ∃ b c, v = .ref b ∧ SqT K H b [nmV r.1, .int (r.2.1 : Nat), .ref c] ∧ SqT K H c (r.2.2.map nmV) := by
  obtain ⟨q, xs, e, s, p⟩ := da_tupI h
  obtain ⟨x, y, z, rfl, h1, h2, h3⟩ := paired3 p
  obtain ⟨c, rfl, sc⟩ := da_nmsI h3
  rw [da_strI h1, da_intI h2] at s
  exact ⟨q, c, e, s, sc⟩
end
/-! ### evaluation of texts -/
section
variable {K : PySem.W.Frag} {σ : L2.St} {H : Hp} {te ta tb to : TE} {v : V} {D : Ends} {tz tu : TS}
theorem S_map (l : List Nm) : l.map nmV = (l.map SX.S).map V.str := by rw [List.map_map] <;> rfl
theorem sum_small {B : Nat} : ∀ {l : List (List Nat)}, (∀ x ∈ l, x.length ≤ B) → ((l.map SX.S).map (·.length)).sum ≤ B * l.length
  | [], _ => Nat.zero_le _
  | x :: l, h => by
    have z := sum_small (l := l) fun y hy => h y (List.mem_cons_of_mem _ hy)
    have y := h x List.mem_cons_self
    simp only [List.map_cons, List.sum_cons, List.length_cons]
    rw [SX.S_len, Nat.mul_add]
    omega
/-- sep.join(a list | a tuple of texts) -/
theorem ev_joinS {sep : List Nat} {l : List (List Nat)} {p : Addr} {B : Nat} (ho : Ev to σ H (.str (SX.S sep))) (he : Ev te σ H (.ref p)) (hp : SqL K H p ((l.map SX.S).map V.str) ∨ SqT K H p ((l.map SX.S).map V.str)) (hB : ∀ x ∈ l, x.length ≤ B) (small : B ≤ 1000 ∧ l.length ≤ 1000 ∧ sep.length ≤ 10) :
    Ev (tM1 (rJoin K) to te) σ H (.str (SX.S (TL.joinL sep l))) := fun H1 e1 Q q => ho H1 e1 _ fun H2 e2 => ⟨⟨_, rfl⟩, he H2 (e1.trans e2) _ fun H3 e3 => by
  refine ⟨SX.S sep, p, _, rfl, rfl, hp.imp (ex_l ((e1.trans e2).trans e3)) (ex_t ((e1.trans e2).trans e3)), ?_, by rw [SX.join_S]; exact q H3 (e2.trans e3)⟩
  have z := sum_small hB
  obtain ⟨b, c, d⟩ := small
  have m1 : B * l.length ≤ 1000 * 1000 := Nat.mul_le_mul b c
  have m2 : (l.map SX.S).length * (SX.S sep).length ≤ 1000 * 10 := Nat.mul_le_mul (by rw [List.length_map]; exact c) (by rw [SX.S_len]; exact d)
  omega⟩
theorem ev_fmtS {x : List Nat} (h : Ev te σ H (.str (SX.S x))) (l : x.length ≤ 100000) : Ev (tFmt te) σ H (.str (SX.S x)) := fun H1 e1 Q q => h H1 e1 _ fun H2 e2 => .inl ⟨_, rfl, by rw [SX.S_len]; exact sz_of l, q H2 e2⟩
theorem ev_fmtI {o : Nat} (h : Ev te σ H (.int (o : Int))) (l : o < 1000) : Ev (tFmt te) σ H (.str (SX.S (TL.numL o))) := fun H1 e1 Q q => h H1 e1 _ fun H2 e2 => .inr ⟨o, rfl, by
  have : (o : Int).natAbs.log2 < 10 := by
    by_cases z : o = 0
    · subst z
      decide
    · exact (Nat.log2_lt (by omega)).mpr (by omega)
  omega, by rw [numS]; exact q H2 e2⟩
theorem q_appX {l : Addr} {xs : List V} (hl : H l = some (.lst xs)) (ha : Ev ta σ H (.ref l)) (h : Ev te σ H v) (hz : xs.length < 100000) (k : ∀ H1, Ex H H1 → D.nx σ (upd H1 l (.lst (xs ++ [v])))) : tDrop (tBM K "list" rAppend ta (tCons te tNil)) D σ H := s_app hl ha h hz k
end
end SwX
set_option Elab.async false
set_option linter.all false
set_option maxRecDepth 100000
set_option maxHeartbeats 4000000
/-! isinstance of data, comprehensions over texts and tuples, enumerate: evaluation -/
namespace SwX
open PySem PySem.Spec PyProof.Rows L2 Evl
section
variable {K : PySem.W.Frag} {σ : L2.St} {H : Hp} {te ta tb to : TE} {v x : V} {D : Ends} {tz tu : TS} {t : TT}
theorem ty_tup {p : Addr} {xs : List V} (h : SqT K H p xs) : TyX K H (.ref p) (.type "tuple") := by
  rcases h with (h | ⟨o, h⟩) | ⟨o, its, n, h, c, _⟩
  · exact .base (.tup h)
  · exact .fTuple h
  · exact .kTuple h c
theorem ev_isi {T n : String} {b : Bool} (h : Ev te σ H x) (ty : ∀ H', Ex H H' → TyX K H' x (.type T)) (k : kitB T n = some b) : Ev (tCB (rIsi K) (tCons te (tCons (tC (.ty n)) tNil))) σ H (.bl b) := fun H1 e1 Q q =>
  h H1 e1 _ fun H2 e2 => ⟨x, .ty n, .type T, .type n, b, rfl, .ty n, ty H2 (e1.trans e2), kit_ty k, q H2 e2⟩
/-- [te for x in a tuple] -/
theorem el_lcT {a : Addr} {xs : List V} {tl : TE} {j : Nat} {vs : List Nat} (f : Nat → V) (h : Ev tl σ H (.ref a)) (hx : SqT K H a xs) (hz : xs.length ≤ 40000) (hw : ∀ x, wipe ((wipe σ vs).set j (some x)) vs = wipe σ vs)
    (he : ∀ (i : Nat) (x : V) H1, Ex H H1 → xs[i]? = some x → Ev te ((wipe σ vs).set j (some x)) H1 (f i)) : EvL (tLc (iTup K tl) (gName j) tYes te vs) σ H (given xs.length (fun _ => true) f) := fun H0 e Q q => h H0 e _ fun H1 e1 => ⟨a, rfl, ⟨xs, ex_t (e.trans e1) hx⟩, fun Dl hD =>
  lc_tup (xs := xs) (Cw H1 (fun _ => true) f Dl) ⟨hD, Ex.new hD, upd_same⟩ (fun i H' _ p => ex_t ((e.trans e1).trans p.2.1) hx) (fun i x H' hi p => ⟨hw x, cw_turn p (by have := (List.getElem?_eq_some_iff.mp hi).1; omega) (fun H4 _ Q' k => k H4 (Ex.refl H4)) (fun _ => he i x H1 (e.trans e1) hi)⟩)
    (fun H' p => q Dl H' (fresh_back e1 p.1) (e1.trans p.2.1) p.2.2)⟩
/-- [te for c in a text] -/
theorem el_lcZ {l : List Nat} {tl : TE} {j : Nat} {vs : List Nat} (f : Nat → V) (h : Ev tl σ H (.str (SX.S l))) (hz : l.length ≤ 40000) (hw : ∀ x, wipe ((wipe σ vs).set j (some x)) vs = wipe σ vs)
    (he : ∀ (i c : Nat) H1, Ex H H1 → l[i]? = some c → Ev te ((wipe σ vs).set j (some (.str ⟨#[c]⟩))) H1 (f i)) : EvL (tLc (iStr tl) (gName j) tYes te vs) σ H (given l.length (fun _ => true) f) := fun H0 e Q q => h H0 e _ fun H1 e1 => ⟨SX.S l, rfl, fun Dl hD => by
  have sz : (SX.S l).cps.size = l.length := by simp [SX.S]
  have w := walk_str (z := SX.S l)
  rw [sz] at w
  refine lc_it w (Cw H1 (fun _ => true) f Dl) ⟨hD, Ex.new hD, upd_same⟩ (fun _ _ _ _ => trivial) (fun i x H' H2 hi p y => ?_) (fun H' p => q Dl H' (fresh_back e1 p.1) (e1.trans p.2.1) p.2.2)
  obtain ⟨rfl, c, hc, rfl⟩ := y
  exact ⟨hw _, cw_turn p (by omega) (fun H4 _ Q' k => k H4 (Ex.refl H4)) (fun _ => he i c H1 (e.trans e1) (by simpa [SX.S] using hc))⟩⟩
theorem given_trues (n : Nat) : given n (fun _ => true) (fun _ => .bl true) = ((List.range n).map fun _ => true).map V.bl := by
  unfold given
  rw [List.filter_eq_self.mpr (fun _ _ => rfl), List.map_map] <;> rfl
theorem ev_allG {n : Nat} (h : EvL te σ H (given n (fun _ => true) (fun _ => .bl true))) : Ev (tCB (rAll K) (tCons te tNil)) σ H (.bl true) := by
  have z := ev_allT (K := K) (el_is h (given_trues n))
  have e : (((List.range n).map fun _ => true).all id) = true := by simp
  rw [e] at z
  exact z
theorem q_retE (h : Ev te σ H v) (k : ∀ H1, Ex H H1 → D.rt v H1) : tRet te D σ H := s_ret h k
theorem rv_signIn {c : Nat} {l : List Nat} {b : Bool} (h : decide (c ∈ l) = b) : RV (fun x y H Q => (∃ (c : Nat) (z : Str), x = .str ⟨#[c]⟩ ∧ y = .str z ∧ Q (.bl (decide (c ∈ z.cps.toList))) H) ∨ rInDat K false x y H Q) (.str ⟨#[c]⟩) (.str (SX.S l)) H (.bl b) := fun H1 _ Q q =>
  .inl ⟨c, SX.S l, rfl, rfl, by rw [show (SX.S l).cps.toList = l from rfl, h]; exact q H1 (Ex.refl H1)⟩
theorem rv_signNi {c : Nat} {l : List Nat} {b : Bool} (h : decide (c ∈ l) = b) : RV (fun x y H Q => (∃ (c : Nat) (z : Str), x = .str ⟨#[c]⟩ ∧ y = .str z ∧ Q (.bl (!decide (c ∈ z.cps.toList))) H) ∨ rInDat K true x y H Q) (.str ⟨#[c]⟩) (.str (SX.S l)) H (.bl (!b)) := fun H1 _ Q q =>
  .inl ⟨c, SX.S l, rfl, rfl, by rw [show (SX.S l).cps.toList = l from rfl, h]; exact q H1 (Ex.refl H1)⟩
theorem rv_ixZ {l : List Nat} {c : Nat} {i : Nat} (h : l[i]? = some c) (hl : l.length ≤ 100000) : RV (rIx K) (.str (SX.S l)) (.int (i : Int)) H (.str ⟨#[c]⟩) := fun H1 _ Q q => .inr (.inr ⟨SX.S l, i, c, rfl, rfl, by rw [SX.S_len]; exact sz_of hl, by
  show atI l (i : Int) = some c
  unfold atI
  rw [ixN_nat (List.getElem?_eq_some_iff.mp h).1]
  exact h, q H1 (Ex.refl H1)⟩)
theorem rv_ixTn {p : Addr} {xs : List V} {i : Nat} (h : SqT K H p xs) (ha : xs[i]? = some v) : RV (rIx K) (.ref p) (.int (i : Int)) H v := rv_ixTX h (by
  unfold atI
  rw [ixN_nat (List.getElem?_eq_some_iff.mp ha).1]
  exact ha)
theorem rv_ixLn {p : Addr} {xs : List V} {i : Nat} (h : SqL K H p xs) (ha : xs[i]? = some v) : RV (rIx K) (.ref p) (.int (i : Int)) H v := rv_ixLX h (by
  unfold atI
  rw [ixN_nat (List.getElem?_eq_some_iff.mp ha).1]
  exact ha)
/-- a slice of a tuple -/
theorem yi_slT {p : Addr} {xs : List V} {lo hi : Option Int} {tl th : TO} (ha : Ev te σ H (.ref p)) (hp : SqT K H p xs) (hl : EvO tl σ H lo) (hh : EvO th σ H hi) : Yi (tSl (rSlY K) te tl th) σ H fun v H' => ∃ q, v = .ref q ∧ SqT K H' q (cutV xs lo hi) := fun H1 e1 Q q =>
  ha H1 e1 _ fun H2 e2 => hl H2 (e1.trans e2) _ fun H3 e3 => hh H3 ((e1.trans e2).trans e3) _ fun H4 e4 => by
    have hp4 := ex_t (((e1.trans e2).trans e3).trans e4) hp
    refine .inr (.inl ⟨p, xs, rfl, hp4, fun w => ?_, fun w c hc => ?_⟩)
    · refine q _ H4 ((e2.trans e3).trans e4) ⟨p, rfl, ?_⟩
      unfold cutV
      rw [w.1, w.2, List.drop_zero, Nat.sub_zero, List.take_length]
      exact hp4
    · exact q _ _ (((e2.trans e3).trans e4).trans (Ex.new hc)) ⟨c, rfl, .inl (.inl upd_same)⟩
theorem cut_take (xs : List V) (n : Nat) : cutV xs none (some (n : Int)) = xs.take n := by
  unfold cutV
  rw [HT.sIx_nat, HT.sIx_none, List.drop_zero, Nat.sub_zero]
  rcases Nat.le_total n xs.length with h | h
  · rw [Nat.min_eq_left h]
  · rw [Nat.min_eq_right h, List.take_length, List.take_of_length_le h]
theorem cut_drop (xs : List V) (n : Nat) : cutV xs (some (n : Int)) none = xs.drop n := by
  unfold cutV
  rw [HT.sIx_nat, HT.sIx_none]
  rcases Nat.le_total n xs.length with h | h
  · rw [Nat.min_eq_left h, List.take_of_length_le (by rw [List.length_drop]; exact Nat.le_refl _)]
  · rw [Nat.min_eq_right h, List.drop_of_length_le (Nat.le_refl _), List.drop_of_length_le h, List.take_nil]
theorem el_slL {p : Addr} {xs : List V} {lo hi : Option Int} {tl th : TO} (ha : Ev te σ H (.ref p)) (hp : SqL K H p xs) (hl : EvO tl σ H lo) (hh : EvO th σ H hi) : EvL (tSl (rSlY K) te tl th) σ H (cutV xs lo hi) := fun H1 e1 Q q =>
  ha H1 e1 _ fun H2 e2 => hl H2 (e1.trans e2) _ fun H3 e3 => hh H3 ((e1.trans e2).trans e3) _ fun H4 e4 =>
    .inl ⟨p, xs, rfl, ex_l (((e1.trans e2).trans e3).trans e4) hp, fun c hc => q c _ (fresh_back ((e2.trans e3).trans e4) hc) (((e2.trans e3).trans e4).trans (Ex.new hc)) upd_same⟩
/-- x in a thing made on the way -/
theorem ev_inY {d c : PyData} {ds : List PyData} {b : Bool} (hc : c = .list ds ∨ c = .tuple ds) (ha : Ev ta σ H x) (hx : ∀ H', Ex H H' → Da K H' x d) (hb : Yi tb σ H fun v H' => Da K H' v c) (px : Pl d) (py : Pl c) (e : (ds.any fun z => PyData.eqv z d) = b) :
    Ev (tOp (fun x y H Q => (∃ (c : Nat) (z : Str), x = .str ⟨#[c]⟩ ∧ y = .str z ∧ Q (.bl (decide (c ∈ z.cps.toList))) H) ∨ rInDat K false x y H Q) ta tb) σ H (.bl b) := fun H1 e1 Q q => ha H1 e1 _ fun H2 e2 => hb H2 (e1.trans e2) _ fun y H3 e3 hy =>
  .inr ⟨d, c, ds, hc, hx H3 ((e1.trans e2).trans e3), hy, px, py, by subst e; exact q H3 (e2.trans e3)⟩
/-- for i, x in enumerate(a tuple) -/
theorem q_forEnumT {p : Addr} {xs : List V} {tl : TE} {i1 i2 : Nat} (h : Ev tl σ H (.ref p)) (hp : SqT K H p xs) (Pv : Nat → L2.St → Hp → Prop) (h0 : ∀ H1, Ex H H1 → Pv 0 σ H1) (hl : ∀ i σ' H', i ≤ xs.length → Pv i σ' H' → SqT K H' p xs)
    (hs : ∀ i x σ' H' T, xs[i]? = some x → H' T = none → Pv i σ' H' → tu { D with nx := Pv (i + 1), ct := Pv (i + 1), bk := tz D } ((σ'.set i1 (some (.int (i : Nat)))).set i2 (some x)) (upd H' T (.tup [.int (i : Nat), x]))) (hd : ∀ σ' H', Pv xs.length σ' H' → tz D σ' H') :
    tSeq (tFor (iEnumT K (tCons tl tNil)) (gTup K 2 (gCons (gName i1) (gCons (gName i2) gNil))) tu) tz D σ H := h H (Ex.refl H) _ fun H1 e1 =>
  ⟨p, xs, rfl, ex_t e1 hp, for_enumT Pv (h0 H1 e1) hl (fun i x T σ' H' hx hT z => ⟨T, _, rfl, .inl (.inl upd_same), rfl, _, _, rfl, _, _, rfl, rfl, hs i x σ' H' T hx hT z⟩) hd⟩
end
end SwX
set_option Elab.async false
set_option linter.all false
set_option maxRecDepth 100000
set_option maxHeartbeats 4000000
/-! comprehensions that make objects; split, partition -/
namespace SwX
open PySem PySem.Spec PyProof.Rows L2 Evl
theorem less_upd_same {D : Addr} {H : Hp} {o : HO} : less D (upd H D o) = less D H := by
  funext b
  unfold less
  split
  · rfl
  · rename_i n
    exact upd_ne n
section
variable {K : PySem.W.Frag} {σ : L2.St} {H : Hp} {te tl ta to : TE} {v x : V} {α : Type} {F : α → V → Hp → Prop} {is : List α} {xs : List V}
/-- [te for x in a list], each a new thing of which F holds aside of whatever stood before -/
theorem yi_lcL {j : Nat} {vs : List Nat} (m : ∀ i v H H', Ex H H' → F i v H → F i v H') (h : EvL tl σ H xs) (l : xs.length = is.length) (hz : xs.length ≤ 1000) (hw : ∀ x, wipe ((wipe σ vs).set j (some x)) vs = wipe σ vs)
    (he : ∀ (i : Nat) (x : V) (d : α) H1, Ex H H1 → xs[i]? = some x → is[i]? = some d → ∀ Q : VK, (∀ v H2, Ex H1 H2 → (∀ a, H1 a ≠ none → F d v (less a H2)) → Q v H2) → te ((wipe σ vs).set j (some x)) H1 Q) : Yi (tLc (iList K tl) (gName j) tYes te vs) σ H (LstOf F is) := fun H0 e0 Q q =>
  h H0 e0 _ fun p H1 n1 e1 h1 => ⟨p, rfl, ⟨xs, sq_of h1⟩, fun D hD => by
    have ne : p ≠ D := fun z => by rw [z, hD] at h1; cases h1
    refine lc_list (xs := xs) (fun i H' => ∃ acc, H' D = some (.lst acc) ∧ Paired (fun d v => F d v (less D H')) (is.take i) acc ∧ Ex H1 H') ⟨[], upd_same, by rw [List.take_zero]; exact .nil, Ex.new hD⟩ (fun i H' _ z => sq_of (z.choose_spec.2.2 _ _ h1)) (fun i x H' hx z => ⟨hw x, ?_⟩) fun H' z => ?_
    · obtain ⟨acc, ha, pa, ea⟩ := z
      have lt : i < is.length := by
        rw [← l]
        exact (List.getElem?_eq_some_iff.mp hx).1
      have at_ : is[i]? = some is[i] := by simp [lt]
      show te ((wipe σ vs).set j (some x)) H' fun y H4 => ∃ acc, H4 D = some (.lst acc) ∧ acc.length < sizeLine ∧ ∃ acc', upd H4 D (.lst (acc ++ [y])) D = some (.lst acc') ∧ Paired (fun d v => F d v (less D (upd H4 D (.lst (acc ++ [y]))))) (is.take (i + 1)) acc' ∧ Ex H1 (upd H4 D (.lst (acc ++ [y])))
      refine he i x is[i] H' ((e0.trans e1).trans ea) hx at_ _ fun y H4 e4 fy => ?_
      have ln := paired_len pa
      rw [List.length_take] at ln
      refine ⟨acc, e4 _ _ ha, sz_lt (by omega), _, upd_same, ?_, ?_⟩
      · rw [less_upd_same, List.take_succ, at_]
        exact paired_append (paired_mono (F := fun d v H => F d v H) (less_mono e4) m pa) (.cons (fy D (by rw [ha]; exact fun z => nomatch z)) .nil)
      · intro b o hb
        have nb : b ≠ D := fun z => by rw [z, hD] at hb; cases hb
        rw [upd_ne nb]
        exact e4 _ _ (ea _ _ hb)
    · obtain ⟨acc, ha, pa, ea⟩ := z
      rw [l, List.take_length] at pa
      exact q (.ref D) H' (e1.trans ea) ⟨D, acc, rfl, ha, paired_mono (F := fun d v H => F d v H) less_ex m pa⟩⟩
/-- s.split(sep), of a joined text -/
theorem el_split {c : Nat} {sep : List Nat} {parts : List (List Nat)} (ho : Ev to σ H (.str (SX.S (TL.joinL (c :: sep) parts)))) (he : Ev te σ H (.str (SX.S (c :: sep)))) (ne : parts ≠ []) (free : ∀ p ∈ parts, c ∉ p) (small : (TL.joinL (c :: sep) parts).length ≤ 100000) (lo : (c :: sep).all (· < 256) = true) :
    EvL (tM1 (fun x xs H Q => ∃ a b, x = .str a ∧ xs = [.str b] ∧ (b.length == 0) = false ∧ a.length + 2 ≤ sizeLine ∧ rNewStrs (Txt.split a b) H Q) to te) σ H ((parts.map SX.S).map V.str) := fun H1 e1 Q q =>
  ho H1 e1 _ fun H2 e2 => ⟨⟨_, rfl⟩, he H2 (e1.trans e2) _ fun H3 e3 => ⟨_, _, rfl, rfl, by rw [SX.S_len]; rfl, by
    rw [SX.S_len]
    exact Nat.le_trans (show _ ≤ 100002 by omega) (by decide), fun p hp => by
    rw [SX.split_S (List.cons_ne_nil _ _) lo, SX.spl_join ne free]
    exact q p _ (fresh_back (e2.trans e3) hp) ((e2.trans e3).trans (Ex.new hp)) upd_same⟩⟩
/-- s.partition(sep): (p, sep, q) | (s, "", "") -/
theorem yu_part {c : Nat} {sep a p m q : List Nat} (ho : Ev to σ H (.str (SX.S a))) (he : Ev te σ H (.str (SX.S (c :: sep)))) (h : (a = p ++ (c :: sep ++ q) ∧ c ∉ p ∧ m = c :: sep) ∨ (c ∉ a ∧ p = a ∧ m = [] ∧ q = [])) (small : a.length ≤ 100000) :
    EvU (tM1 (fun x xs H Q => ∃ a b, x = .str a ∧ xs = [.str b] ∧ (b.length == 0) = false ∧ a.length ≤ sizeLine ∧ ∀ p, H p = none → Q (.ref p) (upd H p (.tup [.str (Txt.partition a b).1, .str (Txt.partition a b).2.1, .str (Txt.partition a b).2.2]))) to te) σ H [.str (SX.S p), .str (SX.S m), .str (SX.S q)] := fun H1 e1 Q k =>
  ho H1 e1 _ fun H2 e2 => ⟨⟨_, rfl⟩, he H2 (e1.trans e2) _ fun H3 e3 => ⟨_, _, rfl, rfl, by rw [SX.S_len]; rfl, by rw [SX.S_len]; exact sz_of small, fun r hr => by
    refine k r _ (fresh_back (e2.trans e3) hr) ((e2.trans e3).trans (Ex.new hr)) ?_
    rcases h with ⟨rfl, f, rfl⟩ | ⟨f, rfl, rfl, rfl⟩
    · rw [upd_same, SX.partition_some (List.cons_ne_nil _ _) (SX.par_head q f)]
    · rw [upd_same, SX.partition_none (List.cons_ne_nil _ _) (SX.par_head_none f)]⟩⟩
/-- tuple(a new list) -/
theorem eu_tupOf (h : EvL te σ H xs) : EvU (tCB (rTupOf K) (tCons te tNil)) σ H xs := fun H1 e1 Q q => h H1 e1 _ fun p H2 n2 e2 h2 => ⟨p, xs, rfl, .inl ⟨sq_of h2, fun c hc => q c _ (fresh_back e2 hc) (e2.trans (Ex.new hc)) upd_same⟩⟩
theorem yi_tupOf (m : ∀ i v H H', Ex H H' → F i v H → F i v H') (h : Yi te σ H (LstOf F is)) : Yi (tCB (rTupOf K) (tCons te tNil)) σ H fun v H' => ∃ p vs, v = .ref p ∧ H' p = some (.tup vs) ∧ Paired (fun i v => F i v H') is vs := fun H1 e1 Q q => h H1 e1 _ fun v H2 e2 z => by
  obtain ⟨p, vs, rfl, hp, pr⟩ := z
  exact ⟨p, vs, rfl, .inl ⟨sq_of hp, fun c hc => q _ _ (e2.trans (Ex.new hc)) ⟨c, vs, rfl, upd_same, paired_mono (Ex.new hc) m pr⟩⟩⟩
end
end SwX
set_option Elab.async false
set_option linter.all false
set_option maxRecDepth 100000
set_option maxHeartbeats 4000000
/-! comprehensions with a test over tuples -/
namespace SwX
open PySem PySem.Spec PyProof.Rows L2 Evl
theorem fldK {X : Cx} (K : PySem.W.Frag) {e : Expr} {f : Str} {pos : Pos} {ta : TE} (he : PE X e ta) (hb : attributeBase e f X.env (eval e X.env) = eval e X.env) (h : X.K = K := by rfl) : PE X (.Attribute e f pos) (tFld K ta f) := h ▸ pe_fld he hb
section
variable {K : PySem.W.Frag} {σ : L2.St} {H : Hp} {te tl ta to : TE} {tt : TT} {v x : V} {α : Type} {F : α → V → Hp → Prop} {is : List α} {xs : List V}
/-- [x for x in a tuple if ..] -/
theorem yi_lcTF {j : Nat} {vs : List Nat} (b : α → Bool) (m : ∀ i v H H', Ex H H' → F i v H → F i v H') (h : Yi tl σ H fun v H' => ∃ a xs, v = .ref a ∧ SqT K H' a xs ∧ Paired (fun i v => F i v H') is xs) (hz : is.length ≤ 1000) (hw : ∀ x, wipe ((wipe σ vs).set j (some x)) vs = wipe σ vs) (hj : ∀ x : V, ((wipe σ vs).set j (some x))[j]? = some (some x))
    (ht : ∀ (i : α) (x : V) H1, Ex H H1 → i ∈ is → F i x H1 → EvT tt ((wipe σ vs).set j (some x)) H1 (b i)) : Yi (tLc (iTup K tl) (gName j) tt (tVar j) vs) σ H (LstOf F (is.filter b)) := fun H0 e0 Q q =>
  h H0 e0 _ fun w H1 e1 z => by
    obtain ⟨p, xs, rfl, hp, pr⟩ := z
    have len := paired_len pr
    refine ⟨p, rfl, ⟨xs, hp⟩, fun D hD => ?_⟩
    refine lc_tup (xs := xs) (fun i H' => ∃ acc, H' D = some (.lst acc) ∧ Paired (fun d v => F d v H1) ((is.take i).filter b) acc ∧ Ex H1 H') ⟨[], upd_same, by rw [List.take_zero]; exact .nil, Ex.new hD⟩ (fun i H' _ z => ex_t z.choose_spec.2.2 hp) (fun i x H' hx z => ⟨hw x, ?_⟩) fun H' z => ?_
    · obtain ⟨acc, ha, pa, ea⟩ := z
      have lt : i < is.length := by
        rw [len]
        exact (List.getElem?_eq_some_iff.mp hx).1
      have at_ : is[i]? = some is[i] := by simp [lt]
      obtain ⟨x', hx', fx⟩ := SwX.paired_get pr at_
      rw [hx] at hx'
      cases hx'
      have ln := paired_len pa
      have le : acc.length ≤ is.length := by
        rw [← ln]
        exact Nat.le_trans (List.length_filter_le _ _) (by rw [List.length_take]; omega)
      have add : (is.take (i + 1)).filter b = (is.take i).filter b ++ (if b is[i] = true then [is[i]] else []) := by
        rw [List.take_succ, at_, List.filter_append]
        show _ ++ List.filter b [is[i]] = _
        by_cases z : b is[i] = true
        · rw [if_pos z, List.filter_cons_of_pos z] <;> rfl
        · rw [if_neg z, List.filter_cons_of_neg z] <;> rfl
      refine ht is[i] x H' ((e0.trans e1).trans ea) (List.getElem_mem lt) (m _ _ _ _ ea fx) H' (Ex.refl _) _ fun H3 e3 => ?_
      cases hb : b is[i] with
      | true =>
        show tVar j ((wipe σ vs).set j (some x)) H3 fun y H4 => ∃ acc, H4 D = some (.lst acc) ∧ acc.length < sizeLine ∧ ∃ acc', upd H4 D (.lst (acc ++ [y])) D = some (.lst acc') ∧ Paired (fun d v => F d v H1) ((is.take (i + 1)).filter b) acc' ∧ Ex H1 (upd H4 D (.lst (acc ++ [y])))
        refine ⟨x, hj x, acc, e3 _ _ ha, sz_lt (by omega), _, upd_same, ?_, ?_⟩
        · rw [add, if_pos hb]
          exact paired_append pa (.cons fx .nil)
        · intro c o hc
          have nc : c ≠ D := fun z => by rw [z, hD] at hc; cases hc
          rw [upd_ne nc]
          exact e3 _ _ (ea _ _ hc)
      | false =>
        show ∃ acc', H3 D = some (.lst acc') ∧ Paired (fun d v => F d v H1) ((is.take (i + 1)).filter b) acc' ∧ Ex H1 H3
        refine ⟨acc, e3 _ _ ha, ?_, ea.trans e3⟩
        rw [add, if_neg (by rw [hb]; decide), List.append_nil]
        exact pa
    · obtain ⟨acc, ha, pa, ea⟩ := z
      rw [← len, List.take_length] at pa
      exact q (.ref D) H' (e1.trans ea) ⟨D, acc, rfl, ha, paired_mono ea m pa⟩
end
end SwX
set_option Elab.async false
set_option linter.all false
set_option maxRecDepth 100000
set_option maxHeartbeats 4000000
/-! comprehensions over enumerate(a tuple) with a test; bool of an own instance -/
namespace SwX
open PySem PySem.Spec PyProof.Rows L2 Evl
theorem walk_enumT {K : PySem.W.Frag} {a : Addr} {xs : List V} : Walk (Itu K a) xs.length (fun H => SqT K H a xs) (fun i H v H' => ∃ T x, v = .ref T ∧ H T = none ∧ H' = upd H T (.tup [.int (i : Nat), x]) ∧ xs[i]? = some x) :=
  ⟨fun i H hi q => ⟨xs, xs[i], q, List.getElem?_eq_getElem hi⟩, fun H q => ⟨xs, q, rfl⟩, fun i H v H' hi q y => by
    obtain ⟨T, x, rfl, n, rfl, at_⟩ := y
    exact ⟨T, x, rfl, n, rfl, at_ xs q⟩⟩
/-- those whose places b wants, from place k on -/
def keepAt {α : Type} (b : Nat → Bool) : Nat → List α → List α
  | _, [] => []
  | k, x :: r => if b k = true then x :: keepAt b (k + 1) r else keepAt b (k + 1) r
theorem keepAt_snoc {α : Type} (b : Nat → Bool) (x : α) : ∀ (l : List α) (k : Nat), keepAt b k (l ++ [x]) = keepAt b k l ++ if b (k + l.length) = true then [x] else []
  | [], k => by
    show (if b k = true then x :: [] else []) = _
    simp [keepAt]
  | y :: l, k => by
    have z := keepAt_snoc b x l (k + 1)
    rw [show k + 1 + l.length = k + (y :: l).length by simp; omega] at z
    show (if b k = true then y :: keepAt b (k + 1) (l ++ [x]) else keepAt b (k + 1) (l ++ [x])) = (if b k = true then y :: keepAt b (k + 1) l else keepAt b (k + 1) l) ++ _
    rw [z]
    split <;> rfl
theorem keepAt_len {α : Type} (b : Nat → Bool) : ∀ (l : List α) (k : Nat), (keepAt b k l).length ≤ l.length
  | [], _ => Nat.le_refl _
  | y :: l, k => by
    have z := keepAt_len b l (k + 1)
    show (if b k = true then y :: keepAt b (k + 1) l else keepAt b (k + 1) l).length ≤ _
    split <;> simp only [List.length_cons] <;> omega
section
variable {K : PySem.W.Frag} {σ : L2.St} {H : Hp} {te tl ta to : TE} {tt : TT} {v x : V} {α : Type} {F : α → V → Hp → Prop} {is : List α} {xs : List V}
/-- [x for i, x in enumerate(a tuple) if ..] -/
theorem yi_lcET {j1 j2 : Nat} {vs : List Nat} (b : Nat → Bool) (m : ∀ i v H H', Ex H H' → F i v H → F i v H') (h : Yi tl σ H fun v H' => ∃ a xs, v = .ref a ∧ SqT K H' a xs ∧ Paired (fun i v => F i v H') is xs) (hz : is.length ≤ 1000)
    (hw : ∀ x y, wipe (((wipe σ vs).set j1 (some x)).set j2 (some y)) vs = wipe σ vs) (hj : ∀ x y : V, (((wipe σ vs).set j1 (some x)).set j2 (some y))[j2]? = some (some y))
    (ht : ∀ (i : Nat) (x : V) H1, Ex H H1 → i < is.length → EvT tt (((wipe σ vs).set j1 (some (.int (i : Nat)))).set j2 (some x)) H1 (b i)) : Yi (tLc (iEnumT K (tCons tl tNil)) (gTup K 2 (gCons (gName j1) (gCons (gName j2) gNil))) tt (tVar j2) vs) σ H (LstOf F (keepAt b 0 is)) := fun H0 e0 Q q =>
  h H0 e0 _ fun w H1 e1 z => by
    obtain ⟨p, xs, rfl, hp, pr⟩ := z
    have len := paired_len pr
    refine ⟨p, xs, rfl, hp, fun D hD => ?_⟩
    refine lc_it (walk_enumT (K := K) (a := p) (xs := xs)) (fun i H' => ∃ acc, H' D = some (.lst acc) ∧ Paired (fun d v => F d v H1) (keepAt b 0 (is.take i)) acc ∧ Ex H1 H') ⟨[], upd_same, by rw [List.take_zero]; exact .nil, Ex.new hD⟩ (fun i H' _ z => ex_t z.choose_spec.2.2 hp) (fun i x H' H2 hi z y => ?_) fun H' z => ?_
    · obtain ⟨acc, ha, pa, ea⟩ := z
      obtain ⟨T, x, rfl, nT, rfl, hx⟩ := y
      have lt : i < is.length := by omega
      have at_ : is[i]? = some is[i] := by simp [lt]
      obtain ⟨x', hx', fx⟩ := SwX.paired_get pr at_
      rw [hx] at hx'
      cases hx'
      have eT : Ex H' (upd H' T (.tup [.int (i : Nat), x])) := Ex.new nT
      refine ⟨T, _, rfl, .inl (.inl upd_same), rfl, _, _, rfl, _, _, rfl, rfl, hw _ _, ?_⟩
      have ln := paired_len pa
      have le : acc.length ≤ is.length := by
        rw [← ln]
        exact Nat.le_trans (keepAt_len _ _ _) (by rw [List.length_take]; omega)
      have add : keepAt b 0 (is.take (i + 1)) = keepAt b 0 (is.take i) ++ (if b i = true then [is[i]] else []) := by
        rw [List.take_succ, at_]
        show keepAt b 0 (is.take i ++ [is[i]]) = _
        rw [keepAt_snoc, List.length_take, Nat.min_eq_left (Nat.le_of_lt lt), Nat.zero_add]
      refine ht i x _ (((e0.trans e1).trans ea).trans eT) lt _ (Ex.refl _) _ fun H3 e3 => ?_
      cases hb : b i with
      | true =>
        show tVar j2 _ H3 fun y H4 => ∃ acc, H4 D = some (.lst acc) ∧ acc.length < sizeLine ∧ ∃ acc', upd H4 D (.lst (acc ++ [y])) D = some (.lst acc') ∧ Paired (fun d v => F d v H1) (keepAt b 0 (is.take (i + 1))) acc' ∧ Ex H1 (upd H4 D (.lst (acc ++ [y])))
        refine ⟨x, hj _ x, acc, e3 _ _ (eT _ _ ha), sz_lt (by omega), _, upd_same, ?_, ?_⟩
        · rw [add, if_pos hb]
          exact paired_append pa (.cons fx .nil)
        · intro c o hc
          have nc : c ≠ D := fun z => by rw [z, hD] at hc; cases hc
          rw [upd_ne nc]
          exact e3 _ _ (eT _ _ (ea _ _ hc))
      | false =>
        show ∃ acc', H3 D = some (.lst acc') ∧ Paired (fun d v => F d v H1) (keepAt b 0 (is.take (i + 1))) acc' ∧ Ex H1 H3
        refine ⟨acc, e3 _ _ (eT _ _ ha), ?_, (ea.trans eT).trans e3⟩
        rw [add, if_neg (by rw [hb]; decide), List.append_nil]
        exact pa
    · obtain ⟨acc, ha, pa, ea⟩ := z
      rw [← len, List.take_length] at pa
      exact q (.ref D) H' (e1.trans ea) ⟨D, acc, rfl, ha, paired_mono ea m pa⟩
end
end SwX
set_option Elab.async false
set_option linter.all false
set_option maxRecDepth 100000
set_option maxHeartbeats 1000000
/-! bool of an own instance -/
namespace SwX
open PySem PySem.Spec PyProof.Rows L2 Evl
theorem bool_made {prog : Program} {w : World} {A : Around} {E : Value → Shared → Prop} {s : Shared} {x : Addr} {Q : Value → Shared → Prop} (h : wpAny (model prog w) A.in1.in1 (truthy (.ref x)) (fun b s' => Q (.bool b) s') E s) : wpAny (model prog w) A (call (.type "bool") [.ref x]) Q E s := by
  refine callType_codes (T := "bool") (Bi := Builtin.«object.__init__») (Q₁ := fun r s₁ => ∃ b, r = .bool b ∧ Q r s₁) PySem.F.called_bool (PySem.F.typeCall_bool_1 _) PySem.F.entry_object_init ?_ ?_
  · refine codeAny_of_tree ?_
    show wpAny _ A.in1.in1 (do checkBuiltinCall "bool.__new__" ⟨[.type "bool", .ref x], []⟩; again (.builtin "bool.__new__" ⟨[.type "bool", .ref x], []⟩)) _ _ s
    refine wpAny_bind (wpAny_of_eq (PySem.F.newCall_bool_1 _) (wpAny_pure ⟨plainId_quiet (by decide +kernel) _, codeAny_builtin PySem.F.entry_bool_new ?_⟩))
    rw [Around.under_plainId (by decide +kernel) _]
    unfold Builtin.«bool.__new__»
    have sub := F.conv_sub_bool
    obtain ⟨hp, gs, dr, tk, os⟩ := s
    repeat (any_goals (first | assumption | (refine wpAny_bind (m := truthy (.ref x)) (wpAny_mono h (fun b s' hb => ?_) fun _ _ z => z)) | wp_step))
    exact ⟨_, rfl, hb⟩
  · rintro obj s₁ ⟨b, rfl, q⟩
    have ty : s₁.TypeIs (.bool b) "bool" := by first | exact rfl | exact typeIs_bool _ _
    exact ⟨ty, PySem.F.args_object_init_2 _ _, object_init_meets PySem.F.called_bool.init.lookup PySem.F.called_bool.made (by decide) prog w A.in1 _ s₁ ⟨ty, rfl, q⟩⟩
def rBoolOwn (C : Addr) (sp : Sp) (E : XK) : List V → Hp → VK → Prop := fun xs H Q => ∃ a, xs = [.ref a] ∧ IsI H a C ∧ sp [.ref a] H (fun v H' => ∃ k : Bool, v = .bl k ∧ Q (.bl k) H') E
theorem call_boolOwn {X : Cx} {CX : CXT} {n : Nat} {f C : Addr} {fd : FuncData} {ps : List Str} {sp : Sp} {E : XK} (F : FnOk X.prog X.w X.K X.mg X.base CX n f fd ps sp) (S : Spc X.K C "__bool__" f) (b : Binds X.K fd ps []) (out : Passes CX X E) (room : Room n X.A.in1.in1) : CallR X (.type "bool") (rBoolOwn C sp E) := by
  intro pins s σ H xs us Q I r h
  obtain ⟨a, rfl, ia, q⟩ := h
  obtain ⟨u, rfl, ru⟩ := Vals.one r
  cases ru
  obtain ⟨ox, od, J⟩ := ia.look I
  obtain ⟨m, fr⟩ := I.fr
  refine bool_made (PySem.W.truthy_K fr I.ok.mod.kin J S.at_ S.fn (wpAny_mono (by_machine F room rfl b out I (.cons (rel_ref _) .nil) q) (fun r s' z => ?_) fun _ _ z => z))
  obtain ⟨v, H', K', rv, k, rfl, q'⟩ := z
  cases rv
  exact ⟨.bl k, H', K', rel_bl _, q'⟩
end SwX
set_option Elab.async false
set_option linter.all false
set_option maxRecDepth 100000
set_option maxHeartbeats 1000000
/-! t[::-1] of a tuple -/
namespace SwX
open PySem PySem.Spec PyProof.Rows L2 Evl HT
section
variable {prog : Program} {w : World} {A : Around} {E : Value → Shared → Prop} {s : Shared}
theorem adjust_back (n : Nat) : Builtin.Slice.sliceAdjust none none (-1) (n : Int) = ((n : Int) - 1, -1) := by
  unfold Builtin.Slice.sliceAdjust
  simp
theorem places_back (n : Nat) : Builtin.Slice.slicePlaces ((n : Int) - 1) (-1) (-1) = n := by
  unfold Builtin.Slice.slicePlaces
  simp
  omega
theorem slice_back {sl : Addr} {vl vu vs : Value} {n : Nat} {Q : Int × Int × Nat → Shared → Prop} (hs : s.heap.IsSliceOf sl vl vu vs) (pl : IsPart vl none) (pu : IsPart vu none) (ps : IsPart vs (some (-1))) (h : Q ((n : Int) - 1, -1, n) s) : wpAny (model prog w) A (Builtin.Slice.sliceApplied (.ref sl) (pure (n : Int))) Q E s := by
  obtain ⟨os, at_, _, dat⟩ := hs
  unfold Builtin.Slice.sliceApplied Builtin.Slice.sliceFields
  refine wpAny_bind (wpAny_bind (wpAny_field at_ dat (x := vl) rfl (wpAny_bind (wpAny_field at_ dat (x := vu) rfl (wpAny_bind (wpAny_field at_ dat (x := vs) rfl (wpAny_pure ?_)))))))
  refine wpAny_bind (slicePart_ ps ?_)
  show wpAny _ _ (if ((-1 : Int) == 0) = true then _ else _) _ _ s
  rw [if_neg (by decide)]
  refine wpAny_bind (slicePart_ pl (wpAny_bind (slicePart_ pu (wpAny_bind (wpAny_pure ?_)))))
  show wpAny _ _ (match Builtin.Slice.sliceAdjust none none (-1) (n : Int) with | (lo, hi) => pure (lo, (-1 : Int), Builtin.Slice.slicePlaces lo hi (-1))) _ _ s
  rw [adjust_back]
  show wpAny _ _ (pure ((n : Int) - 1, (-1 : Int), Builtin.Slice.slicePlaces ((n : Int) - 1) (-1) (-1))) _ _ s
  rw [places_back]
  exact wpAny_pure h
theorem pick_back (xs : Array Value) : ((List.range xs.size).filterMap fun (k : Nat) => xs[(((xs.size : Int) - 1) + (k : Int) * (-1)).toNat]?).toArray = xs.toList.reverse.toArray := by
  have e : (fun (k : Nat) => xs[(((xs.size : Int) - 1) + (k : Int) * (-1)).toNat]?) = fun (k : Nat) => xs[(((xs.size : Int) - 1) - (k : Int)).toNat]? := by
    funext k
    rw [show ((xs.size : Int) - 1) + (k : Int) * (-1) = ((xs.size : Int) - 1) - (k : Int) by omega]
  rw [e]
  apply congrArg
  apply List.ext_getElem?
  intro i
  have key : ∀ m, m ≤ xs.size → ((List.range m).filterMap fun (k : Nat) => xs[(((xs.size : Int) - 1) - (k : Int)).toNat]?) = xs.toList.reverse.take m := by
    intro m
    induction m with
    | zero => intro _; simp
    | succ m ih =>
      intro hm
      have lt : xs.size - 1 - m < xs.size := by omega
      rw [List.range_succ, List.filterMap_append, ih (by omega), List.take_succ]
      congr 1
      have e1 : (((xs.size : Int) - 1) - (m : Int)).toNat = xs.size - 1 - m := by omega
      simp only [List.filterMap_cons, List.filterMap_nil, e1]
      rw [Array.getElem?_eq_getElem lt, List.getElem?_reverse (by simpa using (show m < xs.size by omega))]
      simp
      rw [Array.getElem?_eq_getElem lt] <;> rfl
  rw [key xs.size (Nat.le_refl _), List.take_of_length_le (by simp)]
theorem item_back {t sl : Addr} {items : Array Value} {vl vu vs : Value} {Q : Value → Shared → Prop} (ht : IsTup s.heap t items) (hs : s.heap.IsSliceOf sl vl vu vs) (pl : IsPart vl none) (pu : IsPart vu none) (ps : IsPart vs (some (-1)))
    (h : Q (.ref s.heap.objs.size) { s with heap := s.heap.push { cls := .type "tuple", data := .seq items.toList.reverse.toArray } }) (small : items.size ≤ sizeLine) : wpAny (model prog w) A (getItem (.ref t) (.ref sl)) Q E s := by
  have fits : sizeOk (.seq items.toList.reverse.toArray) := by
    show items.toList.reverse.toArray.size ≤ sizeLine
    rw [List.size_toArray, List.length_reverse, Array.length_toList]
    exact small
  have isS : s.TypeIs (.ref sl) "slice" := let ⟨os, at_, c, _⟩ := hs; ⟨os, at_, c⟩
  unfold getItem
  try with_reducible refine wpAny_holding ?_
  first | refine wpAny_bind (wpAny_pure ?_) | skip
  refine wpAny_bind (wpAny_sequenceKey ht.typeIs (by decide) ?_)
  refine wpAny_bind (wpAny_callSpecial?_slot (name := Str.ofString "__getitem__") ht.typeIs PyProof.Rows.slot_tuple_getitem (wpAny_call_entry PyProof.Rows.slot_tuple_getitem ht.typeIs entry_tuple_getitem ?_ (args_tuple_getitem _ _)))
  show wpAny _ _ (Builtin.Tuple.tupleItemsOf (.ref t) >>= _) _ _ s
  refine wpAny_bind (tupleItemsOf_ ht (wpAny_bind (wpAny_typeOf isS ?_)))
  rw [if_pos (by decide)]
  refine wpAny_bind (slice_back hs pl pu ps ?_)
  have never : ¬ ((((items.size : Int) - 1 : Int) == 0 && (-1 : Int) == 1 && items.size == items.size) = true) := by simp
  show wpAny _ _ (if (((items.size : Int) - 1 : Int) == 0 && (-1 : Int) == 1 && items.size == items.size) = true then _ else _) _ _ s
  rw [if_neg never, pick_back]
  first
    | exact wpAny_bind (m := Builtin.Tuple.tupleExact _) (wpAny_newObj_type (wpAny_pure ⟨_, rfl, wpAny_pure h⟩) fits)
    | exact wpAny_bind (m := Builtin.Tuple.tupleExact _) (wpAny_newObj_type (wpAny_bind (wpAny_pure (wpAny_pure ⟨_, rfl, wpAny_pure h⟩))) fits)
    | exact wpAny_bind (wpAny_bind (m := Builtin.Tuple.tupleExact _) (wpAny_newObj_type (wpAny_pure (wpAny_pure ⟨_, rfl, wpAny_pure h⟩)) fits))
    | exact wpAny_bind (wpAny_bind (m := Builtin.Tuple.tupleExact _) (wpAny_newObj_type (wpAny_pure ⟨_, rfl, wpAny_pure h⟩) fits))
end
def tRevT (K : PySem.W.Frag) (te : TE) : TE := fun σ H Q => te σ H fun x H1 => ∃ a xs, x = .ref a ∧ SqT K H1 a xs ∧ ∀ p, H1 p = none → Q (.ref p) (upd H1 p (.tup xs.reverse))
theorem pe_revT {X : Cx} {e : Expr} {te : TE} {k : Nat} {p1 p2 p3 pos : Pos} (he : PE X e te) : PE X (.Subscript e (.Slice none none (some (.UnaryOp .USub (.Constant (.int 1) k p1) p2)) p3) pos) (tRevT X.K te) := by
  refine ⟨fun pins s σ H Q I h => Subscript_ (thn (he.run pins s σ H _ I h) fun v s1 z => ?_)⟩
  obtain ⟨x, H1, I1, r1, a, xs, rfl, hx, q⟩ := z
  cases r1
  have step : PO X (some (.UnaryOp .USub (.Constant (.int 1) k p1) p2)) (tPart (tUn (rU fun i => .int (-i)) (tC (.int 1)))) := po_some (pe_un un_neg pe_int)
  refine wpAny_Slice (thn (po_none.run pins s1 σ H1 (fun o H2 => o = none ∧ H2 = H1) I1 ⟨rfl, rfl⟩) fun vl s2 z => ?_)
  obtain ⟨l, H2, I2, pl, rfl, e2⟩ := z
  rw [e2] at I2
  clear e2
  refine thn (po_none.run pins s2 σ _ (fun o H3 => o = none ∧ H3 = H1) I2 ⟨rfl, rfl⟩) fun vu s3 z => ?_
  obtain ⟨u, H3, I3, pu, rfl, e3⟩ := z
  rw [e3] at I3
  clear e3
  refine thn (step.run pins s3 σ _ (fun o H4 => o = some (-1) ∧ H4 = H1) I3 ⟨1, rfl, -1, rfl, rfl, rfl⟩) fun vs s4 z => ?_
  obtain ⟨o, H4, I4, ps, rfl, e4⟩ := z
  rw [e4] at I4
  have I5 : Inv X pins σ H1 { s4 with heap := s4.heap.push { cls := .type "slice", data := .fields #[vl, vu, vs] } } := I4.kept (t' := s4.toks) fun b ob q => Heap.get?_push_of_some _ q
  obtain ⟨its, r, ht, hz⟩ := I5.tuple hx
  have len := r.length
  show wpAny (model X.prog X.w) X.A (subscriptTail e (.Slice none none (some (.UnaryOp .USub (.Constant (.int 1) k p1) p2)) p3) (.ref a) (.ref s4.heap.objs.size)) (EP X pins σ Q) X.xe { s4 with heap := s4.heap.push { cls := .type "slice", data := .fields #[vl, vu, vs] } }
  refine tail_any (ops := [.ref a, .ref s4.heap.objs.size]) ht.typeIs PyProof.Rows.slot_tuple_getitem.lookup ?_ (by with_unfolding_all rfl)
  refine item_back ht (Heap.IsSliceOf.new _ vl vu vs) pl pu ps ?_ (by rw [List.size_toArray]; omega)
  refine ⟨.ref _, _, I5.laid (t' := s4.toks) (o := .tup xs.reverse) (fun b ob q => Heap.get?_push_of_some _ q) (Nat.le_refl _) ⟨by rw [List.length_reverse]; exact hz, _, r.reverse, ⟨_, Heap.get?_push_size _ rfl, rfl, _, rfl⟩⟩, rel_ref _, q _ (I5.hok.fresh (Nat.le_refl _))⟩
end SwX
set_option Elab.async false
set_option linter.all false
set_option maxRecDepth 100000
set_option maxHeartbeats 2000000
/-! a hook: facts, defs at any address, a further look of ours -/
namespace SwX
open PySem PySem.Spec PyProof.Rows L2
abbrev AlE : Type := Bool × He.AlD
def obsE (fa : List He.Fa) (fn : List He5.DefA) (ex : PySem.W.Frag → Bool) (K : PySem.W.Frag) : AlE := (ex K, He5.obsA fa fn K)
def valE (fn : List He5.DefA) : AlE := (true, He5.valA fn)
def obsEG (n : Nat) (fa : List He.Fa) (fn : List He5.DefA) (ex : PySem.W.Frag → Bool) (g : Addr → Option Obj) : AlE := obsE fa fn ex (He.frG g (He5.asA g n))
def hookE (n : Nat) (fa : List He.Fa) (fn : List He5.DefA) (ex : PySem.W.Frag → Bool) : PySem.W.Hook where
  α := AlE
  obs := fun s => obsEG n fa fn ex s.heap.get?
  val := fun _ => valE fn
  says := fun _ h => ∃ K : PySem.W.Frag, K.In h ∧ obsE fa fn ex K = valE fn
  of := fun _ _ e => ⟨_, He.frG_in, e⟩
  keeps := fun _ _ _ ⟨K, hK, c⟩ k => ⟨K, PySem.W.Frag.In.keeps hK k, c⟩
theorem obsEG_eq {n : Nat} {fa : List He.Fa} {fn : List He5.DefA} {ex : PySem.W.Frag → Bool} {g : Addr → Option Obj} {s : Shared} (h : ∀ a, g a = s.heap.get? a) : obsEG n fa fn ex g = (hookE n fa fn ex).obs s := by
  have e : g = s.heap.get? := funext h
  rw [e] <;> rfl
theorem saysE {fa : List He.Fa} {fn : List He5.DefA} {ex : PySem.W.Frag → Bool} {K : PySem.W.Frag} (c : obsE fa fn ex K = valE fn) : ex K = true ∧ He5.SaysA fa fn K := ⟨congrArg (fun z : AlE => z.1) c, congrArg (fun z : AlE => z.2) c⟩
end SwX
set_option Elab.async false
set_option linter.all false
set_option maxRecDepth 100000
set_option maxHeartbeats 4000000
namespace K20
open PySem PySem.Spec PyProof.Rows L2 Evl SwX
abbrev prog : Program := PySem.Challenge.pw_sealedweights_k20_whole_catalogues_recip
def top (i : Nat) : Stmt := prog.main.body.getD i (.Pass ⟨0, 0, 0, 0⟩)
abbrev FnP (K : PySem.W.Frag) (x : Str) (st : Stmt) (f : Addr) (fd : FuncData) : Prop := FunD K x x (defArgs st) (defBody st) (defScope st) [] [] f fd
section
variable {P : Program} {w : World} {K : PySem.W.Frag} {mg : Str → Option Value} {base : Heap} {f : Addr} {fd : FuncData}
abbrev s__law_seed : Stmt := top 29
abbrev sc__law_seed_N : List Str := ["_law_script", "_law_k", "_law_seed_here", "_law_cell"]
theorem sc__law_seed : FnScope sc__law_seed_N ["_law_script", "_law_k"] (defScope s__law_seed) := ⟨rfl, rfl, rfl, by decide +kernel, rfl, by decide +kernel, by decide +kernel⟩
theorem ok_seed (F : FnP K "_law_seed" s__law_seed f fd) (m_len : mg "len" = none) (m_int : mg "int" = none) : FnOk P w K mg base CX0 1 f fd ["_law_script", "_law_k"] (spSeed K) := by
  refine F.ok sc__law_seed (fun vs H Q E h => by obtain ⟨a, ns, k, rfl, _⟩ := h; rfl) (fun cdv A outer s H vs Q E hr h => ⟨_, PSs.nox
    (pss_cons (ps_if (pt_cmpR op_lt (pv 1) (pe_callB call_len_seq (by rfl) m_len (by decide +kernel) (pa_cons (pv 0) pa_nil)) (nomark _)) (pss_one (ps_ret (pe_ix ix_A (pv 0) (pv 1) (fun _ _ => rfl)))) pss_nil) (pss_cons (ps_set (i := 2) sc__law_seed.nd rfl (Or.inl rfl) (pe_op op_addA (pe_op op_mul (pe_op op_mul pe_int (pe_op op_addA (pv 1) pe_int)) (pe_op op_addA (pv 1) pe_int)) pe_int)) (pss_cons (ps_for PassesOwn.never rfl (pi_list (pe_slice sl_list (pv 0) po_none (po_some pe_int))) (pg_name (i := 3) sc__law_seed.nd rfl (Or.inl rfl)) (pss_one (ps_set (i := 2) sc__law_seed.nd rfl (Or.inl rfl) (pe_op op_modN (pe_callTy call_int1 (by rfl) m_int (by decide +kernel) (pa_cons (pe_op op_addA (pe_op op_mul (pv 2) pe_int) (pv 3)) pa_nil)) pe_int)))) (pss_one (ps_ret (pv 2)))))), ?_⟩)
  obtain ⟨a, ns, k, rfl, hS, k0, k1, q⟩ := h
  refine q_when (b := decide (k < (ns.map V.int).length)) (et_B (ev_op (ev_var rfl) (ev_len (ev_var rfl) hS) rv_I0)) (fun c H1 e1 => ?_) fun _ H1 e1 => ?_
  · have c := of_decide_eq_true c
    rw [List.length_map] at c
    have hj : k.toNat < ns.length := by omega
    have g : atI (ns.map V.int) k = some (.int (ns[k.toNat]'hj)) := by
      obtain ⟨j, rfl⟩ := Int.eq_ofNat_of_zero_le k0
      unfold atI
      rw [ixN_nat (by rw [List.length_map]; omega)]
      simp
    exact s_ret (ev_op (ev_var rfl) (ev_var rfl) (rv_at (ex_l e1 hS) g)) fun H2 e2 => q _ _ (e1.trans e2)
  · refine q_asg (i := 2) (v := .int (40093 * (k + 3) * (k + 7) + 271)) (ev_op (ev_op (ev_op ev_c (ev_op (ev_var rfl) ev_c rv_add) (rv_I (Or.inl (by omega)))) (ev_op (ev_var rfl) ev_c rv_add) (rv_I (Or.inr (by omega)))) ev_c rv_add) fun H2 e2 => ?_
    refine q_forNL (xs := cutV (ns.map V.int) none (some 4)) (el_sl (ev_var rfl) eo_none (eo_some ev_c) (ex_l (e1.trans e2) hS)) (fun p i σ' H' => (∃ v0 v1 n v3, σ' = [v0, v1, some (.int n), v3]) ∧ Ex H H' ∧ H' p = some (.lst (cutV (ns.map V.int) none (some 4)))) (fun p H3 hp e3 h3 => ⟨⟨_, _, _, _, rfl⟩, (e1.trans e2).trans e3, h3⟩) (fun p i σ' H' _ z => sq_of z.2.2) (fun p i x σ' H' hx z => ?_) fun p σ' H' z => ?_
    · obtain ⟨⟨v0, v1, n, v3, rfl⟩, e, hp⟩ := z
      obtain ⟨m, _, rfl⟩ := List.mem_map.mp (cut_mem hx)
      exact s_asg (i := 2) (v := .int (((n * 50021 + m)).fmod 2147483629)) (ev_op (ev_int1 (ev_op (ev_op (ev_var rfl) ev_c (rv_I (Or.inr (by omega)))) (ev_var rfl) rv_add)) ev_c (rv_I (by omega))) fun H4 e4 => ⟨⟨_, _, _, _, rfl⟩, e.trans e4, e4 _ _ hp⟩
    · obtain ⟨⟨v0, v1, n, v3, rfl⟩, e, _⟩ := z
      exact s_ret (ev_var rfl) fun H2 e2 => q _ _ (e.trans e2)
abbrev s__law_purse : Stmt := top 30
abbrev sc__law_purse_N : List Str := ["_law_number"]
theorem sc__law_purse : FnScope sc__law_purse_N ["_law_number"] (defScope s__law_purse) := ⟨rfl, rfl, rfl, by decide +kernel, rfl, by decide +kernel, by decide +kernel⟩
theorem ok_purse (F : FnP K "_law_purse" s__law_purse f fd) (m_int : mg "int" = none) : FnOk P w K mg base CX0 1 f fd ["_law_number"] spPurse := by
  refine F.ok sc__law_purse (fun vs H Q E h => by obtain ⟨n, rfl, _⟩ := h; rfl) (fun cdv A outer s H vs Q E hr h => ⟨_, PSs.nox
    (pss_one (ps_ret (pe_lst (pa_cons (pe_op op_modN (pe_callTy call_int1 (by rfl) m_int (by decide +kernel) (pa_cons (pv 0) pa_nil)) pe_int) (pa_cons (pe_ifExp (pt_cmpR op_ge (pv 0) (pe_op op_pow pe_int pe_int) (nomark _)) (pv 0) pe_int) (pa_cons pe_int pa_nil)))))), ?_⟩)
  obtain ⟨n, rfl, q⟩ := h
  have big : (10 : Int) ^ (18 : Int).toNat = 1000000000000000000 := by decide
  refine s_retL (xs := [.int (n.fmod 2147483629), .int (if 10 ^ (18 : Int).toNat ≤ n then n else 0), .int 0]) (el_lst (ea_cons (ev_op (ev_int1 (ev_var rfl)) ev_c (rv_I (by omega))) (ea_cons (ev_if (b := decide (10 ^ (18 : Int).toNat ≤ n)) (et_B (ev_op (ev_var rfl) (ev_op ev_c ev_c (rv_I (by unfold CPow; omega))) rv_I0)) (fun c => ?_) fun c => ?_) (ea_cons ev_c ea_nil))) (by simp)) fun a H1 n1 e1 h1 => ?_
  · rw [if_pos (of_decide_eq_true c)]
    exact ev_var rfl
  · rw [if_neg (of_decide_eq_false c)]
    exact ev_c
  · refine q a H1 n1 e1 ⟨_, _, _, h1, ?_, ?_, ?_⟩
    · rw [Int.fmod_eq_emod_of_nonneg _ (by omega)]
      exact Int.emod_nonneg _ (by omega)
    · rw [Int.fmod_eq_emod_of_nonneg _ (by omega)]
      exact Int.emod_lt_of_pos _ (by omega)
    · split <;> omega
abbrev s__law_draw : Stmt := top 31
abbrev sc__law_draw_N : List Str := ["_law_purse_here", "_law_many", "_law_state", "_law_blend", "_law_digit"]
theorem sc__law_draw : FnScope sc__law_draw_N ["_law_purse_here", "_law_many"] (defScope s__law_draw) := ⟨rfl, rfl, rfl, by decide +kernel, rfl, by decide +kernel, by decide +kernel⟩
theorem ok_draw (F : FnP K "_law_draw" s__law_draw f fd) (m_int : mg "int" = none) (m_divmod : mg "divmod" = none) : FnOk P w K mg base CX0 1 f fd ["_law_purse_here", "_law_many"] spDraw := by
  refine F.ok sc__law_draw (fun vs H Q E h => by obtain ⟨a, m, rfl, _⟩ := h; rfl) (fun cdv A outer s H vs Q E hr h => ⟨_, PSs.nox
    (pss_cons (ps_asg (pe_op op_addA (pe_ix ix_A (pv 0) pe_int (fun _ _ => rfl)) pe_int) (pg_sub (pv 0) pe_int set_list)) (pss_cons (ps_set (i := 2) sc__law_draw.nd rfl (Or.inl rfl) (pe_callTy call_int1 (by rfl) m_int (by decide +kernel) (pa_cons (pe_ix ix_A (pv 0) pe_int (fun _ _ => rfl)) pa_nil))) (pss_cons (ps_set (i := 3) sc__law_draw.nd rfl (Or.inl rfl) (pe_op op_mul (pv 2) (pe_op op_addA (pe_op op_modN (pe_callTy call_int1 (by rfl) m_int (by decide +kernel) (pa_cons (pv 2) pa_nil)) pe_int) pe_int))) (pss_cons (ps_asg (pe_op op_modN (pe_callTy call_int1 (by rfl) m_int (by decide +kernel) (pa_cons (pe_op op_addA (pe_op op_addA (pv 3) (pe_op op_mul pe_int (pe_ix ix_A (pv 0) pe_int (fun _ _ => rfl)))) pe_int) pa_nil)) pe_int) (pg_sub (pv 0) pe_int set_list)) (pss_cons (ps_if (pt_cmpR op_gt (pe_ix ix_A (pv 0) pe_int (fun _ _ => rfl)) pe_int (nomark _)) (pss_cons (ps_asg (pe_callB call_divmodW (by rfl) m_divmod (by decide +kernel) (pa_cons (pe_ix ix_A (pv 0) pe_int (fun _ _ => rfl)) (pa_cons (pv 1) pa_nil))) (pg_tup rfl (pgs_cons (pg_sub (pv 0) pe_int set_list) (pgs_cons (pg_name (i := 4) sc__law_draw.nd rfl (Or.inl rfl)) pgs_nil)))) (pss_one (ps_ret (pv 4)))) pss_nil) (pss_one (ps_ret (pe_op op_modN (pe_callTy call_int1 (by rfl) m_int (by decide +kernel) (pa_cons (pe_op op_fdivN (pe_ix ix_A (pv 0) pe_int (fun _ _ => rfl)) pe_int) pa_nil)) (pv 1))))))))), ?_⟩)
  obtain ⟨a, m, rfl, m0, m1, ⟨x, y, z, h0, x0, x1, y0⟩, q⟩ := h
  refine q_setL (j := 2) (v := .int (z + 1)) h0 (ev_op (ev_op (ev_var rfl) ev_c (rv_at (sq_of h0) rfl)) ev_c rv_add) (ev_var rfl) ev_c (by simp) fun H1 e1 => ?_
  have g1 : Ex (less a H) (upd H1 a (.lst [.int x, .int y, .int (z + 1)])) := less_upd (less_ex.trans e1)
  refine q_asg (i := 2) (v := .int x) (ev_int1 (ev_op (ev_var rfl) ev_c (rv_at (sq_of upd_same) rfl))) fun H2 e2 => ?_
  have r0 : 0 ≤ x.fmod 30011 := by
    rw [Int.fmod_eq_emod_of_nonneg _ (by omega)]
    exact Int.emod_nonneg _ (by omega)
  have r1 : x.fmod 30011 < 30011 := by
    rw [Int.fmod_eq_emod_of_nonneg _ (by omega)]
    exact Int.emod_lt_of_pos _ (by omega)
  refine q_asg (i := 3) (v := .int (x * (x.fmod 30011 + 40009))) (ev_op (ev_var rfl) (ev_op (ev_op (ev_int1 (ev_var rfl)) ev_c (rv_I (by omega))) ev_c rv_add) (rv_I (Or.inl (by omega)))) fun H3 e3 => ?_
  have h3 := e3 _ _ (e2 _ _ (upd_same (H := H1) (a := a) (o := .lst [.int x, .int y, .int (z + 1)])))
  refine q_setL (j := 0) (v := .int ((x * (x.fmod 30011 + 40009) + 65551 * (z + 1) + 19).fmod 2147483629)) h3 (ev_op (ev_int1 (ev_op (ev_op (ev_var rfl) (ev_op ev_c (ev_op (ev_var rfl) ev_c (rv_at (sq_of h3) rfl)) (rv_I (Or.inl (by omega)))) rv_add) ev_c rv_add)) ev_c (rv_I (by omega))) (ev_var rfl) ev_c (by simp) fun H4 e4 => ?_
  have s0 : 0 ≤ (x * (x.fmod 30011 + 40009) + 65551 * (z + 1) + 19).fmod 2147483629 := by
    rw [Int.fmod_eq_emod_of_nonneg _ (by omega)]
    exact Int.emod_nonneg _ (by omega)
  have s1 : (x * (x.fmod 30011 + 40009) + 65551 * (z + 1) + 19).fmod 2147483629 < 2147483629 := by
    rw [Int.fmod_eq_emod_of_nonneg _ (by omega)]
    exact Int.emod_lt_of_pos _ (by omega)
  generalize (x * (x.fmod 30011 + 40009) + 65551 * (z + 1) + 19).fmod 2147483629 = u at s0 s1 ⊢
  have g4 : Ex (less a H) (upd H4 a (.lst [.int u, .int y, .int (z + 1)])) := less_upd (((g1.trans e2).trans e3).trans e4)
  show tIfS _ _ _ _ _ (upd H4 a (.lst [.int u, .int y, .int (z + 1)]))
  refine q_when (b := decide (0 < y)) (et_B (ev_op (ev_op (ev_var rfl) ev_c (rv_at (sq_of upd_same) rfl)) ev_c rv_I0)) (fun c H5 e5 => ?_) fun _ H5 e5 => ?_
  · have h5 := e5 _ _ (upd_same (H := H4) (a := a) (o := .lst [.int u, .int y, .int (z + 1)]))
    refine (ev_op (ev_var rfl) ev_c (rv_at (sq_of h5) rfl) : Ev _ _ H5 _) H5 (Ex.refl _) _ fun H6 e6 => ⟨.int m, rfl, y, m, rfl, pylong_small m0 m1, fun p hp => ?_⟩
    have ne : a ≠ p := fun w => by rw [← w, e6 _ _ h5] at hp; cases hp
    refine ⟨p, _, rfl, st_of upd_same, rfl, _, _, rfl, ⟨_, rfl, a, [.int u, .int y, .int (z + 1)], 1, 1, rfl, rfl, by rw [upd_ne ne]; exact e6 _ _ h5, rfl, ?_⟩⟩
    refine ⟨_, _, rfl, rfl, ?_⟩
    refine s_ret (ev_var rfl) fun H7 e7 => q _ _ (Int.emod_nonneg _ (by omega)) (Int.emod_lt_of_pos _ m0) ⟨u, y / m, z + 1, e7 _ _ upd_same, s0, s1, Int.ediv_nonneg y0 (by omega)⟩ ?_
    exact (less_upd ((((g4.trans e5).trans e6)).trans (Ex.new hp))).trans e7
  · have h5 := e5 _ _ (upd_same (H := H4) (a := a) (o := .lst [.int u, .int y, .int (z + 1)]))
    refine s_ret (v := .int ((u.fdiv 128).fmod m)) (ev_op (ev_int1 (ev_op (ev_op (ev_var rfl) ev_c (rv_at (sq_of h5) rfl)) ev_c (rv_I (by unfold CDivN; omega)))) (ev_var rfl) (rv_I (by omega))) fun H7 e7 => q _ _ ?_ ?_ ⟨u, y, z + 1, e7 _ _ h5, s0, s1, y0⟩ ((g4.trans e5).trans e7)
    · rw [Int.fmod_eq_emod_of_nonneg _ (by omega)]
      exact Int.emod_nonneg _ (by omega)
    · rw [Int.fmod_eq_emod_of_nonneg _ (by omega)]
      exact Int.emod_lt_of_pos _ m0
end
end K20
set_option Elab.async false
set_option linter.all false
set_option maxRecDepth 100000
set_option maxHeartbeats 4000000
namespace K20
open PySem PySem.Spec PyProof.Rows L2 Evl SwX
section
variable {P : Program} {w : World} {K : PySem.W.Frag} {mg : Str → Option Value} {base : Heap} {f : Addr} {fd : FuncData}
def letL : List Nat := [97, 98, 99, 100, 101, 102, 103, 104, 105, 106, 107, 108, 109, 110, 111, 112, 113, 114, 115, 116, 117, 118, 119, 120, 121, 122]
def sgnL : List Nat := letL ++ [48, 49, 50, 51, 52, 53, 54, 55, 56, 57]
theorem letL_ok : ∀ c ∈ letL, 97 ≤ c ∧ c ≤ 122 := by decide
theorem sgnL_ok : ∀ c ∈ sgnL, okSign c := by unfold okSign; decide
def spName : Sp := fun vs H Q _ => ∃ a : Addr, vs = [.ref a] ∧ Pur H a ∧ ∀ n H', NameOk n → Ex (less a H) H' → Pur H' a → Q (.str (SX.S n)) H'
theorem rv_sign {K : PySem.W.Frag} {l : List Nat} {k : Int} (k0 : 0 ≤ k) (k1 : k < l.length) (hl : l.length ≤ 1000) : ∃ c ∈ l, ∀ H, RV (rIx K) (.str (SX.S l)) (.int k) H (.str ⟨#[c]⟩) := by
  obtain ⟨j, rfl⟩ := Int.eq_ofNat_of_zero_le k0
  have hj : j < l.length := by omega
  refine ⟨l[j], List.getElem_mem hj, fun H H1 _ Q q => .inr (.inr ⟨SX.S l, (j : Int), l[j], rfl, rfl, ?_, ?_, q H1 (Ex.refl H1)⟩)⟩
  · rw [SX.S_len]
    exact sz_of (by omega)
  · show atI l (j : Int) = _
    unfold atI
    rw [ixN_nat hj]
    simp [hj]
abbrev s__law_name : Stmt := top 32
abbrev sc__law_name_N : List Str := ["_law_purse_here", "_law_letters", "_law_signs", "_law_size", "_law_k"]
theorem sc__law_name : FnScope sc__law_name_N ["_law_purse_here"] (defScope s__law_name) := ⟨rfl, rfl, rfl, by decide +kernel, rfl, by decide +kernel, by decide +kernel⟩
theorem ok_name (D__law_draw : Has P w K mg base "_law_draw" 1 ["_law_purse_here", "_law_many"] spDraw) (F : FnP K "_law_name" s__law_name f fd) (m_range : mg "range" = none) : FnOk P w K mg base CX0 2 f fd ["_law_purse_here"] spName := by
  refine F.ok sc__law_name (fun vs H Q E h => by obtain ⟨a, rfl, _⟩ := h; rfl) (fun cdv A outer s H vs Q E hr h => ⟨_, PSs.nox
    (pss_cons (ps_set (i := 1) sc__law_name.nd rfl (Or.inl rfl) pe_str) (pss_cons (ps_set (i := 2) sc__law_name.nd rfl (Or.inr rfl) (pe_op (addK K) (pv 1) pe_str)) (pss_cons (ps_set (i := 3) sc__law_name.nd rfl (Or.inl rfl) (pe_has D__law_draw (hr.mono (by decide)) (pa_cons (pv 0) (pa_cons pe_int pa_nil)))) (pss_one (ps_ret (pe_op (addK K) (pe_ix (ixK K) (pv 1) (pe_has D__law_draw (hr.mono (by decide)) (pa_cons (pv 0) (pa_cons pe_int pa_nil))) (fun _ _ => rfl)) (pe_join pe_str (pe_lc (own := [("_law_k", 4)]) (g := gName 4) (tt := tYes) rfl sc__law_name.nd (pi_range1 (by rfl) m_range (pa_cons (pv 3) pa_nil)) (blkOk_by (N := sc__law_name_N) (sc := defScope s__law_name) (by decide +kernel)) (fun _ _ _ _ _ => pg_name (i := 4) sc__law_name.nd rfl (Or.inl rfl)) (fun _ _ _ _ _ => pts_nil) (fun _ _ _ _ _ => (pe_ix (ixK K) (pv 2) (pe_has D__law_draw (hr.mono (by decide)) (pa_cons (pv 0) (pa_cons pe_int pa_nil))) (fun _ _ => rfl))))))))))), ?_⟩)
  obtain ⟨a, rfl, p0, q⟩ := h
  have e1 : ("abcdefghijklmnopqrstuvwxyz" : Str) = SX.S letL := by decide +kernel
  have e2 : ("0123456789" : Str) = SX.S [48, 49, 50, 51, 52, 53, 54, 55, 56, 57] := by decide +kernel
  have e3 : ("" : Str) = SX.S [] := by decide +kernel
  rw [e1, e2, e3]
  refine q_asg (v := .str (SX.S letL)) ev_c fun H1 g1 => ?_
  refine q_asg (v := .str (SX.S sgnL)) (ev_op (ev_var rfl) ev_c fun H2 _ R k => .inr (.inr (.inl ⟨SX.S letL, _, rfl, rfl, by decide, k H2 (Ex.refl H2)⟩))) fun H2 g2 => ?_
  have p2 := p0.keep (g1.trans g2)
  have x2 : Ex (less a H) H2 := less_ex.trans (g1.trans g2)
  refine q_asgDr (a := a) (G := less a H) (P := fun v => ∃ k : Int, v = .int k ∧ 0 ≤ k ∧ k < 8) (dr_draw less_at rfl ev_c (by decide) (by decide)) x2 p2 fun v H3 pv x3 p3 => ?_
  obtain ⟨k, rfl, k0, k1⟩ := pv
  refine s_retDr (a := a) (G := less a H) (P := fun v => ∃ n, v = .str (SX.S n) ∧ NameOk n) (dr_op (P1 := fun v => ∃ c, v = .str ⟨#[c]⟩ ∧ 97 ≤ c ∧ c ≤ 122) (P2 := fun v => ∃ cs : List Nat, v = .str (SX.S cs) ∧ cs.length ≤ 7 ∧ ∀ c ∈ cs, okSign c)
    (dr_op (P1 := fun v => v = .str (SX.S letL)) (P2 := fun v => ∃ k, v = .int k ∧ 0 ≤ k ∧ k < 26) (dr_ev (ev_var rfl) rfl) (dr_draw less_at rfl ev_c (by decide) (by decide)) fun x y hx hy => ?_)
    (dr_join (m := 7) (by decide) ev_c (drl_lc less_at (dr_ev (ev_var rfl) ⟨k, rfl, k0, by omega⟩) (by decide) (fun _ => rfl) fun i G' n' _ => dr_op (P1 := fun v => v = .str (SX.S sgnL)) (P2 := fun v => ∃ k, v = .int k ∧ 0 ≤ k ∧ k < 36) (dr_ev (ev_var rfl) rfl) (dr_draw n' rfl ev_c (by decide) (by decide)) fun x y hx hy => ?_)) fun x y hx hy => ?_) x3 p3 fun v H4 pv x4 p4 => ?_
  · subst hx
    obtain ⟨k, rfl, k0, k1⟩ := hy
    obtain ⟨c, hc, rv⟩ := rv_sign (K := K) (l := letL) k0 k1 (by decide)
    exact ⟨_, ⟨c, rfl, letL_ok c hc⟩, rv⟩
  · subst hx
    obtain ⟨k, rfl, k0, k1⟩ := hy
    obtain ⟨c, hc, rv⟩ := rv_sign (K := K) (l := sgnL) k0 k1 (by decide)
    exact ⟨_, ⟨c, rfl, sgnL_ok c hc⟩, rv⟩
  · obtain ⟨c, rfl, c0, c1⟩ := hx
    obtain ⟨cs, rfl, l, ok⟩ := hy
    refine ⟨.str (SX.S (c :: cs)), ⟨c :: cs, rfl, ⟨c, cs, rfl, c0, c1⟩, by simp; omega, fun d hd => ?_⟩, fun H H1 _ R k => .inr (.inr (.inl ⟨SX.S [c], SX.S cs, rfl, rfl, ?_, ?_⟩))⟩
    · rcases List.mem_cons.mp hd with rfl | hd
      · exact .inl ⟨c0, c1⟩
      · exact ok d hd
    · rw [SX.S_len, SX.S_len]
      exact sz_of (by simp; omega)
    · rw [SX.S_cat]
      exact k H1 (Ex.refl H1)
  · obtain ⟨n, rfl, hn⟩ := pv
    exact q n H4 hn x4 p4
end
end K20
set_option Elab.async false
set_option linter.all false
set_option maxRecDepth 100000
set_option maxHeartbeats 4000000
namespace K20
open PySem PySem.Spec PyProof.Rows L2 Evl SwX
section
variable {P : Program} {w : World} {K : PySem.W.Frag} {mg : Str → Option Value} {base : Heap} {f : Addr} {fd : FuncData}
theorem dr_name {a : Addr} {σ : L2.St} {G : Hp} {E : XK} (n : G a = none) (h : σ[0]? = some (some (.ref a))) : Dr a (tCall spName [] E (tCons (tVar 0) tNil)) σ G fun v => ∃ m, v = nmV m ∧ NameOk m := fun H1 e p Q q =>
  ⟨.ref a, h, a, rfl, p, fun m H2 ok e2 p2 => q _ H2 ⟨m, rfl, ok⟩ ((ex_less n e).trans e2) p2⟩
theorem name_cut {x n : Nm} (h : NameOk x) (h' : NameOk n) : NameOk ((x ++ n).take 8) := by
  obtain ⟨c, r, rfl, c0, c1⟩ := h.hd
  refine ⟨⟨c, (r ++ n).take 7, rfl, c0, c1⟩, by rw [List.length_take]; omega, fun d hd => ?_⟩
  rcases List.mem_append.mp (List.mem_of_mem_take hd) with z | z
  · exact h.sg d z
  · exact h'.sg d z
theorem cut8 (l : List Nat) (H : l.length ≤ 1000) : cutS (SX.S l) none (some 8) = SX.S (l.take 8) := by
  rw [C8.cutS_slice]
  exact SX.slice_to (by decide)
def grow (ns : List Nm) (n : Nm) : List Nm := if n ∈ ns then ns else ns ++ [n]
theorem grow_ok {ns : List Nm} {n : Nm} (h : ∀ m ∈ ns, NameOk m) (d : ns.Nodup) (ok : NameOk n) : (∀ m ∈ grow ns n, NameOk m) ∧ (grow ns n).Nodup ∧ grow ns n ≠ [] ∧ (grow ns n).length ≤ ns.length + 1 := by
  unfold grow
  split
  · rename_i z
    exact ⟨h, d, List.ne_nil_of_mem z, Nat.le_succ _⟩
  · rename_i z
    refine ⟨fun m hm => ?_, ?_, by simp, by simp⟩
    · rcases List.mem_append.mp hm with hm | hm
      · exact h m hm
      · rw [List.mem_singleton.mp hm]
        exact ok
    · rw [List.nodup_append]
      exact ⟨d, by simp, fun x hx y hy e => z (by rw [← List.mem_singleton.mp hy, ← e]; exact hx)⟩
def spNames : Sp := fun vs H Q _ => ∃ a : Addr, vs = [.ref a] ∧ Pur H a ∧ ∀ ns p H', NamesOk ns → Ex (less a H) H' → Pur H' a → H' p = some (.tup (ns.map nmV)) → Q (.ref p) H'
abbrev s__law_names : Stmt := top 33
abbrev sc__law_names_N : List Str := ["_law_purse_here", "_law_found", "_law_turn", "_law_name_here"]
theorem sc__law_names : FnScope sc__law_names_N ["_law_purse_here"] (defScope s__law_names) := ⟨rfl, rfl, rfl, by decide +kernel, rfl, by decide +kernel, by decide +kernel⟩
theorem ok_names (D__law_draw : Has P w K mg base "_law_draw" 1 ["_law_purse_here", "_law_many"] spDraw) (D__law_name : Has P w K mg base "_law_name" 2 ["_law_purse_here"] spName) (F : FnP K "_law_names" s__law_names f fd) (m_range : mg "range" = none) (m_tuple : mg "tuple" = none) : FnOk P w K mg base CX0 3 f fd ["_law_purse_here"] spNames := by
  refine F.ok sc__law_names (fun vs H Q E h => by obtain ⟨a, rfl, _⟩ := h; rfl) (fun cdv A outer s H vs Q E hr h => ⟨_, PSs.nox
    (pss_cons (ps_set (i := 1) sc__law_names.nd rfl (Or.inl rfl) (pe_lst pa_nil)) (pss_cons (ps_for PassesOwn.never rfl (pi_range1 (by rfl) m_range (pa_cons (pe_op (addK K) pe_int (pe_has D__law_draw (hr.mono (by decide)) (pa_cons (pv 0) (pa_cons pe_int pa_nil)))) pa_nil)) (pg_name (i := 2) sc__law_names.nd rfl (Or.inl rfl)) (pss_cons (ps_set (i := 3) sc__law_names.nd rfl (Or.inl rfl) (pe_has D__law_name (hr.mono (by decide)) (pa_cons (pv 0) pa_nil))) (pss_cons (ps_set (i := 3) sc__law_names.nd rfl (Or.inl rfl) (pe_ifExp (pw_and (pt_cmpR (neK K hr) (pv 1) (pe_lst pa_nil) (nomark _)) (pw_and1 (pt_cmpR (eqK K hr) (pe_has D__law_draw (hr.mono (by decide)) (pa_cons (pv 0) (pa_cons pe_int pa_nil))) pe_int (nomark _)))).pt (pe_slice (slK K) (pe_op (addK K) (pe_ix (ixK K) (pv 1) (pe_un un_neg pe_int) (fun _ _ => rfl)) (pv 3)) po_none (po_some pe_int)) (pv 3))) (pss_one (ps_set (i := 1) sc__law_names.nd rfl (Or.inl rfl) (pe_op (addK K) (pv 1) (pe_ifExp (pt_cmpR (niK K hr) (pv 3) (pv 1) rfl) (pe_lst (pa_cons (pv 3) pa_nil)) (pe_lst pa_nil)))))))) (pss_one (ps_ret (pe_callTy call_tuple_of (by rfl) m_tuple (by decide +kernel) (pa_cons (pv 1) pa_nil)))))), ?_⟩)
  obtain ⟨a, rfl, p0, q⟩ := h
  refine q_asgL (xs := []) (el_lst ea_nil (by simp)) fun l H1 n1 g1 h1 => ?_
  have p1 := p0.keep g1
  have nel := p0.ne n1
  refine q_forDr (a := a) (G := less a H1) (m := 4) (R := fun k => 1 ≤ k) (dr_op (P1 := fun v => v = .int 1) (P2 := fun v => ∃ k, v = .int k ∧ 0 ≤ k ∧ k < 4) (dr_ev ev_c rfl) (dr_draw less_at rfl ev_c (by decide) (by decide)) fun x y hx hy => ?_) (by decide) less_ex p1
    (fun i σ' H' => ∃ (v2 v3 : Option V) (l : Addr) (ns : List Nm), σ' = [some (.ref a), some (.ref l), v2, v3] ∧ l ≠ a ∧ H' l = some (.lst (ns.map nmV)) ∧ (∀ n ∈ ns, NameOk n) ∧ ns.Nodup ∧ ns.length ≤ i ∧ (1 ≤ i → ns ≠ []) ∧ i ≤ 4 ∧ Ex (less a H) H' ∧ Pur H' a)
    (fun H2 e2 p2 => ⟨_, _, l, [], rfl, nel, e2 _ _ (by rw [less_ne nel]; exact h1), (fun _ h => nomatch h), List.nodup_nil, Nat.le_refl _, (fun z => absurd z (by decide)), by decide, (ex_less less_at (less_ex.trans g1)).trans e2, p2⟩) (fun i σ' H' hi z => ?_) fun k σ' H' k1 k0 z => ?_
  · obtain ⟨k, rfl, k0, k1⟩ := hy
    subst hx
    exact ⟨.int (1 + k), ⟨1 + k, rfl, by omega, by omega, by omega⟩, fun H => rv_addI⟩
  · obtain ⟨v2, v3, l, ns, rfl, nel, hl, ok, nd, len, ne, i4, x0, pu⟩ := z
    refine q_asgDr (a := a) (G := less a H') (dr_name less_at rfl) less_ex pu fun v H3 pv x3 p3 => ?_
    obtain ⟨n, rfl, okn⟩ := pv
    have hl3 := x3 _ _ (show less a H' l = some (.lst (ns.map nmV)) by rw [less_ne nel]; exact hl)
    have hlG : less a H3 l = some (.lst (ns.map nmV)) := by rw [less_ne nel]; exact hl3
    refine q_asgDr (a := a) (G := less a H3) (P := fun v => ∃ m, v = nmV m ∧ NameOk m) (dr_if (R := fun b => b = true → ns ≠ []) (dt_and (R1 := fun b => b = true → ns ≠ []) (R2 := fun _ => True) (dt_ev (b := !decide (ns = [])) (et_B (ev_opL (ev_var rfl) (el_lst ea_nil (by simp)) fun p H4 h4 x4 => rv_neDat (d := .list (ns.map nmD)) (e := .list (([] : List Nm).map nmD)) (da_nmL (x4 _ _ hlG)) (da_nmL h4) (pl_nmL ok) (pl_nmL fun _ h => nomatch h) (by
        show PyData.eqvAll (ns.map nmD) (([] : List Nm).map nmD) = _
        exact nms_eqv ns []))) fun b => by simpa using b)
      (fun _ => dt_B (dr_op (P1 := fun v => ∃ k, v = .int k ∧ 0 ≤ k ∧ k < 3) (P2 := fun v => v = .int 0) (dr_draw less_at rfl ev_c (by decide) (by decide)) (dr_ev ev_c rfl) fun x y hx hy => by
        obtain ⟨k, rfl, _⟩ := hx
        subst hy
        exact ⟨_, ⟨_, rfl, trivial⟩, fun H => rv_l (rv_eq rfl)⟩)) (fun f => f) (fun b f _ _ => f rfl)) (fun r => ?_) fun _ => dr_ev (ev_var rfl) ⟨n, rfl, okn⟩) less_ex p3 fun v H4 pv x4 p4 => ?_
    · have ne := r rfl
      obtain ⟨x, hx⟩ : ∃ x, ns.getLast? = some x := by
        cases z : ns.getLast? with
        | none => exact absurd (List.getLast?_eq_none_iff.mp z) ne
        | some x => exact ⟨x, rfl⟩
      have okx := ok x (List.mem_of_getLast? hx)
      have at_ : atI (ns.map nmV) (-1) = some (nmV x) := by
        unfold atI ixN
        have pos : 0 < ns.length := List.length_pos_iff.mpr ne
        rw [if_neg (by omega), if_pos (by rw [List.length_map]; omega)]
        rw [List.getLast?_eq_getElem?] at hx
        simp only [Option.bind_some, List.getElem?_map, List.length_map]
        rw [show ((-1 + (ns.length : Int)).toNat) = ns.length - 1 by omega, hx] <;> rfl
      refine dr_ev (v := nmV ((x ++ n).take 8)) (fun H5 e5 Q q => ?_) ⟨_, rfl, name_cut okx okn⟩
      refine (ev_op (ev_var rfl) (ev_un ev_c ru_neg) (rv_ixLX (sq_of hlG) at_) : Ev _ _ (less a H3) _) H5 e5 _ fun H6 e6 => ⟨nmV n, rfl, .inr (.inr (.inl ⟨SX.S x, SX.S n, rfl, rfl, ?_, ?_⟩))⟩
      · rw [SX.S_len, SX.S_len]
        have := okx.len
        have := okn.len
        exact sz_of (by omega)
      · rw [SX.S_cat]
        refine ⟨8, rfl, .inr (.inr ⟨_, rfl, ?_, ?_⟩)⟩
        · rw [SX.S_len, List.length_append]
          have := okx.len
          have := okn.len
          exact sz_of (by omega)
        · rw [cut8 _ (by rw [List.length_append]; have := okx.len; have := okn.len; omega)]
          exact q H6 e6
    · obtain ⟨m, rfl, okm⟩ := pv
      have hl4 := x4 _ _ hlG
      refine s_asgL (xs := (grow ns m).map nmV) (fun H5 e5 Q q => ?_) fun p H5 n5 e5 h5 => ?_
      · have key : EvL (tOp (rAddX K) (tVar 1) (tIf (tTest (tOp (fun x y H Q => (∃ (c : Nat) (z : Str), x = .str ⟨#[c]⟩ ∧ y = .str z ∧ Q (.bl (!decide (c ∈ z.cps.toList))) H) ∨ rInDat K true x y H Q) (tVar 3) (tVar 1))) (tLst (tCons (tVar 3) tNil)) (tLst tNil))) _ H4 (ns.map nmV ++ (if m ∈ ns then [] else [nmV m])) :=
          el_catX (σ := [some (.ref a), some (.ref l), some (.int (i : Int)), some (nmV m)]) (ev_var rfl) hl4 (el_ifY (b := !decide (m ∈ ns)) (et_B (ev_op (ev_var rfl) (ev_var rfl) (rv_niDat (d := nmD m) (c := .list (ns.map nmD)) (.inl rfl) (.str _) (da_nmL hl4) (pl_nm okm) (pl_nmL ok) (any_nm ns m)))) (fun b => ?_) fun b => ?_) (by
            rw [List.length_map]
            split <;> simp <;> omega)
        · have e : ns.map nmV ++ (if m ∈ ns then [] else [nmV m]) = (grow ns m).map nmV := by
            unfold grow
            split <;> simp
          rw [e] at key
          exact key H5 e5 Q q
        · rw [if_neg (by simpa using b)]
          exact el_lst (ea_cons (ev_var rfl) ea_nil) (by simp)
        · rw [if_pos (by simpa using b)]
          exact el_lst ea_nil (by simp)
      · obtain ⟨g1, g2, g3, g4⟩ := grow_ok ok nd okm
        exact ⟨_, _, p, grow ns m, rfl, p4.ne n5, h5, g1, g2, by omega, fun _ => g3, by omega, ((ex_less less_at ((ex_less less_at x0).trans x3)).trans x4).trans e5, p4.keep e5⟩
  · obtain ⟨v2, v3, l, ns, rfl, nel, hl, ok, nd, len, ne, i4, x0, pu⟩ := z
    refine ⟨.ref l, rfl, l, ns.map nmV, rfl, .inl ⟨sq_of hl, fun p hp => ?_⟩⟩
    exact q ns p _ ⟨ne (by omega), by omega, nd, ok⟩ (x0.trans (Ex.new hp)) (pur_new pu hp) upd_same
end
end K20
set_option Elab.async false
set_option linter.all false
set_option maxRecDepth 100000
set_option maxHeartbeats 4000000
namespace K20
open PySem PySem.Spec PyProof.Rows L2 Evl SwX
section
variable {P : Program} {w : World} {K : PySem.W.Frag} {mg : Str → Option Value} {base : Heap} {f : Addr} {fd : FuncData}
/-- names[draw(len(names))] -/
theorem dr_one {a q0 : Addr} {σ : L2.St} {G : Hp} {ns : List Nm} {i : Nat} {E : XK} (n : G a = none) (h : σ[0]? = some (some (.ref a))) (hi : σ[i]? = some (some (.ref q0))) (hq : SqT K G q0 (ns.map nmV)) (ne : ns ≠ []) (len : ns.length ≤ 4) :
    Dr a (tOp (rIx K) (tVar i) (tCall spDraw [] E (tCons (tVar 0) (tCons (tCB (rLenY K) (tCons (tVar i) tNil)) tNil)))) σ G fun v => ∃ m, v = nmV m ∧ m ∈ ns := by
  have pos : 0 < ns.length := List.length_pos_iff.mpr ne
  refine dr_opG (P1 := fun v => v = .ref q0) (P2 := fun v => ∃ k, v = .int k ∧ 0 ≤ k ∧ k < (ns.length : Nat)) (dr_ev (ev_var hi) rfl) (dr_draw n h (ev_is (ev_lenL (ev_var hi) (.inr hq)) (by rw [List.length_map])) (by omega) (by omega)) fun x y hx hy => ?_
  obtain ⟨k, rfl, k0, k1⟩ := hy
  subst hx
  obtain ⟨v, hv, hv2⟩ := atI_nat (xs := ns.map nmV) k0 (by rw [List.length_map]; exact k1)
  obtain ⟨m, hm, rfl⟩ := List.mem_map.mp (List.mem_of_getElem? hv2)
  exact ⟨_, ⟨m, rfl, hm⟩, rv_ixTX hq hv⟩
theorem nms_back {ns : List Nm} : ∀ {xs : List V}, (∀ x ∈ xs, ∃ m, x = nmV m ∧ m ∈ ns) → ∃ ps : List Nm, xs = ps.map nmV ∧ (∀ p ∈ ps, p ∈ ns) ∧ ps.length = xs.length
  | [], _ => ⟨[], rfl, (fun _ h => nomatch h), rfl⟩
  | x :: xs, h => by
    obtain ⟨m, rfl, hm⟩ := h x List.mem_cons_self
    obtain ⟨ps, rfl, hp, l⟩ := nms_back (xs := xs) fun y hy => h y (List.mem_cons_of_mem _ hy)
    exact ⟨m :: ps, rfl, fun d hd => (List.mem_cons.mp hd).elim (fun e => e ▸ hm) (hp d), congrArg Nat.succ l⟩
def spRule (K : PySem.W.Frag) : Sp := fun vs H Q _ => ∃ (a q0 : Addr) (ns : List Nm), vs = [.ref a, .ref q0] ∧ Pur H a ∧ SqT K (less a H) q0 (ns.map nmV) ∧ NamesOk ns ∧ ∀ r p H', RulOk ns r → Ex (less a H) H' → Pur H' a → Da K (less a H') (.ref p) (rulD r) → Q (.ref p) H'
abbrev s__law_rule : Stmt := top 34
abbrev sc__law_rule_N : List Str := ["_law_purse_here", "_law_names_here", "_law_parts", "_law_k"]
theorem sc__law_rule : FnScope sc__law_rule_N ["_law_purse_here", "_law_names_here"] (defScope s__law_rule) := ⟨rfl, rfl, rfl, by decide +kernel, rfl, by decide +kernel, by decide +kernel⟩
theorem ok_rule (D__law_draw : Has P w K mg base "_law_draw" 1 ["_law_purse_here", "_law_many"] spDraw) (F : FnP K "_law_rule" s__law_rule f fd) (m_range : mg "range" = none) (m_tuple : mg "tuple" = none) (m_len : mg "len" = none) : FnOk P w K mg base CX0 2 f fd ["_law_purse_here", "_law_names_here"] (spRule K) := by
  refine F.ok sc__law_rule (fun vs H Q E h => by obtain ⟨a, q0, ns, rfl, _⟩ := h; rfl) (fun cdv A outer s H vs Q E hr h => ⟨_, PSs.nox
    (pss_cons (ps_set (i := 2) sc__law_rule.nd rfl (Or.inl rfl) (pe_callTy call_tuple_of (by rfl) m_tuple (by decide +kernel) (pa_cons (pe_lc (own := [("_law_k", 3)]) (g := gName 3) (tt := tYes) rfl sc__law_rule.nd (pi_range1 (by rfl) m_range (pa_cons (pe_has D__law_draw (hr.mono (by decide)) (pa_cons (pv 0) (pa_cons pe_int pa_nil))) pa_nil)) (blkOk_by (N := sc__law_rule_N) (sc := defScope s__law_rule) (by decide +kernel)) (fun _ _ _ _ _ => pg_name (i := 3) sc__law_rule.nd rfl (Or.inl rfl)) (fun _ _ _ _ _ => pts_nil) (fun _ _ _ _ _ => (pe_ix (ixK K) (pv 1) (pe_has D__law_draw (hr.mono (by decide)) (pa_cons (pv 0) (pa_cons (pe_callB (lenK K) (by rfl) m_len (by decide +kernel) (pa_cons (pv 1) pa_nil)) pa_nil))) (fun _ _ => rfl)))) pa_nil))) (pss_one (ps_ret (pe_tup (pa_cons (pe_ix (ixK K) (pv 1) (pe_has D__law_draw (hr.mono (by decide)) (pa_cons (pv 0) (pa_cons (pe_callB (lenK K) (by rfl) m_len (by decide +kernel) (pa_cons (pv 1) pa_nil)) pa_nil))) (fun _ _ => rfl)) (pa_cons (pe_op (addK K) pe_int (pe_has D__law_draw (hr.mono (by decide)) (pa_cons (pv 0) (pa_cons pe_int pa_nil)))) (pa_cons (pv 2) pa_nil))))))), ?_⟩)
  obtain ⟨a, q0, ns, rfl, p0, hq, ok, q⟩ := h
  refine q_asgTupL (a := a) (G := less a H) (m := 3) (P := fun v => ∃ m, v = nmV m ∧ m ∈ ns) (drl_lc less_at (Dr.imp (dr_draw less_at rfl ev_c (by decide) (by decide)) fun v z => ?_) (by decide) (fun _ => rfl) fun i G' n' g' => dr_one n' rfl rfl (ex_t g' hq) ok.ne ok.len) less_ex p0 fun q1 xs H1 lx px h1 ne1 e1 p1 => ?_
  · obtain ⟨k, rfl, k0, k1⟩ := z
    exact ⟨k, rfl, k0, by omega⟩
  obtain ⟨ps, rfl, hps, lps⟩ := nms_back px
  have hG : less a H1 q1 = some (.tup (ps.map nmV)) := by rw [less_ne ne1]; exact h1
  have e1' := ex_less less_at e1
  refine (dr_one less_at rfl rfl (ex_t e1' hq) ok.ne ok.len : Dr a _ _ (less a H1) _) H1 less_ex p1 _ fun v1 H2 pv1 e2 p2 => ?_
  obtain ⟨m, rfl, hm⟩ := pv1
  refine (dr_op (P := fun v => ∃ o : Nat, v = .int (o : Int) ∧ 1 ≤ o ∧ o ≤ 9) (P1 := fun v => v = .int 1) (P2 := fun v => ∃ k, v = .int k ∧ 0 ≤ k ∧ k < 9) (dr_ev ev_c rfl) (dr_draw less_at rfl ev_c (by decide) (by decide)) (fun x y hx hy => ?_) : Dr a _ _ (less a H1) _) H2 e2 p2 _ fun v2 H3 pv2 e3 p3 => ?_
  · obtain ⟨k, rfl, k0, k1⟩ := hy
    subst hx
    refine ⟨.int (1 + k), ⟨(1 + k).toNat, ?_, by omega, by omega⟩, fun H => rv_addI⟩
    rw [show ((1 + k).toNat : Int) = 1 + k by omega]
  obtain ⟨o, rfl, o1, o9⟩ := pv2
  refine ⟨.ref q1, rfl, show 3 ≤ sizeLine by decide, fun p hp => ?_⟩
  have nep := p3.ne hp
  have z : less a (upd H3 p (.tup [nmV m, .int (o : Int), .ref q1])) q1 = some (.tup (ps.map nmV)) := by
    rw [less_ne ne1]
    exact (Ex.new hp) _ _ (e3 _ _ hG)
  have fin := q (m, o, ps) p _ ⟨hm, o1, o9, by have z : (List.map nmV ps).length ≤ 3 := lx; rw [List.length_map] at z; exact z, hps⟩ ((e1'.trans e3).trans (Ex.new hp)) (pur_new p3 hp) (da_tuple (xs := [nmV m, .int (o : Int), .ref q1]) (.inl (.inl (by rw [less_ne nep, upd_same]))) (.cons (.str _) (.cons (.int _) (.cons (da_nms (.inl (.inl z))) .nil))))
  exact fin
def growR (rs : List Rul) (r : Rul) : List Rul := if r ∈ rs then rs else rs ++ [r]
theorem growR_ok {ns : List Nm} {rs : List Rul} {r : Rul} (h : ∀ m ∈ rs, RulOk ns m) (d : rs.Nodup) (ok : RulOk ns r) : (∀ m ∈ growR rs r, RulOk ns m) ∧ (growR rs r).Nodup ∧ (growR rs r).length ≤ rs.length + 1 := by
  unfold growR
  split
  · rename_i z
    exact ⟨h, d, Nat.le_succ _⟩
  · rename_i z
    refine ⟨fun m hm => ?_, ?_, by simp⟩
    · rcases List.mem_append.mp hm with hm | hm
      · exact h m hm
      · rw [List.mem_singleton.mp hm]
        exact ok
    · rw [List.nodup_append]
      exact ⟨d, by simp, fun x hx y hy e => z (by rw [← List.mem_singleton.mp hy, ← e]; exact hx)⟩
def spRules (K : PySem.W.Frag) : Sp := fun vs H Q _ => ∃ (a q0 : Addr) (ns : List Nm) (most : Nat), vs = [.ref a, .ref q0, .int (most : Int)] ∧ most ≤ 100 ∧ Pur H a ∧ SqT K (less a H) q0 (ns.map nmV) ∧ NamesOk ns ∧
  ∀ rs p H', rs.length ≤ most → rs.Nodup → (∀ r ∈ rs, RulOk ns r) → Ex (less a H) H' → Pur H' a → Da K (less a H') (.ref p) (rulsD rs) → Q (.ref p) H'
theorem paired_less {K : PySem.W.Frag} {a : Addr} {H : Hp} {rs : List Rul} {vs : List V} (h : Paired (fun r v => DaA K a (rulD r) v H) rs vs) : Paired (fun r v => DaA K a (rulD r) v (less a H)) rs vs := by
  have e : less a (less a H) = less a H := by
    funext b
    unfold less
    split <;> rfl
  unfold DaA at h ⊢
  rw [e]
  exact h
theorem paired_map {α β γ : Type} {F : γ → β → Prop} {g : α → γ} : ∀ {is : List α} {vs : List β}, Paired (fun i v => F (g i) v) is vs → Paired F (is.map g) vs
  | _, _, .nil => .nil
  | _, _, .cons h t => .cons h (paired_map t)
abbrev s__law_rules : Stmt := top 35
abbrev sc__law_rules_N : List Str := ["_law_purse_here", "_law_names_here", "_law_most", "_law_found", "_law_turn", "_law_rule_here"]
theorem sc__law_rules : FnScope sc__law_rules_N ["_law_purse_here", "_law_names_here", "_law_most"] (defScope s__law_rules) := ⟨rfl, rfl, rfl, by decide +kernel, rfl, by decide +kernel, by decide +kernel⟩
theorem ok_rules (D__law_draw : Has P w K mg base "_law_draw" 1 ["_law_purse_here", "_law_many"] spDraw) (D__law_rule : Has P w K mg base "_law_rule" 2 ["_law_purse_here", "_law_names_here"] (spRule K)) (F : FnP K "_law_rules" s__law_rules f fd) (m_range : mg "range" = none) (m_tuple : mg "tuple" = none) : FnOk P w K mg base CX0 3 f fd ["_law_purse_here", "_law_names_here", "_law_most"] (spRules K) := by
  refine F.ok sc__law_rules (fun vs H Q E h => by obtain ⟨a, q0, ns, m, rfl, _⟩ := h; rfl) (fun cdv A outer s H vs Q E hr h => ⟨_, PSs.nox
    (pss_cons (ps_set (i := 3) sc__law_rules.nd rfl (Or.inl rfl) (pe_lst pa_nil)) (pss_cons (ps_for PassesOwn.never rfl (pi_range1 (by rfl) m_range (pa_cons (pe_has D__law_draw (hr.mono (by decide)) (pa_cons (pv 0) (pa_cons (pe_op (addK K) (pv 2) pe_int) pa_nil))) pa_nil)) (pg_name (i := 4) sc__law_rules.nd rfl (Or.inl rfl)) (pss_cons (ps_set (i := 5) sc__law_rules.nd rfl (Or.inl rfl) (pe_has D__law_rule (hr.mono (by decide)) (pa_cons (pv 0) (pa_cons (pv 1) pa_nil)))) (pss_one (ps_set (i := 3) sc__law_rules.nd rfl (Or.inl rfl) (pe_op (addK K) (pv 3) (pe_ifExp (pt_cmpR (niK K hr) (pv 5) (pv 3) rfl) (pe_lst (pa_cons (pv 5) pa_nil)) (pe_lst pa_nil))))))) (pss_one (ps_ret (pe_callTy call_tuple_of (by rfl) m_tuple (by decide +kernel) (pa_cons (pv 3) pa_nil)))))), ?_⟩)
  obtain ⟨a, q0, ns, most, rfl, m100, p0, hq, ok, q⟩ := h
  refine q_asgL (xs := []) (el_lst ea_nil (by simp)) fun l H1 n1 g1 h1 => ?_
  have p1 := p0.keep g1
  have nel := p0.ne n1
  refine q_forDr (a := a) (G := less a H1) (m := most) (R := fun _ => True) (Dr.imp (dr_draw (m := (most : Int) + 1) less_at rfl (ev_op (ev_var rfl) ev_c rv_addI) (by omega) (by omega)) fun v z => ?_) (by omega) less_ex p1
    (fun i σ' H' => ∃ (v4 v5 : Option V) (l : Addr) (rs : List Rul) (vs : List V), σ' = [some (.ref a), some (.ref q0), some (.int (most : Int)), some (.ref l), v4, v5] ∧ l ≠ a ∧ H' l = some (.lst vs) ∧ Paired (fun r v => DaA K a (rulD r) v H') rs vs ∧ (∀ r ∈ rs, RulOk ns r) ∧ rs.Nodup ∧ rs.length ≤ i ∧ i ≤ most ∧ Ex (less a H) H' ∧ Pur H' a)
    (fun H2 e2 p2 => ⟨_, _, l, [], [], rfl, nel, e2 _ _ (by rw [less_ne nel]; exact h1), .nil, (fun _ h => nomatch h), List.nodup_nil, Nat.le_refl _, Nat.zero_le _, (ex_less less_at (less_ex.trans g1)).trans e2, p2⟩) (fun i σ' H' hi z => ?_) fun k σ' H' _ k0 z => ?_
  · obtain ⟨k, rfl, k0, k1⟩ := z
    exact ⟨k, rfl, k0, by omega, trivial⟩
  · obtain ⟨v4, v5, l, rs, vs, rfl, nel, hl, pr, ok', nd, len, im, x0, pu⟩ := z
    refine ⟨.ref a, rfl, .ref q0, rfl, a, q0, ns, rfl, pu, ex_t (ex_less less_at x0) hq, ok, fun r p H3 okr x3 p3 dr => ?_⟩
    have hl3 := x3 _ _ (show less a H' l = some (.lst vs) by rw [less_ne nel]; exact hl)
    have pr3 : Paired (fun r v => DaA K a (rulD r) v H3) rs vs := paired_mono (F := fun (r : Rul) v H => DaA K a (rulD r) v H) (show Ex (less a H') H3 from x3) (fun r v H H' e h => daA_mono _ v H H' e h) (paired_less pr)
    have okn : ∀ m ∈ rs, RulNm m := fun m hm => (ok' m hm).nm ok.ok
    have dl : Da K H3 (.ref l) (.list (rs.map rulD)) := da_list hl3 (paired_map (g := rulD) (F := fun d v => Da K H3 v d) (paired_mono (F := fun (r : Rul) v H => Da K H v (rulD r)) (less_ex (a := a)) (fun r v H H' e h => Da.mono e h) pr3))
    refine s_asgL (xs := vs ++ (if r ∈ rs then [] else [.ref p])) (el_catX (K := K) (ev_var rfl) hl3 (el_ifY (b := !decide (r ∈ rs)) (et_B (ev_op (ev_var rfl) (ev_var rfl) (rv_niDat (d := rulD r) (c := .list (rs.map rulD)) (.inl rfl) (dr.mono less_ex) dl (pl_rul (okr.nm ok.ok)) (pl_rulL okn) (any_rul rs r)))) (fun b => ?_) fun b => ?_) (by
      rw [← paired_len pr]
      split <;> simp <;> omega)) fun c H4 n4 e4 h4 => ?_
    · rw [if_neg (by simpa using b)]
      exact el_lst (ea_cons (ev_var rfl) ea_nil) (by simp)
    · rw [if_pos (by simpa using b)]
      exact el_lst ea_nil (by simp)
    · obtain ⟨g1, g2, g3⟩ := growR_ok ok' nd okr
      refine ⟨_, _, c, growR rs r, _, rfl, p3.ne n4, h4, ?_, g1, g2, by omega, by omega, ((ex_less less_at x0).trans x3).trans e4, p3.keep e4⟩
      have base' := paired_mono (F := fun (r : Rul) v H => DaA K a (rulD r) v H) e4 (fun r v H H' e h => daA_mono _ v H H' e h) pr3
      unfold growR
      split
      · rw [List.append_nil]
        exact base'
      · exact paired_append base' (.cons (daA_mono _ _ _ _ e4 dr) .nil)
  · obtain ⟨v4, v5, l, rs, vs, rfl, nel, hl, pr, ok', nd, len, im, x0, pu⟩ := z
    refine ⟨.ref l, rfl, l, vs, rfl, .inl ⟨sq_of hl, fun p hp => ?_⟩⟩
    have nep := pu.ne hp
    refine q rs p _ (by omega) nd ok' (x0.trans (Ex.new hp)) (pur_new pu hp) (da_tuple (.inl (.inl (by rw [less_ne nep, upd_same]))) ?_)
    exact paired_map (g := rulD) (F := fun d v => Da K (less a (upd H' p (.tup vs))) v d) (paired_mono (F := fun (r : Rul) v H => DaA K a (rulD r) v H) (Ex.new hp) (fun r v H H' e h => daA_mono _ v H H' e h) pr)
end
end K20
set_option Elab.async false
set_option linter.all false
set_option maxRecDepth 100000
set_option maxHeartbeats 4000000
namespace K20
open PySem PySem.Spec PyProof.Rows L2 Evl SwX
section
variable {P : Program} {w : World} {K : PySem.W.Frag} {mg : Str → Option Value} {base : Heap} {f : Addr} {fd : FuncData}
def spText (K : PySem.W.Frag) : Sp := fun vs H Q _ => ∃ (p : Addr) (x : V) (ns : List Nm) (rs : List Rul), vs = [.ref p, x] ∧ SqT K H p (ns.map nmV) ∧ Da K H x (rulsD rs) ∧ ns.length ≤ 10 ∧ rs.length ≤ 20 ∧ (∀ n ∈ ns, NameOk n) ∧ (∀ r ∈ rs, RulNm r ∧ r.2.1 ≤ 9 ∧ r.2.2.length ≤ 10) ∧ ∀ H', Ex H H' → Q (.str (SX.S (textL ns rs))) H'
theorem joinL_len {B : Nat} {sep : List Nat} (hs : sep.length ≤ 2) : ∀ {l : List (List Nat)}, (∀ x ∈ l, x.length ≤ B) → (TL.joinL sep l).length ≤ (B + 2) * l.length
  | [], _ => Nat.zero_le _
  | [x], h => by
    have := h x List.mem_cons_self
    show x.length ≤ _
    simp
    omega
  | x :: y :: l, h => by
    have z := joinL_len hs (l := y :: l) fun u hu => h u (List.mem_cons_of_mem _ hu)
    have := h x List.mem_cons_self
    show (x ++ (sep ++ TL.joinL sep (y :: l))).length ≤ _
    rw [List.length_append, List.length_append, List.length_cons, Nat.mul_add]
    omega
theorem row_len {r : Rul} (h : RulNm r) (o : r.2.1 ≤ 9) (l : r.2.2.length ≤ 10) : (rowL r).length ≤ 150 := by
  have z := joinL_len (B := 8) (sep := [32]) (by decide) (l := r.2.2) fun p hp => (h.2 p hp).len
  have n := TL.numL_len (n := r.2.1) (k := 1) (by decide) (by omega)
  have m := h.1.len
  have e : (8 + 2) * r.2.2.length ≤ (8 + 2) * 10 := Nat.mul_le_mul_left _ l
  unfold rowL tailL
  split <;> simp only [List.length_append, List.length_cons, List.length_nil] <;> omega
theorem head_len {ns : List Nm} (h : ∀ n ∈ ns, NameOk n) (l : ns.length ≤ 10) : (headL ns).length ≤ 150 := by
  have z := joinL_len (B := 8) (sep := [32]) (by decide) (l := kindsL :: ns) fun p hp => (List.mem_cons.mp hp).elim (fun e => by rw [e]; decide) fun hp => (h p hp).len
  have e : (8 + 2) * (kindsL :: ns).length ≤ (8 + 2) * 11 := Nat.mul_le_mul_left _ (by simp; omega)
  unfold headL
  omega

/-! evaluation of the parts -/
theorem ev_tail {σ : L2.St} {H : Hp} {c : Addr} {ps : List Nm} (h5 : σ[5]? = some (some (.ref c))) (hc : SqT K H c (ps.map nmV)) (ok : ∀ p ∈ ps, NameOk p) (l : ps.length ≤ 10) :
    Ev (tIf (tTest (tOp (fun x y H Q => rNe x y H Q ∨ rEqDat K not x y H Q) (tVar 5) (tTup tNil))) (tOp (rAddX K) (tC (.str (SX.S [58, 32]))) (tM1 (rJoin K) (tC (.str (SX.S [32]))) (tVar 5))) (tC (.str (SX.S [])))) σ H (.str (SX.S (tailL ps))) := by
  have w3 := joinL_len (B := 8) (sep := [32]) (by decide) (l := ps) fun p hp => (ok p hp).len
  have w4 : (8 + 2) * ps.length ≤ (8 + 2) * 10 := Nat.mul_le_mul_left _ l
  refine ev_if (b := !decide (ps = [])) (et_B (ev_opU (ev_var h5) (eu_tup ea_nil (by simp)) fun u H3 h3 e3 => rv_neDat (d := nmsD ps) (e := nmsD []) (da_nms (ex_t e3 hc)) (da_nms (.inl (.inl h3))) (pl_nms ok) (pl_nms fun _ h => nomatch h) (nmsD_eqv _ _))) (fun z => ?_) fun z => ?_
  · unfold tailL
    rw [if_neg (by simpa using z)]
    exact ev_op ev_c (ev_joinS (l := ps) (B := 8) ev_c (ev_var h5) (.inr (by rw [← S_map]; exact hc)) (fun u hu => (ok u hu).len) ⟨by decide, by omega, by decide⟩) (rv_addS (by simp only [List.length_cons, List.length_nil]; omega))
  · unfold tailL
    rw [if_pos (by simpa using z)]
    exact ev_c
theorem tail_len {ps : List Nm} (ok : ∀ p ∈ ps, NameOk p) (l : ps.length ≤ 10) : (tailL ps).length ≤ 102 := by
  have w3 := joinL_len (B := 8) (sep := [32]) (by decide) (l := ps) fun p hp => (ok p hp).len
  have w4 : (8 + 2) * ps.length ≤ (8 + 2) * 10 := Nat.mul_le_mul_left _ l
  unfold tailL
  split <;> simp only [List.length_append, List.length_cons, List.length_nil] <;> omega
theorem ev_strI {σ : L2.St} {H : Hp} {te : TE} {o : Nat} (h : Ev te σ H (.int (o : Int))) (l : o < 1000) : Ev (tCB rStrY (tCons te tNil)) σ H (.str (SX.S (TL.numL o))) := fun H1 e1 Q q => h H1 e1 _ fun H2 e2 => .inl ⟨o, rfl, by
  have : (o : Int).natAbs.log2 < 10 := by
    by_cases z : o = 0
    · subst z
      decide
    · exact (Nat.log2_lt (by omega)).mpr (by omega)
  omega, by rw [numS]; exact q H2 e2⟩
theorem ea_star {σ : L2.St} {H : Hp} {te : TE} {tr : TA} {p : Addr} {xs vs : List V} (h : Ev te σ H (.ref p)) (hp : SqT K H p xs) (hr : EvA tr σ H vs) : EvA (StX.tStar K te tr) σ H (xs ++ vs) := fun H1 e1 Q q =>
  h H1 e1 _ fun H2 e2 => ⟨p, xs, rfl, .inl (ex_t (e1.trans e2) hp), hr H2 (e1.trans e2) _ fun H3 e3 => q H3 (e2.trans e3)⟩
/-- sep.join(a tuple made on the way) -/
theorem ev_joinY {σ : L2.St} {H : Hp} {to te : TE} {sep : List Nat} {l : List (List Nat)} {B : Nat} (ho : Ev to σ H (.str (SX.S sep))) (he : Yi te σ H fun v H' => ∃ p, v = .ref p ∧ SqT K H' p ((l.map SX.S).map V.str)) (hB : ∀ x ∈ l, x.length ≤ B) (small : B ≤ 1000 ∧ l.length ≤ 1000 ∧ sep.length ≤ 10) :
    Ev (tM1 (rJoin K) to te) σ H (.str (SX.S (TL.joinL sep l))) := fun H1 e1 Q q => ho H1 e1 _ fun H2 e2 => ⟨⟨_, rfl⟩, he H2 (e1.trans e2) _ fun v H3 e3 z => by
  obtain ⟨p, rfl, hp⟩ := z
  have s := sum_small hB
  obtain ⟨b, c, d⟩ := small
  have m1 : B * l.length ≤ 1000 * 1000 := Nat.mul_le_mul b c
  have m2 : (l.map SX.S).length * (SX.S sep).length ≤ 1000 * 10 := Nat.mul_le_mul (by rw [List.length_map]; exact c) (by rw [SX.S_len]; exact d)
  exact ⟨SX.S sep, p, _, rfl, rfl, .inr hp, by omega, by rw [SX.join_S]; exact q H3 (e2.trans e3)⟩⟩
theorem heads (ns : List Nm) : V.str (SX.S kindsL) :: ns.map nmV = ((kindsL :: ns).map SX.S).map V.str := by rw [S_map] <;> rfl
/-- ("kinds",) + names -/
theorem yi_headA {σ : L2.St} {H : Hp} {p : Addr} {ns : List Nm} (h0 : σ[0]? = some (some (.ref p))) (hp : SqT K H p (ns.map nmV)) (l : ns.length ≤ 10) : Yi (tOp (rAddX K) (tTup (tCons (tC (.str (SX.S kindsL))) tNil)) (tVar 0)) σ H fun v H' => ∃ q, v = .ref q ∧ SqT K H' q (((kindsL :: ns).map SX.S).map V.str) := fun H1 e1 Q q =>
  (eu_tup (ea_cons ev_c ea_nil) (by simp) : EvU _ σ H [.str (SX.S kindsL)]) H1 e1 _ fun u H2 n2 e2 h2 => by
    refine ⟨.ref p, h0, .inr (.inr (.inr ⟨u, p, _, _, rfl, rfl, .inl (.inl h2), ex_t (e1.trans e2) hp, sz_of (by simp; omega), (fun z => nomatch z), fun _ z => ?_, fun _ z c hc => ?_⟩))⟩
    · have e : ns = [] := by simpa using z
      subst e
      exact q _ H2 e2 ⟨u, rfl, .inl (.inl h2)⟩
    · exact q _ _ (e2.trans (Ex.new hc)) ⟨c, rfl, .inl (.inl (by rw [upd_same, ← heads]; rfl))⟩
/-- ("kinds", *names) -/
theorem yi_headB {σ : L2.St} {H : Hp} {p : Addr} {ns : List Nm} (h0 : σ[0]? = some (some (.ref p))) (hp : SqT K H p (ns.map nmV)) (l : ns.length ≤ 10) : Yi (tTup (tCons (tC (.str (SX.S kindsL))) (StX.tStar K (tVar 0) tNil))) σ H fun v H' => ∃ q, v = .ref q ∧ SqT K H' q (((kindsL :: ns).map SX.S).map V.str) := fun H1 e1 Q q =>
  (eu_tup (ea_cons ev_c (ea_star (ev_var h0) hp ea_nil)) (by simp; omega) : EvU _ σ H (.str (SX.S kindsL) :: (ns.map nmV ++ []))) H1 e1 _ fun u H2 n2 e2 h2 => q _ H2 e2 ⟨u, rfl, .inl (.inl (by rw [h2, ← heads, List.append_nil]))⟩
/-- w + " " + str(o) + tail -/
theorem row_eq (r : Rul) : r.1 ++ [32] ++ TL.numL r.2.1 ++ tailL r.2.2 = rowL r := by
  unfold rowL
  simp only [List.append_assoc]
theorem js_row {σ : L2.St} {H : Hp} {r : Rul} (h3 : σ[3]? = some (some (nmV r.1))) (h4 : σ[4]? = some (some (.int (r.2.1 : Nat)))) (o : r.2.1 ≤ 9) (l : r.1.length ≤ 8) : Ev (fun σ H Q => tJs [tFmt (tVar 3), tC (.str (SX.S [32])), tFmt (tVar 4)] Str.empty σ H fun out H1 => Q (.str out) H1) σ H (.str (SX.S (r.1 ++ [32] ++ TL.numL r.2.1))) := fun H1 e1 Q q => by
  have e0 : Str.empty = SX.S [] := rfl
  have n := TL.numL_len (n := r.2.1) (k := 1) (by decide) (by omega)
  rw [e0]
  refine (ev_fmtS (x := r.1) (ev_var h3) (by omega) : Ev _ σ H _) H1 e1 _ fun H2 e2 => ⟨_, rfl, by rw [SX.S_cat, SX.S_len]; exact sz_of (by simp; omega), ?_⟩
  refine ⟨_, rfl, by rw [SX.S_cat, SX.S_cat, SX.S_len]; exact sz_of (by simp; omega), ?_⟩
  refine (ev_fmtI (ev_var h4) (by omega) : Ev _ σ H _) H2 (e1.trans e2) _ fun H3 e3 => ⟨_, rfl, by rw [SX.S_cat, SX.S_cat, SX.S_cat, SX.S_len]; exact sz_of (by simp; omega), ?_⟩
  show Q (.str (SX.S [] ++ SX.S r.1 ++ SX.S [32] ++ SX.S (TL.numL r.2.1))) H3
  rw [SX.S_cat, SX.S_cat, SX.S_cat, List.nil_append]
  exact q H3 (e2.trans e3)
abbrev s__law_text : Stmt := top 36
abbrev sc__law_text_N : List Str := ["_law_names_here", "_law_rules_here", "_law_rows", "_law_word", "_law_own", "_law_parts"]
theorem sc__law_text : FnScope sc__law_text_N ["_law_names_here", "_law_rules_here"] (defScope s__law_text) := ⟨rfl, rfl, rfl, by decide +kernel, rfl, by decide +kernel, by decide +kernel⟩
theorem ok_ltext (F : FnP K "_law_text" s__law_text f fd) (m_str : mg "str" = none) : FnOk P w K mg base CX0 1 f fd ["_law_names_here", "_law_rules_here"] (spText K) := by
  refine F.ok sc__law_text (fun vs H Q E h => by obtain ⟨p, x, ns, rs, rfl, _⟩ := h; rfl) (fun cdv A outer s H vs Q E hr h => ⟨_, PSs.nox
    (pss_cons (ps_set (i := 2) sc__law_text.nd rfl (Or.inl rfl) (pe_lst (pa_cons (pe_join pe_str (pe_op (addK K) (pe_tup (pa_cons pe_str pa_nil)) (pv 0))) pa_nil))) (pss_cons (ps_for PassesOwn.never rfl (pi_tup (pv 1)) (pg_tup rfl (pgs_cons (pg_name (i := 3) sc__law_text.nd rfl (Or.inl rfl)) (pgs_cons (pg_name (i := 4) sc__law_text.nd rfl (Or.inl rfl)) (pgs_cons (pg_name (i := 5) sc__law_text.nd rfl (Or.inl rfl)) pgs_nil)))) (pss_one (ps_expr (pe_bm PySem.F.plainAttrs_list PySem.F.slot_list_append PySem.F.type_list_append mt_append (pv 2) (pa_cons (pe_op (addK K) (pe_op (addK K) (pe_op (addK K) (pv 3) pe_str) (pe_callTy call_strY (by rfl) m_str (by decide +kernel) (pa_cons (pv 4) pa_nil))) (pe_ifExp (pt_cmpR (neK K hr) (pv 5) (pe_tup pa_nil) (nomark _)) (pe_op (addK K) pe_str (pe_join pe_str (pv 5))) pe_str)) pa_nil))))) (pss_one (ps_ret (pe_join pe_str (pv 2)))))), ?_⟩)
  obtain ⟨p, x, ns, rs, rfl, hp, hx, ln, lr, okn, okr, q⟩ := h
  obtain ⟨q0, xs, rfl, hq, pr⟩ := da_ruls rs hx
  have s1 : ("kinds" : Str) = SX.S kindsL := by decide +kernel
  have s2 : (" " : Str) = SX.S [32] := by decide +kernel
  have s3 : (": " : Str) = SX.S [58, 32] := by decide +kernel
  have s4 : ("" : Str) = SX.S [] := by decide +kernel
  have s5 : ("\n" : Str) = SX.S [10] := by decide +kernel
  rw [s1, s2, s3, s4, s5]
  refine q_asgL (xs := [.str (SX.S (headL ns))]) (el_lst (ea_cons (ev_joinY (K := K) (l := kindsL :: ns) (B := 8) ev_c (yi_headA rfl hp ln) (fun z hz => (List.mem_cons.mp hz).elim (fun e => by rw [e]; decide) fun hz => (okn z hz).len) ⟨by decide, by simp; omega, by decide⟩) ea_nil) (by simp)) fun l H1 n1 e1 h1 => ?_
  refine ⟨.ref q0, rfl, q0, rfl, ⟨xs, ex_t e1 hq⟩, for_tup (xs := xs) (fun i σ' H' => ∃ (a3 a4 a5 : Option V), σ' = [some (.ref p), some (.ref q0), some (.ref l), a3, a4, a5] ∧ H' l = some (.lst (((headL ns :: (rs.map rowL).take i).map SX.S).map V.str)) ∧ Ex H H') ⟨_, _, _, rfl, by simpa using h1, e1⟩ (fun i σ' H' _ z => ?_) (fun i y σ' H' hy z => ?_) fun σ' H' z => ?_⟩
  · obtain ⟨_, _, _, _, _, e⟩ := z
    exact ex_t e hq
  · obtain ⟨a3, a4, a5, rfl, hl, e⟩ := z
    have lt : i < rs.length := by
      have := (List.getElem?_eq_some_iff.mp hy).1
      rw [← paired_len pr] at this
      exact this
    have at_ : rs[i]? = some rs[i] := by simp [lt]
    obtain ⟨y', hy', dy⟩ := SwX.paired_get pr at_
    rw [hy] at hy'
    cases hy'
    obtain ⟨okr1, okr2, okr3⟩ := okr rs[i] (List.getElem_mem lt)
    generalize hr' : rs[i] = r at dy okr1 okr2 okr3
    obtain ⟨b, c, rfl, hb, hc⟩ := da_rul (dy.mono e)
    refine ⟨b, _, rfl, hb, rfl, _, _, rfl, _, _, rfl, _, _, rfl, rfl, ?_⟩
    refine s_app hl (ev_var rfl) (v := .str (SX.S (rowL r))) ?_ (by simp; omega) fun H2 e2 => ⟨_, _, _, rfl, ?_, ?_⟩
    · refine ev_is (ev_op (ev_op (ev_op (ev_var rfl) ev_c (rv_addS (by have := okr1.1.len; simp; omega))) (ev_strI (ev_var rfl) (by omega)) (rv_addS (by have := okr1.1.len; have := TL.numL_len (n := r.2.1) (k := 1) (by decide) (by omega); simp only [List.length_append, List.length_cons, List.length_nil]; omega))) (ev_tail rfl hc okr1.2 okr3) (rv_addS (by have := okr1.1.len; have := tail_len okr1.2 okr3; have := TL.numL_len (n := r.2.1) (k := 1) (by decide) (by omega); simp only [List.length_append, List.length_cons, List.length_nil]; omega))) (by rw [row_eq])
    · rw [upd_same, List.take_succ, List.getElem?_map, at_, hr']
      simp
    · intro b' o' hb'
      by_cases z : b' = l
      · subst z
        rw [n1] at hb'
        cases hb'
      · rw [upd_ne z]
        exact e2 _ _ (e _ _ hb')
  · obtain ⟨a3, a4, a5, rfl, hl, e⟩ := z
    rw [← paired_len pr, show (rs.map rowL).take rs.length = rs.map rowL from List.take_of_length_le (by simp)] at hl
    refine s_ret (ev_joinS (B := 150) ev_c (ev_var rfl) (.inl (sq_of hl)) (fun z hz => ?_) ⟨by decide, by simp; omega, by decide⟩) fun H3 e3 => q H3 (e.trans e3)
    rcases List.mem_cons.mp hz with rfl | hz
    · exact head_len okn ln
    · obtain ⟨r, hr2, rfl⟩ := List.mem_map.mp hz
      obtain ⟨a, b, c⟩ := okr r hr2
      exact row_len a b c
abbrev s_text_of : Stmt := top 23
abbrev sc_text_of_N : List Str := ["kinds", "recipes", "lines", "kind", "own", "parts"]
theorem sc_text_of : FnScope sc_text_of_N ["kinds", "recipes"] (defScope s_text_of) := ⟨rfl, rfl, rfl, by decide +kernel, rfl, by decide +kernel, by decide +kernel⟩
theorem ok_text_of (F : FnP K "text_of" s_text_of f fd) : FnOk P w K mg base CX0 1 f fd ["kinds", "recipes"] (spText K) := by
  refine F.ok sc_text_of (fun vs H Q E h => by obtain ⟨p, x, ns, rs, rfl, _⟩ := h; rfl) (fun cdv A outer s H vs Q E hr h => ⟨_, PSs.nox
    (pss_cons (ps_set (i := 2) sc_text_of.nd rfl (Or.inl rfl) (pe_lst (pa_cons (pe_join pe_str (pe_tup (pa_cons pe_str (StX.pa_star (pv 0) pa_nil)))) pa_nil))) (pss_cons (ps_for PassesOwn.never rfl (pi_tup (pv 1)) (pg_tup rfl (pgs_cons (pg_name (i := 3) sc_text_of.nd rfl (Or.inl rfl)) (pgs_cons (pg_name (i := 4) sc_text_of.nd rfl (Or.inl rfl)) (pgs_cons (pg_name (i := 5) sc_text_of.nd rfl (Or.inl rfl)) pgs_nil)))) (pss_one (ps_expr (pe_bm PySem.F.plainAttrs_list PySem.F.slot_list_append PySem.F.type_list_append mt_append (pv 2) (pa_cons (pe_op (addK K) (pe_joined (PJ.cons (pe_fmt (pv 3)) (PJ.cons pe_str (PJ.cons (pe_fmt (pv 4)) PJ.nil)))) (pe_ifExp (pt_cmpR (neK K hr) (pv 5) (pe_tup pa_nil) (nomark _)) (pe_op (addK K) pe_str (pe_join pe_str (pv 5))) pe_str)) pa_nil))))) (pss_one (ps_ret (pe_join pe_str (pv 2)))))), ?_⟩)
  obtain ⟨p, x, ns, rs, rfl, hp, hx, ln, lr, okn, okr, q⟩ := h
  obtain ⟨q0, xs, rfl, hq, pr⟩ := da_ruls rs hx
  have s1 : ("kinds" : Str) = SX.S kindsL := by decide +kernel
  have s2 : (" " : Str) = SX.S [32] := by decide +kernel
  have s3 : (": " : Str) = SX.S [58, 32] := by decide +kernel
  have s4 : ("" : Str) = SX.S [] := by decide +kernel
  have s5 : ("\n" : Str) = SX.S [10] := by decide +kernel
  rw [s1, s2, s3, s4, s5]
  refine q_asgL (xs := [.str (SX.S (headL ns))]) (el_lst (ea_cons (ev_joinY (K := K) (l := kindsL :: ns) (B := 8) ev_c (yi_headB rfl hp ln) (fun z hz => (List.mem_cons.mp hz).elim (fun e => by rw [e]; decide) fun hz => (okn z hz).len) ⟨by decide, by simp; omega, by decide⟩) ea_nil) (by simp)) fun l H1 n1 e1 h1 => ?_
  refine ⟨.ref q0, rfl, q0, rfl, ⟨xs, ex_t e1 hq⟩, for_tup (xs := xs) (fun i σ' H' => ∃ (a3 a4 a5 : Option V), σ' = [some (.ref p), some (.ref q0), some (.ref l), a3, a4, a5] ∧ H' l = some (.lst (((headL ns :: (rs.map rowL).take i).map SX.S).map V.str)) ∧ Ex H H') ⟨_, _, _, rfl, by simpa using h1, e1⟩ (fun i σ' H' _ z => ?_) (fun i y σ' H' hy z => ?_) fun σ' H' z => ?_⟩
  · obtain ⟨_, _, _, _, _, e⟩ := z
    exact ex_t e hq
  · obtain ⟨a3, a4, a5, rfl, hl, e⟩ := z
    have lt : i < rs.length := by
      have := (List.getElem?_eq_some_iff.mp hy).1
      rw [← paired_len pr] at this
      exact this
    have at_ : rs[i]? = some rs[i] := by simp [lt]
    obtain ⟨y', hy', dy⟩ := SwX.paired_get pr at_
    rw [hy] at hy'
    cases hy'
    obtain ⟨okr1, okr2, okr3⟩ := okr rs[i] (List.getElem_mem lt)
    generalize hr' : rs[i] = r at dy okr1 okr2 okr3
    obtain ⟨b, c, rfl, hb, hc⟩ := da_rul (dy.mono e)
    refine ⟨b, _, rfl, hb, rfl, _, _, rfl, _, _, rfl, _, _, rfl, rfl, ?_⟩
    refine s_app hl (ev_var rfl) (v := .str (SX.S (rowL r))) ?_ (by simp; omega) fun H2 e2 => ⟨_, _, _, rfl, ?_, ?_⟩
    · refine ev_is (ev_op (js_row rfl rfl okr2 okr1.1.len) (ev_tail rfl hc okr1.2 okr3) (rv_addS (by have := okr1.1.len; have := tail_len okr1.2 okr3; have := TL.numL_len (n := r.2.1) (k := 1) (by decide) (by omega); simp only [List.length_append, List.length_cons, List.length_nil]; omega))) (by rw [row_eq])
    · rw [upd_same, List.take_succ, List.getElem?_map, at_, hr']
      simp
    · intro b' o' hb'
      by_cases z : b' = l
      · subst z
        rw [n1] at hb'
        cases hb'
      · rw [upd_ne z]
        exact e2 _ _ (e _ _ hb')
  · obtain ⟨a3, a4, a5, rfl, hl, e⟩ := z
    rw [← paired_len pr, show (rs.map rowL).take rs.length = rs.map rowL from List.take_of_length_le (by simp)] at hl
    refine s_ret (ev_joinS (B := 150) ev_c (ev_var rfl) (.inl (sq_of hl)) (fun z hz => ?_) ⟨by decide, by simp; omega, by decide⟩) fun H3 e3 => q H3 (e.trans e3)
    rcases List.mem_cons.mp hz with rfl | hz
    · exact head_len okn ln
    · obtain ⟨r, hr2, rfl⟩ := List.mem_map.mp hz
      obtain ⟨a, b, c⟩ := okr r hr2
      exact row_len a b c
end
end K20
set_option Elab.async false
set_option linter.all false
set_option maxRecDepth 100000
set_option maxHeartbeats 4000000
namespace K20
open PySem PySem.Spec PyProof.Rows L2 Evl SwX
section
variable {P : Program} {w : World} {K : PySem.W.Frag} {mg : Str → Option Value} {base : Heap} {f : Addr} {fd : FuncData}
def spIsInt : Sp := fun vs H Q _ => ∃ i : Int, vs = [.int i] ∧ ∀ H', Ex H H' → Q (.bl true) H'
abbrev s_is_integer : Stmt := top 15
abbrev sc_is_integer_N : List Str := ["value"]
theorem sc_is_integer : FnScope sc_is_integer_N ["value"] (defScope s_is_integer) := ⟨rfl, rfl, rfl, by decide +kernel, rfl, by decide +kernel, by decide +kernel⟩
theorem ok_is_integer (m_isinstance : mg "isinstance" = none) (m_int : mg "int" = none) (m_bool : mg "bool" = none) (F : FnP K "is_integer" s_is_integer f fd) : FnOk P w K mg base CX0 1 f fd ["value"] spIsInt := by
  refine F.ok sc_is_integer (fun vs H Q E h => by obtain ⟨i, rfl, _⟩ := h; rfl) (fun cdv A outer s H vs Q E hr h => ⟨_, PSs.nox
    (pss_one (ps_ret (pe_and (pe_callB (isiK K) (by rfl) m_isinstance (by decide +kernel) (pa_cons (pv 0) (pa_cons (pe_bty (n := "int") m_int) pa_nil))) (pe_one (pe_not (pe_callB (isiK K) (by rfl) m_isinstance (by decide +kernel) (pa_cons (pv 0) (pa_cons (pe_bty (n := "bool") m_bool) pa_nil)))))))), ?_⟩)
  obtain ⟨i, rfl, q⟩ := h
  exact s_ret (ev_andV (a := true) (b := true) (ev_isi (T := "int") (ev_var rfl) (fun _ _ => .base (.int i)) (by decide +kernel)) fun _ => ev_notV (a := false) (ev_isi (T := "int") (ev_var rfl) (fun _ _ => .base (.int i)) (by decide +kernel))) q
def spBetween : Sp := fun vs H Q _ => ∃ i lo hi : Int, vs = [.int i, .int lo, .int hi] ∧ ∀ H', Ex H H' → Q (.bl (decide (lo ≤ i) && decide (i ≤ hi))) H'
abbrev s_is_between : Stmt := top 16
abbrev sc_is_between_N : List Str := ["value", "low", "high"]
theorem sc_is_between : FnScope sc_is_between_N ["value", "low", "high"] (defScope s_is_between) := ⟨rfl, rfl, rfl, by decide +kernel, rfl, by decide +kernel, by decide +kernel⟩
theorem ok_is_between (D_is_integer : Has P w K mg base "is_integer" 1 ["value"] spIsInt) (F : FnP K "is_between" s_is_between f fd) : FnOk P w K mg base CX0 2 f fd ["value", "low", "high"] spBetween := by
  refine F.ok sc_is_between (fun vs H Q E h => by obtain ⟨i, lo, hi, rfl, _⟩ := h; rfl) (fun cdv A outer s H vs Q E hr h => ⟨_, PSs.nox
    (pss_one (ps_ret (pe_and (pe_has D_is_integer (hr.mono (by decide)) (pa_cons (pv 0) pa_nil)) (pe_and (pe_cmpR op_ge (pv 0) (pv 1) (nomark _)) (pe_one (pe_or (pe_cmpR op_isN (pv 2) pe_non (nomark _)) (pe_one (pe_cmpR op_le (pv 0) (pv 2) (nomark _))))))))), ?_⟩)
  obtain ⟨i, lo, hi, rfl, q⟩ := h
  have e : (true && (decide (lo ≤ i) && (false || decide (i ≤ hi)))) = (decide (lo ≤ i) && decide (i ≤ hi)) := by simp
  refine s_ret (ev_is (ev_andV (a := true) (b := decide (lo ≤ i) && (false || decide (i ≤ hi))) (ev_call (vs := [.int i]) (ea_cons (ev_var rfl) ea_nil) fun H1 e1 R k E' => ⟨i, rfl, k⟩) fun _ => ev_andV (ev_op (ev_var rfl) (ev_var rfl) rv_I0) fun _ => ev_orV (a := false) (ev_op (ev_var rfl) ev_c fun H1 _ R k => ⟨rfl, k H1 (Ex.refl H1)⟩) fun _ => ev_op (ev_var rfl) (ev_var rfl) rv_I0) (by rw [e])) q
def digL : List Nat := [48, 49, 50, 51, 52, 53, 54, 55, 56, 57]
theorem in_letters {c : Nat} : c ∈ letL ↔ 97 ≤ c ∧ c ≤ 122 := by
  constructor
  · exact letL_ok c
  · intro h
    have : ∀ d, d < 26 → 97 + d ∈ letL := by decide
    have z := this (c - 97) (by omega)
    rwa [show 97 + (c - 97) = c by omega] at z
theorem in_digits {c : Nat} : c ∈ digL ↔ 48 ≤ c ∧ c ≤ 57 := by
  constructor
  · have : ∀ c ∈ digL, 48 ≤ c ∧ c ≤ 57 := by decide
    exact this c
  · intro h
    have : ∀ d, d < 10 → 48 + d ∈ digL := by decide
    have z := this (c - 48) (by omega)
    rwa [show 48 + (c - 48) = c by omega] at z
def spIsName : Sp := fun vs H Q _ => ∃ n : Nm, vs = [nmV n] ∧ NameOk n ∧ ∀ H', Ex H H' → Q (.bl true) H'
abbrev s_is_name : Stmt := top 17
abbrev sc_is_name_N : List Str := ["value", "sign"]
theorem sc_is_name : FnScope sc_is_name_N ["value"] (defScope s_is_name) := ⟨rfl, rfl, rfl, by decide +kernel, rfl, by decide +kernel, by decide +kernel⟩
theorem ok_is_name (m_isinstance : mg "isinstance" = none) (m_str : mg "str" = none) (m_len : mg "len" = none) (m_all : mg "all" = none) (g_LONGEST_NAME : ∃ t, mg "LONGEST_NAME" = some (.int 8 t)) (g_LETTERS : ∃ t, mg "LETTERS" = some (.str "abcdefghijklmnopqrstuvwxyz" t)) (g_DIGITS : ∃ t, mg "DIGITS" = some (.str "0123456789" t)) (F : FnP K "is_name" s_is_name f fd) : FnOk P w K mg base CX0 1 f fd ["value"] spIsName := by
  refine F.ok sc_is_name (fun vs H Q E h => by obtain ⟨n, rfl, _⟩ := h; rfl) (fun cdv A outer s H vs Q E hr h => ⟨_, PSs.nox
    (pss_cons (ps_if (pw_or (pt_not (pt_val (pe_callB (isiK K) (by rfl) m_isinstance (by decide +kernel) (pa_cons (pv 0) (pa_cons (pe_bty (n := "str") m_str) pa_nil))))) (pw_or (pt_not (pt_chain op_le op_le pe_int (pe_callB (lenK K) (by rfl) m_len (by decide +kernel) (pa_cons (pv 0) pa_nil)) (pe_gint g_LONGEST_NAME))) (pw_or1 (pt_cmpR (niK K hr) (pe_ix (ixK K) (pv 0) pe_int (fun _ _ => rfl)) (pe_gstr g_LETTERS) rfl)))).pt (pss_one (ps_ret pe_bl)) pss_nil) (pss_one (ps_ret (pe_callB (cr_all rfl) (by rfl) m_all (by decide +kernel) (pa_cons (pe_lc (own := [("sign", 1)]) (g := gName 1) (tt := tYes) rfl sc_is_name.nd (pi_str (pv 0)) (blkOk_by (N := sc_is_name_N) (sc := defScope s_is_name) (by decide +kernel)) (fun _ _ _ _ _ => pg_name (i := 1) sc_is_name.nd rfl (Or.inl rfl)) (fun _ _ _ _ _ => pts_nil) (fun _ _ _ _ _ => (pe_or (pe_cmpR (inK K hr) (pv 1) (pe_gstr g_LETTERS) rfl) (pe_one (pe_cmpR (inK K hr) (pv 1) (pe_gstr g_DIGITS) rfl))))) pa_nil))))), ?_⟩)
  obtain ⟨n, rfl, ok, q⟩ := h
  have e1 : ("abcdefghijklmnopqrstuvwxyz" : Str) = SX.S letL := by decide +kernel
  have e2 : ("0123456789" : Str) = SX.S digL := by decide +kernel
  rw [e1, e2]
  obtain ⟨c, r, rfl, c0, c1⟩ := ok.hd
  have len := ok.len
  have pos : 1 ≤ (c :: r).length := by simp
  refine q_when (b := false) (et_is (et_or (a := false) (b := false) (et_not (a := true) (et_B (ev_isi (T := "str") (ev_var rfl) (fun _ _ => .base (.str _)) (by decide +kernel)))) fun _ => et_is (et_or (a := false) (b := false) (et_not (a := true) (et_B (ev_is (ev_chainI (f := fun a b => decide (a ≤ b)) (g := fun a b => decide (a ≤ b)) ev_c (ev_lenS (ev_var rfl) (by omega)) ev_c) (by
    rw [decide_eq_true (show (1 : Int) ≤ ((c :: r).length : Int) by omega), decide_eq_true (show ((c :: r).length : Int) ≤ 8 by omega)]
    rfl)))) fun _ => et_B (ev_op (ev_var rfl) ev_c (rv_ixZ (i := 0) rfl (by omega)) |> fun z => ev_op z ev_c (rv_signNi (b := true) (decide_eq_true (in_letters.mpr ⟨c0, c1⟩))))) rfl) rfl) (fun z => nomatch z) fun _ H1 g1 => ?_
  refine s_ret (ev_allG (n := (c :: r).length) (el_lcZ (fun _ => .bl true) (ev_var rfl) (by omega) (fun _ => rfl) fun i d H2 g2 hd => ?_)) fun H2 g2 => q H2 (g1.trans g2)
  have sg := ok.sg d (List.mem_of_getElem? hd)
  by_cases lt : 97 ≤ d ∧ d ≤ 122
  · exact ev_orV (a := true) (b := false) (ev_op (ev_var rfl) ev_c (rv_signIn (decide_eq_true (in_letters.mpr lt)))) (fun z => nomatch z)
  · refine ev_orV (a := false) (b := true) (ev_op (ev_var rfl) ev_c (rv_signIn (decide_eq_false fun z => lt (in_letters.mp z)))) fun _ => ev_op (ev_var rfl) ev_c (rv_signIn (decide_eq_true (in_digits.mpr ?_)))
    rcases sg with z | z
    · exact absurd z lt
    · exact z
def spIsRecipe (K : PySem.W.Frag) : Sp := fun vs H Q _ => ∃ (x : V) (p : Addr) (r : Rul) (ns : List Nm), vs = [x, .ref p] ∧ Da K H x (rulD r) ∧ SqT K H p (ns.map nmV) ∧ (∀ n ∈ ns, NameOk n) ∧ RulOk ns r ∧ ∀ H', Ex H H' → Q (.bl true) H'
abbrev s_is_recipe : Stmt := top 20
abbrev sc_is_recipe_N : List Str := ["value", "kinds", "part"]
theorem sc_is_recipe : FnScope sc_is_recipe_N ["value", "kinds"] (defScope s_is_recipe) := ⟨rfl, rfl, rfl, by decide +kernel, rfl, by decide +kernel, by decide +kernel⟩
theorem ok_is_recipe (m_isinstance : mg "isinstance" = none) (m_tuple : mg "tuple" = none) (m_len : mg "len" = none) (m_all : mg "all" = none) (g_MOST_OWN : ∃ t, mg "MOST_OWN" = some (.int 9 t)) (g_MOST_PARTS : ∃ t, mg "MOST_PARTS" = some (.int 3 t)) (D_is_between : Has P w K mg base "is_between" 2 ["value", "low", "high"] spBetween) (F : FnP K "is_recipe" s_is_recipe f fd) : FnOk P w K mg base CX0 3 f fd ["value", "kinds"] (spIsRecipe K) := by
  refine F.ok sc_is_recipe (fun vs H Q E h => by obtain ⟨x, p, r, ns, rfl, _⟩ := h; rfl) (fun cdv A outer s H vs Q E hr h => ⟨_, PSs.nox
    (pss_cons (ps_if (pw_or (pt_not (pt_val (pe_callB (isiK K) (by rfl) m_isinstance (by decide +kernel) (pa_cons (pv 0) (pa_cons (pe_bty (n := "tuple") m_tuple) pa_nil))))) (pw_or (pt_cmpR (neK K hr) (pe_callB (lenK K) (by rfl) m_len (by decide +kernel) (pa_cons (pv 0) pa_nil)) pe_int (nomark _)) (pw_or1 (pt_not (pt_val (pe_callB (isiK K) (by rfl) m_isinstance (by decide +kernel) (pa_cons (pe_ix (ixK K) (pv 0) pe_int (fun _ _ => rfl)) (pa_cons (pe_bty (n := "tuple") m_tuple) pa_nil)))))))).pt (pss_one (ps_ret pe_bl)) pss_nil) (pss_cons (ps_if (pw_or (pt_cmpR (niK K hr) (pe_ix (ixK K) (pv 0) pe_int (fun _ _ => rfl)) (pv 1) rfl) (pw_or (pt_not (pt_val (pe_has D_is_between (hr.mono (by decide)) (pa_cons (pe_ix (ixK K) (pv 0) pe_int (fun _ _ => rfl)) (pa_cons pe_int (pa_cons (pe_gint g_MOST_OWN) pa_nil)))))) (pw_or1 (pt_cmpR op_gt (pe_callB (lenK K) (by rfl) m_len (by decide +kernel) (pa_cons (pe_ix (ixK K) (pv 0) pe_int (fun _ _ => rfl)) pa_nil)) (pe_gint g_MOST_PARTS) (nomark _))))).pt (pss_one (ps_ret pe_bl)) pss_nil) (pss_one (ps_ret (pe_callB (cr_all rfl) (by rfl) m_all (by decide +kernel) (pa_cons (pe_lc (own := [("part", 2)]) (g := gName 2) (tt := tYes) rfl sc_is_recipe.nd (pi_tup (pe_ix (ixK K) (pv 0) pe_int (fun _ _ => rfl))) (blkOk_by (N := sc_is_recipe_N) (sc := defScope s_is_recipe) (by decide +kernel)) (fun _ _ _ _ _ => pg_name (i := 2) sc_is_recipe.nd rfl (Or.inl rfl)) (fun _ _ _ _ _ => pts_nil) (fun _ _ _ _ _ => (pe_cmpR (inK K hr) (pv 2) (pv 1) rfl))) pa_nil)))))), ?_⟩)
  obtain ⟨x, p, r, ns, rfl, hx, hp, okn, ok, q⟩ := h
  obtain ⟨b, c, rfl, hb, hc⟩ := da_rul hx
  obtain ⟨wd, lo, hi, ln, pt⟩ := ok
  have dn : ∀ H', Ex H H' → Da K H' (.ref p) (nmsD ns) := fun H' e => da_nms (ex_t e hp)
  have v0 : ∀ H', Ex H H' → Ev (tOp (rIx K) (tVar 0) (tC (.int 0))) [some (.ref b), some (.ref p), none] H' (nmV r.1) := fun H' e => ev_op (ev_var rfl) ev_c (rv_ixTn (i := 0) (ex_t e hb) rfl)
  have v1 : ∀ H', Ex H H' → Ev (tOp (rIx K) (tVar 0) (tC (.int 1))) [some (.ref b), some (.ref p), none] H' (.int (r.2.1 : Nat)) := fun H' e => ev_op (ev_var rfl) ev_c (rv_ixTn (i := 1) (ex_t e hb) rfl)
  have v2 : ∀ H', Ex H H' → Ev (tOp (rIx K) (tVar 0) (tC (.int 2))) [some (.ref b), some (.ref p), none] H' (.ref c) := fun H' e => ev_op (ev_var rfl) ev_c (rv_ixTn (i := 2) (ex_t e hb) rfl)
  refine q_when (b := false) (et_is (et_or (a := false) (b := false) (et_not (a := true) (et_B (ev_isi (T := "tuple") (ev_var rfl) (fun H' e => ty_tup (ex_t e hb)) (by decide +kernel)))) fun _ => et_is (et_or (a := false) (b := false) (et_B (ev_op (ev_lenL (ev_var rfl) (.inr hb)) ev_c (rv_l (rv_ne rfl)))) fun _ => et_not (a := true) (et_B (ev_isi (T := "tuple") (v2 H (Ex.refl H)) (fun H' e => ty_tup (ex_t e hc)) (by decide +kernel)))) rfl) rfl) (fun z => nomatch z) fun _ H1 e1 => ?_
  refine q_when (b := false) (et_is (et_or (a := false) (b := false) (et_B (ev_op (v0 H1 e1) (ev_var rfl) (rv_niDat (b := true) (d := nmD r.1) (c := nmsD ns) (.inr rfl) (.str _) (dn H1 e1) (pl_nm (okn _ wd)) (pl_nms okn) (by rw [any_nm]; exact decide_eq_true wd)))) fun _ => et_is (et_or (a := false) (b := false) (et_not (a := true) (et_B (ev_is (ev_call (vs := [.int (r.2.1 : Nat), .int 1, .int 9]) (ea_cons (v1 H1 e1) (ea_cons ev_c (ea_cons ev_c ea_nil))) fun H2 e2 R k E' => ⟨_, _, _, rfl, k⟩) (by
    rw [decide_eq_true (show (1 : Int) ≤ (r.2.1 : Int) by omega), decide_eq_true (show (r.2.1 : Int) ≤ 9 by omega)]
    rfl)))) fun _ => et_B (ev_is (ev_op (ev_lenL (v2 H1 e1) (.inr (ex_t e1 hc))) ev_c rv_I0) (by
    rw [List.length_map, decide_eq_false (show ¬ (3 : Int) < (r.2.2.length : Int) by omega)]))) rfl) rfl) (fun z => nomatch z) fun _ H2 e2 => ?_
  refine s_ret (ev_allG (n := (r.2.2.map nmV).length) (el_lcT (fun _ => .bl true) (v2 H2 (e1.trans e2)) (ex_t (e1.trans e2) hc) (by rw [List.length_map]; omega) (fun _ => rfl) fun i y H3 e3 hy => ?_)) fun H3 e3 => q H3 ((e1.trans e2).trans e3)
  obtain ⟨m, hm, rfl⟩ := List.mem_map.mp (List.mem_of_getElem? hy)
  exact ev_op (ev_var rfl) (ev_var rfl) (rv_inDat (b := true) (d := nmD m) (c := nmsD ns) (.inr rfl) (.str _) (dn H3 ((e1.trans e2).trans e3)) (pl_nm (okn _ (pt m hm))) (pl_nms okn) (by rw [any_nm]; exact decide_eq_true (pt m hm)))
def spChkK (K : PySem.W.Frag) : Sp := fun vs H Q _ => ∃ (p : Addr) (ns : List Nm), vs = [.ref p] ∧ SqT K H p (ns.map nmV) ∧ NamesOk ns ∧ ∀ H', Ex H H' → Q .non H'
theorem not_before {α : Type} [DecidableEq α] {l : List α} {i : Nat} {x : α} (d : l.Nodup) (h : l[i]? = some x) : x ∉ l.take i := fun z => by
  obtain ⟨j, hj⟩ := List.getElem?_of_mem z
  rw [List.getElem?_take] at hj
  split at hj
  · rename_i lt
    obtain ⟨h1, e1⟩ := List.getElem?_eq_some_iff.mp h
    obtain ⟨h2, e2⟩ := List.getElem?_eq_some_iff.mp hj
    exact List.pairwise_iff_getElem.mp d j i h2 h1 lt (e2.trans e1.symm)
  · cases hj
abbrev s_check_kinds : Stmt := top 21
abbrev sc_check_kinds_N : List Str := ["kinds", "at", "kind"]
theorem sc_check_kinds : FnScope sc_check_kinds_N ["kinds"] (defScope s_check_kinds) := ⟨rfl, rfl, rfl, by decide +kernel, rfl, by decide +kernel, by decide +kernel⟩
theorem ok_check_kinds (m_isinstance : mg "isinstance" = none) (m_tuple : mg "tuple" = none) (m_enumerate : mg "enumerate" = none) (g_MOST_KINDS : ∃ t, mg "MOST_KINDS" = some (.int 4 t)) (D_is_name : Has P w K mg base "is_name" 1 ["value"] spIsName) (F : FnP K "check_kinds" s_check_kinds f fd) : FnOk P w K mg base CX0 2 f fd ["kinds"] (spChkK K) := by
  refine F.ok sc_check_kinds (fun vs H Q E h => by obtain ⟨p, ns, rfl, _⟩ := h; rfl) (fun cdv A outer s H vs Q E hr h => ⟨_, PSs.nox
    (pss_cons (ps_if (pw_or (pt_not (pt_val (pe_callB (isiK K) (by rfl) m_isinstance (by decide +kernel) (pa_cons (pv 0) (pa_cons (pe_bty (n := "tuple") m_tuple) pa_nil))))) (pw_or1 (pt_cmpR (eqK K hr) (pv 0) (pe_tup pa_nil) (nomark _)))).pt (pss_one SwX.ps_never) pss_nil) (pss_one (ps_for PassesOwn.never rfl (pi_enumT (by rfl) m_enumerate (pa_cons (pv 0) pa_nil)) (pg_tup rfl (pgs_cons (pg_name (i := 1) sc_check_kinds.nd rfl (Or.inl rfl)) (pgs_cons (pg_name (i := 2) sc_check_kinds.nd rfl (Or.inl rfl)) pgs_nil))) (pss_one (ps_if (pw_or (pt_cmpR (eqK K hr) (pv 1) (pe_gint g_MOST_KINDS) (nomark _)) (pw_or (pt_not (pt_val (pe_has D_is_name (hr.mono (by decide)) (pa_cons (pv 2) pa_nil)))) (pw_or1 (pt_cmpR (inK K hr) (pv 2) (pe_slice (slK K) (pv 0) po_none (po_some (pv 1))) rfl)))).pt (pss_one SwX.ps_never) pss_nil))))), ?_⟩)
  obtain ⟨p, ns, rfl, hp, ok, q⟩ := h
  obtain ⟨ne, len, nd, okn⟩ := ok
  refine q_when (b := false) (et_is (et_or (a := false) (b := false) (et_not (a := true) (et_B (ev_isi (T := "tuple") (ev_var rfl) (fun H' e => ty_tup (ex_t e hp)) (by decide +kernel)))) fun _ => et_B (ev_opU (ev_var rfl) (eu_tup ea_nil (by simp)) fun u H3 h3 e3 => rv_eqDat (b := false) (d := nmsD ns) (e := nmsD []) (da_nms (ex_t e3 hp)) (da_nms (.inl (.inl h3))) (pl_nms okn) (pl_nms fun _ h => nomatch h) (by rw [nmsD_eqv]; exact decide_eq_false ne))) rfl) (fun z => nomatch z) fun _ H1 e1 => ?_
  refine ⟨.ref p, rfl, p, _, rfl, ex_t e1 hp, for_enumT (xs := ns.map nmV) (fun i σ' H' => (∃ a1 a2, σ' = [some (.ref p), a1, a2]) ∧ Ex H H') ⟨⟨_, _, rfl⟩, e1⟩ (fun i σ' H' _ z => ex_t z.2 hp) (fun i x T σ' H' hx hT z => ?_) fun σ' H' z => ?_⟩
  · obtain ⟨⟨a1, a2, rfl⟩, e⟩ := z
    rw [List.getElem?_map] at hx
    obtain ⟨n, hn, rfl⟩ := Option.map_eq_some_iff.mp hx
    have lt := (List.getElem?_eq_some_iff.mp hn).1
    have okm := okn n (List.mem_of_getElem? hn)
    refine ⟨T, _, rfl, .inl (.inl upd_same), rfl, _, _, rfl, _, _, rfl, rfl, ?_⟩
    have e' := e.trans (Ex.new (o := .tup [.int (i : Nat), nmV n]) hT)
    refine s_if (b := false) (et_is (et_or (a := false) (b := false) (et_B (ev_is (ev_op (ev_var rfl) ev_c (rv_l (rv_eq rfl))) (by rw [dec_int]; simp; omega))) fun _ => et_is (et_or (a := false) (b := false) (et_not (a := true) (et_B (ev_call (vs := [nmV n]) (ea_cons (ev_var rfl) ea_nil) fun H2 e2 R k E' => ⟨n, rfl, okm, k⟩))) fun _ => et_B (ev_inY (c := nmsD (ns.take i)) (d := nmD n) (.inr rfl) (ev_var rfl) (fun _ _ => .str _) ((yi_slT (ev_var rfl) (ex_t e' hp) eo_none (eo_some (ev_var rfl))).imp fun v H2 e2 z => ?_) (pl_nm okm) (pl_nms fun m hm => okn m (List.mem_of_mem_take hm)) (by rw [any_nm]; exact decide_eq_false (not_before nd hn)))) rfl) rfl) (fun z => nomatch z) fun _ H2 e2 => ⟨⟨_, _, rfl⟩, e'.trans e2⟩
    obtain ⟨q1, rfl, h1⟩ := z
    rw [cut_take, ← List.map_take] at h1
    exact da_nms h1
  · exact q _ z.2
def spChkR (K : PySem.W.Frag) : Sp := fun vs H Q _ => ∃ (x : V) (p : Addr) (ns : List Nm) (rs : List Rul), vs = [x, .ref p] ∧ Da K H x (rulsD rs) ∧ SqT K H p (ns.map nmV) ∧ (∀ n ∈ ns, NameOk n) ∧ RulesOk ns rs ∧ ∀ H', Ex H H' → Q .non H'
theorem paired_take {α β : Type} {F : α → β → Prop} : ∀ {is : List α} {vs : List β} (n : Nat), Paired F is vs → Paired F (is.take n) (vs.take n)
  | _, _, 0, _ => by
    rw [List.take_zero, List.take_zero]
    exact .nil
  | _, _, _ + 1, .nil => .nil
  | _, _, n + 1, .cons h t => .cons h (paired_take n t)
abbrev s_check_recipes : Stmt := top 22
abbrev sc_check_recipes_N : List Str := ["recipes", "kinds", "at", "recipe"]
theorem sc_check_recipes : FnScope sc_check_recipes_N ["recipes", "kinds"] (defScope s_check_recipes) := ⟨rfl, rfl, rfl, by decide +kernel, rfl, by decide +kernel, by decide +kernel⟩
theorem ok_check_recipes (m_isinstance : mg "isinstance" = none) (m_tuple : mg "tuple" = none) (m_enumerate : mg "enumerate" = none) (g_MOST_RECIPES : ∃ t, mg "MOST_RECIPES" = some (.int 10 t)) (D_is_recipe : Has P w K mg base "is_recipe" 3 ["value", "kinds"] (spIsRecipe K)) (F : FnP K "check_recipes" s_check_recipes f fd) : FnOk P w K mg base CX0 4 f fd ["recipes", "kinds"] (spChkR K) := by
  refine F.ok sc_check_recipes (fun vs H Q E h => by obtain ⟨x, p, ns, rs, rfl, _⟩ := h; rfl) (fun cdv A outer s H vs Q E hr h => ⟨_, PSs.nox
    (pss_cons (ps_if (pt_not (pt_val (pe_callB (isiK K) (by rfl) m_isinstance (by decide +kernel) (pa_cons (pv 0) (pa_cons (pe_bty (n := "tuple") m_tuple) pa_nil))))) (pss_one SwX.ps_never) pss_nil) (pss_one (ps_for PassesOwn.never rfl (pi_enumT (by rfl) m_enumerate (pa_cons (pv 0) pa_nil)) (pg_tup rfl (pgs_cons (pg_name (i := 2) sc_check_recipes.nd rfl (Or.inl rfl)) (pgs_cons (pg_name (i := 3) sc_check_recipes.nd rfl (Or.inl rfl)) pgs_nil))) (pss_one (ps_if (pw_or (pt_cmpR (eqK K hr) (pv 2) (pe_gint g_MOST_RECIPES) (nomark _)) (pw_or (pt_not (pt_val (pe_has D_is_recipe (hr.mono (by decide)) (pa_cons (pv 3) (pa_cons (pv 1) pa_nil))))) (pw_or1 (pt_cmpR (inK K hr) (pv 3) (pe_slice (slK K) (pv 0) po_none (po_some (pv 2))) rfl)))).pt (pss_one SwX.ps_never) pss_nil))))), ?_⟩)
  obtain ⟨x, p, ns, rs, rfl, hx, hp, okn, ok, q⟩ := h
  obtain ⟨len, nd, okr⟩ := ok
  obtain ⟨q0, xs, rfl, hq, pr⟩ := da_ruls rs hx
  have okm : ∀ r ∈ rs, RulNm r := fun r hr => (okr r hr).nm okn
  refine q_when (b := false) (et_not (a := true) (et_B (ev_isi (T := "tuple") (ev_var rfl) (fun H' e => ty_tup (ex_t e hq)) (by decide +kernel)))) (fun z => nomatch z) fun _ H1 e1 => ?_
  refine ⟨.ref q0, rfl, q0, _, rfl, ex_t e1 hq, for_enumT (xs := xs) (fun i σ' H' => (∃ a1 a2, σ' = [some (.ref q0), some (.ref p), a1, a2]) ∧ Ex H H') ⟨⟨_, _, rfl⟩, e1⟩ (fun i σ' H' _ z => ex_t z.2 hq) (fun i x T σ' H' hx2 hT z => ?_) fun σ' H' z => ?_⟩
  · obtain ⟨⟨a1, a2, rfl⟩, e⟩ := z
    have lt : i < rs.length := by
      have := (List.getElem?_eq_some_iff.mp hx2).1
      rw [← paired_len pr] at this
      exact this
    have at_ : rs[i]? = some rs[i] := by simp [lt]
    obtain ⟨y', hy', dy⟩ := SwX.paired_get pr at_
    rw [hx2] at hy'
    cases hy'
    have mem := List.getElem_mem lt
    generalize rs[i] = r at dy at_ mem
    have e' := e.trans (Ex.new (o := .tup [.int (i : Nat), x]) hT)
    refine ⟨T, _, rfl, .inl (.inl upd_same), rfl, _, _, rfl, _, _, rfl, rfl, ?_⟩
    refine s_if (b := false) (et_is (et_or (a := false) (b := false) (et_B (ev_is (ev_op (ev_var rfl) ev_c (rv_l (rv_eq rfl))) (by rw [dec_int]; simp; omega))) fun _ => et_is (et_or (a := false) (b := false) (et_not (a := true) (et_B (ev_call (vs := [x, .ref p]) (ea_cons (ev_var rfl) (ea_cons (ev_var rfl) ea_nil)) fun H2 e2 R k E' => ⟨x, p, r, ns, rfl, dy.mono (e'.trans e2), ex_t (e'.trans e2) hp, okn, okr r mem, k⟩))) fun _ => et_B (ev_inY (c := rulsD (rs.take i)) (d := rulD r) (.inr rfl) (ev_var rfl) (fun H2 e2 => dy.mono (e'.trans e2)) ((yi_slT (ev_var rfl) (ex_t e' hq) eo_none (eo_some (ev_var rfl))).imp fun v H2 e2 z => ?_) (pl_rul (okm r mem)) (pl_ruls fun m hm => okm m (List.mem_of_mem_take hm)) (by rw [any_rul]; exact decide_eq_false (not_before nd at_)))) rfl) rfl) (fun z => nomatch z) fun _ H2 e2 => ⟨⟨_, _, rfl⟩, e'.trans e2⟩
    obtain ⟨q1, rfl, h1⟩ := z
    rw [cut_take] at h1
    exact da_tuple h1 (paired_map (g := rulD) (F := fun d v => Da K H2 v d) (paired_take i (paired_mono (F := fun (r : Rul) v H => Da K H v (rulD r)) (e'.trans e2) (fun r v H H' e h => Da.mono e h) pr)))
  · exact q _ z.2
end
end K20
set_option Elab.async false
set_option linter.all false
set_option maxRecDepth 100000
set_option maxHeartbeats 4000000
namespace K20
open PySem PySem.Spec PyProof.Rows L2 Evl SwX
section
variable {P : Program} {w : World} {K : PySem.W.Frag} {mg : Str → Option Value} {base : Heap} {f : Addr} {fd : FuncData}
def spNumber : Sp := fun vs H Q _ => ∃ o : Nat, vs = [.str (SX.S (TL.numL o))] ∧ 1 ≤ o ∧ o ≤ 9 ∧ ∀ H', Ex H H' → Q (.int (o : Int)) H'
theorem str_one {a b : Nat} : decide (V.str (SX.S [a]) = V.str (SX.S [b])) = decide (a = b) := by
  rw [Bool.eq_iff_iff]
  simp only [decide_eq_true_eq]
  exact ⟨fun h => by injection h with h; exact List.head_eq_of_cons_eq (SX.S_inj h), fun h => by rw [h]⟩
abbrev s_number_of : Stmt := top 18
abbrev sc_number_of_N : List Str := ["word", "sign"]
theorem sc_number_of : FnScope sc_number_of_N ["word"] (defScope s_number_of) := ⟨rfl, rfl, rfl, by decide +kernel, rfl, by decide +kernel, by decide +kernel⟩
theorem ok_number_of (m_len : mg "len" = none) (m_all : mg "all" = none) (m_int : mg "int" = none) (g_DIGITS : ∃ t, mg "DIGITS" = some (.str "0123456789" t)) (F : FnP K "number_of" s_number_of f fd) : FnOk P w K mg base CX0 1 f fd ["word"] spNumber := by
  refine F.ok sc_number_of (fun vs H Q E h => by obtain ⟨o, rfl, _⟩ := h; rfl) (fun cdv A outer s H vs Q E hr h => ⟨_, PSs.nox
    (pss_cons (ps_if (pw_or (pt_cmpR (eqK K hr) (pv 0) pe_str (nomark _)) (pw_or (pt_cmpR op_gt (pe_callB (lenK K) (by rfl) m_len (by decide +kernel) (pa_cons (pv 0) pa_nil)) pe_int (nomark _)) (pw_or1 (pt_not (pt_val (pe_callB (cr_all rfl) (by rfl) m_all (by decide +kernel) (pa_cons (pe_lc (own := [("sign", 1)]) (g := gName 1) (tt := tYes) rfl sc_number_of.nd (pi_str (pv 0)) (blkOk_by (N := sc_number_of_N) (sc := defScope s_number_of) (by decide +kernel)) (fun _ _ _ _ _ => pg_name (i := 1) sc_number_of.nd rfl (Or.inl rfl)) (fun _ _ _ _ _ => pts_nil) (fun _ _ _ _ _ => (pe_cmpR (inK K hr) (pv 1) (pe_gstr g_DIGITS) rfl))) pa_nil))))))).pt (pss_one (ps_ret pe_non)) pss_nil) (pss_one (ps_ret (pe_ifExp (pw_or (pt_cmpR (eqK K hr) (pv 0) pe_str (nomark _)) (pw_or1 (pt_cmpR (neK K hr) (pe_ix (ixK K) (pv 0) pe_int (fun _ _ => rfl)) pe_str (nomark _)))).pt (pe_callTy call_int_str (by rfl) m_int (by decide +kernel) (pa_cons (pv 0) pa_nil)) pe_non)))), ?_⟩)
  obtain ⟨o, rfl, o1, o9, q⟩ := h
  have e2 : ("0123456789" : Str) = SX.S digL := by decide +kernel
  have e3 : ("" : Str) = SX.S [] := by decide +kernel
  have e4 : ("0" : Str) = SX.S [48] := by decide +kernel
  have num : TL.numL o = [48 + o] := TL.numL_lt (by omega)
  have val : PySem.intText? (SX.S (TL.numL o)) = some (o : Int) := by
    rw [← numS]
    exact TL.int_num (by rw [num]; simp)
  rw [num] at val ⊢
  rw [e2, e3, e4]
  have ne : ∀ x : V, x = .str (SX.S [48 + o]) → decide (x = V.str (SX.S [])) = false := fun x hx => decide_eq_false fun z => by
    rw [hx] at z
    injection z with z
    exact List.cons_ne_nil _ _ (SX.S_inj z)
  have d0 : decide (V.str (SX.S [48 + o]) = V.str (SX.S [48])) = false := by
    rw [str_one]
    exact decide_eq_false (by omega)
  refine q_when (b := false) (et_is (et_or (a := false) (b := false) (et_is (et_B (ev_op (ev_var rfl) ev_c (rv_l (rv_eq rfl)))) (ne _ rfl)) fun _ => et_is (et_or (a := false) (b := false) (et_B (ev_op (ev_lenS (ev_var rfl) (by simp)) ev_c rv_I0)) fun _ => et_not (a := true) (et_B (ev_allG (n := ([48 + o] : List Nat).length) (el_lcZ (fun _ => .bl true) (ev_var rfl) (by simp) (fun _ => rfl) fun i d H2 g2 hd => ev_op (ev_var rfl) ev_c (rv_signIn (decide_eq_true (in_digits.mpr ?_))))))) rfl) rfl) (fun z => nomatch z) fun _ H1 e1 => ?_
  · have := List.mem_of_getElem? hd
    rw [List.mem_singleton.mp this]
    omega
  · refine s_ret (ev_if (b := true) (et_is (et_or (a := false) (b := true) (et_is (et_B (ev_op (ev_var rfl) ev_c (rv_l (rv_eq rfl)))) d0) fun _ => et_B (ev_is (ev_op (ev_op (ev_var rfl) ev_c (rv_ixZ (i := 0) (c := 48 + o) rfl (by simp))) ev_c (rv_l (rv_ne rfl))) (by rw [show (V.str ⟨#[48 + o]⟩) = V.str (SX.S [48 + o]) from rfl, d0]; rfl))) rfl) (fun _ => ev_cb (ea_cons (ev_var rfl) ea_nil) fun H2 _ R k => ⟨_, o, rfl, val, by rw [SX.S_len]; simp, k H2 (Ex.refl H2)⟩) (fun z => nomatch z)) fun H2 e2 => q H2 (e1.trans e2)
/-- a rule as a row's text has it -/
structure RowOk (r : Rul) : Prop where
  nm : RulNm r
  lo : 1 ≤ r.2.1
  hi : r.2.1 ≤ 9
  ln : r.2.2.length ≤ 10
theorem sign_no {n : Nm} (h : NameOk n) {c : Nat} (k : c < 48 ∨ (57 < c ∧ c < 97)) : c ∉ n := fun z => by
  have := h.sg c z
  unfold okSign at this
  omega
theorem num_no {o c : Nat} (h : o ≤ 9) (k : c < 48 ∨ 57 < c) : c ∉ TL.numL o := fun z => by
  rw [TL.numL_lt (by omega)] at z
  rw [List.mem_singleton.mp z] at k
  omega
theorem fore_eq (r : Rul) : r.1 ++ ([32] ++ TL.numL r.2.1) = TL.joinL [32] [r.1, TL.numL r.2.1] := rfl
theorem fore_no {r : Rul} (h : RowOk r) : 58 ∉ r.1 ++ ([32] ++ TL.numL r.2.1) := fun z => by
  rcases List.mem_append.mp z with z | z
  · exact sign_no h.nm.1 (.inr (by decide)) z
  · rcases List.mem_append.mp z with z | z
    · simp at z
    · exact num_no h.hi (.inr (by decide)) z
theorem eu_ifY {b : Bool} {tt : TT} {ta tb : TE} {xs : List V} {σ : L2.St} {H : Hp} (h : EvT tt σ H b) (h1 : b = true → EvU ta σ H xs) (h2 : b = false → EvU tb σ H xs) : EvU (tIf tt ta tb) σ H xs := fun H1 e1 Q k => h H1 e1 _ fun H2 e2 => by
  have k2 : ∀ p H3, H2 p = none → Ex H2 H3 → H3 p = some (.tup xs) → Q (.ref p) H3 := fun p H3 n e3 h3 => k p H3 (fresh_back e2 n) (e2.trans e3) h3
  cases b with
  | true =>
    show ta σ H2 Q
    exact h1 rfl H2 (e1.trans e2) Q k2
  | false =>
    show tb σ H2 Q
    exact h2 rfl H2 (e1.trans e2) Q k2
theorem q_asgU3 {σ : L2.St} {H : Hp} {te : TE} {x y z : V} {i j l : Nat} {tz : TS} {D : Ends} (h : EvU te σ H [x, y, z]) (k : ∀ u H1, H u = none → Ex H H1 → H1 u = some (.tup [x, y, z]) → tz D (((σ.set i (some x)).set j (some y)).set l (some z)) H1) :
    tSeq (tAsg te (gTup K 3 (gCons (gName i) (gCons (gName j) (gCons (gName l) gNil))))) tz D σ H := h H (Ex.refl H) _ fun u H1 n1 e1 h1 => ⟨u, _, rfl, .inl (.inl h1), rfl, _, _, rfl, _, _, rfl, _, _, rfl, rfl, k u H1 n1 e1 h1⟩
def spRecOf (K : PySem.W.Frag) : Sp := fun vs H Q _ => ∃ r : Rul, vs = [.str (SX.S (rowL r))] ∧ RowOk r ∧ ∀ p H', Ex H H' → (∀ a, H a ≠ none → Da K (less a H') (.ref p) (rulD r)) → Q (.ref p) H'
theorem strs_join (l : List Nm) : (l.map SX.S).map V.str = l.map nmV := (S_map l).symm
abbrev s_recipe_of : Stmt := top 24
abbrev sc_recipe_of_N : List Str := ["line", "head", "mark", "tail", "words", "own"]
theorem sc_recipe_of : FnScope sc_recipe_of_N ["line"] (defScope s_recipe_of) := ⟨rfl, rfl, rfl, by decide +kernel, rfl, by decide +kernel, by decide +kernel⟩
theorem ok_recipe_of (m_len : mg "len" = none) (m_tuple : mg "tuple" = none) (D_number_of : Has P w K mg base "number_of" 1 ["word"] spNumber) (F : FnP K "recipe_of" s_recipe_of f fd) : FnOk P w K mg base CX0 2 f fd ["line"] (spRecOf K) := by
  refine F.ok sc_recipe_of (fun vs H Q E h => by obtain ⟨r, rfl, _⟩ := h; rfl) (fun cdv A outer s H vs Q E hr h => ⟨_, PSs.nox
    (pss_cons (ps_asg (pe_partition (pv 0) pe_str) (pg_tup rfl (pgs_cons (pg_name (i := 1) sc_recipe_of.nd rfl (Or.inl rfl)) (pgs_cons (pg_name (i := 2) sc_recipe_of.nd rfl (Or.inl rfl)) (pgs_cons (pg_name (i := 3) sc_recipe_of.nd rfl (Or.inl rfl)) pgs_nil))))) (pss_cons (ps_set (i := 4) sc_recipe_of.nd rfl (Or.inl rfl) (pe_split (pv 1) pe_str)) (pss_cons (ps_set (i := 5) sc_recipe_of.nd rfl (Or.inl rfl) (pe_ifExp (pt_cmpR (eqK K hr) (pe_callB (lenK K) (by rfl) m_len (by decide +kernel) (pa_cons (pv 4) pa_nil)) pe_int (nomark _)) (pe_has D_number_of (hr.mono (by decide)) (pa_cons (pe_ix (ixK K) (pv 4) pe_int (fun _ _ => rfl)) pa_nil)) pe_non)) (pss_cons (ps_if (pt_cmpR op_isN (pv 5) pe_non (nomark _)) (pss_one (ps_ret pe_non)) pss_nil) (pss_one (ps_ret (pe_tup (pa_cons (pe_ix (ixK K) (pv 4) pe_int (fun _ _ => rfl)) (pa_cons (pv 5) (pa_cons (pe_ifExp (pt_cmpR (neK K hr) (pv 2) pe_str (nomark _)) (pe_callTy call_tuple_of (by rfl) m_tuple (by decide +kernel) (pa_cons (pe_split (pv 3) pe_str) pa_nil)) (pe_tup pa_nil)) pa_nil)))))))))), ?_⟩)
  obtain ⟨r, rfl, ok, q⟩ := h
  have s2 : (" " : Str) = SX.S [32] := by decide +kernel
  have s3 : (": " : Str) = SX.S [58, 32] := by decide +kernel
  have s4 : ("" : Str) = SX.S [] := by decide +kernel
  rw [s2, s3, s4]
  have nl := TL.numL_len (n := r.2.1) (k := 1) (by decide) (by have := ok.hi; omega)
  have wl := ok.nm.1.len
  have row : (rowL r).length ≤ 150 := row_len ok.nm ok.hi ok.ln
  have tl := joinL_len (B := 8) (sep := [32]) (by decide) (l := r.2.2) fun p hp => (ok.nm.2 p hp).len
  have tl2 : (8 + 2) * r.2.2.length ≤ (8 + 2) * 10 := Nat.mul_le_mul_left _ ok.ln
  -- head, mark, tail
  have cut : (rowL r = (r.1 ++ ([32] ++ TL.numL r.2.1)) ++ (58 :: [32] ++ TL.joinL [32] r.2.2) ∧ 58 ∉ r.1 ++ ([32] ++ TL.numL r.2.1) ∧ (if r.2.2 = [] then [] else [58, 32]) = 58 :: [32]) ∨ (58 ∉ rowL r ∧ r.1 ++ ([32] ++ TL.numL r.2.1) = rowL r ∧ (if r.2.2 = [] then [] else [58, 32]) = ([] : List Nat) ∧ TL.joinL [32] r.2.2 = []) := by
    by_cases z : r.2.2 = []
    · have e : rowL r = r.1 ++ ([32] ++ TL.numL r.2.1) := by
        unfold rowL tailL
        rw [if_pos z, List.append_nil]
      refine .inr ⟨by rw [e]; exact fore_no ok, e.symm, if_pos z, by rw [z]; rfl⟩
    · refine .inl ⟨?_, fore_no ok, if_neg z⟩
      unfold rowL tailL
      rw [if_neg z]
      simp
  refine q_asgU3 (yu_part (m := if r.2.2 = [] then [] else [58, 32]) (q := TL.joinL [32] r.2.2) (ev_var rfl) ev_c cut (by omega)) fun u H1 n1 e1 h1 => ?_
  refine q_asgL (xs := ([r.1, TL.numL r.2.1].map SX.S).map V.str) (by
    refine el_split (ev_is (ev_var rfl) (by rw [fore_eq])) ev_c (by simp) (fun p hp => ?_) ?_ (by decide)
    · rcases List.mem_cons.mp hp with rfl | hp
      · exact sign_no ok.nm.1 (.inl (by decide))
      · rw [List.mem_singleton.mp hp]
        exact num_no ok.hi (.inl (by decide))
    · show (r.1 ++ ([32] ++ TL.numL r.2.1)).length ≤ _
      simp only [List.length_append, List.length_cons, List.length_nil]
      omega) fun l H2 n2 e2 h2 => ?_
  have w0 : ∀ σ : L2.St, σ[4]? = some (some (.ref l)) → ∀ H', Ex H2 H' → Ev (tOp (rIx K) (tVar 4) (tC (.int 0))) σ H' (nmV r.1) := fun σ hs H' e => ev_op (ev_var hs) ev_c (rv_ixLn (i := 0) (sq_of (e _ _ h2)) rfl)
  refine q_asg (v := .int (r.2.1 : Nat)) (ev_if (b := true) (et_B (ev_op (ev_lenL (ev_var rfl) (.inl (sq_of h2))) ev_c (rv_l (rv_eq rfl)))) (fun _ => ev_call (vs := [.str (SX.S (TL.numL r.2.1))]) (ea_cons (ev_op (ev_var rfl) ev_c (rv_ixLn (i := 1) (sq_of h2) rfl)) ea_nil) fun H3 e3 R k E' => ⟨_, rfl, ok.lo, ok.hi, k⟩) (fun z => nomatch z)) fun H3 e3 => ?_
  refine q_when (b := false) (et_B (ev_op (ev_var rfl) ev_c fun H4 _ R k => ⟨rfl, k H4 (Ex.refl H4)⟩)) (fun z => nomatch z) fun _ H4 e4 => ?_
  refine (w0 _ rfl H4 (e3.trans e4)) H4 (Ex.refl _) _ fun H5 e5 => ⟨_, rfl, ?_⟩
  refine (eu_ifY (xs := r.2.2.map nmV) (b := !decide (r.2.2 = [])) (et_is (et_B (ev_op (ev_var rfl) ev_c (rv_l (rv_ne rfl)))) ?_) (fun z => ?_) (fun z => ?_) : EvU _ _ H5 _) H5 (Ex.refl _) _ fun c H6 n6 e6 h6 => ⟨show 3 ≤ sizeLine by decide, fun p hp => ?_⟩
  · by_cases z : r.2.2 = []
    · rw [if_pos z, decide_eq_true z, decide_eq_true rfl]
    · rw [if_neg z, decide_eq_false z, decide_eq_false]
      intro z
      injection z with z
      exact List.cons_ne_nil _ _ (SX.S_inj z)
  · have z : r.2.2 ≠ [] := by simpa using z
    rw [← strs_join]
    exact eu_tupOf (el_split (ev_var rfl) ev_c z (fun p hp => sign_no (ok.nm.2 p hp) (.inl (by decide))) (by omega) (by decide))
  · have z : r.2.2 = [] := by simpa using z
    rw [z]
    exact eu_tup ea_nil (by simp)
  · have E : Ex H H6 := ((((e1.trans e2).trans e3).trans e4).trans e5).trans e6
    refine q p _ (E.trans (Ex.new hp)) fun a ha => ?_
    have np : p ≠ a := fun z => ha (by rw [← z]; exact fresh_back E hp)
    have nc : c ≠ a := fun z => ha (by rw [← z]; exact fresh_back ((((e1.trans e2).trans e3).trans e4).trans e5) n6)
    have cc : less a (upd H6 p (.tup [nmV r.1, .int (r.2.1 : Nat), .ref c])) c = some (.tup (r.2.2.map nmV)) := by
      rw [less_ne nc]
      exact (Ex.new hp) _ _ h6
    exact da_tuple (xs := [nmV r.1, .int (r.2.1 : Nat), .ref c]) (.inl (.inl (by rw [less_ne np, upd_same]))) (.cons (.str _) (.cons (.int _) (.cons (da_nms (.inl (.inl cc))) .nil)))
end
end K20
set_option Elab.async false
set_option linter.all false
set_option maxRecDepth 100000
set_option maxHeartbeats 4000000
namespace K20
open PySem PySem.Spec PyProof.Rows L2 Evl SwX
section
variable {P : Program} {w : World} {K : PySem.W.Frag} {mg : Str → Option Value} {base : Heap} {f : Addr} {fd : FuncData}
theorem joinL_no {c : Nat} {sep : List Nat} (hs : c ∉ sep) : ∀ {l : List (List Nat)}, (∀ p ∈ l, c ∉ p) → c ∉ TL.joinL sep l
  | [], _ => fun h => nomatch h
  | [x], h => h x List.mem_cons_self
  | x :: y :: l, h => fun z => by
    have z : c ∈ x ++ (sep ++ TL.joinL sep (y :: l)) := z
    rcases List.mem_append.mp z with z | z
    · exact h x List.mem_cons_self z
    · rcases List.mem_append.mp z with z | z
      · exact hs z
      · exact joinL_no hs (l := y :: l) (fun p hp => h p (List.mem_cons_of_mem _ hp)) z
theorem head_no {ns : List Nm} (h : ∀ n ∈ ns, NameOk n) : 10 ∉ headL ns := joinL_no (by decide) fun p hp => (List.mem_cons.mp hp).elim (fun e => by rw [e]; decide) fun hp => sign_no (h p hp) (.inl (by decide))
theorem row_no {r : Rul} (h : RowOk r) : 10 ∉ rowL r := fun z => by
  unfold rowL at z
  rcases List.mem_append.mp z with z | z
  · exact sign_no h.nm.1 (.inl (by decide)) z
  · rcases List.mem_append.mp z with z | z
    · simp at z
    · rcases List.mem_append.mp z with z | z
      · exact num_no h.hi (.inl (by decide)) z
      · unfold tailL at z
        split at z
        · exact nomatch z
        · rcases List.mem_append.mp z with z | z
          · simp at z
          · exact joinL_no (by decide) (fun p hp => sign_no (h.nm.2 p hp) (.inl (by decide))) z
theorem ret_tup2 {ta tb : TE} {D : Ends} {σ : L2.St} {H : Hp} (h : ta σ H fun x H1 => tb σ H1 fun y H2 => 2 ≤ sizeLine ∧ ∀ p, H2 p = none → D.rt (.ref p) (upd H2 p (.tup [x, y]))) : tRet (tTup (tCons ta (tCons tb tNil))) D σ H := h
def spParts (K : PySem.W.Frag) : Sp := fun vs H Q _ => ∃ (ns : List Nm) (rs : List Rul), vs = [.str (SX.S (textL ns rs))] ∧ ns.length ≤ 10 ∧ rs.length ≤ 20 ∧ (∀ n ∈ ns, NameOk n) ∧ (∀ r ∈ rs, RowOk r) ∧
  ∀ p q1 q2 H', Ex H H' → H' p = some (.tup [.ref q1, .ref q2]) → SqT K H' q1 (ns.map nmV) → Da K H' (.ref q2) (rulsD rs) → Q (.ref p) H'
abbrev s_parts_of_text : Stmt := top 25
abbrev sc_parts_of_text_N : List Str := ["text", "lines", "words", "line"]
theorem sc_parts_of_text : FnScope sc_parts_of_text_N ["text"] (defScope s_parts_of_text) := ⟨rfl, rfl, rfl, by decide +kernel, rfl, by decide +kernel, by decide +kernel⟩
theorem ok_parts_of_text (m_isinstance : mg "isinstance" = none) (m_str : mg "str" = none) (m_tuple : mg "tuple" = none) (D_recipe_of : Has P w K mg base "recipe_of" 2 ["line"] (spRecOf K)) (F : FnP K "parts_of_text" s_parts_of_text f fd) : FnOk P w K mg base CX0 3 f fd ["text"] (spParts K) := by
  refine F.ok sc_parts_of_text (fun vs H Q E h => by obtain ⟨ns, rs, rfl, _⟩ := h; rfl) (fun cdv A outer s H vs Q E hr h => ⟨_, PSs.nox
    (pss_cons (ps_set (i := 1) sc_parts_of_text.nd rfl (Or.inl rfl) (pe_ifExp (pt_val (pe_callB (isiK K) (by rfl) m_isinstance (by decide +kernel) (pa_cons (pv 0) (pa_cons (pe_bty (n := "str") m_str) pa_nil)))) (pe_split (pv 0) pe_str) (pe_lst (pa_cons pe_str pa_nil)))) (pss_cons (ps_set (i := 2) sc_parts_of_text.nd rfl (Or.inl rfl) (pe_split (pe_ix (ixK K) (pv 1) pe_int (fun _ _ => rfl)) pe_str)) (pss_cons (ps_if (pt_cmpR (neK K hr) (pe_ix (ixK K) (pv 2) pe_int (fun _ _ => rfl)) pe_str (nomark _)) (pss_one (ps_ret pe_non)) pss_nil) (pss_one (ps_ret (pe_tup (pa_cons (pe_callTy call_tuple_of (by rfl) m_tuple (by decide +kernel) (pa_cons (pe_slice (slK K) (pv 2) (po_some pe_int) po_none) pa_nil)) (pa_cons (pe_callTy call_tuple_of (by rfl) m_tuple (by decide +kernel) (pa_cons (pe_lc (own := [("line", 3)]) (g := gName 3) (tt := tYes) rfl sc_parts_of_text.nd (pi_list (pe_slice (slK K) (pv 1) (po_some pe_int) po_none)) (blkOk_by (N := sc_parts_of_text_N) (sc := defScope s_parts_of_text) (by decide +kernel)) (fun _ _ _ _ _ => pg_name (i := 3) sc_parts_of_text.nd rfl (Or.inl rfl)) (fun _ _ _ _ _ => pts_nil) (fun _ _ _ _ _ => (pe_has D_recipe_of (hr.mono (by decide)) (pa_cons (pv 3) pa_nil)))) pa_nil)) pa_nil)))))))), ?_⟩)
  obtain ⟨ns, rs, rfl, ln, lr, okn, okr, q⟩ := h
  have s1 : ("kinds" : Str) = SX.S kindsL := by decide +kernel
  have s2 : (" " : Str) = SX.S [32] := by decide +kernel
  have s5 : ("\n" : Str) = SX.S [10] := by decide +kernel
  rw [s1, s2, s5]
  have big : (textL ns rs).length ≤ 100000 := by
    have z := joinL_len (B := 150) (sep := [10]) (by decide) (l := headL ns :: rs.map rowL) fun p hp => (List.mem_cons.mp hp).elim (fun e => by rw [e]; exact head_len okn ln) fun hp => by
      obtain ⟨r, hr2, rfl⟩ := List.mem_map.mp hp
      exact row_len (okr r hr2).nm (okr r hr2).hi (okr r hr2).ln
    have z2 : (150 + 2) * (headL ns :: rs.map rowL).length ≤ (150 + 2) * 21 := Nat.mul_le_mul_left _ (by simp; omega)
    unfold textL
    omega
  refine q_asgL (xs := ((headL ns :: rs.map rowL).map SX.S).map V.str) (el_ifY (b := true) (et_B (ev_isi (T := "str") (ev_var rfl) (fun _ _ => .base (.str _)) (by decide +kernel))) (fun _ => el_split (ev_var rfl) ev_c (by simp) (fun p hp => ?_) big (by decide)) (fun z => nomatch z)) fun l H1 n1 e1 h1 => ?_
  · rcases List.mem_cons.mp hp with rfl | hp
    · exact head_no okn
    · obtain ⟨r, hr2, rfl⟩ := List.mem_map.mp hp
      exact row_no (okr r hr2)
  refine q_asgL (xs := ((kindsL :: ns).map SX.S).map V.str) (el_split (ev_op (ev_var rfl) ev_c (rv_ixLn (i := 0) (sq_of h1) rfl)) ev_c (by simp) (fun p hp => ?_) (by have := head_len okn ln; unfold headL at this; omega) (by decide)) fun l2 H2 n2 e2 h2 => ?_
  · rcases List.mem_cons.mp hp with rfl | hp
    · decide
    · exact sign_no (okn p hp) (.inl (by decide))
  refine q_when (b := false) (et_is (et_B (ev_op (ev_op (ev_var rfl) ev_c (rv_ixLn (i := 0) (v := .str (SX.S kindsL)) (sq_of h2) rfl)) ev_c (rv_l (rv_ne rfl)))) (by simp)) (fun z => nomatch z) fun _ H3 e3 => ?_
  refine ret_tup2 ?_
  refine (eu_tupOf (K := K) (el_slL (K := K) (lo := some ((1 : Nat) : Int)) (hi := none) (ev_var (i := 2) rfl) (sq_of (e3 _ _ h2)) (eo_some ev_c) eo_none) : EvU _ [some (.str (SX.S (textL ns rs))), some (.ref l), some (.ref l2), none] H3 _) H3 (Ex.refl _) _ fun q1 H4 n4 e4 h4 => ?_
  have lines4 : H4 l = some (.lst (((headL ns :: rs.map rowL).map SX.S).map V.str)) := e4 _ _ (e3 _ _ (e2 _ _ h1))
  refine (yi_tupOf (K := K) (F := fun (r : Rul) v H => Da K H v (rulD r)) (is := rs) (fun r v H H' e h => Da.mono e h) (yi_lcL (K := K) (F := fun (r : Rul) v H => Da K H v (rulD r)) (is := rs) (fun r v H H' e h => Da.mono e h) (el_slL (K := K) (lo := some ((1 : Nat) : Int)) (hi := none) (ev_var (i := 1) rfl) (sq_of lines4) (eo_some ev_c) eo_none) (by rw [cut_drop]; simp) (by rw [cut_drop]; simp; omega) (fun _ => rfl) fun i x r H5 e5 hx hi R k => ?_) : Yi _ [some (.str (SX.S (textL ns rs))), some (.ref l), some (.ref l2), none] H4 _) H4 (Ex.refl _) _ fun v2 H5 e5 z => ?_
  · rw [cut_drop] at hx
    have z : ((rs.map rowL).map SX.S).map V.str = rs.map fun r => V.str (SX.S (rowL r)) := by simp
    have hx : (((rs.map rowL).map SX.S).map V.str)[i]? = some x := hx
    rw [z, List.getElem?_map, hi] at hx
    cases hx
    exact ⟨_, rfl, r, rfl, okr r (List.mem_of_getElem? hi), fun p H6 e6 da => k _ H6 e6 da⟩
  · obtain ⟨q2, vs, rfl, h5, pr⟩ := z
    refine ⟨show 2 ≤ sizeLine by decide, fun p hp => ?_⟩
    rw [cut_drop] at h4
    refine q p q1 q2 _ ((((((e1.trans e2).trans e3).trans e4).trans e5)).trans (Ex.new hp)) upd_same (.inl (.inl ?_)) (Da.mono (Ex.new hp) (da_tuple (.inl (.inl h5)) (paired_map (g := rulD) (F := fun d v => Da K H5 v d) pr)))
    rw [← strs_join]
    exact (Ex.new hp) _ _ (e5 _ _ h4)
end
end K20
set_option Elab.async false
set_option linter.all false
set_option maxRecDepth 100000
set_option maxHeartbeats 4000000
namespace K20
open PySem PySem.Spec PyProof.Rows L2 Evl SwX
section
variable {P : Program} {w : World} {K : PySem.W.Frag} {mg : Str → Option Value} {base : Heap} {f : Addr} {fd : FuncData} {C : Addr}
abbrev FnM (K : PySem.W.Frag) (x q : Str) (st : Stmt) (dvs : List V) (f : Addr) (fd : FuncData) : Prop := FunD K x q (defArgs st) (defBody st) (defScope st) dvs [] f fd
/-- what is looked up of the class -/
structure CatC (K : PySem.W.Frag) (C : Addr) : Prop where
  cls : Cls K C
  n1 : NoAttr K C "all_kinds"
  n2 : NoAttr K C "all_recipes"
  n3 : NoAttr K C "words"
  ha : PySem.W.findIn K (.ref C) "__class__" = some (some (.builtin "object.__class__"))
  hn : PySem.W.specialIn K (.builtin "object.__class__") "__get__" = some (some (.builtin "getset_descriptor.__get__"))
  ht : PySem.W.takesIn K (.builtin "object.__class__") = some true
  hm : PySem.W.mroIn K C (.type "object") = some true
  kt : PySem.W.kitOne K (.ref C) (.ref C) = some true
/-- the catalogue at a: names, rules -/
def Cat (K : PySem.W.Frag) (C : Addr) (ns : List Nm) (rs : List Rul) (v : V) (H : Hp) : Prop := ∃ (a dx p : Addr) (y : V), v = .ref a ∧ H a = some (.ins C dx [("all_kinds", .ref p), ("all_recipes", y), ("words", .str (SX.S (textL ns rs)))]) ∧ SqT K H p (ns.map nmV) ∧ Da K H y (rulsD rs)
theorem cat_mono {ns : List Nm} {rs : List Rul} (v : V) (H H' : Hp) (e : Ex H H') (h : Cat K C ns rs v H) : Cat K C ns rs v H' := by
  obtain ⟨a, dx, p, y, rfl, h1, h2, h3⟩ := h
  exact ⟨a, dx, p, y, rfl, e _ _ h1, ex_t e h2, h3.mono e⟩
theorem Cat.is {ns : List Nm} {rs : List Rul} {v : V} {H : Hp} (h : Cat K C ns rs v H) : ∃ a, v = .ref a ∧ IsI H a C := by
  obtain ⟨a, dx, p, y, rfl, h1, _⟩ := h
  exact ⟨a, rfl, dx, _, h1⟩
theorem putF_len (f : Str) (v : V) : ∀ fs : List (Str × V), (putF f v fs).length ≤ fs.length + 1
  | [] => Nat.le_refl _
  | (g, x) :: r => by
    have z := putF_len f v r
    unfold putF
    split <;> simp only [List.length_cons] <;> omega
theorem q_asgU2 {σ : L2.St} {H : Hp} {te : TE} {x y : V} {g1 g2 : TG} {tz : TS} {D : Ends} (h : EvU te σ H [x, y]) (k : ∀ u H1, H u = none → Ex H H1 → H1 u = some (.tup [x, y]) → g1 x σ H1 fun σ' H' => g2 y σ' H' fun σ2 H2 => tz D σ2 H2) :
    tSeq (tAsg te (gTup K 2 (gCons g1 (gCons g2 gNil)))) tz D σ H := h H (Ex.refl H) _ fun u H1 n1 e1 h1 => by
  refine ⟨u, _, rfl, .inl (.inl h1), rfl, x, [y], rfl, ?_⟩
  have z := k u H1 n1 e1 h1
  show g1 x σ H1 fun σ' H' => ∃ v r, [y] = v :: r ∧ g2 v σ' H' fun σ2 H2 => r = [] ∧ tz D σ2 H2
  have e : (fun (σ' : L2.St) (H' : Hp) => ∃ v r, [y] = v :: r ∧ g2 v σ' H' fun σ2 H2 => r = [] ∧ tz D σ2 H2) = fun σ' H' => g2 y σ' H' fun σ2 H2 => tz D σ2 H2 := by
    funext σ' H'
    apply propext
    constructor
    · rintro ⟨v, r, w, q⟩
      cases w
      simpa using q
    · intro q
      exact ⟨y, [], rfl, by simpa using q⟩
  rw [e]
  exact z
def spInit (K : PySem.W.Frag) (C : Addr) : Sp := fun vs H Q _ => ∃ (x p dx : Addr) (y : V) (ns : List Nm) (rs : List Rul), vs = [.ref x, .ref p, y] ∧ H x = some (.ins C dx []) ∧ SqT K (less x H) p (ns.map nmV) ∧ Da K (less x H) y (rulsD rs) ∧ NamesOk ns ∧ RulesOk ns rs ∧
  ∀ H', Ex (less x H) H' → Cat K C ns rs (.ref x) H' → Q .non H'
theorem RulesOk.row {ns : List Nm} {rs : List Rul} (h : RulesOk ns rs) (n : ∀ m ∈ ns, NameOk m) : ∀ r ∈ rs, RowOk r := fun r hr => ⟨(h.ok r hr).nm n, (h.ok r hr).lo, (h.ok r hr).hi, Nat.le_trans (h.ok r hr).len (by decide)⟩
abbrev s_Cat_init : Stmt := inClass (top 26) 0
abbrev sc_Cat_init_N : List Str := ["self", "kinds", "recipes"]
theorem sc_Cat_init : FnScope sc_Cat_init_N ["self", "kinds", "recipes"] (defScope s_Cat_init) := ⟨rfl, rfl, rfl, by decide +kernel, rfl, by decide +kernel, by decide +kernel⟩
theorem ok_Cat_init (c : CatC K C) (D_check_kinds : Has P w K mg base "check_kinds" 2 ["kinds"] (spChkK K)) (D_check_recipes : Has P w K mg base "check_recipes" 4 ["recipes", "kinds"] (spChkR K)) (D_text_of : Has P w K mg base "text_of" 1 ["kinds", "recipes"] (spText K)) {dvs : List V} (F : FnM K "__init__" "Catalogue.__init__" s_Cat_init dvs f fd) : FnOk P w K mg base CX0 5 f fd ["self", "kinds", "recipes"] (spInit K C) := by
  refine F.ok sc_Cat_init (fun vs H Q E h => by obtain ⟨x, p, dx, y, ns, rs, rfl, _⟩ := h; rfl) (fun cdv A outer s H vs Q E hr h => ⟨_, PSs.nox
    (pss_cons (ps_expr (pe_has D_check_kinds (hr.mono (by decide)) (pa_cons (pv 1) pa_nil))) (pss_cons (ps_expr (pe_has D_check_recipes (hr.mono (by decide)) (pa_cons (pv 2) (pa_cons (pv 1) pa_nil)))) (pss_cons (ps_asg (pe_tup (pa_cons (pv 1) (pa_cons (pv 2) pa_nil))) (pg_tup rfl (pgs_cons (pg_fldT (pv 0)) (pgs_cons (pg_fldT (pv 0)) pgs_nil)))) (pss_one (ps_fld (pv 0) (pe_has D_text_of (hr.mono (by decide)) (pa_cons (pv 1) (pa_cons (pv 2) pa_nil))) rfl))))), ?_⟩)
  obtain ⟨x, p, dx, y, ns, rs, rfl, hx, hp, hy, okn, okr, q⟩ := h
  refine q_drop (v := .non) (ev_call (vs := [.ref p]) (ea_cons (ev_var rfl) ea_nil) fun H1 e1 R k E' => ⟨p, ns, rfl, ex_t (less_ex.trans e1) hp, okn, k⟩) fun H1 e1 => ?_
  refine q_drop (v := .non) (ev_call (vs := [y, .ref p]) (ea_cons (ev_var rfl) (ea_cons (ev_var rfl) ea_nil)) fun H2 e2 R k E' => ⟨y, p, ns, rs, rfl, hy.mono (less_ex.trans (e1.trans e2)), ex_t (less_ex.trans (e1.trans e2)) hp, okn.ok, okr, k⟩) fun H2 e2 => ?_
  have x2 := (e1.trans e2) _ _ hx
  refine q_asgU2 (K := K) (eu_tup (ea_cons (ev_var rfl) (ea_cons (ev_var rfl) ea_nil)) (by simp)) fun u H3 n3 e3 h3 => ⟨.ref x, rfl, x, C, dx, [], rfl, e3 _ _ x2, c.cls, c.n1, by simp, ⟨.ref x, rfl, x, C, dx, _, rfl, upd_same, c.cls, c.n2, Nat.lt_of_le_of_lt (putF_len _ _ _) (by decide), ?_⟩⟩
  have E : Ex (less x H) (upd (upd H3 x (.ins C dx (putF "all_kinds" (.ref p) []))) x (.ins C dx (putF "all_recipes" y (putF "all_kinds" (.ref p) [])))) := less_upd (less_upd (less_ex.trans ((e1.trans e2).trans e3)))
  refine (ev_call (vs := [.ref p, y]) (ea_cons (ev_var (i := 1) rfl) (ea_cons (ev_var (i := 2) rfl) ea_nil)) (fun H4 e4 R k E' => ⟨p, y, ns, rs, rfl, ex_t (E.trans e4) hp, hy.mono (E.trans e4), by have := okn.len; omega, by have := okr.len; omega, okn.ok, fun r hr => ⟨(okr.ok r hr).nm okn.ok, (okr.ok r hr).hi, by have := (okr.ok r hr).len; omega⟩, k⟩) : Ev (tCall (spText K) [] E0 _) [some (.ref x), some (.ref p), some y] _ (.str (SX.S (textL ns rs)))) _ (Ex.refl _) _ fun H4 e4 => ?_
  refine ⟨.ref x, rfl, x, C, dx, _, rfl, e4 _ _ upd_same, c.cls, c.n3, Nat.lt_of_le_of_lt (Nat.le_trans (putF_len _ _ _) (Nat.succ_le_succ (putF_len _ _ _))) (by decide), ?_⟩
  have E4 := less_upd (o := .ins C dx (putF "words" (.str (SX.S (textL ns rs))) (putF "all_recipes" y (putF "all_kinds" (.ref p) [])))) (E.trans e4)
  exact q _ E4 ⟨x, dx, p, y, rfl, upd_same, ex_t E4 hp, hy.mono E4⟩
theorem ev_isC (c : CatC K C) {σ : L2.St} {H : Hp} {te : TE} {v : V} {ns : List Nm} {rs : List Rul} (h : Ev te σ H v) (hv : Cat K C ns rs v H) : Ev (tCB (rIsi K) (tCons te (tCons (tC (.ref C)) tNil))) σ H (.bl true) := fun H1 e1 Q q => h H1 e1 _ fun H2 e2 => by
  obtain ⟨a, dx, p, y, rfl, h1, _⟩ := hv
  exact ⟨.ref a, .ref C, .ref C, .ref C, true, rfl, .own C, .base (.ins (e2 _ _ (e1 _ _ h1)) c.cls c.ha c.hn c.ht c.hm), c.kt, q H2 e2⟩
theorem ev_fldC {f : Str} {u : V} {σ : L2.St} {H : Hp} {te : TE} {a dx : Addr} {fs : List (Str × V)} (c : CatC K C) (n : NoAttr K C f) (h : Ev te σ H (.ref a)) (e : H a = some (.ins C dx fs)) (l : fs.lookup f = some u) : Ev (tFld K te f) σ H u := fun H1 e1 Q q => h H1 e1 _ fun H2 e2 => ⟨a, C, dx, fs, u, rfl, e2 _ _ (e1 _ _ e), c.cls, n, l, q H2 e2⟩
def spCatEq (K : PySem.W.Frag) (C : Addr) : Sp := fun vs H Q _ => ∃ (v u : V) (ns ms : List Nm) (rs ts : List Rul), vs = [v, u] ∧ Cat K C ns rs v H ∧ Cat K C ms ts u H ∧ ∀ H', Ex H H' → Q (.bl (decide (textL ns rs = textL ms ts))) H'
abbrev s_Cat_eq : Stmt := inClass (top 26) 6
abbrev sc_Cat_eq_N : List Str := ["self", "other"]
theorem sc_Cat_eq : FnScope sc_Cat_eq_N ["self", "other"] (defScope s_Cat_eq) := ⟨rfl, rfl, rfl, by decide +kernel, rfl, by decide +kernel, by decide +kernel⟩
theorem ok_Cat_eq (c : CatC K C) (gC : mg "Catalogue" = some (.ref C)) (m_isinstance : mg "isinstance" = none) (F : FnM K "__eq__" "Catalogue.__eq__" s_Cat_eq [] f fd) : FnOk P w K mg base CX0 1 f fd ["self", "other"] (spCatEq K C) := by
  refine F.ok sc_Cat_eq (fun vs H Q E h => by obtain ⟨v, u, ns, ms, rs, ts, rfl, _⟩ := h; rfl) (fun cdv A outer s H vs Q E hr h => ⟨_, PSs.nox
    (pss_one (ps_ret (pe_and (pe_callB (isiK K) (by rfl) m_isinstance (by decide +kernel) (pa_cons (pv 1) (pa_cons (pe_own gC) pa_nil))) (pe_one (pe_cmpR (eqK K hr) (pe_fld (pv 0) rfl) (pe_fld (pv 1) rfl) (nomark _)))))), ?_⟩)
  obtain ⟨v, u, ns, ms, rs, ts, rfl, hv, hu, q⟩ := h
  have hu' := hu
  obtain ⟨a, dx, p, y, rfl, h1, _⟩ := hv
  obtain ⟨b, dy, p2, y2, rfl, h2, _⟩ := hu'
  refine s_ret (ev_is (ev_andV (a := true) (ev_isC c (ev_var rfl) hu) fun _ => ev_op (ev_fldC c c.n3 (ev_var rfl) h1 rfl) (ev_fldC c c.n3 (ev_var rfl) h2 rfl) (rv_l (rv_eq rfl))) ?_) q
  rw [Bool.true_and]
  congr 1
  rw [Bool.eq_iff_iff]
  simp only [decide_eq_true_eq]
  exact ⟨fun h => by injection h with h; exact SX.S_inj h, fun h => by rw [h]⟩
def spCatStr (K : PySem.W.Frag) (C : Addr) : Sp := fun vs H Q _ => ∃ (v : V) (ns : List Nm) (rs : List Rul), vs = [v] ∧ Cat K C ns rs v H ∧ ∀ H', Ex H H' → Q (.str (SX.S (textL ns rs))) H'
abbrev s_Cat_str : Stmt := inClass (top 26) 7
abbrev sc_Cat_str_N : List Str := ["self"]
theorem sc_Cat_str : FnScope sc_Cat_str_N ["self"] (defScope s_Cat_str) := ⟨rfl, rfl, rfl, by decide +kernel, rfl, by decide +kernel, by decide +kernel⟩
theorem ok_Cat_str (c : CatC K C) (m_str : mg "str" = none) (F : FnM K "__str__" "Catalogue.__str__" s_Cat_str [] f fd) : FnOk P w K mg base CX0 1 f fd ["self"] (spCatStr K C) := by
  refine F.ok sc_Cat_str (fun vs H Q E h => by obtain ⟨v, ns, rs, rfl, _⟩ := h; rfl) (fun cdv A outer s H vs Q E hr h => ⟨_, PSs.nox
    (pss_one (ps_ret (pe_callTy call_strY (by rfl) m_str (by decide +kernel) (pa_cons (pe_fld (pv 0) rfl) pa_nil)))), ?_⟩)
  obtain ⟨v, ns, rs, rfl, hv, q⟩ := h
  obtain ⟨a, dx, p, y, rfl, h1, _⟩ := hv
  exact s_ret (ev_cb (ea_cons (ev_fldC c c.n3 (ev_var rfl) h1 rfl) ea_nil) fun H1 _ R k => .inr ⟨_, rfl, k H1 (Ex.refl H1)⟩) q
def spCatLen (K : PySem.W.Frag) (C : Addr) : Sp := fun vs H Q _ => ∃ (v : V) (ns : List Nm) (rs : List Rul), vs = [v] ∧ Cat K C ns rs v H ∧ ∀ H', Ex H H' → Q (.int (rs.length : Nat)) H'
abbrev s_Cat_len : Stmt := inClass (top 26) 9
abbrev sc_Cat_len_N : List Str := ["self"]
theorem sc_Cat_len : FnScope sc_Cat_len_N ["self"] (defScope s_Cat_len) := ⟨rfl, rfl, rfl, by decide +kernel, rfl, by decide +kernel, by decide +kernel⟩
theorem ok_Cat_len (c : CatC K C) (m_len : mg "len" = none) (F : FnM K "__len__" "Catalogue.__len__" s_Cat_len [] f fd) : FnOk P w K mg base CX0 1 f fd ["self"] (spCatLen K C) := by
  refine F.ok sc_Cat_len (fun vs H Q E h => by obtain ⟨v, ns, rs, rfl, _⟩ := h; rfl) (fun cdv A outer s H vs Q E hr h => ⟨_, PSs.nox
    (pss_one (ps_ret (pe_callB (lenK K) (by rfl) m_len (by decide +kernel) (pa_cons (pe_fld (pv 0) rfl) pa_nil)))), ?_⟩)
  obtain ⟨v, ns, rs, rfl, hv, q⟩ := h
  obtain ⟨a, dx, p, y, rfl, h1, _, hy⟩ := hv
  obtain ⟨q0, xs, rfl, hq, pr⟩ := da_ruls rs hy
  exact s_ret (ev_is (ev_lenL (ev_fldC c c.n2 (ev_var rfl) h1 rfl) (.inr hq)) (by rw [paired_len pr])) q
def spCatBool (K : PySem.W.Frag) (C : Addr) : Sp := fun vs H Q _ => ∃ (v : V) (ns : List Nm) (rs : List Rul), vs = [v] ∧ Cat K C ns rs v H ∧ ∀ H', Ex H H' → Q (.bl true) H'
abbrev s_Cat_bool : Stmt := inClass (top 26) 10
abbrev sc_Cat_bool_N : List Str := ["self"]
theorem sc_Cat_bool : FnScope sc_Cat_bool_N ["self"] (defScope s_Cat_bool) := ⟨rfl, rfl, rfl, by decide +kernel, rfl, by decide +kernel, by decide +kernel⟩
theorem ok_Cat_bool (F : FnM K "__bool__" "Catalogue.__bool__" s_Cat_bool [] f fd) : FnOk P w K mg base CX0 1 f fd ["self"] (spCatBool K C) := by
  refine F.ok sc_Cat_bool (fun vs H Q E h => by obtain ⟨v, ns, rs, rfl, _⟩ := h; rfl) (fun cdv A outer s H vs Q E hr h => ⟨_, PSs.nox
    (pss_one (ps_ret pe_bl)), ?_⟩)
  obtain ⟨v, ns, rs, rfl, hv, q⟩ := h
  exact s_ret ev_c q
end
end K20
set_option Elab.async false
set_option linter.all false
set_option maxRecDepth 100000
set_option maxHeartbeats 4000000
namespace K20
open PySem PySem.Spec PyProof.Rows L2 Evl SwX
section
variable {P : Program} {w : World} {K : PySem.W.Frag} {mg : Str → Option Value} {base : Heap} {f : Addr} {fd : FuncData} {C : Addr}
/-- making one: what the class's name gives -/
structure CatM (P : Program) (w : World) (K : PySem.W.Frag) (mg : Str → Option Value) (base : Heap) (C : Addr) : Prop where
  ex : ∃ (f : Addr) (fd : FuncData) (d0 : Addr) (ds : List Value), Mk K C f ∧ FnOk P w K mg base CX0 5 f fd ["self", "kinds", "recipes"] (spInit K C) ∧ Binds K fd ["self", "kinds", "recipes"] [] ∧ Binds K fd ["self", "kinds", "recipes"] ds ∧ Vals [.ref d0] ds ∧ SqT K (fun _ => none) d0 []
  g : mg "Catalogue" = some (.ref C)
  c : CatC K C
theorem sq_empty {H : Hp} {d : Addr} {xs : List V} (h : SqT K (fun _ => none) d xs) : SqT K H d xs := by
  rcases h with (h | ⟨o, h⟩) | h
  · cases h
  · cases h
  · exact .inr h
/-- Catalogue(names, rules) -/
def tCat2 (K : PySem.W.Frag) (C : Addr) (t : TA) : TE := tMake C (spInit K C) [] E0 t
section
variable {X : Cx} {x : Str} {p pos : Pos} {e : Expr} {es : List Expr} {t : TA} {k : Nat}
theorem pe_cat2 (M : CatM X.prog X.w X.K X.mg X.base C) (hr : Room 6 X.A) (ha : PA X (e :: es) t) (hg : Gl X "Catalogue" := by rfl) (he : starEach (e :: es) X.env = (false, eval e X.env) :: starEach es X.env := by rfl) (hpl : (backTo pos (starEach es X.env)).any (·.1) = false := by rfl) :
    PE X (.Call (.Name "Catalogue" p) (e :: es) [] pos) (tMake C (spInit X.K C) [] E0 t) := by
  obtain ⟨f, fd, d0, ds, mk, F, b, _⟩ := M.ex
  exact pe_make mk F hr hg M.g b .nil pass0 ha (by decide) he hpl
/-- Catalogue(names): the rules are those of the default -/
def Dflt (K : PySem.W.Frag) (d0 : Addr) : Prop := SqT K (fun _ => none) d0 []
def tCat1 (K : PySem.W.Frag) (C : Addr) (t : TA) : TE := fun σ H Q => ∀ d0, Dflt K d0 → tMake C (spInit K C) [.ref d0] E0 t σ H Q
theorem pe_cat1 (M : CatM X.prog X.w X.K X.mg X.base C) (hr : Room 6 X.A) (ha : PA X (e :: es) t) (hg : Gl X "Catalogue" := by rfl) (he : starEach (e :: es) X.env = (false, eval e X.env) :: starEach es X.env := by rfl) (hpl : (backTo pos (starEach es X.env)).any (·.1) = false := by rfl) :
    PE X (.Call (.Name "Catalogue" p) (e :: es) [] pos) (tCat1 X.K C t) := by
  obtain ⟨f, fd, d0, ds, mk, F, _, b, d, z⟩ := M.ex
  exact ⟨fun pins s σ H Q I h => (pe_make mk F hr hg M.g b d pass0 ha (by decide) he hpl).run pins s σ H Q I (h d0 z)⟩
end
theorem less_two {H : Hp} {x dx C : Addr} (h1 : H x = none) (h2 : H dx = none) (ne : dx ≠ x) : Ex H (less x (upd (upd H dx (.own x)) x (.ins C dx []))) := ex_less h1 (((Ex.refl H).mut h2).mut h1)
section
variable {σ : L2.St} {H : Hp} {ta tb : TE} {ns : List Nm} {rs : List Rul}
theorem yi_cat2 (ha : Yi ta σ H fun v H' => ∃ p, v = .ref p ∧ SqT K H' p (ns.map nmV)) (hb : Yi tb σ H fun v H' => Da K H' v (rulsD rs)) (okn : NamesOk ns) (okr : RulesOk ns rs) : Yi (tMake C (spInit K C) [] E0 (tCons ta (tCons tb tNil))) σ H (Cat K C ns rs) := fun H1 e1 Q q =>
  ha H1 e1 _ fun v H2 e2 z => hb H2 (e1.trans e2) _ fun y H3 e3 hy x dx hx hdx ne => by
    obtain ⟨p, rfl, hp⟩ := z
    have b := less_two (C := C) hx hdx ne
    exact ⟨x, p, dx, y, ns, rs, rfl, upd_same, ex_t (e3.trans b) hp, hy.mono b, okn, okr, fun H' e c => ⟨rfl, q _ H' ((e2.trans e3).trans (b.trans e)) c⟩⟩
theorem yi_cat1 (ha : Yi ta σ H fun v H' => ∃ p, v = .ref p ∧ SqT K H' p (ns.map nmV)) (okn : NamesOk ns) : Yi (tCat1 K C (tCons ta tNil)) σ H (Cat K C ns []) := fun H1 e1 Q q d0 z0 =>
  ha H1 e1 _ fun v H2 e2 z x dx hx hdx ne => by
    obtain ⟨p, rfl, hp⟩ := z
    have b := less_two (C := C) hx hdx ne
    exact ⟨x, p, dx, .ref d0, ns, [], rfl, upd_same, ex_t b hp, da_tuple (sq_empty z0) .nil, okn, ⟨by simp, List.nodup_nil, (fun _ h => nomatch h)⟩, fun H' e c => ⟨rfl, q _ H' (e2.trans (b.trans e)) c⟩⟩
end
def spRead (K : PySem.W.Frag) (C : Addr) : Sp := fun vs H Q _ => ∃ (ns : List Nm) (rs : List Rul), vs = [.ref C, .str (SX.S (textL ns rs))] ∧ NamesOk ns ∧ RulesOk ns rs ∧ ∀ v H', Ex H H' → Cat K C ns rs v H' → Q v H'
abbrev s_Cat_read : Stmt := inClass (top 26) 1
abbrev sc_Cat_read_N : List Str := ["cls", "text", "told", "found"]
theorem sc_Cat_read : FnScope sc_Cat_read_N ["cls", "text"] (defScope s_Cat_read) := ⟨rfl, rfl, rfl, by decide +kernel, rfl, by decide +kernel, by decide +kernel⟩
theorem ok_Cat_read (M : CatM P w K mg base C) (D_parts_of_text : Has P w K mg base "parts_of_text" 3 ["text"] (spParts K)) (F : FnM K "read" "Catalogue.read" s_Cat_read [] f fd) : FnOk P w K mg base CX0 7 f fd ["cls", "text"] (spRead K C) := by
  obtain ⟨fI, fdI, d0, ds, mk, FI, bI, _⟩ := M.ex
  refine F.ok sc_Cat_read (fun vs H Q E h => by obtain ⟨ns, rs, rfl, _⟩ := h; rfl) (fun cdv A outer s H vs Q E hr h => ⟨_, PSs.nox
    (pss_cons (ps_set (i := 2) sc_Cat_read.nd rfl (Or.inl rfl) (pe_has D_parts_of_text (hr.mono (by decide)) (pa_cons (pv 1) pa_nil))) (pss_cons (ps_if (pt_cmpR op_isN (pv 2) pe_non (nomark _)) (pss_one SwX.ps_never) pss_nil) (pss_cons (ps_try_thru0 (pss_one (ps_set (i := 3) sc_Cat_read.nd rfl (Or.inl rfl) (pe_makeL (i := 0) mk FI hr rfl (Or.inl rfl) bI .nil pass0 (pa_cons (pe_ix (ixK K) (pv 2) pe_int (fun _ _ => rfl)) (pa_cons (pe_ix (ixK K) (pv 2) pe_int (fun _ _ => rfl)) pa_nil)))))) (pss_cons (ps_if (pt_cmpR (neK K hr) (fldK K (pv 3) rfl) (pv 1) (nomark _)) (pss_one SwX.ps_never) pss_nil) (pss_one (ps_ret (pv 3))))))), ?_⟩)
  obtain ⟨ns, rs, rfl, okn, okr, q⟩ := h
  refine q_asgY (P := fun v H' => ∃ p q1 q2, v = .ref p ∧ H' p = some (.tup [.ref q1, .ref q2]) ∧ SqT K H' q1 (ns.map nmV) ∧ Da K H' (.ref q2) (rulsD rs)) (fun H1 e1 R k => ⟨_, rfl, ns, rs, rfl, by have := okn.len; omega, by have := okr.len; omega, okn.ok, K20.RulesOk.row okr okn.ok, fun p q1 q2 H2 e2 h1 h2 h3 => k _ H2 e2 ⟨p, q1, q2, rfl, h1, h2, h3⟩⟩) fun v H1 e1 z => ?_
  obtain ⟨p, q1, q2, rfl, hp, h1, h2⟩ := z
  refine q_when (b := false) (et_B (ev_op (ev_var rfl) ev_c fun H4 _ R k => ⟨rfl, k H4 (Ex.refl H4)⟩)) (fun z => nomatch z) fun _ H2 e2 => ?_
  refine q_asgY (P := Cat K C ns rs) (fun H3 e3 R k => ⟨rfl, yi_cat2 (K := K) (C := C) (H := H2) (σ := [some (.ref C), some (.str (SX.S (textL ns rs))), some (.ref p), none]) ((yi_ev (ev_op (ev_var (i := 2) rfl) ev_c (rv_ixTn (K := K) (i := 0) (.inl (.inl (e2 _ _ hp))) rfl))).imp fun v H4 e4 z => ⟨q1, z, ex_t (e2.trans e4) h1⟩) ((yi_ev (ev_op (ev_var (i := 2) rfl) ev_c (rv_ixTn (K := K) (i := 1) (.inl (.inl (e2 _ _ hp))) rfl))).imp fun v H4 e4 z => by rw [z]; exact h2.mono (e2.trans e4)) okn okr H3 e3 R k⟩) fun v H3 e3 cat => ?_
  have cat' := cat
  obtain ⟨a, dx, p3, y3, rfl, ha, _⟩ := cat'
  refine q_when (b := false) (et_is (et_B (ev_op (ev_fldC M.c M.c.n3 (ev_var rfl) ha rfl) (ev_var rfl) (rv_l (rv_ne rfl)))) (by simp)) (fun z => nomatch z) fun _ H4 e4 => ?_
  exact s_ret (ev_var rfl) fun H5 e5 => q _ H5 ((((e1.trans e2).trans e3).trans e4).trans e5) (cat_mono _ _ _ (e4.trans e5) cat)
def spChkC (K : PySem.W.Frag) (C : Addr) : Sp := fun vs H Q _ => ∃ (v : V) (ns : List Nm) (rs : List Rul), vs = [v] ∧ Cat K C ns rs v H ∧ ∀ H', Ex H H' → Q .non H'
abbrev s_check_catalogue : Stmt := top 27
abbrev sc_check_catalogue_N : List Str := ["value"]
theorem sc_check_catalogue : FnScope sc_check_catalogue_N ["value"] (defScope s_check_catalogue) := ⟨rfl, rfl, rfl, by decide +kernel, rfl, by decide +kernel, by decide +kernel⟩
theorem ok_check_catalogue (c : CatC K C) (gC : mg "Catalogue" = some (.ref C)) (m_isinstance : mg "isinstance" = none) (F : FnP K "check_catalogue" s_check_catalogue f fd) : FnOk P w K mg base CX0 1 f fd ["value"] (spChkC K C) := by
  refine F.ok sc_check_catalogue (fun vs H Q E h => by obtain ⟨v, ns, rs, rfl, _⟩ := h; rfl) (fun cdv A outer s H vs Q E hr h => ⟨_, PSs.nox
    (pss_one (ps_if (pt_not (pt_val (pe_callB (isiK K) (by rfl) m_isinstance (by decide +kernel) (pa_cons (pv 0) (pa_cons (pe_own gC) pa_nil))))) (pss_one SwX.ps_never) pss_nil)), ?_⟩)
  obtain ⟨v, ns, rs, rfl, hv, q⟩ := h
  exact s_if (b := false) (et_not (a := true) (et_B (ev_isC c (ev_var rfl) hv))) (fun z => nomatch z) fun _ H1 e1 => q H1 e1
def addN (ns ms : List Nm) : List Nm := ns ++ ms.filter fun m => !decide (m ∈ ns)
def addR (rs ts : List Rul) : List Rul := rs ++ ts.filter fun r => !decide (r ∈ rs)
def NmF (n : Nm) (v : V) (_ : Hp) : Prop := v = nmV n
theorem nmF_mono (n : Nm) (v : V) (H H' : Hp) (_ : Ex H H') (h : NmF n v H) : NmF n v H' := h
theorem nmF_all {H : Hp} : ∀ {ns : List Nm} {vs : List V}, Paired (fun n v => NmF n v H) ns vs → vs = ns.map nmV
  | _, _, .nil => rfl
  | _, _, .cons h t => by rw [nmF_all t, List.map_cons, show _ = nmV _ from h]
theorem nmF_of {H : Hp} : ∀ ns : List Nm, Paired (fun n v => NmF n v H) ns (ns.map nmV)
  | [] => .nil
  | n :: ns => .cons rfl (nmF_of ns)
def RlF (K : PySem.W.Frag) (r : Rul) (v : V) (H : Hp) : Prop := Da K H v (rulD r)
theorem rlF_mono (r : Rul) (v : V) (H H' : Hp) (e : Ex H H') (h : RlF K r v H) : RlF K r v H' := Da.mono e h
theorem yi_kinds {σ : L2.St} {H : Hp} {te : TE} {v : V} {ns : List Nm} {rs : List Rul} (c : CatC K C) (h : Ev te σ H v) (hv : Cat K C ns rs v H) : Yi (tFld K te "all_kinds") σ H fun v H' => ∃ p vs, v = .ref p ∧ SqT K H' p vs ∧ Paired (fun n v => NmF n v H') ns vs := by
  obtain ⟨a, dx, p, y, rfl, h1, hp, hy⟩ := hv
  exact (yi_ev (ev_fldC c c.n1 h h1 rfl)).imp fun v H1 e1 z => ⟨p, _, z, ex_t e1 hp, nmF_of ns⟩
theorem yi_rules {σ : L2.St} {H : Hp} {te : TE} {v : V} {ns : List Nm} {rs : List Rul} (c : CatC K C) (h : Ev te σ H v) (hv : Cat K C ns rs v H) : Yi (tFld K te "all_recipes") σ H fun v H' => ∃ p vs, v = .ref p ∧ SqT K H' p vs ∧ Paired (fun r v => RlF K r v H') rs vs := by
  obtain ⟨a, dx, p, y, rfl, h1, hp, hy⟩ := hv
  obtain ⟨q0, xs, rfl, hq, pr⟩ := da_ruls rs hy
  exact (yi_ev (ev_fldC c c.n2 h h1 rfl)).imp fun v H1 e1 z => ⟨q0, _, z, ex_t e1 hq, paired_mono (F := fun (r : Rul) v H => RlF K r v H) e1 rlF_mono pr⟩
theorem niK_kind {σ : L2.St} {H : Hp} {te tk : TE} {v : V} {m : Nm} {ns : List Nm} {rs : List Rul} (c : CatC K C) (hk : Ev tk σ H (nmV m)) (h : Ev te σ H v) (hv : Cat K C ns rs v H) (okm : NameOk m) (okn : ∀ n ∈ ns, NameOk n) : Ev (tOp (fun x y H Q => (∃ (c : Nat) (z : Str), x = .str ⟨#[c]⟩ ∧ y = .str z ∧ Q (.bl (!decide (c ∈ z.cps.toList))) H) ∨ rInDat K true x y H Q) tk (tFld K te "all_kinds")) σ H (.bl (!decide (m ∈ ns))) := by
  obtain ⟨a, dx, p, y, rfl, h1, hp, hy⟩ := hv
  exact ev_op hk (ev_fldC c c.n1 h h1 rfl) (rv_niDat (d := nmD m) (c := nmsD ns) (.inr rfl) (.str _) (da_nms hp) (pl_nm okm) (pl_nms okn) (any_nm ns m))
theorem niK_rule {σ : L2.St} {H : Hp} {te tk : TE} {v x : V} {r : Rul} {ns : List Nm} {rs : List Rul} (c : CatC K C) (hk : Ev tk σ H x) (hx : Da K H x (rulD r)) (h : Ev te σ H v) (hv : Cat K C ns rs v H) (okr : RulNm r) (okn : ∀ r ∈ rs, RulNm r) : Ev (tOp (fun x y H Q => (∃ (c : Nat) (z : Str), x = .str ⟨#[c]⟩ ∧ y = .str z ∧ Q (.bl (!decide (c ∈ z.cps.toList))) H) ∨ rInDat K true x y H Q) tk (tFld K te "all_recipes")) σ H (.bl (!decide (r ∈ rs))) := by
  obtain ⟨a, dx, p, y, rfl, h1, hp, hy⟩ := hv
  exact ev_op hk (ev_fldC c c.n2 h h1 rfl) (rv_niDat (d := rulD r) (c := rulsD rs) (.inr rfl) hx hy (pl_rul okr) (pl_ruls okn) (any_rul rs r))
def spAdd (K : PySem.W.Frag) (C : Addr) : Sp := fun vs H Q _ => ∃ (v u : V) (ns ms : List Nm) (rs ts : List Rul), vs = [v, u] ∧ Cat K C ns rs v H ∧ Cat K C ms ts u H ∧ ms.length ≤ 10 ∧ ts.length ≤ 20 ∧ (∀ m ∈ ms, NameOk m) ∧ (∀ r ∈ ts, RulNm r) ∧ (∀ r ∈ rs, RulNm r) ∧ NamesOk (addN ns ms) ∧ RulesOk (addN ns ms) (addR rs ts) ∧
  ∀ v H', Ex H H' → Cat K C (addN ns ms) (addR rs ts) v H' → Q v H'
theorem yi_star {σ : L2.St} {H : Hp} {t1 t2 : TE} {α : Type} {F : α → V → Hp → Prop} {is js : List α} (m : ∀ i v H H', Ex H H' → F i v H → F i v H') (h1 : Yi t1 σ H fun v H' => ∃ p vs, v = .ref p ∧ SqT K H' p vs ∧ Paired (fun i v => F i v H') is vs) (h2 : Yi t2 σ H (LstOf F js)) (l : is.length + js.length ≤ 1000) :
    Yi (tTup (StX.tStar K t1 (StX.tStar K t2 tNil))) σ H fun v H' => ∃ p vs, v = .ref p ∧ SqT K H' p vs ∧ Paired (fun i v => F i v H') (is ++ js) vs := fun H1 e1 Q q => h1 H1 e1 _ fun v H2 e2 z => by
  obtain ⟨p, vs, rfl, hp, pr⟩ := z
  refine ⟨p, vs, rfl, .inl hp, h2 H2 (e1.trans e2) _ fun w H3 e3 z => ?_⟩
  obtain ⟨c, ws, rfl, hc, pw⟩ := z
  have l1 := paired_len pr
  have l2 := paired_len pw
  refine ⟨c, ws, rfl, .inr (sq_of hc), sz_of (by simp only [List.length_append, List.length_nil]; omega), fun d hd => ?_⟩
  refine q _ _ ((e2.trans e3).trans (Ex.new hd)) ⟨d, _, rfl, .inl (.inl upd_same), ?_⟩
  rw [List.append_nil]
  exact paired_append (paired_mono (e3.trans (Ex.new hd)) m pr) (paired_mono (Ex.new hd) m pw)
abbrev s_Cat_add : Stmt := inClass (top 26) 5
abbrev sc_Cat_add_N : List Str := ["self", "other", "kinds", "rules", "kind", "rule"]
theorem sc_Cat_add : FnScope sc_Cat_add_N ["self", "other"] (defScope s_Cat_add) := ⟨rfl, rfl, rfl, by decide +kernel, rfl, by decide +kernel, by decide +kernel⟩
theorem ok_Cat_add (M : CatM P w K mg base C) (m_len : mg "len" = none) (g_MOST_KINDS : ∃ t, mg "MOST_KINDS" = some (.int 4 t)) (g_MOST_RECIPES : ∃ t, mg "MOST_RECIPES" = some (.int 10 t)) (D_check_catalogue : Has P w K mg base "check_catalogue" 1 ["value"] (spChkC K C)) (F : FnM K "__add__" "Catalogue.__add__" s_Cat_add [] f fd) : FnOk P w K mg base CX0 7 f fd ["self", "other"] (spAdd K C) := by
  refine F.ok sc_Cat_add (fun vs H Q E h => by obtain ⟨v, u, ns, ms, rs, ts, rfl, _⟩ := h; rfl) (fun cdv A outer s H vs Q E hr h => ⟨_, PSs.nox
    (pss_cons (ps_expr (pe_has D_check_catalogue (hr.mono (by decide)) (pa_cons (pv 1) pa_nil))) (pss_cons (ps_set (i := 2) sc_Cat_add.nd rfl (Or.inl rfl) (pe_tup (StX.pa_star (fldK K (pv 0) rfl) (StX.pa_star (pe_lc (own := [("kind", 4)]) (g := gName 4) rfl sc_Cat_add.nd (pi_tup (fldK K (pv 1) rfl)) (blkOk_by (N := sc_Cat_add_N) (sc := defScope s_Cat_add) (by decide +kernel)) (fun _ _ _ _ _ => pg_name (i := 4) sc_Cat_add.nd rfl (Or.inl rfl)) (fun _ _ _ _ _ => (pts_one (pt_cmpR (niK K hr) (pv 4) (fldK K (pv 0) rfl) rfl))) (fun _ _ _ _ _ => (pv 4))) pa_nil)))) (pss_cons (ps_if (pt_cmpR op_gt (pe_callB (lenK K) (by rfl) m_len (by decide +kernel) (pa_cons (pv 2) pa_nil)) (pe_gint g_MOST_KINDS) (nomark _)) (pss_one SwX.ps_never) pss_nil) (pss_cons (ps_set (i := 3) sc_Cat_add.nd rfl (Or.inl rfl) (pe_tup (StX.pa_star (fldK K (pv 0) rfl) (StX.pa_star (pe_lc (own := [("rule", 5)]) (g := gName 5) rfl sc_Cat_add.nd (pi_tup (fldK K (pv 1) rfl)) (blkOk_by (N := sc_Cat_add_N) (sc := defScope s_Cat_add) (by decide +kernel)) (fun _ _ _ _ _ => pg_name (i := 5) sc_Cat_add.nd rfl (Or.inl rfl)) (fun _ _ _ _ _ => (pts_one (pt_cmpR (niK K hr) (pv 5) (fldK K (pv 0) rfl) rfl))) (fun _ _ _ _ _ => (pv 5))) pa_nil)))) (pss_cons (ps_if (pt_cmpR op_gt (pe_callB (lenK K) (by rfl) m_len (by decide +kernel) (pa_cons (pv 3) pa_nil)) (pe_gint g_MOST_RECIPES) (nomark _)) (pss_one SwX.ps_never) pss_nil) (pss_one (ps_ret (pe_cat2 M hr (pa_cons (pv 2) (pa_cons (pv 3) pa_nil)))))))))), ?_⟩)
  obtain ⟨v, u, ns, ms, rs, ts, rfl, hv, hu, lm, lt, okm, oktn, okrn, okn, okr, q⟩ := h
  refine q_drop (v := .non) (ev_call (vs := [u]) (ea_cons (ev_var rfl) ea_nil) fun H1 e1 R k E' => ⟨u, ms, ts, rfl, cat_mono _ _ _ e1 hu, k⟩) fun H1 e1 => ?_
  have hv1 := cat_mono _ _ _ e1 hv
  have hu1 := cat_mono _ _ _ e1 hu
  have lN : ns.length + ms.length ≤ 1000 := by
    have z := okn.len
    unfold addN at z
    rw [List.length_append] at z
    omega
  have lR : rs.length + ts.length ≤ 1000 := by
    have z := okr.len
    unfold addR at z
    rw [List.length_append] at z
    omega
  have oknn : ∀ n ∈ ns, NameOk n := fun n hn => okn.ok n (List.mem_append_left _ hn)
  refine q_asgY (P := fun v H' => ∃ p vs, v = .ref p ∧ SqT K H' p vs ∧ Paired (fun n v => NmF n v H') (addN ns ms) vs) (yi_star nmF_mono (yi_kinds M.c (ev_var rfl) hv1) (yi_lcTF (K := K) (fun m => !decide (m ∈ ns)) nmF_mono (yi_kinds M.c (ev_var rfl) hu1) (by omega) (fun _ => rfl) (fun _ => rfl) fun m x H2 e2 hm fx => et_B (niK_kind M.c (ev_is (ev_var rfl) fx) (ev_var rfl) (cat_mono _ _ _ e2 hv1) (okm m hm) oknn)) (Nat.le_trans (Nat.add_le_add_left (List.length_filter_le _ _) _) lN)) fun x2 H2 e2 z => ?_
  obtain ⟨p2, vs2, rfl, h2, pr2⟩ := z
  rw [nmF_all pr2] at h2
  have hv2 := cat_mono _ _ _ e2 hv1
  have hu2 := cat_mono _ _ _ e2 hu1
  refine q_when (b := false) (et_B (ev_is (ev_op (ev_lenL (ev_var rfl) (.inr h2)) ev_c rv_I0) (by
    have := okn.len
    rw [List.length_map, decide_eq_false (show ¬ (4 : Int) < ((addN ns ms).length : Int) by omega)]))) (fun z => nomatch z) fun _ H3 e3 => ?_
  have hv3 := cat_mono _ _ _ e3 hv2
  have hu3 := cat_mono _ _ _ e3 hu2
  refine q_asgY (P := fun v H' => ∃ p vs, v = .ref p ∧ SqT K H' p vs ∧ Paired (fun r v => RlF K r v H') (addR rs ts) vs) (yi_star rlF_mono (yi_rules M.c (ev_var rfl) hv3) (yi_lcTF (K := K) (fun r => !decide (r ∈ rs)) rlF_mono (yi_rules M.c (ev_var rfl) hu3) (by omega) (fun _ => rfl) (fun _ => rfl) fun r x H4 e4 hr fx => et_B (niK_rule M.c (ev_var rfl) fx (ev_var rfl) (cat_mono _ _ _ e4 hv3) (oktn r hr) okrn)) (Nat.le_trans (Nat.add_le_add_left (List.length_filter_le _ _) _) lR)) fun x4 H4 e4 z => ?_
  obtain ⟨p4, vs4, rfl, h4, pr4⟩ := z
  refine q_when (b := false) (et_B (ev_is (ev_op (ev_lenL (ev_var rfl) (.inr h4)) ev_c rv_I0) (by
    have := okr.len
    rw [← paired_len pr4, decide_eq_false (show ¬ (10 : Int) < ((addR rs ts).length : Int) by omega)]))) (fun z => nomatch z) fun _ H5 e5 => ?_
  refine s_retY (P := Cat K C (addN ns ms) (addR rs ts)) (yi_cat2 ((yi_ev (ev_var rfl)).imp fun v H6 e6 z => ⟨p2, z, ex_t (((e3.trans e4).trans e5).trans e6) h2⟩) ((yi_ev (ev_var rfl)).imp fun v H6 e6 z => by
    rw [z]
    exact Da.mono (e5.trans e6) (da_tuple h4 (paired_map (g := rulD) (F := fun d v => Da K H4 v d) pr4))) okn okr) fun v H6 e6 cat => q v H6 (((((e1.trans e2).trans e3).trans e4).trans e5).trans e6) cat
end
end K20
set_option Elab.async false
set_option linter.all false
set_option maxRecDepth 100000
set_option maxHeartbeats 4000000
namespace K20
open PySem PySem.Spec PyProof.Rows L2 Evl SwX
section
variable {P : Program} {w : World} {K : PySem.W.Frag} {mg : Str → Option Value} {base : Heap} {f : Addr} {fd : FuncData} {C : Addr}
theorem g_name {i : Nat} {v : V} {σ : L2.St} {H : Hp} {Q : L2.St → Hp → Prop} (h : Q (σ.set i (some v)) H) : gName i v σ H Q := h
def spWo (K : PySem.W.Frag) (C : Addr) : Sp := fun vs H Q _ => ∃ (v : V) (p : Addr) (ns : List Nm) (rs : List Rul) (slot : Nat), vs = [v, .ref p] ∧ Cat K C ns rs v H ∧ SqT K H p [.int (slot : Int)] ∧ slot < rs.length ∧ NamesOk ns ∧ RulesOk ns rs ∧ RulesOk ns (keepAt (fun i => !decide (i = slot)) 0 rs) ∧
  ∀ v H', Ex H H' → Cat K C ns (keepAt (fun i => !decide (i = slot)) 0 rs) v H' → Q v H'
theorem pl_int (i : Int) : Pl (.int i) := ⟨rfl, rfl⟩
theorem pl_ints1 (i : Int) : Pl (.tuple [.int i]) := ⟨rfl, rfl⟩
abbrev s_Cat_without : Stmt := inClass (top 26) 4
abbrev sc_Cat_without_N : List Str := ["self", "rows", "row", "at", "rule"]
theorem sc_Cat_without : FnScope sc_Cat_without_N ["self", "rows"] (defScope s_Cat_without) := ⟨rfl, rfl, rfl, by decide +kernel, rfl, by decide +kernel, by decide +kernel⟩
theorem body_Cat_without (M : CatM P w K mg base C) (m_len : mg "len" = none) (m_tuple : mg "tuple" = none) (m_enumerate : mg "enumerate" = none) (D_is_between : Has P w K mg base "is_between" 2 ["value", "low", "high"] spBetween) (cdv : Value) (A : Around) (outer : List Env) (s : Shared) (H : Hp) (vs : List V) (Q : VK) (E : XK) (hr : Room 6 (A.deeper (envOfC "Catalogue.without" (defScope s_Cat_without) s.heap.objs.size f cdv))) (h : spWo K C vs H Q E) :
    ∃ t, PSs (cxOf CX0 P w K mg base sc_Cat_without_N "Catalogue.without" (defScope s_Cat_without) f cdv A outer s H E) (defBody s_Cat_without) t ∧ t { nx := fun _ H' => Q .non H', rt := Q } (start sc_Cat_without_N vs) H := by
  refine ⟨_, PSs.nox
    (pss_cons (ps_for PassesOwn.never rfl (pi_tup (pv 1)) (pg_name (i := 2) sc_Cat_without.nd rfl (Or.inl rfl)) (pss_one (ps_if (pt_not (pt_val (pe_has D_is_between (hr.mono (by decide)) (pa_cons (pv 2) (pa_cons pe_int (pa_cons (pe_op op_sub (pe_callB (lenK K) (by rfl) m_len (by decide +kernel) (pa_cons (fldK K (pv 0) rfl) pa_nil)) pe_int) pa_nil)))))) (pss_one SwX.ps_never) pss_nil))) (pss_one (ps_ret (pe_cat2 M (hr.mono (by decide)) (pa_cons (fldK K (pv 0) rfl) (pa_cons (pe_callTy call_tuple_of (by rfl) m_tuple (by decide +kernel) (pa_cons (pe_lc (own := [("at", 3), ("rule", 4)]) (g := gTup K 2 (gCons (gName 3) (gCons (gName 4) gNil))) rfl sc_Cat_without.nd (pi_enumT (by rfl) m_enumerate (pa_cons (fldK K (pv 0) rfl) pa_nil)) (blkOk_by (N := sc_Cat_without_N) (sc := defScope s_Cat_without) (by decide +kernel)) (fun _ _ _ _ _ => pg_tup rfl (pgs_cons (pg_name (i := 3) sc_Cat_without.nd rfl (Or.inl rfl)) (pgs_cons (pg_name (i := 4) sc_Cat_without.nd rfl (Or.inl rfl)) pgs_nil))) (fun _ _ _ _ _ => (pts_one (pt_cmpR (niK K hr) (pv 3) (pv 1) rfl))) (fun _ _ _ _ _ => (pv 4))) pa_nil)) pa_nil)))))), ?_⟩
  obtain ⟨v, p, ns, rs, slot, rfl, hv, hp, lt, okn, okr, oke, q⟩ := h
  have hv' := hv
  obtain ⟨a, dx, p1, y, rfl, h1, h2, hy⟩ := hv'
  obtain ⟨q0, xs, rfl, hq, pr⟩ := da_ruls rs hy
  refine ⟨.ref p, rfl, p, rfl, ⟨_, hp⟩, for_tup (xs := [.int (slot : Int)]) (fun i σ' H' => (∃ a2 a3 a4, σ' = [some (.ref a), some (.ref p), a2, a3, a4]) ∧ Ex H H') ⟨⟨_, _, _, rfl⟩, Ex.refl H⟩ (fun i σ' H' _ z => ex_t z.2 hp) (fun i x σ' H' hx z => ?_) fun σ' H' z => ?_⟩
  · obtain ⟨⟨a2, a3, a4, rfl⟩, e⟩ := z
    have ex : x = .int (slot : Int) := by
      have := List.mem_of_getElem? hx
      exact List.mem_singleton.mp this
    subst ex
    refine g_name ?_
    refine s_if (b := false) (et_not (a := true) (et_B (ev_is (ev_call (vs := [.int (slot : Int), .int 0, .int ((rs.length : Int) - 1)]) (ea_cons (ev_var rfl) (ea_cons ev_c (ea_cons (ev_is (ev_op (ev_is (ev_lenL (ev_fldC M.c M.c.n2 (ev_var rfl) (e _ _ h1) rfl) (.inr (ex_t e hq))) (by rw [← paired_len pr])) ev_c rv_I0) rfl) ea_nil))) fun H2 e2 R k E' => ⟨(slot : Int), 0, (rs.length : Int) - 1, rfl, k⟩) (by
      rw [decide_eq_true (show (0 : Int) ≤ (slot : Int) by omega), decide_eq_true (show (slot : Int) ≤ (rs.length : Int) - 1 by omega)]
      rfl)))) (fun z => nomatch z) fun _ H2 e2 => ⟨⟨_, _, _, rfl⟩, e.trans e2⟩
  · obtain ⟨⟨a2, a3, a4, rfl⟩, e⟩ := z
    have hv1 := cat_mono _ _ _ e hv
    refine s_retY (P := Cat K C ns (keepAt (fun i => !decide (i = slot)) 0 rs)) (yi_cat2 ((yi_kinds M.c (ev_var rfl) hv1).imp fun v H6 e6 z => ?_) ((yi_tupOf (K := K) (F := RlF K) rlF_mono (yi_lcET (K := K) (F := RlF K) (is := rs) (fun i => !decide (i = slot)) rlF_mono (yi_rules M.c (ev_var rfl) hv1) (by have := okr.len; omega) (fun _ _ => rfl) (fun _ _ => rfl) fun i x H2 e2 hi => et_B (ev_op (ev_var rfl) (ev_var rfl) (rv_niDat (b := decide (i = slot)) (d := .int (i : Nat)) (c := .tuple [.int (slot : Int)]) (.inr rfl) (.int _) (da_tuple (ex_t (e.trans e2) hp) (.cons (.int _) .nil)) (pl_int _) (pl_ints1 _) ?_)))).imp fun v H6 e6 z => ?_) okn oke) fun v H6 e6 cat => q v H6 (e.trans e6) cat
    · obtain ⟨c, vs, rfl, hc, pc⟩ := z
      rw [nmF_all pc] at hc
      exact ⟨c, rfl, hc⟩
    · show (((slot : Int) == (i : Int)) || false) = decide (i = slot)
      rw [Bool.or_false, Bool.eq_iff_iff]
      simp
      omega
    · obtain ⟨c, vs, rfl, hc, pc⟩ := z
      exact da_tuple (.inl (.inl hc)) (paired_map (g := rulD) (F := fun d v => Da K H6 v d) pc)
end
end K20
set_option Elab.async false
set_option linter.all false
set_option maxRecDepth 100000
set_option maxHeartbeats 1000000
/-! plain laws of the sums of catalogues -/
namespace K20
open PySem PySem.Spec PyProof.Rows L2 Evl SwX
theorem filter_in {α : Type} [DecidableEq α] {a b : List α} (h : ∀ x ∈ b, x ∈ a) : (b.filter fun x => !decide (x ∈ a)) = [] := by
  rw [List.filter_eq_nil_iff]
  intro x hx
  simp [h x hx]
theorem filter_out {α : Type} [DecidableEq α] {a b : List α} (h : ∀ x ∈ b, x ∉ a) : (b.filter fun x => !decide (x ∈ a)) = b := by
  rw [List.filter_eq_self]
  intro x hx
  simp [h x hx]
theorem addN_same {a b : List Nm} (h : ∀ x ∈ b, x ∈ a) : addN a b = a := by
  unfold addN
  rw [List.filter_eq_nil_iff.mpr (fun x hx => by simp [h x hx]), List.append_nil]
theorem addN_new {a b : List Nm} (h : ∀ x ∈ b, x ∉ a) : addN a b = a ++ b := by
  unfold addN
  rw [List.filter_eq_self.mpr (fun x hx => by simp [h x hx])]
theorem addR_same {a b : List Rul} (h : ∀ x ∈ b, x ∈ a) : addR a b = a := by
  unfold addR
  rw [List.filter_eq_nil_iff.mpr (fun x hx => by simp [h x hx]), List.append_nil]
theorem addR_new {a b : List Rul} (h : ∀ x ∈ b, x ∉ a) : addR a b = a ++ b := by
  unfold addR
  rw [List.filter_eq_self.mpr (fun x hx => by simp [h x hx])]
theorem addR_nil (b : List Rul) : addR [] b = b := addR_new fun _ _ h => nomatch h
/-- one more of a prefix -/
theorem addR_take {rs : List Rul} (d : rs.Nodup) {k : Nat} {r : Rul} (h : rs[k]? = some r) : addR (rs.take k) [r] = rs.take (k + 1) := by
  rw [addR_new (fun x hx => by rw [List.mem_singleton.mp hx]; exact not_before d h), List.take_succ, h]
  rfl
theorem addN_take {ns : List Nm} (d : ns.Nodup) {k : Nat} {n : Nm} (h : ns[k]? = some n) : addN (ns.take k) [n] = ns.take (k + 1) := by
  rw [addN_new (fun x hx => by rw [List.mem_singleton.mp hx]; exact not_before d h), List.take_succ, h]
  rfl
theorem mem_addR {a b : List Rul} {x : Rul} : x ∈ addR a b ↔ x ∈ a ∨ x ∈ b := by
  unfold addR
  simp only [List.mem_append, List.mem_filter, Bool.not_eq_true', decide_eq_false_iff_not]
  constructor
  · rintro (h | ⟨h, _⟩)
    · exact .inl h
    · exact .inr h
  · rintro (h | h)
    · exact .inl h
    · by_cases z : x ∈ a
      · exact .inl z
      · exact .inr ⟨h, z⟩
theorem nodup_addR {a b : List Rul} (ha : a.Nodup) (hb : b.Nodup) : (addR a b).Nodup := by
  unfold addR
  rw [List.nodup_append]
  refine ⟨ha, hb.filter _, fun x hx y hy e => ?_⟩
  rw [List.mem_filter] at hy
  have : y ∉ a := by simpa using hy.2
  exact this (e ▸ hx)
/-- whichever way three are added -/
theorem addR_assoc (a b c : List Rul) : addR (addR a b) c = addR a (addR b c) := by
  have e1 : (c.filter fun x => !decide (x ∈ addR a b)) = (c.filter fun x => !decide (x ∈ b)).filter fun x => !decide (x ∈ a) := by
    rw [List.filter_filter]
    congr 1
    funext x
    have := mem_addR (a := a) (b := b) (x := x)
    by_cases ha : x ∈ a <;> by_cases hb : x ∈ b <;> simp [this, ha, hb]
  show addR a b ++ (c.filter fun x => !decide (x ∈ addR a b)) = a ++ ((b ++ c.filter fun x => !decide (x ∈ b)).filter fun x => !decide (x ∈ a))
  rw [e1, List.filter_append, ← List.append_assoc]
  rfl
theorem len_le {a b : List Rul} (d : a.Nodup) (h : ∀ x ∈ a, x ∈ b) : a.length ≤ b.length := List.Nodup.length_le_of_subset d h
/-- what is made of some of good rules is good -/
theorem rules_sub {ns ms : List Nm} {a b : List Rul} (h : RulesOk ns b) (d : a.Nodup) (s : ∀ x ∈ a, x ∈ b) (m : ∀ n ∈ ns, n ∈ ms) : RulesOk ms a :=
  ⟨Nat.le_trans (len_le d s) h.len, d, fun r hr => let o := h.ok r (s r hr); ⟨m _ o.wd, o.lo, o.hi, o.len, fun p hp => m _ (o.pt p hp)⟩⟩
theorem names_rev {ns : List Nm} (h : NamesOk ns) : NamesOk ns.reverse := ⟨by simpa using h.ne, by rw [List.length_reverse]; exact h.len, by
  have z := h.nd
  unfold List.Nodup at z ⊢
  rw [List.pairwise_reverse]
  exact z.imp fun h e => h e.symm, fun n hn => h.ok n (List.mem_reverse.mp hn)⟩
theorem names_sub {ns ms : List Nm} (h : NamesOk ns) (ne : ms ≠ []) (d : ms.Nodup) (s : ∀ n ∈ ms, n ∈ ns) : NamesOk ms :=
  ⟨ne, Nat.le_trans (List.Nodup.length_le_of_subset d s) h.len, d, fun n hn => h.ok n (s n hn)⟩
/-- all but the slot -/
theorem keep_all {α : Type} (b : Nat → Bool) : ∀ (l : List α) (k : Nat), (∀ i, k ≤ i → b i = true) → keepAt b k l = l
  | [], _, _ => rfl
  | x :: l, k, h => by
    show (if b k = true then x :: keepAt b (k + 1) l else keepAt b (k + 1) l) = _
    rw [if_pos (h k (Nat.le_refl _)), keep_all b l (k + 1) fun i hi => h i (by omega)]
theorem keep_slot {α : Type} : ∀ (l : List α) (k slot : Nat), keepAt (fun i => !decide (i = slot + k)) k l = l.take slot ++ l.drop (slot + 1)
  | [], _, _ => by simp [keepAt]
  | x :: l, k, 0 => by
    show (if (!decide (k = 0 + k)) = true then x :: keepAt _ (k + 1) l else keepAt _ (k + 1) l) = _
    rw [if_neg (by simp), keep_all _ _ _ fun i hi => by simp; omega]
    simp
  | x :: l, k, slot + 1 => by
    show (if (!decide (k = slot + 1 + k)) = true then x :: keepAt _ (k + 1) l else keepAt _ (k + 1) l) = _
    have e : (fun i => !decide (i = slot + 1 + k)) = fun i => !decide (i = slot + (k + 1)) := by
      funext i
      rw [show slot + 1 + k = slot + (k + 1) by omega]
    rw [if_pos (by simp), e, keep_slot l (k + 1) slot]
    rfl
end K20
set_option Elab.async false
set_option linter.all false
set_option maxRecDepth 100000
set_option maxHeartbeats 1000000
/-! catalogues in the law's text: their operators, told by one structure -/
namespace K20
open PySem PySem.Spec PyProof.Rows L2 Evl SwX
/-- all that the law uses of the class -/
structure CatO (P : Program) (w : World) (K : PySem.W.Frag) (mg : Str → Option Value) (base : Heap) (C : Addr) : Prop where
  M : CatM P w K mg base C
  first : PySem.W.selfFirst K C = true
  add : ∃ f fd, FnOk P w K mg base CX0 7 f fd ["self", "other"] (spAdd K C) ∧ Spc K C "__add__" f ∧ Binds K fd ["self", "other"] []
  eq : ∃ f fd, FnOk P w K mg base CX0 1 f fd ["self", "other"] (spCatEq K C) ∧ Spc K C "__eq__" f ∧ Binds K fd ["self", "other"] [] ∧ eqOnly K C f = true
  str : ∃ f fd, FnOk P w K mg base CX0 1 f fd ["self"] (spCatStr K C) ∧ Spc K C "__str__" f ∧ Binds K fd ["self"] []
  len : ∃ f fd, FnOk P w K mg base CX0 1 f fd ["self"] (spCatLen K C) ∧ Spc K C "__len__" f ∧ Binds K fd ["self"] []
  bool : ∃ f fd, FnOk P w K mg base CX0 1 f fd ["self"] (spCatBool K C) ∧ Spc K C "__bool__" f ∧ Binds K fd ["self"] []
section
variable {X : Cx} {C : Addr} (K : PySem.W.Frag)
theorem catAdd (O : CatO X.prog X.w K X.mg X.base C) (hr : Room 9 X.A) (h : X.K = K := by rfl) : OpR X (binaryOp .Add) (rOwn C (spAdd K C) E0) := by
  subst h
  obtain ⟨f, fd, F, S, b⟩ := O.add
  exact op_own F S O.first b pass0 (hr.mono (by decide))
theorem catEq (O : CatO X.prog X.w K X.mg X.base C) (hr : Room 9 X.A) (h : X.K = K := by rfl) : OpR X (compareOp .Eq) (rOwnB C (spCatEq K C) E0 id) := by
  subst h
  obtain ⟨f, fd, F, S, b, _⟩ := O.eq
  exact op_eqOwn F S b pass0 (hr.mono (by decide))
theorem catNe (O : CatO X.prog X.w K X.mg X.base C) (hr : Room 9 X.A) (h : X.K = K := by rfl) : OpR X (compareOp .NotEq) (rOwnB C (spCatEq K C) E0 not) := by
  subst h
  obtain ⟨f, fd, F, S, b, e⟩ := O.eq
  exact op_neOwn F e b pass0 ((hr.mono (show 2 ≤ 9 by decide)).in1)
theorem catStr (O : CatO X.prog X.w K X.mg X.base C) (hr : Room 9 X.A) (h : X.K = K := by rfl) : CallR X (.type "str") (rStrOwn C (spCatStr K C) E0) := by
  subst h
  obtain ⟨f, fd, F, S, b⟩ := O.str
  exact call_strOwn F S b pass0 ((hr.mono (show 3 ≤ 9 by decide)).in1.in1)
theorem catLen (O : CatO X.prog X.w K X.mg X.base C) (hr : Room 9 X.A) (h : X.K = K := by rfl) : CallR X (.builtin "len") (rLenOwn C (spCatLen K C) E0) := by
  subst h
  obtain ⟨f, fd, F, S, b⟩ := O.len
  exact call_lenOwn F S b pass0 ((hr.mono (show 2 ≤ 9 by decide)).in1)
theorem catBool (O : CatO X.prog X.w K X.mg X.base C) (hr : Room 9 X.A) (h : X.K = K := by rfl) : CallR X (.type "bool") (rBoolOwn C (spCatBool K C) E0) := by
  subst h
  obtain ⟨f, fd, F, S, b⟩ := O.bool
  exact call_boolOwn F S b pass0 ((hr.mono (show 3 ≤ 9 by decide)).in1.in1)
end
/-! ### evaluation -/
section
variable {K : PySem.W.Frag} {C : Addr} {σ : L2.St} {H : Hp} {te ta tb : TE} {v : V} {ns ms : List Nm} {rs ts : List Rul}
theorem yi_cat {v : V} (h : Ev te σ H v) (c : Cat K C ns rs v H) : Yi te σ H (Cat K C ns rs) := (yi_ev h).imp fun x H1 e1 z => by
  rw [z]
  exact cat_mono _ _ _ e1 c
theorem yi_add (ha : Yi ta σ H (Cat K C ns rs)) (hb : Yi tb σ H (Cat K C ms ts)) (okm : NamesOk ms) (okt : ∀ r ∈ ts, RulNm r) (okr : ∀ r ∈ rs, RulNm r) (lt : ts.length ≤ 20) (okn : NamesOk (addN ns ms)) (ok : RulesOk (addN ns ms) (addR rs ts)) : Yi (tOp (rOwn C (spAdd K C) E0) ta tb) σ H (Cat K C (addN ns ms) (addR rs ts)) := fun H1 e1 Q q =>
  ha H1 e1 _ fun x H2 e2 cx => hb H2 (e1.trans e2) _ fun y H3 e3 cy => by
    have cx' := cat_mono _ _ _ e3 cx
    obtain ⟨a, rfl, ia⟩ := cx'.is
    obtain ⟨b, rfl, ib⟩ := cy.is
    refine ⟨a, b, rfl, rfl, ia, ib, _, _, ns, ms, rs, ts, rfl, cx', cy, by have := okm.len; omega, lt, okm.ok, okt, okr, okn, ok, fun v H4 e4 c => ?_⟩
    have c' := c
    obtain ⟨z, _, _, _, rfl, _⟩ := c'
    exact ⟨⟨z, rfl⟩, q _ H4 ((e2.trans e3).trans e4) c⟩
theorem ev_eqC {g : Bool → Bool} (ha : Yi ta σ H (Cat K C ns rs)) (hb : Yi tb σ H (Cat K C ms ts)) : Ev (tOp (rOwnB C (spCatEq K C) E0 g) ta tb) σ H (.bl (g (decide (textL ns rs = textL ms ts)))) := fun H1 e1 Q q =>
  ha H1 e1 _ fun x H2 e2 cx => hb H2 (e1.trans e2) _ fun y H3 e3 cy => by
    have cx' := cat_mono _ _ _ e3 cx
    obtain ⟨a, rfl, ia⟩ := cx'.is
    obtain ⟨b, rfl, ib⟩ := cy.is
    exact ⟨a, b, rfl, rfl, ia, ib, _, _, ns, ms, rs, ts, rfl, cx', cy, fun H4 e4 => ⟨_, rfl, q H4 ((e2.trans e3).trans e4)⟩⟩
theorem ev_strC (ha : Yi ta σ H (Cat K C ns rs)) : Ev (tCB (rStrOwn C (spCatStr K C) E0) (tCons ta tNil)) σ H (.str (SX.S (textL ns rs))) := fun H1 e1 Q q =>
  ha H1 e1 _ fun x H2 e2 cx => by
    have cx' := cx
    obtain ⟨a, rfl, ia⟩ := cx'.is
    exact ⟨a, rfl, ia, _, ns, rs, rfl, cx, fun H3 e3 => ⟨_, rfl, q H3 (e2.trans e3)⟩⟩
theorem ev_lenC (ha : Yi ta σ H (Cat K C ns rs)) (l : rs.length ≤ 1000) : Ev (tCB (rLenOwn C (spCatLen K C) E0) (tCons ta tNil)) σ H (.int (rs.length : Nat)) := fun H1 e1 Q q =>
  ha H1 e1 _ fun x H2 e2 cx => by
    have cx' := cx
    obtain ⟨a, rfl, ia⟩ := cx'.is
    exact ⟨a, rfl, ia, _, ns, rs, rfl, cx, fun H3 e3 => ⟨_, rfl, by omega, by omega, q H3 (e2.trans e3)⟩⟩
theorem ev_boolC (ha : Yi ta σ H (Cat K C ns rs)) : Ev (tCB (rBoolOwn C (spCatBool K C) E0) (tCons ta tNil)) σ H (.bl true) := fun H1 e1 Q q =>
  ha H1 e1 _ fun x H2 e2 cx => by
    have cx' := cx
    obtain ⟨a, rfl, ia⟩ := cx'.is
    exact ⟨a, rfl, ia, _, ns, rs, rfl, cx, fun H3 e3 => ⟨_, rfl, q H3 (e2.trans e3)⟩⟩
end
end K20
set_option Elab.async false
set_option linter.all false
set_option maxRecDepth 100000
set_option maxHeartbeats 4000000
namespace K20
open PySem PySem.Spec PyProof.Rows L2 Evl SwX
section
variable {P : Program} {w : World} {K : PySem.W.Frag} {mg : Str → Option Value} {base : Heap} {f : Addr} {fd : FuncData} {C : Addr}
/-- Catalogue.read -/
structure CatR (P : Program) (w : World) (K : PySem.W.Frag) (mg : Str → Option Value) (base : Heap) (C : Addr) : Prop where
  ex : ∃ (mc : Value) (p g : Addr), ClX.CRead K C mc ∧ ClX.CMet K C mc "read" p g ∧ FnR P w K mg base CX0 7 g (spRead K C)
theorem pe_cread {X : Cx} {C : Addr} {e : Expr} {es : List Expr} {t : TA} {q apos pos : Pos} {pl : Sem Bool} (K : PySem.W.Frag) (R : CatR X.prog X.w K X.mg X.base C) (gC : X.mg "Catalogue" = some (.ref C)) (hr : Room 7 X.A) (ha : PA X (e :: es) t) (hK : X.K = K := by rfl) (hg : Gl X "Catalogue" := by rfl)
    (hst : starEach (e :: es) X.env = (false, eval e X.env) :: starEach es X.env := by rfl) (hpl : (backTo pos (starEach es X.env)).any (·.1) = false := by rfl)
    (ht : eval (.Call (.Attribute (.Name "Catalogue" q) "read" apos) (e :: es) [] pos) X.env = (do
      let ov ← eval (.Name "Catalogue" q) X.env
      standAt apos.atName
      let (f, first) ← holding [ov] (getMethod ov "read" pl)
      callWith pos f first (backTo pos (starEach (e :: es) X.env)) (backToKw pos (keywordEach [] X.env))) := by rfl) : PE X (.Call (.Attribute (.Name "Catalogue" q) "read" apos) (e :: es) [] pos) (ClX.tCMeth C (spRead K C) E0 (tC (.ref C)) t) := by
  subst hK
  obtain ⟨mc, p, g, r, c, F⟩ := R.ex
  exact ClX.pe_cmeth (pl := pl) (pe_own gC hg) r c F hr pass0 ha hst hpl ht
def spGrown (K : PySem.W.Frag) : Sp := fun vs H Q _ => ∃ (p : Addr) (x : V) (ns : List Nm) (rs : List Rul), vs = [.ref p, x] ∧ SqT K H p (ns.map nmV) ∧ Da K H x (rulsD rs) ∧ NamesOk ns ∧ RulesOk ns rs ∧ ∀ H', Ex H H' → Q (.bl true) H'
end
end K20
set_option Elab.async false
set_option linter.all false
set_option maxRecDepth 100000
set_option maxHeartbeats 1000000
/-! catalogues beside a list that grows; texts and numbers as data -/
namespace K20
open PySem PySem.Spec PyProof.Rows L2 Evl SwX
section
variable {K : PySem.W.Frag} {C : Addr} {H : Hp} {g a : Addr} {zs xs : List V} {ns : List Nm} {rs : List Rul}
theorem sqT_less (hg : H g = some (.lst zs)) (h : SqT K H a xs) : SqT K (less g H) a xs := by
  rcases h with (h | ⟨o, h⟩) | h
  · have ne : a ≠ g := fun z => by rw [z, hg] at h; cases h
    exact .inl (.inl (by rw [less_ne ne]; exact h))
  · have ne : a ≠ g := fun z => by rw [z, hg] at h; cases h
    exact .inl (.inr ⟨o, by rw [less_ne ne]; exact h⟩)
  · exact .inr h
theorem rul_less {v : V} {r : Rul} (hg : H g = some (.lst zs)) (h : Da K H v (rulD r)) : Da K (less g H) v (rulD r) := by
  obtain ⟨b, c, rfl, hb, hc⟩ := da_rul h
  exact da_tuple (sqT_less hg hb) (.cons (.str _) (.cons (.int _) (.cons (da_nms (sqT_less hg hc)) .nil)))
theorem paired_imp {α β : Type} {F G : α → β → Prop} (m : ∀ i v, F i v → G i v) : ∀ {is : List α} {vs : List β}, Paired F is vs → Paired G is vs
  | _, _, .nil => .nil
  | _, _, .cons h t => .cons (m _ _ h) (paired_imp m t)
theorem ruls_less {v : V} (hg : H g = some (.lst zs)) (h : Da K H v (rulsD rs)) : Da K (less g H) v (rulsD rs) := by
  obtain ⟨q, ys, rfl, hq, pr⟩ := da_ruls rs h
  exact da_tuple (sqT_less hg hq) (paired_map (g := rulD) (F := fun d v => Da K (less g H) v d) (paired_imp (fun r v z => rul_less hg z) pr))
theorem cat_less {v : V} (hg : H g = some (.lst zs)) (h : Cat K C ns rs v H) : Cat K C ns rs v (less g H) := by
  obtain ⟨b, dx, p, y, rfl, h1, h2, h3⟩ := h
  have ne : b ≠ g := fun z => by rw [z, hg] at h1; cases h1
  exact ⟨b, dx, p, y, rfl, by rw [less_ne ne]; exact h1, sqT_less hg h2, ruls_less hg h3⟩
theorem less_up {o : HO} : Ex (less g H) (upd H g o) := by
  intro b u hb
  have ne : b ≠ g := fun z => by rw [z, less_at] at hb; cases hb
  rw [upd_ne ne]
  rw [less_ne ne] at hb
  exact hb
theorem cat_up {v : V} {o : HO} (hg : H g = some (.lst zs)) (h : Cat K C ns rs v H) : Cat K C ns rs v (upd H g o) := cat_mono _ _ _ less_up (cat_less hg h)
end
/-! ### signs of texts -/
theorem mem_joinL {c : Nat} {sep : List Nat} : ∀ {l : List (List Nat)}, c ∈ TL.joinL sep l → c ∈ sep ∨ ∃ p ∈ l, c ∈ p
  | [], h => nomatch h
  | [x], h => .inr ⟨x, List.mem_cons_self, h⟩
  | x :: y :: l, h => by
    have h : c ∈ x ++ (sep ++ TL.joinL sep (y :: l)) := h
    rcases List.mem_append.mp h with h | h
    · exact .inr ⟨x, List.mem_cons_self, h⟩
    · rcases List.mem_append.mp h with h | h
      · exact .inl h
      · rcases mem_joinL (l := y :: l) h with h | ⟨p, hp, h⟩
        · exact .inl h
        · exact .inr ⟨p, List.mem_cons_of_mem _ hp, h⟩
theorem name_small {n : Nm} (h : NameOk n) {c : Nat} (hc : c ∈ n) : c < 128 := by
  have := h.sg c hc
  unfold okSign at this
  omega
theorem row_small {r : Rul} (h : RowOk r) {c : Nat} (hc : c ∈ rowL r) : c < 128 := by
  unfold rowL at hc
  rcases List.mem_append.mp hc with z | z
  · exact name_small h.nm.1 z
  · rcases List.mem_append.mp z with z | z
    · rw [List.mem_singleton.mp z]
      decide
    · rcases List.mem_append.mp z with z | z
      · rw [TL.numL_lt (by have := h.hi; omega)] at z
        rw [List.mem_singleton.mp z]
        have := h.hi
        omega
      · unfold tailL at z
        split at z
        · exact nomatch z
        · rcases List.mem_append.mp z with z | z
          · rcases List.mem_cons.mp z with z | z
            · rw [z]
              decide
            · rw [List.mem_singleton.mp z]
              decide
          · rcases mem_joinL z with z | ⟨p, hp, z⟩
            · rw [List.mem_singleton.mp z]
              decide
            · exact name_small (h.nm.2 p hp) z
theorem text_small {ns : List Nm} {rs : List Rul} (hn : ∀ n ∈ ns, NameOk n) (hr : ∀ r ∈ rs, RowOk r) {c : Nat} (hc : c ∈ textL ns rs) : c < 128 := by
  unfold textL at hc
  rcases mem_joinL hc with z | ⟨p, hp, z⟩
  · rw [List.mem_singleton.mp z]
    decide
  · rcases List.mem_cons.mp hp with rfl | hp
    · unfold headL at z
      rcases mem_joinL z with z | ⟨p, hp, z⟩
      · rw [List.mem_singleton.mp z]
        decide
      · rcases List.mem_cons.mp hp with rfl | hp
        · have : ∀ c ∈ kindsL, c < 128 := by decide
          exact this c z
        · exact name_small (hn p hp) z
    · obtain ⟨r, hr2, rfl⟩ := List.mem_map.mp hp
      exact row_small (hr r hr2) z
/-! ### lists of texts, of numbers, as data -/
theorem str_lay {l : List Nat} (h : ∀ c ∈ l, c < 128) : (nmD l).canLay0 = true := by
  show PyData.strOk (SX.S l) = true
  unfold PyData.strOk
  rw [← Array.all_toList]
  show l.all _ = true
  rw [List.all_eq_true]
  exact fun c hc => decide_eq_true (by have := h c hc; omega)
theorem pl_strs {ls : List (List Nat)} (h : ∀ l ∈ ls, ∀ c ∈ l, c < 128) : Pl (.list (ls.map nmD)) := ⟨by simp only [PyData.hasDict]; exact nms_nod ls, shaped_of (by simp only [PyData.canLay0]; exact lay_all fun l hl => str_lay (h l hl)) (by rw [dep_l]; have := nms_dep ls; omega)⟩
def intD (i : Int) : PyData := .int i
theorem pl_intsL (is : List Int) : Pl (.list (is.map intD)) := by
  have z : PyData.depthAll (is.map intD) ≤ 0 := depth_all fun i _ => Nat.le_refl _
  exact ⟨by simp only [PyData.hasDict]; exact nodict_all fun i _ => rfl, shaped_of (by simp only [PyData.canLay0]; exact lay_all fun i _ => rfl) (by rw [dep_l]; omega)⟩
theorem ints_eqv : ∀ is : List Int, PyData.eqvAll (is.map intD) (is.map intD) = true
  | [] => by simp [PyData.eqvAll]
  | i :: is => by
    have h := ints_eqv is
    simp only [List.map_cons, PyData.eqvAll, h, Bool.and_true]
    show (i == i) = true
    simp
theorem da_ints {K : PySem.W.Frag} {H : Hp} {p : Addr} {is : List Int} (h : H p = some (.lst (is.map V.int))) : Da K H (.ref p) (.list (is.map intD)) := da_list h (by
  clear h
  induction is with
  | nil => exact .nil
  | cons i is ih => exact .cons (.int _) ih)
end K20
set_option Elab.async false
set_option linter.all false
set_option maxRecDepth 100000
set_option maxHeartbeats 4000000
namespace K20
open PySem PySem.Spec PyProof.Rows L2 Evl SwX
section
variable {P : Program} {w : World} {K : PySem.W.Frag} {mg : Str → Option Value} {base : Heap} {f : Addr} {fd : FuncData} {C : Addr}
theorem yi_ofU {σ : L2.St} {H : Hp} {te : TE} {xs : List V} (h : EvU te σ H xs) : Yi te σ H fun v H' => ∃ p, v = .ref p ∧ H' p = some (.tup xs) := fun H1 e1 Q q => h H1 e1 _ fun p H2 _ e2 h2 => q _ H2 e2 ⟨p, rfl, h2⟩
theorem prefix_ok {ns : List Nm} {rs : List Rul} (h : RulesOk ns rs) (k : Nat) : RulesOk ns (rs.take k) := rules_sub h ((List.take_sublist k rs).nodup h.nd) (fun x hx => List.mem_of_mem_take hx) fun _ h => h
theorem range_snoc (n : Nat) : List.range (n + 1) = List.range n ++ [n] := List.range_succ
/-- the texts of the prefixes -/
def preT (ns : List Nm) (rs : List Rul) (k : Nat) : List Nat := textL ns (rs.take k)
theorem given_strs (n : Nat) (T : Nat → List Nat) : given n (fun _ => true) (fun k => V.str (SX.S (T k))) = ((List.range n).map T).map nmV := by
  unfold given
  rw [List.filter_eq_self.mpr (fun _ _ => rfl), List.map_map] <;> rfl
theorem given_ints (n : Nat) (T : Nat → Int) : given n (fun _ => true) (fun k => V.int (T k)) = ((List.range n).map T).map V.int := by
  unfold given
  rw [List.filter_eq_self.mpr (fun _ _ => rfl), List.map_map] <;> rfl
theorem et_yes {σ : L2.St} {H : Hp} : EvT tYes σ H true := fun H1 _ Q q => q H1 (Ex.refl H1)
theorem el_lcZip {a b : Addr} {xs ys : List V} {n j1 j2 : Nat} {ta : TA} {te : TE} {σ : L2.St} {H : Hp} {vs : List Nat} (f : Nat → V) (h : EvA ta σ H [.ref a, .ref b]) (hx : SqL K H a xs) (hy : SqL K H b ys) (hn : n = min xs.length ys.length) (hz : n ≤ 40000)
    (hw : ∀ x y, wipe (((wipe σ vs).set j1 (some x)).set j2 (some y)) vs = wipe σ vs)
    (he : ∀ i x y H1, Ex H H1 → xs[i]? = some x → ys[i]? = some y → Ev te (((wipe σ vs).set j1 (some x)).set j2 (some y)) H1 (f i)) :
    EvL (tLc (iZip K ta) (gTup K 2 (gCons (gName j1) (gCons (gName j2) gNil))) tYes te vs) σ H (given n (fun _ => true) f) := fun H0 e Q q => h H0 e _ fun H1 e1 => ⟨a, b, xs, ys, rfl, ex_l (e.trans e1) hx, ex_l (e.trans e1) hy, fun Dl hD => by
  refine lc_it (walk_zip hn) (Cw H1 (fun _ => true) f Dl) ⟨hD, Ex.new hD, upd_same⟩ (fun i H' _ p => ⟨ex_l ((e.trans e1).trans p.2.1) hx, ex_l ((e.trans e1).trans p.2.1) hy⟩) (fun i v H' H2 hi p y => ?_) (fun H' p => q Dl H' (fresh_back e1 p.1) (e1.trans p.2.1) p.2.2)
  obtain ⟨T, x, y, rfl, nT, rfl, h1, h2⟩ := y
  exact ⟨T, _, rfl, .inl (.inl upd_same), rfl, _, _, rfl, _, _, rfl, rfl, hw _ _, cw_turn ⟨p.1, p.2.1.trans (Ex.new nT), (Ex.new nT) _ _ p.2.2⟩ (by omega) et_yes (fun _ => he i x y H1 (e.trans e1) h1 h2)⟩⟩
theorem el_listRg {σ : L2.St} {H : Hp} {te : TE} {n : Nat} (h : Ev te σ H (.int (n : Int))) (hn : n ≤ 40000) : EvL (tLstRg (tRg1 te)) σ H (((List.range n).map fun i : Nat => (i : Int)).map V.int) := fun H1 e1 Q q => h H1 e1 _ fun H2 e2 => ⟨(n : Int), rfl, RgOk.of_le (by omega) (by omega) (by omega) (by omega), fun c hc => q c _ (fresh_back e2 hc) (e2.trans (Ex.new hc)) (by
  rw [upd_same]
  unfold rgV
  simp [Function.comp_def])⟩
abbrev s__law_grown_right : Stmt := top 37
abbrev sc__law_grown_right_N : List Str := ["_law_names_here", "_law_rules_here", "_law_box", "_law_grown", "_law_k", "_law_due", "_law_kinds", "_law_name_here", "_law_one", "_law_line"]
theorem sc__law_grown_right : FnScope sc__law_grown_right_N ["_law_names_here", "_law_rules_here"] (defScope s__law_grown_right) := ⟨rfl, rfl, rfl, by decide +kernel, rfl, by decide +kernel, by decide +kernel⟩
theorem ok_grown (O : CatO P w K mg base C) (R : CatR P w K mg base C) (D__law_text : Has P w K mg base "_law_text" 1 ["_law_names_here", "_law_rules_here"] (spText K)) (m_len : mg "len" = none) (m_range : mg "range" = none) (m_str : mg "str" = none) (m_list : mg "list" = none) (m_all : mg "all" = none) (m_zip : mg "zip" = none) (F : FnP K "_law_grown_right" s__law_grown_right f fd) : FnOk P w K mg base CX0 10 f fd ["_law_names_here", "_law_rules_here"] (spGrown K) := by
  refine F.ok sc__law_grown_right (fun vs H Q E h => by obtain ⟨p, x, ns, rs, rfl, _⟩ := h; rfl) (fun cdv A outer s H vs Q E hr h => ⟨_, PSs.nox
    (pss_cons (ps_set (i := 2) sc__law_grown_right.nd rfl (Or.inl rfl) (pe_cat1 O.M (hr.mono (by decide)) (pa_cons (pv 0) pa_nil))) (pss_cons (ps_set (i := 3) sc__law_grown_right.nd rfl (Or.inl rfl) (pe_lst (pa_cons (pv 2) pa_nil))) (pss_cons (ps_for PassesOwn.never rfl (pi_range1 (by rfl) m_range (pa_cons (pe_callB (lenK K) (by rfl) m_len (by decide +kernel) (pa_cons (pv 1) pa_nil)) pa_nil)) (pg_name (i := 4) sc__law_grown_right.nd rfl (Or.inl rfl)) (pss_cons (ps_set (i := 2) sc__law_grown_right.nd rfl (Or.inl rfl) (pe_op (catAdd K O hr) (pv 2) (pe_cat2 O.M (hr.mono (by decide)) (pa_cons (pv 0) (pa_cons (pe_tup (pa_cons (pe_ix (ixK K) (pv 1) (pv 4) (fun _ _ => rfl)) pa_nil)) pa_nil))))) (pss_one (ps_expr (pe_bm PySem.F.plainAttrs_list PySem.F.slot_list_append PySem.F.type_list_append mt_append (pv 3) (pa_cons (pv 2) pa_nil)))))) (pss_cons (ps_setLc (i := 5) (own := [("_law_k", 4)]) (g := gName 4) (tt := tYes) rfl sc__law_grown_right.nd rfl rfl (sw_true rfl rfl rfl (by rfl)) (pi_range1 (by rfl) m_range (pa_cons (pe_op (addK K) (pe_callB (lenK K) (by rfl) m_len (by decide +kernel) (pa_cons (pv 1) pa_nil)) pe_int) pa_nil)) (blkOk_by (N := sc__law_grown_right_N) (sc := defScope s__law_grown_right) (by decide +kernel)) (fun _ _ _ _ _ => pg_name (i := 4) sc__law_grown_right.nd rfl (Or.inl rfl)) (fun _ _ _ _ _ => pts_nil) (fun _ _ _ _ _ => (pe_has D__law_text (hr.mono (by decide)) (pa_cons (pv 0) (pa_cons (pe_slice (slK K) (pv 1) po_none (po_some (pv 4))) pa_nil))))) (pss_cons (ps_if (pw_or (pt_cmpR (neK K hr) (pe_lc (own := [("_law_one", 8)]) (g := gName 8) (tt := tYes) rfl sc__law_grown_right.nd (pi_list (pv 3)) (blkOk_by (N := sc__law_grown_right_N) (sc := defScope s__law_grown_right) (by decide +kernel)) (fun _ _ _ _ _ => pg_name (i := 8) sc__law_grown_right.nd rfl (Or.inl rfl)) (fun _ _ _ _ _ => pts_nil) (fun _ _ _ _ _ => (pe_callTy (catStr K O hr) (by rfl) m_str (by decide +kernel) (pa_cons (pv 8) pa_nil)))) (pv 5) (nomark _)) (pw_or1 (pt_cmpR (neK K hr) (pe_lc (own := [("_law_one", 8)]) (g := gName 8) (tt := tYes) rfl sc__law_grown_right.nd (pi_list (pv 3)) (blkOk_by (N := sc__law_grown_right_N) (sc := defScope s__law_grown_right) (by decide +kernel)) (fun _ _ _ _ _ => pg_name (i := 8) sc__law_grown_right.nd rfl (Or.inl rfl)) (fun _ _ _ _ _ => pts_nil) (fun _ _ _ _ _ => (pe_callB (catLen K O hr) (by rfl) m_len (by decide +kernel) (pa_cons (pv 8) pa_nil)))) (pe_listRg rfl (by rfl) m_list (prg_1 (by rfl) m_range (pe_op (addK K) (pe_callB (lenK K) (by rfl) m_len (by decide +kernel) (pa_cons (pv 1) pa_nil)) pe_int))) (nomark _)))).pt (pss_one (ps_ret pe_bl)) pss_nil) (pss_cons (ps_if (pt_not (pt_val (pe_callB (cr_all rfl) (by rfl) m_all (by decide +kernel) (pa_cons (pe_lc (own := [("_law_line", 9), ("_law_one", 8)]) (g := gTup K 2 (gCons (gName 9) (gCons (gName 8) gNil))) (tt := tYes) rfl sc__law_grown_right.nd (pi_zip (by rfl) m_zip (pa_cons (pv 5) (pa_cons (pv 3) pa_nil))) (blkOk_by (N := sc__law_grown_right_N) (sc := defScope s__law_grown_right) (by decide +kernel)) (fun _ _ _ _ _ => pg_tup rfl (pgs_cons (pg_name (i := 9) sc__law_grown_right.nd rfl (Or.inl rfl)) (pgs_cons (pg_name (i := 8) sc__law_grown_right.nd rfl (Or.inl rfl)) pgs_nil))) (fun _ _ _ _ _ => pts_nil) (fun _ _ _ _ _ => (pe_cmpR (catEq K O hr) (pe_cread K R O.M.g (hr.mono (by decide)) (pa_cons (pv 9) pa_nil)) (pv 8) (nomark _)))) pa_nil)))) (pss_one (ps_ret pe_bl)) pss_nil) (pss_cons (ps_set (i := 6) sc__law_grown_right.nd rfl (Or.inl rfl) (pe_cat1 O.M (hr.mono (by decide)) (pa_cons (pe_slice (slK K) (pv 0) po_none (po_some pe_int)) pa_nil))) (pss_cons (ps_for PassesOwn.never rfl (pi_tup (pe_slice (slK K) (pv 0) (po_some pe_int) po_none)) (pg_name (i := 7) sc__law_grown_right.nd rfl (Or.inl rfl)) (pss_one (ps_set (i := 6) sc__law_grown_right.nd rfl (Or.inl rfl) (pe_op (catAdd K O hr) (pv 6) (pe_cat1 O.M (hr.mono (by decide)) (pa_cons (pe_tup (pa_cons (pv 7) pa_nil)) pa_nil)))))) (pss_one (ps_ret (pe_and (pe_cmpR (catEq K O hr) (pv 6) (pe_ix (ixK K) (pv 3) pe_int (fun _ _ => rfl)) (nomark _)) (pe_and (pe_cmpR (catEq K O hr) (pe_op (catAdd K O hr) (pv 6) (pv 2)) (pv 2) (nomark _)) (pe_and (pe_cmpR (catEq K O hr) (pe_op (catAdd K O hr) (pv 2) (pv 6)) (pv 2) (nomark _)) (pe_one (pe_cmpR (catEq K O hr) (pv 2) (pe_cat2 O.M (hr.mono (by decide)) (pa_cons (pv 0) (pa_cons (pv 1) pa_nil))) (nomark _)))))))))))))))), ?_⟩)
  obtain ⟨p, x, ns, rs, rfl, hp, hx, okn, okr, q⟩ := h
  obtain ⟨q0, xs, rfl, hq, pr⟩ := da_ruls rs hx
  have rows := K20.RulesOk.row okr okn.ok
  have lr := okr.len
  have nsame : addN ns ns = ns := addN_same fun _ h => h
  refine q_asgY (P := Cat K C ns []) (yi_cat1 ((yi_ev (ev_var rfl)).imp fun v H1 e1 z => ⟨p, z, ex_t e1 hp⟩) okn) fun v1 H1 e1 c1 => ?_
  refine q_asgL (xs := [v1]) (el_lst (ea_cons (ev_var rfl) ea_nil) (by simp)) fun g H2 n2 e2 h2 => ?_
  refine q_forR1 (n := (rs.length : Int)) (ea_cons (ev_is (ev_lenL (ev_var rfl) (.inr (ex_t (e1.trans e2) hq))) (by rw [← paired_len pr])) ea_nil) (by omega)
    (fun i σ' H' => ∃ (v : V) (vs : List V) (a4 a5 a6 a7 a8 a9 : Option V), σ' = [some (.ref p), some (.ref q0), some v, some (.ref g), a4, a5, a6, a7, a8, a9] ∧ Cat K C ns (rs.take i) v H' ∧ H' g = some (.lst vs) ∧ Paired (fun k v => Cat K C ns (rs.take k) v H') (List.range (i + 1)) vs ∧ Ex H1 H' ∧ i ≤ rs.length)
    (fun H3 e3 => ⟨v1, [v1], _, _, _, _, _, _, rfl, cat_mono _ _ _ (e2.trans e3) c1, e3 _ _ h2, .cons (cat_mono _ _ _ (e2.trans e3) c1) .nil, e2.trans e3, Nat.zero_le _⟩) (fun i σ' H' hi z => ?_) fun σ' H3 z => ?_
  · obtain ⟨v, vs, a4, a5, a6, a7, a8, a9, rfl, cv, hg, prs, e, le⟩ := z
    have lt : i < rs.length := by omega
    have at_ : rs[i]? = some rs[i] := by simp [lt]
    have mem := List.getElem_mem lt
    obtain ⟨y, hy, dy⟩ := SwX.paired_get pr at_
    generalize rs[i] = r at dy at_ mem
    have E1 : Ex H H' := e1.trans e
    have okr1 : RulesOk ns [r] := rules_sub okr (by simp) (fun x hx => by rw [List.mem_singleton.mp hx]; exact mem) fun _ h => h
    refine q_asgY (P := Cat K C ns (rs.take (i + 1))) ?_ fun v2 H4 e4 c2 => ?_
    · have z := yi_add (K := K) (C := C) (H := H') (σ := [some (.ref p), some (.ref q0), some v, some (.ref g), some (.int (i : Int)), a5, a6, a7, a8, a9]) (yi_cat (te := tVar 2) (ev_var rfl) cv) (yi_cat2 (ta := tVar 0) (tb := tTup (tCons (tOp (rIx K) (tVar 1) (tVar 4)) tNil)) ((yi_ev (ev_var rfl)).imp fun v H1 e1 z => ⟨p, z, ex_t (E1.trans e1) hp⟩) ((yi_ofU (eu_tup (ea_cons (ev_op (ev_var rfl) (ev_var rfl) (rv_ixTn (ex_t E1 hq) hy)) ea_nil) (by simp))).imp fun w H5 e5 z => by
        obtain ⟨u, rfl, hu⟩ := z
        exact da_tuple (.inl (.inl hu)) (.cons (dy.mono (E1.trans e5)) .nil)) okn okr1) okn (fun r' hr' => (okr1.ok r' hr').nm okn.ok) (fun r' hr' => (okr.ok r' (List.mem_of_mem_take hr')).nm okn.ok) (by simp) (by rw [nsame]; exact okn) (by rw [nsame, addR_take okr.nd at_]; exact prefix_ok okr _)
      rw [nsame, addR_take okr.nd at_] at z
      exact z
    · refine s_app (l := g) (xs := vs) (v := v2) (e4 _ _ hg) (ev_var rfl) (ev_var rfl) (by rw [← paired_len prs, List.length_range]; omega) fun H5 e5 => ?_
      have hg5 := e5 _ _ (e4 _ _ hg)
      refine ⟨v2, vs ++ [v2], _, _, _, _, _, _, rfl, cat_up hg5 (cat_mono _ _ _ e5 c2), upd_same, ?_, ?_, lt⟩
      · rw [range_snoc (i + 1)]
        exact paired_append (paired_imp (fun k v z => cat_up hg5 (cat_mono _ _ _ (e4.trans e5) z)) prs) (.cons (cat_up hg5 (cat_mono _ _ _ e5 c2)) .nil)
      · intro b o hb
        have nb : b ≠ g := fun z => by rw [z, n2] at hb; cases hb
        rw [upd_ne nb]
        exact e5 _ _ (e4 _ _ (e _ _ hb))
  · obtain ⟨v, vs, a4, a5, a6, a7, a8, a9, rfl, cv, hg, prs, e, _⟩ := z
    rw [Int.toNat_natCast] at prs cv
    rw [List.take_length] at cv
    have E3 : Ex H H3 := e1.trans e
    have lv : vs.length = rs.length + 1 := by rw [← paired_len prs, List.length_range]
    have tsmall : ∀ l ∈ (List.range (rs.length + 1)).map (preT ns rs), ∀ c ∈ l, c < 128 := fun l hl => by
      obtain ⟨k, _, rfl⟩ := List.mem_map.mp hl
      exact fun c hc => text_small okn.ok (fun r hr => rows r (List.mem_of_mem_take hr)) hc
    refine q_asgL (xs := ((List.range (rs.length + 1)).map (preT ns rs)).map nmV) ?_ fun due H5 n5 e5 h5 => ?_
    · refine el_is (el_lcR1 (n := ((rs.length + 1 : Nat) : Int)) (fun _ => true) (fun k => V.str (SX.S (preT ns rs k))) (ea_cons (ev_is (ev_op (ev_is (ev_lenL (ev_var rfl) (.inr (ex_t E3 hq))) (by rw [← paired_len pr])) ev_c rv_addI) rfl) ea_nil) (by omega) (fun _ => rfl) (fun _ _ _ _ => et_yes) fun i H6 e6 hi _ => fun H7 e7 Q k => ?_) (by rw [Int.toNat_natCast]; exact given_strs _ _)
      have E7 : Ex H H7 := (E3.trans e6).trans e7
      refine ⟨_, rfl, yi_slT (K := K) (ev_var (i := 1) rfl) (ex_t E7 hq) eo_none (eo_some (ev_var (i := 4) rfl)) H7 (Ex.refl H7) _ fun w H8 e8 z => ?_⟩
      obtain ⟨c, rfl, hc⟩ := z
      rw [cut_take] at hc
      exact ⟨p, .ref c, ns, rs.take i, rfl, ex_t (E7.trans e8) hp, da_tuple hc (paired_map (g := rulD) (F := fun d v => Da K H8 v d) (paired_take i (paired_mono (F := fun (r : Rul) v H => RlF K r v H) (E7.trans e8) rlF_mono pr))), by have := okn.len; omega, by rw [List.length_take]; omega, okn.ok, fun r hr => ⟨(okr.ok r (List.mem_of_mem_take hr)).nm okn.ok, (okr.ok r (List.mem_of_mem_take hr)).hi, by have := (okr.ok r (List.mem_of_mem_take hr)).len; omega⟩, fun H9 e9 => k H9 (e8.trans e9)⟩
    · have hg5 := e5 _ _ hg
      have at5 : ∀ (i : Nat) (x : V), vs[i]? = some x → i ≤ rs.length ∧ Cat K C ns (rs.take i) x H5 := fun i x hx => by
        have lt := (List.getElem?_eq_some_iff.mp hx).1
        obtain ⟨y, hy, cy⟩ := SwX.paired_get prs (List.getElem?_range (show i < rs.length + 1 by omega))
        rw [hx] at hy
        cases hy
        exact ⟨by omega, cat_mono _ _ _ e5 cy⟩
      have E5 : Ex H H5 := E3.trans e5
      refine q_when (b := false) (et_is (et_or (et_B (ev_opL1 (el_is (el_lcL (fun _ => true) (fun k => V.str (SX.S (preT ns rs k))) (ev_var rfl) (sq_of hg5) (by omega) (fun _ => rfl) (fun _ _ _ _ _ => et_yes) fun i x H6 e6 hx _ => ev_strC (yi_cat (ev_var rfl) (cat_mono _ _ _ e6 (at5 i x hx).2))) (by rw [lv]; exact given_strs (rs.length + 1) (preT ns rs))) (fun _ _ => ev_var rfl) fun c H6 h6 e6 => rv_neDat (b := true) (da_nmL h6) (da_nmL (e6 _ _ h5)) (pl_strs tsmall) (pl_strs tsmall) (by
          simp only [PyData.eqv]
          rw [nms_eqv]
          simp))) fun _ => et_B (ev_opLL (el_is (el_lcL (fun _ => true) (fun k => V.int (k : Int)) (ev_var rfl) (sq_of hg5) (by omega) (fun _ => rfl) (fun _ _ _ _ _ => et_yes) fun i x H6 e6 hx _ => ev_is (ev_lenC (yi_cat (ev_var rfl) (cat_mono _ _ _ e6 (at5 i x hx).2)) (by rw [List.length_take]; omega)) (by rw [List.length_take, Nat.min_eq_left (at5 i x hx).1])) (by rw [lv]; exact given_ints (rs.length + 1) fun i : Nat => (i : Int))) (el_listRg (n := rs.length + 1) (ev_is (ev_op (ev_is (ev_lenL (ev_var rfl) (.inr (ex_t E5 hq))) (by rw [← paired_len pr])) ev_c rv_addI) rfl) (by omega)) fun c c2 H6 h6 h62 e6 => rv_neDat (b := true) (da_ints h6) (da_ints h62) (pl_intsL _) (pl_intsL _) (by
          simp only [PyData.eqv]
          exact ints_eqv _))) rfl) (fun z => nomatch z) fun _ H6 e6 => ?_
      refine q_when (b := false) (et_not (a := true) (et_B (ev_allG (n := rs.length + 1) (el_lcZip (fun _ => V.bl true) (ea_cons (ev_var rfl) (ea_cons (ev_var rfl) ea_nil)) (sq_of (e6 _ _ h5)) (sq_of (e6 _ _ hg5)) (by simp [lv]) (by omega) (fun _ _ => rfl) fun i x y H7 e7 hx hy => ?_)))) (fun z => nomatch z) fun _ H7 e7 => ?_
      · have i5 : i ≤ rs.length := (at5 i y hy).1
        have hx' : x = .str (SX.S (preT ns rs i)) := by
          rw [List.getElem?_map, List.getElem?_map, List.getElem?_range (show i < rs.length + 1 by omega)] at hx
          cases hx
          rfl
        subst hx'
        refine ev_is (ev_eqC (K := K) (C := C) (ns := ns) (ms := ns) (rs := rs.take i) (ts := rs.take i) (fun H8 e8 R k => ⟨rfl, _, rfl, ns, rs.take i, rfl, okn, prefix_ok okr i, fun v H9 e9 c => k v H9 e9 c⟩) (yi_cat (ev_var rfl) (cat_mono _ _ _ (e6.trans e7) (at5 i y hy).2))) ?_
        simp
      · have E7 : Ex H H7 := (E5.trans e6).trans e7
        have box7 : Cat K C ns rs v H7 := cat_mono _ _ _ ((e5.trans e6).trans e7) cv
        have d5 : H7 g = some (.lst vs) := e7 _ _ (e6 _ _ hg5)
        obtain ⟨v0, hv0⟩ : ∃ v0, vs[0]? = some v0 := ⟨vs[0]'(by omega), by simp⟩
        have c0 : Cat K C ns [] v0 H7 := cat_mono _ _ _ (e6.trans e7) (at5 0 v0 hv0).2
        have pos : 0 < ns.length := List.length_pos_iff.mpr okn.ne
        have takeOk : ∀ k, 0 < k → NamesOk (ns.take k) := fun k hk => names_sub okn (fun z => by
          rw [List.take_eq_nil_iff] at z
          rcases z with z | z
          · omega
          · exact okn.ne z) ((List.take_sublist k ns).nodup okn.nd) fun n hn => List.mem_of_mem_take hn
        have ok0 : ∀ ms, RulesOk ms [] := fun ms => ⟨by simp, List.nodup_nil, fun _ h => nomatch h⟩
        refine q_asgY (P := Cat K C (ns.take 1) []) (yi_cat1 ((yi_slT (K := K) (ev_var (i := 0) rfl) (ex_t E7 hp) eo_none (eo_some ev_c)).imp fun w H8 e8 z => by
          obtain ⟨c, rfl, hc⟩ := z
          rw [show ((1 : Int)) = ((1 : Nat) : Int) from rfl, cut_take, ← List.map_take] at hc
          exact ⟨c, rfl, hc⟩) (takeOk 1 (by decide))) fun kv H8 e8 ck => ?_
        refine yi_slT (K := K) (ev_var (i := 0) rfl) (ex_t (E7.trans e8) hp) (eo_some ev_c) eo_none H8 (Ex.refl H8) _ fun w H9 e9 z => ?_
        obtain ⟨c, rfl, hc⟩ := z
        rw [show ((1 : Int)) = ((1 : Nat) : Int) from rfl, cut_drop, ← List.map_drop] at hc
        refine ⟨c, rfl, ⟨_, hc⟩, for_tup (xs := (ns.drop 1).map nmV) (fun i σ' H' => ∃ (kv : V) (a7 : Option V), σ' = [some (.ref p), some (.ref q0), some v, some (.ref g), a4, some (.ref due), some kv, a7, a8, a9] ∧ Cat K C (ns.take (i + 1)) [] kv H' ∧ Ex H9 H') ⟨kv, _, rfl, cat_mono _ _ _ e9 ck, Ex.refl H9⟩ (fun i σ' H' _ z => by
          obtain ⟨_, _, _, _, z⟩ := z
          exact ex_t z hc) (fun i x σ' H' hx z => ?_) fun σ' H' z => ?_⟩
        · obtain ⟨kv, a7, rfl, ck, e⟩ := z
          rw [List.getElem?_map] at hx
          obtain ⟨n, hn, rfl⟩ := Option.map_eq_some_iff.mp hx
          rw [List.getElem?_drop, Nat.add_comm] at hn
          have memn : n ∈ ns := List.mem_of_getElem? hn
          have okn1 : NamesOk [n] := names_sub okn (by simp) (by simp) fun m hm => by rw [List.mem_singleton.mp hm]; exact memn
          refine g_name ?_
          have add := addN_take okn.nd hn
          have y := yi_add (K := K) (C := C) (H := H') (σ := [some (.ref p), some (.ref q0), some v, some (.ref g), a4, some (.ref due), some kv, some (nmV n), a8, a9]) (yi_cat (te := tVar 6) (ev_var rfl) ck) (yi_cat1 (ta := tTup (tCons (tVar 7) tNil)) (ns := [n]) ((yi_ofU (eu_tup (ea_cons (ev_var rfl) ea_nil) (by simp))).imp fun w H5 e5 z => by
            obtain ⟨u, rfl, hu⟩ := z
            exact ⟨u, rfl, .inl (.inl hu)⟩) okn1) okn1 (fun _ h => nomatch h) (fun _ h => nomatch h) (by simp) (by rw [add]; exact takeOk _ (by omega)) (ok0 _)
          rw [add] at y
          exact y H' (Ex.refl H') _ fun v2 H10 e10 c2 => ⟨v2, _, rfl, c2, e.trans e10⟩
        · obtain ⟨kv, a7, rfl, ck, e⟩ := z
          have ln : ((ns.drop 1).map nmV).length + 1 = ns.length := by
            rw [List.length_map, List.length_drop]
            omega
          rw [ln, List.take_length] at ck
          have X : Ex H7 H' := (e8.trans e9).trans e
          have box := cat_mono _ _ _ X box7
          have rulok : ∀ r ∈ rs, RulNm r := fun r hr => (okr.ok r hr).nm okn.ok
          have addE : addR rs [] = rs := addR_same fun _ h => nomatch h
          have B := ev_eqC (K := K) (C := C) (H := H') (g := id) (σ := [some (.ref p), some (.ref q0), some v, some (.ref g), a4, some (.ref due), some kv, a7, a8, a9]) (yi_add (yi_cat (te := tVar 6) (ev_var rfl) ck) (yi_cat (te := tVar 2) (ev_var rfl) box) okn rulok (fun _ h => nomatch h) (by omega) (by rw [nsame]; exact okn) (by rw [nsame, addR_nil]; exact okr)) (yi_cat (te := tVar 2) (ev_var rfl) box)
          have D := ev_eqC (K := K) (C := C) (H := H') (g := id) (σ := [some (.ref p), some (.ref q0), some v, some (.ref g), a4, some (.ref due), some kv, a7, a8, a9]) (yi_add (yi_cat (te := tVar 2) (ev_var rfl) box) (yi_cat (te := tVar 6) (ev_var rfl) ck) okn (fun _ h => nomatch h) rulok (by simp) (by rw [nsame]; exact okn) (by rw [nsame, addE]; exact okr)) (yi_cat (te := tVar 2) (ev_var rfl) box)
          rw [nsame, addR_nil] at B
          rw [nsame, addE] at D
          refine s_ret (v := .bl true) (ev_is (ev_andV (ev_eqC (yi_cat (ev_var rfl) ck) (yi_cat (ev_op (ev_var rfl) ev_c (rv_ixLn (i := 0) (sq_of (X _ _ d5)) hv0)) (cat_mono _ _ _ X c0))) fun _ => ev_andV B fun _ => ev_andV D fun _ => ev_eqC (yi_cat (ev_var rfl) box) (yi_cat2 ((yi_ev (ev_var rfl)).imp fun v H1 e1 z => ⟨p, z, ex_t ((E7.trans X).trans e1) hp⟩) ((yi_ev (ev_var rfl)).imp fun v H1 e1 z => by rw [z]; exact hx.mono ((E7.trans X).trans e1)) okn okr)) ?_) fun H11 e11 => q H11 ((E7.trans X).trans e11)
          simp
end
end K20
set_option Elab.async false
set_option linter.all false
set_option maxRecDepth 100000
set_option maxHeartbeats 4000000
namespace K20
open PySem PySem.Spec PyProof.Rows L2 Evl SwX
section
variable {P : Program} {w : World} {K : PySem.W.Frag} {mg : Str → Option Value} {base : Heap} {f : Addr} {fd : FuncData} {C : Addr}
/-- without, one slot -/
def spWoS (K : PySem.W.Frag) (C : Addr) : Sp := fun vs H Q _ => ∃ (v : V) (ns : List Nm) (rs : List Rul) (slot : Nat), vs = [v, .int (slot : Int)] ∧ Cat K C ns rs v H ∧ slot < rs.length ∧ NamesOk ns ∧ RulesOk ns rs ∧ ∀ v H', Ex H H' → Cat K C ns (rs.take slot ++ rs.drop (slot + 1)) v H' → Q v H'
structure CatW (P : Program) (w : World) (K : PySem.W.Frag) (mg : Str → Option Value) (base : Heap) (C : Addr) : Prop where
  ex : ∃ f, Meth K C "without" f ∧ FnR P w K mg base CX0 7 f (spWoS K C)
theorem pe_cwo {X : Cx} {C : Addr} {o e : Expr} {es : List Expr} {ta : TE} {t : TA} {apos pos : Pos} {pl : Sem Bool} (K : PySem.W.Frag) (W : CatW X.prog X.w X.K X.mg X.base C) (c : CatC X.K C) (hr : Room 7 X.A) (he : PE X o ta) (ha : PA X (e :: es) t) (hK : X.K = K := by rfl)
    (hst : starEach (e :: es) X.env = (false, eval e X.env) :: starEach es X.env := by rfl) (hpl : (backTo pos (starEach es X.env)).any (·.1) = false := by rfl)
    (ht : eval (.Call (.Attribute o "without" apos) (e :: es) [] pos) X.env = (do
      let ov ← eval o X.env
      standAt apos.atName
      let (f, first) ← holding [ov] (getMethod ov "without" pl)
      callWith pos f first (backTo pos (starEach (e :: es) X.env)) (backToKw pos (keywordEach [] X.env))) := by rfl) : PE X (.Call (.Attribute o "without" apos) (e :: es) [] pos) (tMethR C "without" (spWoS K C) E0 ta t) := by
  subst hK
  obtain ⟨f, hm, F⟩ := W.ex
  exact pe_methR (pl := pl) he c.cls hm F hr pass0 ha hst hpl ht
theorem q_par {i j : Nat} {ta tb : TE} {tz : TS} {D : Ends} {σ : L2.St} {H : Hp} {P R : V → Hp → Prop} (h1 : Yi ta σ H P) (h2 : ∀ H1, Ex H H1 → Yi tb σ H1 R) (k : ∀ v w H1 H2, P v H1 → Ex H H1 → Ex H1 H2 → R w H2 → tz D ((σ.set i (some v)).set j (some w)) H2) : tSeq (tPar i j (tCons ta (tCons tb tNil))) tz D σ H :=
  h1 H (Ex.refl H) _ fun v H1 e1 c1 => h2 H1 e1 H1 (Ex.refl H1) _ fun w H2 e2 c2 => ⟨v, w, rfl, k v w H1 H2 c1 e1 e2 c2⟩
theorem yi_wo {σ : L2.St} {H : Hp} {te ti : TE} {ns : List Nm} {rs : List Rul} {slot : Nat} (h : Yi te σ H (Cat K C ns rs)) (hi : Ev ti σ H (.int (slot : Int))) (lt : slot < rs.length) (okn : NamesOk ns) (okr : RulesOk ns rs) : Yi (tMethR C "without" (spWoS K C) E0 te (tCons ti tNil)) σ H (Cat K C ns (rs.take slot ++ rs.drop (slot + 1))) := fun H1 e1 Q q =>
  h H1 e1 _ fun v H2 e2 c => by
    have c' := c
    obtain ⟨b, dx, p, y, rfl, h1, _⟩ := c'
    exact ⟨b, dx, _, rfl, h1, rfl, hi H2 (e1.trans e2) _ fun H3 e3 => ⟨_, ns, rs, slot, rfl, cat_mono _ _ _ e3 c, lt, okn, okr, fun w H4 e4 c4 => q w H4 ((e2.trans e3).trans e4) c4⟩⟩
theorem ev_text {σ : L2.St} {H : Hp} {ta tb : TE} {E : XK} {p : Addr} {ns : List Nm} {rs : List Rul} (ha : Ev ta σ H (.ref p)) (hp : SqT K H p (ns.map nmV)) (hb : Yi tb σ H fun v H' => Da K H' v (rulsD rs)) (okn : NamesOk ns) (okr : RulesOk ns rs) : Ev (tCall (spText K) [] E (tCons ta (tCons tb tNil))) σ H (.str (SX.S (textL ns rs))) := fun H1 e1 Q q =>
  ha H1 e1 _ fun H2 e2 => hb H2 (e1.trans e2) _ fun v H3 e3 dv => ⟨p, v, ns, rs, rfl, ex_t ((e1.trans e2).trans e3) hp, dv, by have := okn.len; omega, by have := okr.len; omega, okn.ok, fun r hr => ⟨(okr.ok r hr).nm okn.ok, (okr.ok r hr).hi, by have := (okr.ok r hr).len; omega⟩, fun H4 e4 => q H4 ((e2.trans e3).trans e4)⟩
theorem el_catLL {σ : L2.St} {H : Hp} {ta tb : TE} {xs ys : List V} (ha : EvL ta σ H xs) (hb : EvL tb σ H ys) (z : xs.length + ys.length ≤ 100000) : EvL (tOp (rAddX K) ta tb) σ H (xs ++ ys) := fun H1 e1 Q q =>
  ha H1 e1 _ fun l H2 _ e2 h2 => hb H2 (e1.trans e2) _ fun p H3 _ e3 h3 => .inr (.inl ⟨l, p, xs, ys, rfl, rfl, e3 _ _ h2, h3, sz_of z, fun c hc => q c _ (fresh_back (e2.trans e3) hc) ((e2.trans e3).trans (Ex.new hc)) upd_same⟩)
theorem eu_tupV {σ : L2.St} {H : Hp} {te : TE} {l : Addr} {xs : List V} (h : Ev te σ H (.ref l)) (hl : H l = some (.lst xs)) : EvU (tCB (rTupOf K) (tCons te tNil)) σ H xs := fun H1 e1 Q q => h H1 e1 _ fun H2 e2 => ⟨l, xs, rfl, .inl ⟨sq_of (e2 _ _ (e1 _ _ hl)), fun c hc => q c _ (fresh_back e2 hc) (e2.trans (Ex.new hc)) upd_same⟩⟩
theorem dr_slot {σ : L2.St} {G : Hp} {a : Addr} {t1 t2 t3 : TE} {m : Int} (n : G a = none) (m0 : 0 < m) (h1 : Ev t1 σ G (.int (m - 1))) (h2 : Dr a t2 σ G fun v => ∃ k, v = .int k ∧ 0 ≤ k ∧ k < m) (h3 : ∀ G', G' a = none → Dr a t3 σ G' fun v => ∃ k, v = .int k ∧ 0 ≤ k ∧ k < 3) :
    Dr a (tOp (rIx K) (tLst (tCons (tC (.int 0)) (tCons t1 (tCons t2 tNil)))) t3) σ G fun v => ∃ k, v = .int k ∧ 0 ≤ k ∧ k < m := fun H1 e p Q q =>
  h1 H1 e _ fun H2 e2 => h2 H2 (e.trans e2) (p.keep e2) _ fun v H3 pv e3 p3 => by
    obtain ⟨k, rfl, k0, k1⟩ := pv
    refine ⟨show 3 ≤ sizeLine by decide, fun l hl => ?_⟩
    have ne := p3.ne hl
    refine h3 (less a (upd H3 l (.lst [.int 0, .int (m - 1), .int k]))) less_at _ less_ex (pur_new p3 hl) _ fun y H4 py e4 p4 => ?_
    obtain ⟨j, rfl, j0, j1⟩ := py
    have hl4 : H4 l = some (.lst [.int 0, .int (m - 1), .int k]) := e4 _ _ (by rw [less_ne ne, upd_same])
    have e34 : Ex G H4 := (ex_less n (e3.trans (Ex.new hl))).trans e4
    obtain ⟨z, hz, hz2⟩ : ∃ z, atI [V.int 0, V.int (m - 1), V.int k] j = some z ∧ [V.int 0, V.int (m - 1), V.int k][j.toNat]? = some z := atI_nat j0 j1
    refine rv_ixLX (K := K) (sq_of hl4) hz H4 (Ex.refl H4) _ fun H5 e5 => q z H5 ?_ (e34.trans e5) (p4.keep e5)
    have : j = 0 ∨ j = 1 ∨ j = 2 := by omega
    rcases this with rfl | rfl | rfl
    · exact ⟨0, (Option.some.inj hz2).symm, by omega, m0⟩
    · exact ⟨m - 1, (Option.some.inj hz2).symm, by omega, by omega⟩
    · exact ⟨k, (Option.some.inj hz2).symm, k0, k1⟩
/-! ### plain -/
theorem split_at {α : Type} {l : List α} {i : Nat} {x : α} (h : l[i]? = some x) : l = l.take i ++ x :: l.drop (i + 1) := by
  obtain ⟨lt, e⟩ := List.getElem?_eq_some_iff.mp h
  rw [← e, ← List.drop_eq_getElem_cons lt, List.take_append_drop]
theorem cutR_new {rs : List Rul} (d : rs.Nodup) {i : Nat} {r : Rul} (h : rs[i]? = some r) : r ∉ rs.take i ++ rs.drop (i + 1) := by
  have e := split_at h
  rw [e] at d
  rw [List.nodup_append] at d
  intro hm
  rcases List.mem_append.mp hm with hm | hm
  · exact d.2.2 r hm r List.mem_cons_self rfl
  · exact (List.nodup_cons.mp d.2.1).1 hm
theorem cutR_nodup {rs : List Rul} (d : rs.Nodup) (i : Nat) : (rs.take i ++ rs.drop (i + 1)).Nodup := by
  refine List.Sublist.nodup ?_ d
  have h := List.take_append_drop i rs
  conv => rhs; rw [← h]
  exact List.Sublist.append (List.Sublist.refl _) (by rw [← List.drop_drop]; exact List.drop_sublist _ _)
theorem cutR_mem {rs : List Rul} {i : Nat} {x : Rul} (h : x ∈ rs.take i ++ rs.drop (i + 1)) : x ∈ rs := by
  rcases List.mem_append.mp h with h | h
  · exact List.mem_of_mem_take h
  · exact List.mem_of_mem_drop h
theorem addR_back1 {rs : List Rul} (d : rs.Nodup) {i : Nat} {r : Rul} (h : rs[i]? = some r) : addR (rs.take i ++ rs.drop (i + 1)) [r] = rs.take i ++ rs.drop (i + 1) ++ [r] := addR_new fun x hx => by
  rw [List.mem_singleton.mp hx]
  exact cutR_new d h
theorem addR_back {rs : List Rul} (d : rs.Nodup) {i : Nat} {r : Rul} (h : rs[i]? = some r) : addR (rs.take i ++ rs.drop (i + 1)) rs = rs.take i ++ rs.drop (i + 1) ++ [r] := by
  have nw := cutR_new d h
  unfold addR
  congr 1
  have e := split_at h
  have k : ∀ x, x ∈ rs.take i ∨ x ∈ rs.drop (i + 1) → (!decide (x ∈ rs.take i ++ rs.drop (i + 1))) = false := fun x hx => by simp [hx]
  have f1 : (rs.take i).filter (fun x => !decide (x ∈ rs.take i ++ rs.drop (i + 1))) = [] := List.filter_eq_nil_iff.mpr fun x hx => by rw [k x (.inl hx)]; decide
  have f2 : (rs.drop (i + 1)).filter (fun x => !decide (x ∈ rs.take i ++ rs.drop (i + 1))) = [] := List.filter_eq_nil_iff.mpr fun x hx => by rw [k x (.inr hx)]; decide
  have g : (rs.filter fun x => !decide (x ∈ rs.take i ++ rs.drop (i + 1))) = ((rs.take i ++ r :: rs.drop (i + 1)).filter fun x => !decide (x ∈ rs.take i ++ rs.drop (i + 1))) := by
    rw [← e]
  rw [g, List.filter_append, List.filter_cons, f1, f2, if_pos (by simpa using nw)]
  rfl
theorem cutR_len {rs : List Rul} {i : Nat} (h : i < rs.length) : (rs.take i ++ rs.drop (i + 1)).length + 1 = rs.length := by
  rw [List.length_append, List.length_take, List.length_drop]
  omega
abbrev s__law_taken_right : Stmt := top 38
abbrev sc__law_taken_right_N : List Str := ["_law_purse_here", "_law_names_here", "_law_rules_here", "_law_box", "_law_left", "_law_turn", "_law_slot", "_law_single", "_law_rest"]
theorem sc__law_taken_right : FnScope sc__law_taken_right_N ["_law_purse_here", "_law_names_here", "_law_rules_here"] (defScope s__law_taken_right) := ⟨rfl, rfl, rfl, by decide +kernel, rfl, by decide +kernel, by decide +kernel⟩
theorem paired_drop {α β : Type} {F : α → β → Prop} : ∀ {is : List α} {vs : List β} (n : Nat), Paired F is vs → Paired F (is.drop n) (vs.drop n)
  | _, _, 0, h => h
  | _, _, _ + 1, .nil => .nil
  | _, _, n + 1, .cons _ t => paired_drop n t
def spTaken (K : PySem.W.Frag) : Sp := fun vs H Q _ => ∃ (a p : Addr) (x : V) (ns : List Nm) (rs : List Rul), vs = [.ref a, .ref p, x] ∧ Pur H a ∧ SqT K H p (ns.map nmV) ∧ Da K H x (rulsD rs) ∧ NamesOk ns ∧ RulesOk ns rs ∧ ∀ H', Ex (less a H) H' → Pur H' a → Q (.bl true) H'
theorem ok_taken (O : CatO P w K mg base C) (W : CatW P w K mg base C) (D__law_text : Has P w K mg base "_law_text" 1 ["_law_names_here", "_law_rules_here"] (spText K)) (D__law_draw : Has P w K mg base "_law_draw" 1 ["_law_purse_here", "_law_many"] spDraw) (m_len : mg "len" = none) (m_range : mg "range" = none) (m_str : mg "str" = none) (m_list : mg "list" = none) (m_tuple : mg "tuple" = none) (m_bool : mg "bool" = none) (F : FnP K "_law_taken_right" s__law_taken_right f fd) : FnOk P w K mg base CX0 10 f fd ["_law_purse_here", "_law_names_here", "_law_rules_here"] (spTaken K) := by
  refine F.ok sc__law_taken_right (fun vs H Q E h => by obtain ⟨a, p, x, ns, rs, rfl, _⟩ := h; rfl) (fun cdv A outer s H vs Q E hr h => ⟨_, PSs.nox
    (pss_cons (ps_par (i := 3) (j := 4) (by rfl) sc__law_taken_right.nd rfl rfl (by decide) rfl rfl (pa_cons (pe_cat2 O.M (hr.mono (by decide)) (pa_cons (pv 1) (pa_cons (pv 2) pa_nil))) (pa_cons (pe_callTy call_list_of (by rfl) m_list (by decide +kernel) (pa_cons (pv 2) pa_nil)) pa_nil)) (by rfl)) (pss_cons (ps_for PassesOwn.never rfl (pi_range1 (by rfl) m_range (pa_cons (pe_callB (lenK K) (by rfl) m_len (by decide +kernel) (pa_cons (pv 2) pa_nil)) pa_nil)) (pg_name (i := 5) sc__law_taken_right.nd rfl (Or.inl rfl)) (pss_cons (ps_set (i := 6) sc__law_taken_right.nd rfl (Or.inl rfl) (pe_ix (ixK K) (pe_lst (pa_cons pe_int (pa_cons (pe_op op_sub (pe_callB (lenK K) (by rfl) m_len (by decide +kernel) (pa_cons (pv 4) pa_nil)) pe_int) (pa_cons (pe_has D__law_draw (hr.mono (by decide)) (pa_cons (pv 0) (pa_cons (pe_callB (lenK K) (by rfl) m_len (by decide +kernel) (pa_cons (pv 4) pa_nil)) pa_nil))) pa_nil)))) (pe_has D__law_draw (hr.mono (by decide)) (pa_cons (pv 0) (pa_cons pe_int pa_nil))) (fun _ _ => rfl))) (pss_cons (ps_set (i := 7) sc__law_taken_right.nd rfl (Or.inl rfl) (pe_cat2 O.M (hr.mono (by decide)) (pa_cons (pv 1) (pa_cons (pe_tup (pa_cons (pe_ix (ixK K) (pv 4) (pv 6) (fun _ _ => rfl)) pa_nil)) pa_nil)))) (pss_cons (ps_set (i := 8) sc__law_taken_right.nd rfl (Or.inl rfl) (pe_cwo K W O.M.c (hr.mono (by decide)) (pv 3) (pa_cons (pv 6) pa_nil))) (pss_cons (ps_if (pt_cmpR (catNe K O hr) (pe_op (catAdd K O hr) (pv 8) (pv 7)) (pe_cat2 O.M (hr.mono (by decide)) (pa_cons (pv 1) (pa_cons (pe_callTy call_tuple_of (by rfl) m_tuple (by decide +kernel) (pa_cons (pe_op (addK K) (pe_op (addK K) (pe_slice (slK K) (pv 4) po_none (po_some (pv 6))) (pe_slice (slK K) (pv 4) (po_some (pe_op (addK K) (pv 6) pe_int)) po_none)) (pe_lst (pa_cons (pe_ix (ixK K) (pv 4) (pv 6) (fun _ _ => rfl)) pa_nil))) pa_nil)) pa_nil))) (nomark _)) (pss_one (ps_ret pe_bl)) pss_nil) (pss_cons (ps_if (pt_cmpR (neK K hr) (pe_callTy (catStr K O hr) (by rfl) m_str (by decide +kernel) (pa_cons (pe_op (catAdd K O hr) (pv 8) (pv 3)) pa_nil)) (pe_has D__law_text (hr.mono (by decide)) (pa_cons (pv 1) (pa_cons (pe_callTy call_tuple_of (by rfl) m_tuple (by decide +kernel) (pa_cons (pe_op (addK K) (pe_op (addK K) (pe_slice (slK K) (pv 4) po_none (po_some (pv 6))) (pe_slice (slK K) (pv 4) (po_some (pe_op (addK K) (pv 6) pe_int)) po_none)) (pe_lst (pa_cons (pe_ix (ixK K) (pv 4) (pv 6) (fun _ _ => rfl)) pa_nil))) pa_nil)) pa_nil))) (nomark _)) (pss_one (ps_ret pe_bl)) pss_nil) (pss_cons (ps_set (i := 4) sc__law_taken_right.nd rfl (Or.inl rfl) (pe_op (addK K) (pe_slice (slK K) (pv 4) po_none (po_some (pv 6))) (pe_slice (slK K) (pv 4) (po_some (pe_op (addK K) (pv 6) pe_int)) po_none))) (pss_cons (ps_set (i := 3) sc__law_taken_right.nd rfl (Or.inl rfl) (pv 8)) (pss_one (ps_if (pt_cmpR (neK K hr) (pe_callTy (catStr K O hr) (by rfl) m_str (by decide +kernel) (pa_cons (pv 3) pa_nil)) (pe_has D__law_text (hr.mono (by decide)) (pa_cons (pv 1) (pa_cons (pe_callTy call_tuple_of (by rfl) m_tuple (by decide +kernel) (pa_cons (pv 4) pa_nil)) pa_nil))) (nomark _)) (pss_one (ps_ret pe_bl)) pss_nil)))))))))) (pss_one (ps_ret (pe_and (pe_cmpR (eqK K hr) (pe_callTy (catStr K O hr) (by rfl) m_str (by decide +kernel) (pa_cons (pv 3) pa_nil)) (pe_has D__law_text (hr.mono (by decide)) (pa_cons (pv 1) (pa_cons (pe_tup pa_nil) pa_nil))) (nomark _)) (pe_and (pe_cmpR (eqK K hr) (pe_callB (catLen K O hr) (by rfl) m_len (by decide +kernel) (pa_cons (pv 3) pa_nil)) pe_int (nomark _)) (pe_one (pe_callTy (catBool K O hr) (by rfl) m_bool (by decide +kernel) (pa_cons (pv 3) pa_nil))))))))), ?_⟩)
  obtain ⟨a, p, x, ns, rs, rfl, pu, hp, hx, okn, okr, q⟩ := h
  obtain ⟨q0, xs, rfl, hq, pr⟩ := da_ruls rs hx
  have lr := okr.len
  have nsame : addN ns ns = ns := addN_same fun _ h => h
  refine q_par (P := Cat K C ns rs) (R := fun w H2 => ∃ l, w = .ref l ∧ H l = none ∧ H2 l = some (.lst xs)) (yi_cat2 (K := K) (C := C) (H := H) (ta := tVar 1) (tb := tVar 2) ((yi_ev (ev_var rfl)).imp fun v H1 e1 z => ⟨p, z, ex_t e1 hp⟩) ((yi_ev (ev_var rfl)).imp fun v H1 e1 z => by rw [z]; exact hx.mono e1) okn okr) (fun H1 e1 H2 e2 Q q => ⟨.ref q0, rfl, q0, xs, rfl, .inr (ex_t (e1.trans e2) hq), fun l hl => q (.ref l) _ (Ex.new hl) ⟨l, rfl, fresh_back (e1.trans e2) hl, upd_same⟩⟩) fun v1 w1 H1 H2 c1 e1 e2 z => ?_
  obtain ⟨l0, rfl, hl0, g0⟩ := z
  have e1' : Ex H H2 := e1.trans e2
  refine q_forR1 (n := (rs.length : Int)) (ea_cons (ev_is (ev_lenL (ev_var rfl) (.inr (ex_t e1' hq))) (by rw [← paired_len pr])) ea_nil) (by omega)
    (fun i σ' H' => ∃ (v : V) (l : Addr) (left : List Rul) (ys : List V) (a5 a6 a7 a8 : Option V), σ' = [some (.ref a), some (.ref p), some (.ref q0), some v, some (.ref l), a5, a6, a7, a8] ∧ Cat K C ns left v H' ∧ H' l = some (.lst ys) ∧ l ≠ a ∧ Paired (fun r v => RlF K r v H') left ys ∧ RulesOk ns left ∧ left.length + i = rs.length ∧ Ex (less a H) H' ∧ Pur H' a)
    (fun H3 e3 => ⟨v1, l0, rs, xs, _, _, _, _, rfl, cat_mono _ _ _ (e2.trans e3) c1, e3 _ _ g0, pu.ne hl0, paired_mono (F := fun (r : Rul) v H => RlF K r v H) (e1'.trans e3) rlF_mono pr, okr, rfl, less_ex.trans (e1'.trans e3), pu.keep (e1'.trans e3)⟩) (fun i σ' H' hi z => ?_) fun σ' H3 z => ?_
  · obtain ⟨v, l, left, ys, a5, a6, a7, a8, rfl, cv, hl, ne, prl, okl, len, x0, pu'⟩ := z
    have pos : 0 < left.length := by omega
    have ll := okl.len
    have ly := paired_len prl
    obtain ⟨z1, z2, z3, hpa, _⟩ := pu'
    have pu' : Pur H' a := ⟨z1, z2, z3, hpa, by assumption⟩
    have hlL : less a H' l = some (.lst ys) := by rw [less_ne ne]; exact hl
    refine q_asgDr (G := less a H') (P := fun v => ∃ k, v = .int k ∧ 0 ≤ k ∧ k < (left.length : Int)) (dr_slot (K := K) less_at (by omega) (ev_is (ev_op (ev_is (ev_lenL (ev_var rfl) (.inl (sq_of hlL))) (by rw [← ly])) ev_c rv_I0) rfl) (dr_draw less_at rfl (ev_is (ev_lenL (ev_var rfl) (.inl (sq_of hlL))) (by rw [← ly])) (by omega) (by omega)) fun G' n' => dr_draw n' rfl ev_c (by decide) (by decide)) less_ex pu' fun v6 H3 pv e3 p3 => ?_
    obtain ⟨k, rfl, k0, k1⟩ := pv
    obtain ⟨slot, rfl⟩ := Int.eq_ofNat_of_zero_le k0
    have lt : slot < left.length := by omega
    have cv3 := cat_mono _ _ _ e3 (cat_less hpa cv)
    have hl3 : H3 l = some (.lst ys) := e3 _ _ hlL
    have pr3 : Paired (fun r v => RlF K r v H3) left ys := paired_mono (F := fun (r : Rul) v H => RlF K r v H) e3 rlF_mono (paired_imp (fun r v z => rul_less hpa z) prl)
    have x3 : Ex (less a H) H3 := (ex_less less_at x0).trans e3
    have hp3 : SqT K H3 p (ns.map nmV) := by
      obtain ⟨y1, y2, y3, hya, _⟩ := pu
      exact ex_t x3 (sqT_less hya hp)
    have at_ : left[slot]? = some left[slot] := by simp [lt]
    have mem := List.getElem_mem lt
    obtain ⟨y, hy, dy⟩ := SwX.paired_get pr3 at_
    generalize left[slot] = r at dy at_ mem
    have okr1 : RulesOk ns [r] := rules_sub okl (by simp) (fun x hx => by rw [List.mem_singleton.mp hx]; exact mem) fun _ h => h
    have okc : RulesOk ns (left.take slot ++ left.drop (slot + 1)) := rules_sub okl (cutR_nodup okl.nd _) (fun x hx => cutR_mem hx) fun _ h => h
    have okd : RulesOk ns (left.take slot ++ left.drop (slot + 1) ++ [r]) := rules_sub okl (by rw [List.nodup_append]; exact ⟨cutR_nodup okl.nd _, by simp, fun x hx y hy e => cutR_new okl.nd at_ (by rw [← List.mem_singleton.mp hy, ← e]; exact hx)⟩) (fun x hx => by
      rcases List.mem_append.mp hx with hx | hx
      · exact cutR_mem hx
      · rw [List.mem_singleton.mp hx]; exact mem) fun _ h => h
    have nmc : ∀ r' ∈ left.take slot ++ left.drop (slot + 1), RulNm r' := fun r' hr' => (okc.ok r' hr').nm okn.ok
    refine q_asgY (P := Cat K C ns [r]) (yi_cat2 (ta := tVar 1) (tb := tTup (tCons (tOp (rIx K) (tVar 4) (tVar 6)) tNil)) ((yi_ev (ev_var rfl)).imp fun v H1 e1 z => ⟨p, z, ex_t e1 hp3⟩) ((yi_ofU (eu_tup (ea_cons (ev_op (ev_var rfl) (ev_var rfl) (rv_ixLn (sq_of hl3) hy)) ea_nil) (by simp))).imp fun w H5 e5 z => by
        obtain ⟨u, rfl, hu⟩ := z
        exact da_tuple (.inl (.inl hu)) (.cons (Da.mono e5 dy) .nil)) okn okr1) fun v7 H4 e4 c7 => ?_
    refine q_asgY (P := Cat K C ns (left.take slot ++ left.drop (slot + 1))) (yi_wo (yi_cat (ev_var rfl) (cat_mono _ _ _ e4 cv3)) (ev_var rfl) lt okn okl) fun v8 H5 e5 c8 => ?_
    have e35 : Ex H3 H5 := e4.trans e5
    have hl5 : H5 l = some (.lst ys) := e35 _ _ hl3
    have pr5 : Paired (fun r v => RlF K r v H5) left ys := paired_mono (F := fun (r : Rul) v H => RlF K r v H) e35 rlF_mono pr3
    have prc : ∀ H6, Ex H5 H6 → Paired (fun r v => RlF K r v H6) (left.take slot ++ left.drop (slot + 1)) (ys.take slot ++ ys.drop (slot + 1)) := fun H6 e6 => by
      have z := paired_mono (F := fun (r : Rul) v H => RlF K r v H) e6 rlF_mono pr5
      exact paired_append (paired_take slot z) (paired_drop (slot + 1) z)
    have elc : ∀ H6, Ex H5 H6 → EvL (tOp (rAddX K) (tSl (rSlY K) (tVar 4) tNoPart (tPart (tVar 6))) (tSl (rSlY K) (tVar 4) (tPart (tOp (rAddX K) (tVar 6) (tC (.int 1)))) tNoPart)) [some (.ref a), some (.ref p), some (.ref q0), some v, some (.ref l), some (.int (i : Int)), some (.int (slot : Int)), some v7, some v8] H6 (ys.take slot ++ ys.drop (slot + 1)) := fun H6 e6 =>
      el_is (el_catLL (el_slL (ev_var rfl) (sq_of (e6 _ _ hl5)) eo_none (eo_some (ev_var rfl))) (el_slL (ev_var rfl) (sq_of (e6 _ _ hl5)) (eo_some (ev_is (ev_op (ev_var rfl) ev_c rv_addI) (show V.int ((slot : Int) + 1) = V.int ((slot + 1 : Nat) : Int) from rfl))) eo_none) (by rw [cut_take, cut_drop, List.length_take, List.length_drop]; omega)) (by rw [cut_take, cut_drop])
    have due : ∀ H6, Ex H5 H6 → Yi (tCB (rTupOf K) (tCons (tOp (rAddX K) (tOp (rAddX K) (tSl (rSlY K) (tVar 4) tNoPart (tPart (tVar 6))) (tSl (rSlY K) (tVar 4) (tPart (tOp (rAddX K) (tVar 6) (tC (.int 1)))) tNoPart)) (tLst (tCons (tOp (rIx K) (tVar 4) (tVar 6)) tNil))) tNil)) [some (.ref a), some (.ref p), some (.ref q0), some v, some (.ref l), some (.int (i : Int)), some (.int (slot : Int)), some v7, some v8] H6 fun v H' => Da K H' v (rulsD (left.take slot ++ left.drop (slot + 1) ++ [r])) := fun H6 e6 =>
      (yi_ofU (eu_tupOf (el_catLL (elc H6 e6) (el_lst (ea_cons (ev_op (ev_var rfl) (ev_var rfl) (rv_ixLn (sq_of (e6 _ _ hl5)) hy)) ea_nil) (by simp)) (by rw [List.length_append, List.length_take, List.length_drop]; simp; omega)))).imp fun w H7 e7 z => by
        obtain ⟨u, rfl, hu⟩ := z
        exact da_tuple (.inl (.inl hu)) (paired_map (g := rulD) (F := fun d v => Da K H7 v d) (paired_append (prc H7 (e6.trans e7)) (.cons (Da.mono ((e35.trans e6).trans e7) dy) .nil)))
    have addS := addR_back1 okl.nd at_
    have addB := addR_back okl.nd at_
    have cv5 := cat_mono _ _ _ e35 cv3
    have c75 := cat_mono _ _ _ e5 c7
    have hp5 := ex_t e35 hp3
    have p5 := p3.keep e35
    have nml : ∀ r' ∈ left, RulNm r' := fun r' hr' => (okl.ok r' hr').nm okn.ok
    have y1 := yi_add (K := K) (C := C) (H := H5) (σ := [some (.ref a), some (.ref p), some (.ref q0), some v, some (.ref l), some (.int (i : Int)), some (.int (slot : Int)), some v7, some v8]) (yi_cat (te := tVar 8) (ev_var rfl) c8) (yi_cat (te := tVar 7) (ev_var rfl) c75) okn (fun r' hr' => (okr1.ok r' hr').nm okn.ok) nmc (by simp) (by rw [nsame]; exact okn) (by rw [nsame, addS]; exact okd)
    rw [nsame, addS] at y1
    refine q_when (b := false) (et_is (et_B (ev_eqC y1 (yi_cat2 ((yi_ev (ev_var rfl)).imp fun v H1 e1 z => ⟨p, z, ex_t e1 hp5⟩) (due H5 (Ex.refl H5)) okn okd))) (by simp)) (fun z => nomatch z) fun _ H6 e6 => ?_
    have y2 := yi_add (K := K) (C := C) (H := H6) (σ := [some (.ref a), some (.ref p), some (.ref q0), some v, some (.ref l), some (.int (i : Int)), some (.int (slot : Int)), some v7, some v8]) (yi_cat (te := tVar 8) (ev_var rfl) (cat_mono _ _ _ e6 c8)) (yi_cat (te := tVar 3) (ev_var rfl) (cat_mono _ _ _ e6 cv5)) okn nml nmc (by omega) (by rw [nsame]; exact okn) (by rw [nsame, addB]; exact okd)
    rw [nsame, addB] at y2
    refine q_when (b := false) (et_is (et_B (ev_op (ev_strC y2) (ev_text (ev_var rfl) (ex_t e6 hp5) (due H6 e6) okn okd) (rv_l (rv_ne rfl)))) (by simp)) (fun z => nomatch z) fun _ H7 e7 => ?_
    refine q_asgL (elc H7 (e6.trans e7)) fun l' H8 n8 e8 h8 => ?_
    have e58 : Ex H5 H8 := (e6.trans e7).trans e8
    refine q_asg (ev_var rfl) fun H9 e9 => ?_
    have e59 : Ex H5 H9 := e58.trans e9
    have nel : l' ≠ a := (p5.keep (e6.trans e7)).ne n8
    have c89 := cat_mono _ _ _ e59 c8
    have h9 := e9 _ _ h8
    have ln := cutR_len lt
    refine s_if (b := false) (et_is (et_B (ev_op (ev_strC (yi_cat (ev_var rfl) c89)) (ev_text (ev_var rfl) (ex_t e59 hp5) ((yi_ofU (eu_tupV (ev_var rfl) h9)).imp fun w H10 e10 z => by
        obtain ⟨u, rfl, hu⟩ := z
        exact da_tuple (.inl (.inl hu)) (paired_map (g := rulD) (F := fun d v => Da K H10 v d) (prc H10 (e59.trans e10)))) okn okc) (rv_l (rv_ne rfl)))) (by simp)) (fun z => nomatch z) fun _ H10 e10 => ?_
    exact ⟨v8, l', _, _, _, _, _, _, rfl, cat_mono _ _ _ e10 c89, e10 _ _ h9, nel, prc H10 (e59.trans e10), okc, by omega, x3.trans ((e35.trans e59).trans e10), p5.keep (e59.trans e10)⟩
  · obtain ⟨v, l, left, ys, a5, a6, a7, a8, rfl, cv, hl, ne, prl, okl, len, x0, pu'⟩ := z
    rw [Int.toNat_natCast] at len
    have e0 : left = [] := List.length_eq_zero_iff.mp (by omega)
    subst e0
    have hp3 : SqT K H3 p (ns.map nmV) := by
      obtain ⟨y1, y2, y3, hya, _⟩ := pu
      exact ex_t x0 (sqT_less hya hp)
    refine s_ret (v := .bl true) (ev_is (ev_andV (ev_op (ev_strC (yi_cat (ev_var rfl) cv)) (ev_text (ev_var rfl) hp3 ((yi_ofU (eu_tup ea_nil (by simp))).imp fun w H10 e10 z => by
        obtain ⟨u, rfl, hu⟩ := z
        exact da_tuple (.inl (.inl hu)) .nil) okn okl) (rv_l (rv_eq rfl))) fun _ => ev_andV (ev_op (ev_lenC (yi_cat (ev_var rfl) cv) (by simp)) ev_c (rv_l (rv_eq rfl))) fun _ => ev_boolC (yi_cat (ev_var rfl) cv)) ?_) fun H11 e11 => q H11 (x0.trans e11) (pu'.keep e11)
    simp
end
end K20
set_option Elab.async false
set_option linter.all false
set_option maxRecDepth 100000
set_option maxHeartbeats 4000000
namespace K20
open PySem PySem.Spec PyProof.Rows L2 Evl SwX
section
variable {P : Program} {w : World} {K : PySem.W.Frag} {mg : Str → Option Value} {base : Heap} {f : Addr} {fd : FuncData} {C : Addr}
theorem q_unpDr {i j : Nat} {a : Addr} {ta tb : TE} {tz : TS} {D : Ends} {σ : L2.St} {G H : Hp} {P R : V → Prop} (h1 : Dr a ta σ G P) (h2 : Dr a tb σ G R) (e : Ex G H) (p : Pur H a) (k : ∀ v w H2, P v → R w → Ex G H2 → Pur H2 a → tz D ((σ.set i (some v)).set j (some w)) H2) : tSeq (tAsg (tTup (tCons ta (tCons tb tNil))) (gTup K 2 (gCons (gName i) (gCons (gName j) gNil)))) tz D σ H :=
  h1 H e p _ fun v H1 pv e1 p1 => h2 H1 e1 p1 _ fun w H2 pw e2 p2 => ⟨show 2 ≤ sizeLine by decide, fun c hc => ⟨c, [v, w], rfl, .inl (.inl upd_same), rfl, v, [w], rfl, w, [], rfl, rfl, k v w _ pv pw (e2.trans (Ex.new hc)) (pur_new p2 hc)⟩⟩
theorem yi_revT {σ : L2.St} {H : Hp} {te : TE} {q : Addr} {xs : List V} (h : Ev te σ H (.ref q)) (hq : SqT K H q xs) : Yi (tRevT K te) σ H fun v H' => ∃ p, v = .ref p ∧ SqT K H' p xs.reverse := fun H1 e1 Q k => h H1 e1 _ fun H2 e2 => ⟨q, xs, rfl, ex_t (e1.trans e2) hq, fun p hp => k _ _ (e2.trans (Ex.new hp)) ⟨p, rfl, .inl (.inl upd_same)⟩⟩
theorem paired_rev {α β : Type} {F : α → β → Prop} : ∀ {is : List α} {vs : List β}, Paired F is vs → Paired F is.reverse vs.reverse
  | _, _, .nil => .nil
  | _, _, .cons h t => by
    rw [List.reverse_cons, List.reverse_cons]
    exact paired_append (paired_rev t) (.cons h .nil)
theorem ev_niY {σ : L2.St} {H : Hp} {ta tb : TE} {x : V} {d c : PyData} {ds : List PyData} {b : Bool} (hc : c = .list ds ∨ c = .tuple ds) (ha : Ev ta σ H x) (hx : ∀ H', Ex H H' → Da K H' x d) (hb : Yi tb σ H fun v H' => Da K H' v c) (px : Pl d) (py : Pl c) (e : (ds.any fun z => PyData.eqv z d) = b) :
    Ev (tOp (fun x y H Q => (∃ (c : Nat) (z : Str), x = .str ⟨#[c]⟩ ∧ y = .str z ∧ Q (.bl (!decide (c ∈ z.cps.toList))) H) ∨ rInDat K true x y H Q) ta tb) σ H (.bl (!b)) := fun H1 e1 Q q => ha H1 e1 _ fun H2 e2 => hb H2 (e1.trans e2) _ fun y H3 e3 hy =>
  .inr ⟨d, c, ds, hc, hx H3 ((e1.trans e2).trans e3), hy, px, py, by subst e; exact q H3 (e2.trans e3)⟩
/-- a tuple that holds rules -/
def RlsT (K : PySem.W.Frag) (rs : List Rul) (v : V) (H : Hp) : Prop := ∃ p vs, v = .ref p ∧ SqT K H p vs ∧ Paired (fun r v => RlF K r v H) rs vs
theorem RlsT.mono {rs : List Rul} {v : V} {H H' : Hp} (e : Ex H H') (h : RlsT K rs v H) : RlsT K rs v H' := by
  obtain ⟨p, vs, rfl, h, pr⟩ := h
  exact ⟨p, vs, rfl, ex_t e h, paired_mono (F := fun (r : Rul) v H => RlF K r v H) e rlF_mono pr⟩
theorem RlsT.da {rs : List Rul} {v : V} {H : Hp} (h : RlsT K rs v H) : Da K H v (rulsD rs) := by
  obtain ⟨p, vs, rfl, h, pr⟩ := h
  exact da_tuple h (paired_map (g := rulD) (F := fun d v => Da K H v d) pr)
theorem yi_rlsV {σ : L2.St} {H : Hp} {te : TE} {rs : List Rul} {v : V} (h : Ev te σ H v) (r : RlsT K rs v H) : Yi te σ H (RlsT K rs) := (yi_ev h).imp fun x H1 e1 z => by rw [z]; exact r.mono e1
theorem yi_rlsSl {σ : L2.St} {H : Hp} {te : TE} {tl th : TO} {rs ts : List Rul} {v : V} {lo hi : Option Int} (h : Ev te σ H v) (r : RlsT K rs v H) (hl : EvO tl σ H lo) (hh : EvO th σ H hi) (f : ∀ vs : List V, ∀ H', Paired (fun r v => RlF K r v H') rs vs → Paired (fun r v => RlF K r v H') ts (cutV vs lo hi)) : Yi (tSl (rSlY K) te tl th) σ H (RlsT K ts) := by
  obtain ⟨p, vs, rfl, hp, pr⟩ := r
  exact (yi_slT h hp hl hh).imp fun w H1 e1 z => by
    obtain ⟨c, rfl, hc⟩ := z
    exact ⟨c, _, rfl, hc, f vs H1 (paired_mono (F := fun (r : Rul) v H => RlF K r v H) e1 rlF_mono pr)⟩
theorem yi_rlsTake {σ : L2.St} {H : Hp} {te th : TE} {rs : List Rul} {v : V} {n : Nat} (h : Ev te σ H v) (r : RlsT K rs v H) (hh : Ev th σ H (.int (n : Int))) : Yi (tSl (rSlY K) te tNoPart (tPart th)) σ H (RlsT K (rs.take n)) := yi_rlsSl h r eo_none (eo_some hh) fun vs H' z => by rw [cut_take]; exact paired_take n z
theorem yi_rlsDrop {σ : L2.St} {H : Hp} {te th : TE} {rs : List Rul} {v : V} {n : Nat} (h : Ev te σ H v) (r : RlsT K rs v H) (hh : Ev th σ H (.int (n : Int))) : Yi (tSl (rSlY K) te (tPart th) tNoPart) σ H (RlsT K (rs.drop n)) := yi_rlsSl h r (eo_some hh) eo_none fun vs H' z => by rw [cut_drop]; exact paired_drop n z
theorem yi_rlsRev {σ : L2.St} {H : Hp} {te : TE} {rs : List Rul} {v : V} (h : Ev te σ H v) (r : RlsT K rs v H) : Yi (tRevT K te) σ H (RlsT K rs.reverse) := by
  obtain ⟨p, vs, rfl, hp, pr⟩ := r
  exact (yi_revT h hp).imp fun w H1 e1 z => by
    obtain ⟨c, rfl, hc⟩ := z
    exact ⟨c, _, rfl, hc, paired_rev (paired_mono (F := fun (r : Rul) v H => RlF K r v H) e1 rlF_mono pr)⟩
/-- tuple + tuple -/
theorem yi_rlsCat {σ : L2.St} {H : Hp} {ta tb : TE} {rs ts : List Rul} (ha : Yi ta σ H (RlsT K rs)) (hb : Yi tb σ H (RlsT K ts)) (l : rs.length + ts.length ≤ 1000) : Yi (tOp (rAddX K) ta tb) σ H (RlsT K (rs ++ ts)) := fun H1 e1 Q q => ha H1 e1 _ fun v H2 e2 z => hb H2 (e1.trans e2) _ fun w H3 e3 z2 => by
  obtain ⟨p, vs, rfl, hp, pr⟩ := z.mono e3
  obtain ⟨c, ws, rfl, hc, pw⟩ := z2
  have l1 := paired_len pr
  have l2 := paired_len pw
  refine .inr (.inr (.inr ⟨p, c, vs, ws, rfl, rfl, hp, hc, sz_of (by omega), fun e => ?_, fun _ e => ?_, fun _ _ d hd => ?_⟩))
  · exact q _ _ (e2.trans e3) ⟨c, vs ++ ws, rfl, by rw [e]; exact hc, paired_append pr pw⟩
  · exact q _ _ (e2.trans e3) ⟨p, vs ++ ws, rfl, by rw [e, List.append_nil]; exact hp, paired_append pr pw⟩
  · exact q _ _ ((e2.trans e3).trans (Ex.new hd)) ⟨d, vs ++ ws, rfl, .inl (.inl upd_same), paired_mono (F := fun (r : Rul) v H => RlF K r v H) (Ex.new hd) rlF_mono (paired_append pr pw)⟩
theorem yi_addS {σ : L2.St} {H : Hp} {ta tb : TE} {ns ms1 ms2 : List Nm} {rs r1 r2 : List Rul} (okr : RulesOk ns rs) (n1 : NamesOk ms1) (i1 : ∀ n, n ∈ ms1 ↔ n ∈ ns) (n2 : NamesOk ms2) (i2 : ∀ n, n ∈ ms2 ↔ n ∈ ns) (d1 : r1.Nodup) (s1 : ∀ x ∈ r1, x ∈ rs) (d2 : r2.Nodup) (s2 : ∀ x ∈ r2, x ∈ rs)
    (ha : Yi ta σ H (Cat K C ms1 r1)) (hb : Yi tb σ H (Cat K C ms2 r2)) : Yi (tOp (rOwn C (spAdd K C) E0) ta tb) σ H (Cat K C ms1 (addR r1 r2)) := by
  have e : addN ms1 ms2 = ms1 := addN_same fun x hx => (i1 x).mpr ((i2 x).mp hx)
  have o2 := rules_sub okr d2 s2 fun n h => (i2 n).mpr h
  have o1 := rules_sub okr d1 s1 fun n h => (i1 n).mpr h
  have z := yi_add ha hb n2 (fun r hr => (o2.ok r hr).nm n2.ok) (fun r hr => (o1.ok r hr).nm n1.ok) (by have := o2.len; omega) (by rw [e]; exact n1) (by
    rw [e]
    exact rules_sub okr (nodup_addR d1 d2) (fun x hx => (mem_addR.mp hx).elim (s1 x) (s2 x)) fun n h => (i1 n).mpr h)
  rw [e] at z
  exact z
theorem rev_nodup {α : Type} {l : List α} (h : l.Nodup) : l.reverse.Nodup := by
  unfold List.Nodup at h ⊢
  rw [List.pairwise_reverse]
  exact h.imp fun h e => h e.symm
/-- tuple of a list of rules -/
theorem yi_rlsTup {σ : L2.St} {H : Hp} {te : TE} {rs : List Rul} (h : Yi te σ H (LstOf (RlF K) rs)) : Yi (tCB (rTupOf K) (tCons te tNil)) σ H (RlsT K rs) := (yi_tupOf rlF_mono h).imp fun v H1 e1 z => by
  obtain ⟨p, vs, rfl, hp, pr⟩ := z
  exact ⟨p, vs, rfl, .inl (.inl hp), pr⟩
abbrev s__law_pieces_right : Stmt := top 39
abbrev sc__law_pieces_right_N : List Str := ["_law_purse_here", "_law_names_here", "_law_rules_here", "_law_cut", "_law_back", "_law_one", "_law_mate", "_law_third", "_law_due", "_law_rule_here"]
theorem sc__law_pieces_right : FnScope sc__law_pieces_right_N ["_law_purse_here", "_law_names_here", "_law_rules_here"] (defScope s__law_pieces_right) := ⟨rfl, rfl, rfl, by decide +kernel, rfl, by decide +kernel, by decide +kernel⟩
def spPieces (K : PySem.W.Frag) : Sp := fun vs H Q _ => ∃ (a p : Addr) (x : V) (ns : List Nm) (rs : List Rul), vs = [.ref a, .ref p, x] ∧ Pur H a ∧ SqT K H p (ns.map nmV) ∧ Da K H x (rulsD rs) ∧ NamesOk ns ∧ RulesOk ns rs ∧ ∀ H', Ex (less a H) H' → Pur H' a → Q (.bl true) H'
theorem ok_pieces (O : CatO P w K mg base C) (D__law_text : Has P w K mg base "_law_text" 1 ["_law_names_here", "_law_rules_here"] (spText K)) (D__law_draw : Has P w K mg base "_law_draw" 1 ["_law_purse_here", "_law_many"] spDraw) (m_len : mg "len" = none) (m_str : mg "str" = none) (m_tuple : mg "tuple" = none) (F : FnP K "_law_pieces_right" s__law_pieces_right f fd) : FnOk P w K mg base CX0 10 f fd ["_law_purse_here", "_law_names_here", "_law_rules_here"] (spPieces K) := by
  refine F.ok sc__law_pieces_right (fun vs H Q E h => by obtain ⟨a, p, x, ns, rs, rfl, _⟩ := h; rfl) (fun cdv A outer s H vs Q E hr h => ⟨_, PSs.nox
    (pss_cons (ps_asg (pe_tup (pa_cons (pe_has D__law_draw (hr.mono (by decide)) (pa_cons (pv 0) (pa_cons (pe_op (addK K) (pe_callB (lenK K) (by rfl) m_len (by decide +kernel) (pa_cons (pv 2) pa_nil)) pe_int) pa_nil))) (pa_cons (pe_has D__law_draw (hr.mono (by decide)) (pa_cons (pv 0) (pa_cons (pe_op (addK K) (pe_callB (lenK K) (by rfl) m_len (by decide +kernel) (pa_cons (pv 2) pa_nil)) pe_int) pa_nil))) pa_nil))) (pg_tup rfl (pgs_cons (pg_name (i := 3) sc__law_pieces_right.nd rfl (Or.inr rfl)) (pgs_cons (pg_name (i := 4) sc__law_pieces_right.nd rfl (Or.inl rfl)) pgs_nil)))) (pss_cons (ps_par (i := 5) (j := 6) (by rfl) sc__law_pieces_right.nd rfl rfl (by decide) rfl rfl (pa_cons (pe_cat2 O.M (hr.mono (by decide)) (pa_cons (pv 1) (pa_cons (pe_slice (slK K) (pv 2) po_none (po_some (pv 3))) pa_nil))) (pa_cons (pe_cat2 O.M (hr.mono (by decide)) (pa_cons (pe_revT (pv 1)) (pa_cons (pe_slice (slK K) (pv 2) (po_some (pv 4)) po_none) pa_nil))) pa_nil)) (by rfl)) (pss_cons (ps_set (i := 7) sc__law_pieces_right.nd rfl (Or.inl rfl) (pe_cat2 O.M (hr.mono (by decide)) (pa_cons (pv 1) (pa_cons (pe_revT (pv 2)) pa_nil)))) (pss_cons (ps_if (pt_cmpR (catNe K O hr) (pe_op (catAdd K O hr) (pe_op (catAdd K O hr) (pv 5) (pv 6)) (pv 7)) (pe_op (catAdd K O hr) (pv 5) (pe_op (catAdd K O hr) (pv 6) (pv 7))) (nomark _)) (pss_one (ps_ret pe_bl)) pss_nil) (pss_cons (ps_set (i := 8) sc__law_pieces_right.nd rfl (Or.inr rfl) (pe_op (addK K) (pe_slice (slK K) (pv 2) po_none (po_some (pv 3))) (pe_callTy call_tuple_of (by rfl) m_tuple (by decide +kernel) (pa_cons (pe_lc (own := [("_law_rule_here", 9)]) (g := gName 9) rfl sc__law_pieces_right.nd (pi_tup (pe_slice (slK K) (pv 2) (po_some (pv 4)) po_none)) (blkOk_by (N := sc__law_pieces_right_N) (sc := defScope s__law_pieces_right) (by decide +kernel)) (fun _ _ _ _ _ => pg_name (i := 9) sc__law_pieces_right.nd rfl (Or.inl rfl)) (fun _ _ _ _ _ => (pts_one (pt_cmpR (niK K hr) (pv 9) (pe_slice (slK K) (pv 2) po_none (po_some (pv 3))) rfl))) (fun _ _ _ _ _ => (pv 9))) pa_nil)))) (pss_cons (ps_if (pt_cmpR (neK K hr) (pe_callTy (catStr K O hr) (by rfl) m_str (by decide +kernel) (pa_cons (pe_op (catAdd K O hr) (pv 5) (pv 6)) pa_nil)) (pe_has D__law_text (hr.mono (by decide)) (pa_cons (pv 1) (pa_cons (pv 8) pa_nil))) (nomark _)) (pss_one (ps_ret pe_bl)) pss_nil) (pss_cons (ps_set (i := 8) sc__law_pieces_right.nd rfl (Or.inr rfl) (pe_op (addK K) (pv 8) (pe_callTy call_tuple_of (by rfl) m_tuple (by decide +kernel) (pa_cons (pe_lc (own := [("_law_rule_here", 9)]) (g := gName 9) rfl sc__law_pieces_right.nd (pi_tup (pe_revT (pv 2))) (blkOk_by (N := sc__law_pieces_right_N) (sc := defScope s__law_pieces_right) (by decide +kernel)) (fun _ _ _ _ _ => pg_name (i := 9) sc__law_pieces_right.nd rfl (Or.inl rfl)) (fun _ _ _ _ _ => (pts_one (pt_cmpR (niK K hr) (pv 9) (pv 8) rfl))) (fun _ _ _ _ _ => (pv 9))) pa_nil)))) (pss_one (ps_ret (pe_cmpR (eqK K hr) (pe_callTy (catStr K O hr) (by rfl) m_str (by decide +kernel) (pa_cons (pe_op (catAdd K O hr) (pe_op (catAdd K O hr) (pv 5) (pv 6)) (pv 7)) pa_nil)) (pe_has D__law_text (hr.mono (by decide)) (pa_cons (pv 1) (pa_cons (pv 8) pa_nil))) (nomark _))))))))))), ?_⟩)
  obtain ⟨a, p, x, ns, rs, rfl, pu, hp, hx, okn, okr, q⟩ := h
  obtain ⟨q0, xs, rfl, hq, pr⟩ := da_ruls rs hx
  have lr := okr.len
  obtain ⟨y1, y2, y3, hya, _⟩ := pu
  have pu : Pur H a := ⟨y1, y2, y3, hya, by assumption⟩
  have hqL : SqT K (less a H) q0 xs := sqT_less hya hq
  refine q_unpDr (a := a) (G := less a H) (P := fun v => ∃ k, v = .int k ∧ 0 ≤ k ∧ k < (rs.length : Int) + 1) (R := fun v => ∃ k, v = .int k ∧ 0 ≤ k ∧ k < (rs.length : Int) + 1) (dr_draw less_at rfl (ev_op (ev_is (ev_lenL (ev_var rfl) (.inr hqL)) (by rw [← paired_len pr])) ev_c rv_addI) (by omega) (by omega)) (dr_draw less_at rfl (ev_op (ev_is (ev_lenL (ev_var rfl) (.inr hqL)) (by rw [← paired_len pr])) ev_c rv_addI) (by omega) (by omega)) less_ex pu fun v w H1 pv pw e1 p1 => ?_
  obtain ⟨k1, rfl, a0, a1⟩ := pv
  obtain ⟨cut, rfl⟩ := Int.eq_ofNat_of_zero_le a0
  obtain ⟨k2, rfl, b0, b1⟩ := pw
  obtain ⟨back, rfl⟩ := Int.eq_ofNat_of_zero_le b0
  have hp1 : SqT K H1 p (ns.map nmV) := ex_t e1 (sqT_less hya hp)
  have R1 : RlsT K rs (.ref q0) H1 := ⟨q0, xs, rfl, ex_t e1 hqL, paired_mono (F := fun (r : Rul) v H => RlF K r v H) e1 rlF_mono (paired_imp (fun r v z => rul_less hya z) pr)⟩
  have dA : (rs.take cut).Nodup := (List.take_sublist _ _).nodup okr.nd
  have sA : ∀ x ∈ rs.take cut, x ∈ rs := fun x hx => List.mem_of_mem_take hx
  have dB : (rs.drop back).Nodup := (List.drop_sublist _ _).nodup okr.nd
  have sB : ∀ x ∈ rs.drop back, x ∈ rs := fun x hx => List.mem_of_mem_drop hx
  have dC : rs.reverse.Nodup := rev_nodup okr.nd
  have sC : ∀ x ∈ rs.reverse, x ∈ rs := fun x hx => List.mem_reverse.mp hx
  have okm := names_rev okn
  have iN : ∀ n, n ∈ ns ↔ n ∈ ns := fun _ => Iff.rfl
  have iM : ∀ n, n ∈ ns.reverse ↔ n ∈ ns := fun _ => List.mem_reverse
  refine q_par (P := Cat K C ns (rs.take cut)) (R := Cat K C ns.reverse (rs.drop back)) (yi_cat2 ((yi_ev (ev_var rfl)).imp fun v H1 e1 z => ⟨p, z, ex_t e1 hp1⟩) ((yi_rlsTake (ev_var rfl) R1 (ev_var rfl)).imp fun v H e z => z.da) okn (rules_sub okr dA sA fun _ h => h)) (fun H2 e2 => yi_cat2 ((yi_revT (ev_var rfl) (ex_t e2 hp1)).imp fun v H3 e3 z => by
      obtain ⟨c, rfl, hc⟩ := z
      rw [← List.map_reverse] at hc
      exact ⟨c, rfl, hc⟩) ((yi_rlsDrop (ev_var rfl) (R1.mono e2) (ev_var rfl)).imp fun v H e z => z.da) okm (rules_sub okr dB sB fun n h => (iM n).mpr h)) fun v1 w1 H2 H3 c1 e2 e3 cm => ?_
  have c1 := cat_mono _ _ _ e3 c1
  have R3 := R1.mono (e2.trans e3)
  have hp3 := ex_t (e2.trans e3) hp1
  refine q_asgY (P := Cat K C ns rs.reverse) (yi_cat2 ((yi_ev (ev_var rfl)).imp fun v H1 e1 z => ⟨p, z, ex_t e1 hp3⟩) ((yi_rlsRev (ev_var rfl) R3).imp fun v H e z => z.da) okn (rules_sub okr dC sC fun _ h => h)) fun v7 H4 e4 c3 => ?_
  have o4 := cat_mono _ _ _ e4 c1
  have m4 := cat_mono _ _ _ e4 cm
  have dAB := nodup_addR dA dB
  have sAB : ∀ x ∈ addR (rs.take cut) (rs.drop back), x ∈ rs := fun x hx => (mem_addR.mp hx).elim (sA x) (sB x)
  have dBC := nodup_addR dB dC
  have sBC : ∀ x ∈ addR (rs.drop back) rs.reverse, x ∈ rs := fun x hx => (mem_addR.mp hx).elim (sB x) (sC x)
  refine q_when (b := false) (et_is (et_B (ev_eqC (yi_addS okr okn iN okn iN dAB sAB dC sC (yi_addS okr okn iN okm iM dA sA dB sB (yi_cat (ev_var rfl) o4) (yi_cat (ev_var rfl) m4)) (yi_cat (ev_var rfl) c3)) (yi_addS okr okn iN okm iM dA sA dBC sBC (yi_cat (ev_var rfl) o4) (yi_addS okr okm iM okn iN dB sB dC sC (yi_cat (ev_var rfl) m4) (yi_cat (ev_var rfl) c3))))) (by simp [addR_assoc])) (fun z => nomatch z) fun _ H5 e5 => ?_
  have R5 := (R3.mono e4).mono e5
  have hp5 := ex_t (e4.trans e5) hp3
  have nmA : ∀ r ∈ rs.take cut, RulNm r := fun r hr => (okr.ok r (sA r hr)).nm okn.ok
  have nmAll : ∀ r ∈ rs, RulNm r := fun r hr => (okr.ok r hr).nm okn.ok
  have lA : (rs.take cut).length ≤ 10 := Nat.le_trans (len_le dA sA) lr
  have lB : (rs.drop back).length ≤ 10 := Nat.le_trans (len_le dB sB) lr
  have lC : rs.reverse.length ≤ 10 := Nat.le_trans (len_le dC sC) lr
  have lAB := Nat.le_trans (len_le dAB sAB) lr
  refine q_asgY (P := RlsT K (addR (rs.take cut) (rs.drop back))) (yi_rlsCat (yi_rlsTake (ev_var rfl) R5 (ev_var rfl)) (yi_rlsTup (yi_lcTF (K := K) (F := RlF K) (is := rs.drop back) (fun r => !decide (r ∈ rs.take cut)) rlF_mono (yi_rlsDrop (ev_var rfl) R5 (ev_var rfl)) (by omega) (fun _ => rfl) (fun _ => rfl) fun r x H6 e6 hr fx => et_B (ev_niY (d := rulD r) (c := rulsD (rs.take cut)) (.inr rfl) (ev_var rfl) (fun H' e => Da.mono e fx) ((yi_rlsTake (ev_var rfl) (R5.mono e6) (ev_var rfl)).imp fun v H e z => z.da) (pl_rul (nmAll r (sB r hr))) (pl_ruls nmA) (any_rul _ r)))) (Nat.le_trans (Nat.add_le_add_left (List.length_filter_le _ _) _) (by omega))) fun v8 H6 e6 r8 => ?_
  have o6 := cat_mono _ _ _ (e5.trans e6) o4
  have m6 := cat_mono _ _ _ (e5.trans e6) m4
  have hp6 := ex_t e6 hp5
  refine q_when (b := false) (et_is (et_B (ev_op (ev_strC (yi_addS okr okn iN okm iM dA sA dB sB (yi_cat (ev_var rfl) o6) (yi_cat (ev_var rfl) m6))) (ev_text (ev_var rfl) hp6 ((yi_rlsV (ev_var rfl) r8).imp fun v H e z => z.da) okn (rules_sub okr dAB sAB fun _ h => h)) (rv_l (rv_ne rfl)))) (by simp)) (fun z => nomatch z) fun _ H7 e7 => ?_
  have R7 := (R5.mono e6).mono e7
  have r87 := r8.mono e7
  refine q_asgY (P := RlsT K (addR (addR (rs.take cut) (rs.drop back)) rs.reverse)) (yi_rlsCat (yi_rlsV (ev_var rfl) r87) (yi_rlsTup (yi_lcTF (K := K) (F := RlF K) (is := rs.reverse) (fun r => !decide (r ∈ addR (rs.take cut) (rs.drop back))) rlF_mono (yi_rlsRev (ev_var rfl) R7) (by omega) (fun _ => rfl) (fun _ => rfl) fun r x H8 e8 hr fx => et_B (ev_niY (d := rulD r) (c := rulsD (addR (rs.take cut) (rs.drop back))) (.inr rfl) (ev_var rfl) (fun H' e => Da.mono e fx) ((yi_rlsV (ev_var rfl) (r87.mono e8)).imp fun v H e z => z.da) (pl_rul (nmAll r (sC r hr))) (pl_ruls fun r hr => nmAll r (sAB r hr)) (any_rul _ r)))) (Nat.le_trans (Nat.add_le_add_left (List.length_filter_le _ _) _) (by omega))) fun v9 H8 e8 r9 => ?_
  have e68 := e7.trans e8
  have o8 := cat_mono _ _ _ e68 o6
  have m8 := cat_mono _ _ _ e68 m6
  have c8 := cat_mono _ _ _ ((e5.trans e6).trans e68) c3
  have dABC := nodup_addR dAB dC
  have sABC : ∀ x ∈ addR (addR (rs.take cut) (rs.drop back)) rs.reverse, x ∈ rs := fun x hx => (mem_addR.mp hx).elim (sAB x) (sC x)
  have e18 : Ex H1 H8 := ((((e2.trans e3).trans e4).trans e5).trans e6).trans e68
  refine s_ret (v := .bl true) (ev_is (ev_op (ev_strC (yi_addS okr okn iN okn iN dAB sAB dC sC (yi_addS okr okn iN okm iM dA sA dB sB (yi_cat (ev_var rfl) o8) (yi_cat (ev_var rfl) m8)) (yi_cat (ev_var rfl) c8))) (ev_text (ev_var rfl) (ex_t e68 hp6) ((yi_rlsV (ev_var rfl) r9).imp fun v H e z => z.da) okn (rules_sub okr dABC sABC fun _ h => h)) (rv_l (rv_eq rfl))) ?_) fun H11 e11 => q H11 (e1.trans (e18.trans e11)) (p1.keep (e18.trans e11))
  simp
end
end K20
set_option Elab.async false
set_option linter.all false
set_option maxRecDepth 100000
set_option maxHeartbeats 4000000
namespace K20
open PySem PySem.Spec PyProof.Rows L2 Evl SwX
section
variable {P : Program} {w : World} {K : PySem.W.Frag} {mg : Str → Option Value} {base : Heap} {f : Addr} {fd : FuncData} {C : Addr}
abbrev s__law_right : Stmt := top 40
abbrev sc__law_right_N : List Str := ["_law_purse_here", "_law_names_here", "_law_rules_here"]
theorem sc__law_right : FnScope sc__law_right_N ["_law_purse_here"] (defScope s__law_right) := ⟨rfl, rfl, rfl, by decide +kernel, rfl, by decide +kernel, by decide +kernel⟩
def spRight : Sp := fun vs H Q _ => ∃ a : Addr, vs = [.ref a] ∧ Pur H a ∧ ∀ H', Ex (less a H) H' → Q (.bl true) H'
theorem ok_right (D__law_names : Has P w K mg base "_law_names" 3 ["_law_purse_here"] spNames) (D__law_rules : Has P w K mg base "_law_rules" 3 ["_law_purse_here", "_law_names_here", "_law_most"] (spRules K)) (D__law_grown_right : Has P w K mg base "_law_grown_right" 10 ["_law_names_here", "_law_rules_here"] (spGrown K)) (D__law_taken_right : Has P w K mg base "_law_taken_right" 10 ["_law_purse_here", "_law_names_here", "_law_rules_here"] (spTaken K)) (D__law_pieces_right : Has P w K mg base "_law_pieces_right" 10 ["_law_purse_here", "_law_names_here", "_law_rules_here"] (spPieces K)) (F : FnP K "_law_right" s__law_right f fd) : FnOk P w K mg base CX0 11 f fd ["_law_purse_here"] spRight := by
  refine F.ok sc__law_right (fun vs H Q E h => by obtain ⟨a, rfl, _⟩ := h; rfl) (fun cdv A outer s H vs Q E hr h => ⟨_, PSs.nox
    (pss_cons (ps_set (i := 1) sc__law_right.nd rfl (Or.inl rfl) (pe_has D__law_names (hr.mono (by decide)) (pa_cons (pv 0) pa_nil))) (pss_cons (ps_set (i := 2) sc__law_right.nd rfl (Or.inl rfl) (pe_has D__law_rules (hr.mono (by decide)) (pa_cons (pv 0) (pa_cons (pv 1) (pa_cons pe_int pa_nil))))) (pss_cons (ps_if (pw_or (pt_not (pt_val (pe_has D__law_grown_right (hr.mono (by decide)) (pa_cons (pv 1) (pa_cons (pv 2) pa_nil))))) (pw_or1 (pt_not (pt_val (pe_has D__law_taken_right (hr.mono (by decide)) (pa_cons (pv 0) (pa_cons (pv 1) (pa_cons (pv 2) pa_nil)))))))).pt (pss_one (ps_ret pe_bl)) pss_nil) (pss_one (ps_ret (pe_has D__law_pieces_right (hr.mono (by decide)) (pa_cons (pv 0) (pa_cons (pv 1) (pa_cons (pv 2) pa_nil))))))))), ?_⟩)
  obtain ⟨a, rfl, pu, q⟩ := h
  refine ⟨.ref a, rfl, a, rfl, pu, fun ns p H1 okn e1 p1 hp => ?_⟩
  obtain ⟨y1, y2, y3, hya, _⟩ := p1
  have p1 : Pur H1 a := ⟨y1, y2, y3, hya, by assumption⟩
  refine ⟨.ref a, rfl, .ref p, rfl, a, p, ns, 10, rfl, by decide, p1, sqT_less hya (.inl (.inl hp)), okn, fun rs c H2 l nd ok e2 p2 dr => ?_⟩
  have okr : RulesOk ns rs := ⟨l, nd, ok⟩
  have hpL : SqT K (less a H1) p (ns.map nmV) := sqT_less hya (.inl (.inl hp))
  have hp2 := ex_t e2 hpL
  have dr2 := dr.mono less_ex
  have x2 : Ex (less a H) H2 := (ex_less less_at e1).trans e2
  refine ⟨.ref p, rfl, .ref c, rfl, p, .ref c, ns, rs, rfl, hp2, dr2, okn, okr, fun H3 e3 => ⟨true, rfl, ?_⟩⟩
  have p3 := p2.keep e3
  obtain ⟨z1, z2, z3, hza, _⟩ := p3
  have p3 : Pur H3 a := ⟨z1, z2, z3, hza, by assumption⟩
  refine ⟨.ref a, rfl, .ref p, rfl, .ref c, rfl, a, p, .ref c, ns, rs, rfl, p3, ex_t e3 hp2, dr2.mono e3, okn, okr, fun H4 e4 p4 => ⟨true, rfl, ?_⟩⟩
  refine ⟨.ref a, rfl, .ref p, rfl, .ref c, rfl, a, p, .ref c, ns, rs, rfl, p4, ex_t e4 (sqT_less hza (ex_t e3 hp2)), Da.mono e4 (ruls_less hza (dr2.mono e3)), okn, okr, fun H5 e5 p5 => q H5 ?_⟩
  exact (ex_less less_at ((ex_less less_at (x2.trans e3)).trans e4)).trans e5
abbrev s_law : Stmt := top 41
abbrev sc_law_N : List Str := ["_law_script", "_law_k"]
theorem sc_law : FnScope sc_law_N ["_law_script"] (defScope s_law) := ⟨rfl, rfl, rfl, by decide +kernel, rfl, by decide +kernel, by decide +kernel⟩
def cnt (ns : List Int) : Int := if (if (5 : Int) < ns.length then (5 : Int) else ns.length) > 2 then (if (5 : Int) < ns.length then (5 : Int) else ns.length) else 2
theorem cnt_le (ns : List Int) : cnt ns ≤ 5 := by
  unfold cnt
  split <;> (try split) <;> omega
theorem cnt_ok (ns : List Int) : 0 ≤ cnt ns ∧ cnt ns ≤ 40000 := by
  unfold cnt
  split <;> (try split) <;> omega
def spLaw (K : PySem.W.Frag) : Sp := fun vs H Q _ => ∃ (a : Addr) (ns : List Int), vs = [.ref a] ∧ SqL K H a (ns.map V.int) ∧ ∀ H', Q (.bl true) H'
theorem ok_law (D__law_seed : Has P w K mg base "_law_seed" 1 ["_law_script", "_law_k"] (spSeed K)) (D__law_purse : Has P w K mg base "_law_purse" 1 ["_law_number"] spPurse) (D__law_right : Has P w K mg base "_law_right" 11 ["_law_purse_here"] spRight) (F : FnP K "law" s_law f fd)
    (m_len : mg "len" = none) (m_all : mg "all" = none) (m_range : mg "range" = none) (m_max : mg "max" = none) (m_min : mg "min" = none) : FnOk P w K mg base CX0 12 f fd ["_law_script"] (spLaw K) := by
  refine F.ok sc_law (fun vs H Q E h => by obtain ⟨a, ns, rfl, _⟩ := h; rfl) (fun cdv A outer s H vs Q E hr h => ⟨_, PSs.nox
    (pss_one (ps_ret (pe_callB (cr_all rfl) (by rfl) m_all (by decide +kernel) (pa_cons (pe_lc (own := [("_law_k", 1)]) (g := gName 1) (tt := tYes) rfl sc_law.nd (pi_range1 (by rfl) m_range (pa_cons (pe_callB (call_max2 rfl) (by rfl) m_max (by decide +kernel) (pa_cons pe_int (pa_cons (pe_callB (call_min2 rfl) (by rfl) m_min (by decide +kernel) (pa_cons (pe_callB (lenK K) (by rfl) m_len (by decide +kernel) (pa_cons (pv 0) pa_nil)) (pa_cons pe_int pa_nil))) pa_nil))) pa_nil)) (blkOk_by (N := sc_law_N) (sc := defScope s_law) (by decide +kernel)) (fun _ _ _ _ _ => pg_name (i := 1) sc_law.nd rfl (Or.inl rfl)) (fun _ _ _ _ _ => pts_nil) (fun _ _ _ _ _ => (pe_has D__law_right (hr.mono (by decide)) (pa_cons (pe_has D__law_purse (hr.mono (by decide)) (pa_cons (pe_has D__law_seed (hr.mono (by decide)) (pa_cons (pv 0) (pa_cons (pv 1) pa_nil))) pa_nil)) pa_nil)))) pa_nil)))), ?_⟩)
  obtain ⟨a, ns, rfl, hS, q⟩ := h
  refine s_ret (ev_allT (bs := ((List.range (cnt ns).toNat).map fun _ => true)) (el_is (el_lcR1 (j := 1) (n := cnt ns) (fun _ => true) (fun _ => .bl true) (ea_cons (ev_is (ev_max2 ev_c (ev_min2 (ev_lenL (ev_var rfl) (.inl hS)) ev_c)) (by rw [List.length_map]; rfl)) ea_nil) (cnt_ok ns) (fun _ => rfl) (fun i H3 _ _ H4 _ Q' k => k H4 (Ex.refl H4)) fun i H3 e3 lt _ => ?_) (by unfold given; rw [List.filter_eq_self.mpr (fun _ _ => rfl), List.map_map]; rfl))) fun H3 _ => ?_
  · have small := cnt_ok ns
    intro H4 e4 Q' k
    refine ⟨.ref a, rfl, .int i, rfl, a, ns, i, rfl, ex_l (e3.trans e4) hS, by omega, by have := cnt_le ns; omega, fun n H5 e5 => ⟨n, rfl, fun b H6 hb e6 p6 => ⟨b, rfl, p6, fun H7 e7 => k H7 (e5.trans ((ex_less hb e6).trans e7))⟩⟩⟩
  · have z : (((List.range (cnt ns).toNat).map fun _ => true).all id) = true := by simp
    rw [z]
    exact q H3
end
end K20
set_option Elab.async false
set_option linter.all false
set_option maxRecDepth 100000
set_option maxHeartbeats 4000000
namespace K20
open PySem PySem.Spec PyProof.Rows L2 Evl SwX
section
variable {P : Program} {w : World} {K : PySem.W.Frag} {mg : Str → Option Value} {base : Heap} {f : Addr} {fd : FuncData} {C : Addr}
theorem keep_eq {α : Type} (rs : List α) (slot : Nat) : keepAt (fun i => !decide (i = slot)) 0 rs = rs.take slot ++ rs.drop (slot + 1) := keep_slot rs 0 slot
/-- without, by its star parameter -/
theorem wo_fn (M : CatM P w K mg base C) (m_len : mg "len" = none) (m_tuple : mg "tuple" = none) (m_enumerate : mg "enumerate" = none) (D_is_between : Has P w K mg base "is_between" 2 ["value", "low", "high"] spBetween) (F : FnM K "without" "Catalogue.without" s_Cat_without [] f fd) : FnR P w K mg base CX0 7 f (spWoS K C) := by
  obtain ⟨oc, od, dV, kV, doc, pm, an, cdv, ct, osl, rfl, lk, hcd, dv, _⟩ := F.ex
  obtain rfl : dV = .none := dv.elim (fun z => z.2) fun z => absurd rfl z.1
  refine FnR.imp (StX.fn_star (ps := ["self"]) (pv := "rows") (k := 6) (sp := spWo K C) lk hcd sc_Cat_without StX.cxUp_none (StX.bind_star1 (B := fun us => bindArgs (PySem.W.fnOf "without" "Catalogue.without" (defArgs s_Cat_without) (defBody s_Cat_without) (defScope s_Cat_without) .none kV doc pm an cdv ct) ⟨us, []⟩) (p1 := "self") (pv := "rows") (fun a => by rfl) (fun a r rs => by rfl)) fun A outer s H vs Q E hr h => body_Cat_without M m_len m_tuple m_enumerate D_is_between cdv A outer s H vs Q E hr h) fun vs H Q E h => ?_
  obtain ⟨v, ns, rs, slot, rfl, hv, lt, okn, okr, q⟩ := h
  have e := keep_eq rs slot
  refine ⟨[v], [.int (slot : Int)], rfl, rfl, show 1 ≤ sizeLine by decide, fun p hp => ⟨v, p, ns, rs, slot, rfl, cat_mono _ _ _ (Ex.new hp) hv, .inl (.inl upd_same), lt, okn, okr, ?_, fun w H' e1 c => ?_⟩⟩
  · rw [e]
    exact rules_sub okr (cutR_nodup okr.nd _) (fun x hx => cutR_mem hx) fun _ h => h
  · rw [e] at c
    exact q w H' ((Ex.new hp).trans e1) c
end
end K20
set_option Elab.async false
set_option linter.all false
set_option maxRecDepth 100000
set_option maxHeartbeats 0
namespace K20
open PySem PySem.Spec PyProof.Rows L2 SwX
abbrev R : PySem.W.OpenRow := PySem.W.OpenLaw.row PySem.Challenge.rw_sealedweights_k20_whole_catalogues_recip
def dL (x : Str) (i : Nat) : He5.DefA := ⟨fun K => He.ga K x, x, x, defArgs (top i), defBody (top i), defScope (top i), [], []⟩
def dM (m q : Str) (j : Nat) (ds : List He.Dv) : He5.DefA := ⟨fun K => He.ma K (He.ga K "Catalogue") m, m, q, defArgs (inClass (top 26) j), defBody (inClass (top 26) j), defScope (inClass (top 26) j), ds, []⟩
def dR : He5.DefA := ⟨fun K => He5.wf K (He.ga K "Catalogue") "classmethod" "read", "read", "Catalogue.read", defArgs (inClass (top 26) 1), defBody (inClass (top 26) 1), defScope (inClass (top 26) 1), [], []⟩
def fn : List He5.DefA := [dL "is_integer" 15, dL "is_between" 16, dL "is_name" 17, dL "number_of" 18, dL "is_recipe" 20, dL "check_kinds" 21, dL "check_recipes" 22, dL "text_of" 23, dL "recipe_of" 24, dL "parts_of_text" 25, dL "check_catalogue" 27, dL "_law_seed" 29, dL "_law_purse" 30, dL "_law_draw" 31, dL "_law_name" 32, dL "_law_names" 33, dL "_law_rule" 34, dL "_law_rules" 35, dL "_law_text" 36, dL "_law_grown_right" 37, dL "_law_taken_right" 38, dL "_law_pieces_right" 39, dL "_law_right" 40, dL "law" 41, dM "__init__" "Catalogue.__init__" 0 [.adr (He.dflAt ("Catalogue", some "__init__") 0)], dM "without" "Catalogue.without" 4 [], dM "__add__" "Catalogue.__add__" 5 [], dM "__eq__" "Catalogue.__eq__" 6 [], dM "__str__" "Catalogue.__str__" 7 [], dM "__len__" "Catalogue.__len__" 9 [], dM "__bool__" "Catalogue.__bool__" 10 [], dR]
def fa : List He.Fa := [.glo "is_integer", .glo "is_between", .glo "is_name", .glo "number_of", .glo "is_recipe", .glo "check_kinds", .glo "check_recipes", .glo "text_of", .glo "recipe_of", .glo "parts_of_text", .glo "check_catalogue", .glo "_law_seed", .glo "_law_purse", .glo "_law_draw", .glo "_law_name", .glo "_law_names", .glo "_law_rule", .glo "_law_rules", .glo "_law_text", .glo "_law_grown_right", .glo "_law_taken_right", .glo "_law_pieces_right", .glo "_law_right", .glo "law", .glo "Catalogue", .free "len", .free "str", .free "repr", .free "isinstance", .free "range", .free "all", .free "zip", .free "max", .free "min", .free "int", .free "bool", .free "list", .free "tuple", .free "enumerate", .free "divmod", .int "LONGEST_NAME" 8, .int "MOST_KINDS" 4, .int "MOST_RECIPES" 10, .int "MOST_PARTS" 3, .int "MOST_OWN" 9, .str "LETTERS" "abcdefghijklmnopqrstuvwxyz", .str "DIGITS" "0123456789", .cls "Catalogue", .noat "Catalogue" "all_kinds", .noat "Catalogue" "all_recipes", .noat "Catalogue" "words", .meth "Catalogue" "without", .meth "Catalogue" "__add__", .meth "Catalogue" "__eq__", .meth "Catalogue" "__str__", .meth "Catalogue" "__len__", .meth "Catalogue" "__bool__", .mkr "Catalogue"]
def tupE (K : PySem.W.Frag) (a : Addr) : Bool := match K.lookup a with
  | some ⟨c, _, .seq its _, _⟩ => decide (c = .type "tuple") && decide (its.toList = [])
  | _ => false
def chk (K : PySem.W.Frag) : Bool := tupE K (He.dflAt ("Catalogue", some "__init__") 0 K) && (He.eqO (PySem.W.findIn K (.ref (He.ga K "Catalogue")) "__class__") (some (some (.builtin "object.__class__"))) && (He.eqO (PySem.W.specialIn K (.builtin "object.__class__") "__get__") (some (some (.builtin "getset_descriptor.__get__"))) && (decide (PySem.W.takesIn K (.builtin "object.__class__") = some true) && (decide (PySem.W.mroIn K (He.ga K "Catalogue") (.type "object") = some true) && (decide (PySem.W.kitOne K (.ref (He.ga K "Catalogue")) (.ref (He.ga K "Catalogue")) = some true) && (PySem.W.selfFirst K (He.ga K "Catalogue") && (eqOnly K (He.ga K "Catalogue") (He.ma K (He.ga K "Catalogue") "__eq__") && (PySem.W.readsIn K (He.ga K "Catalogue") (.type "type") && (He.eqO (PySem.W.specialIn K (.ref (He.ga K "Catalogue")) "__getattribute__") (some (some (.builtin "type.__getattribute__"))) && (He5.wrapB K (He.ga K "Catalogue") "classmethod" "classmethod.__get__" "read" && PySem.W.fnIn K (He5.wf K (He.ga K "Catalogue") "classmethod" "read")))))))))))
abbrev hk : PySem.W.Hook := hookE 5 fa fn chk
def ob (s : PySem.W.SharedT) : AlE := obsEG 5 fa fn chk (HandSHeadRun.getT s)
theorem ob_eq (s : PySem.W.SharedT) : ob s = hk.obs s.abs := obsEG_eq (HandSHeadRun.getT_eq s)
def names1 : List PySem.Str := ["__name__", "WrongValue", "InvalidText", "InvalidIndex", "NotACatalogue", "InvalidKinds", "InvalidRecipes", "MOST_KINDS", "MOST_RECIPES", "MOST_PARTS", "MOST_OWN", "DIGITS", "LETTERS", "LONGEST_NAME", "is_integer", "is_between", "is_name", "number_of", "is_recipe", "check_kinds"]
def names2 : List PySem.Str := ["check_recipes", "text_of", "recipe_of", "parts_of_text", "Catalogue", "check_catalogue", "_law_seed", "_law_purse", "_law_draw", "_law_name", "_law_names", "_law_rule", "_law_rules", "_law_text", "_law_grown_right", "_law_taken_right", "_law_pieces_right", "_law_right"]
def names : List PySem.Str := names1 ++ (names2)
theorem run (w : World) : HandSHeadRun.RunEq R (PySem.W.view R.prog [41]) hk ob 20000 names w := by
  intro os
  kernel_rfl
end K20
set_option Elab.async false
set_option linter.all false
set_option maxRecDepth 100000
set_option maxHeartbeats 0
namespace K20
open PySem PySem.Spec PyProof.Rows L2 SwX
theorem tupE_ok {K : PySem.W.Frag} {a : Addr} (h : tupE K a = true) : SqT K (fun _ => none) a [] := by
  unfold tupE at h
  split at h
  · rename_i c d its n sl e
    rw [Bool.and_eq_true] at h
    have e2 : its.toList = [] := of_decide_eq_true h.2
    refine .inr ⟨_, its, n, e, of_decide_eq_true h.1, rfl, ?_, by rw [e2]; exact .nil⟩
    rw [← Array.length_toList, e2]
    decide
  · cases h
section
variable {P : Program} {w : World} {K : PySem.W.Frag} {h : Heap} {mg : Str → Option Value} {base : Heap}
theorem facts {f : Addr} (X : K.In h) (G : h.Ns mainGlobals mg) (hfa : mg ("law" : Str) = some (.ref f)) (c : obsE fa fn chk K = valE fn) :
    ∃ fd : FuncData, (∀ (s : Shared) (v : Value), BindsTo s fd ⟨[v], []⟩ [("_law_script", v)]) ∧ ∀ base : Heap, K.In base → base.Ns mainGlobals mg → FnOk P w K mg base CX0 12 f fd ["_law_script"] (spLaw K) := by
  obtain ⟨ck, sd⟩ := saysE c
  unfold chk at ck
  simp only [Bool.and_eq_true] at ck
  obtain ⟨c0, c1, c2, c3, c4, c5, c6, c7, c8, c9, c10, c11⟩ := ck
  obtain ⟨fd0, F0⟩ := sd.def_ 0 (d := dL "is_integer" 15) rfl
  obtain ⟨fd1, F1⟩ := sd.def_ 1 (d := dL "is_between" 16) rfl
  obtain ⟨fd2, F2⟩ := sd.def_ 2 (d := dL "is_name" 17) rfl
  obtain ⟨fd3, F3⟩ := sd.def_ 3 (d := dL "number_of" 18) rfl
  obtain ⟨fd4, F4⟩ := sd.def_ 4 (d := dL "is_recipe" 20) rfl
  obtain ⟨fd5, F5⟩ := sd.def_ 5 (d := dL "check_kinds" 21) rfl
  obtain ⟨fd6, F6⟩ := sd.def_ 6 (d := dL "check_recipes" 22) rfl
  obtain ⟨fd7, F7⟩ := sd.def_ 7 (d := dL "text_of" 23) rfl
  obtain ⟨fd8, F8⟩ := sd.def_ 8 (d := dL "recipe_of" 24) rfl
  obtain ⟨fd9, F9⟩ := sd.def_ 9 (d := dL "parts_of_text" 25) rfl
  obtain ⟨fd10, F10⟩ := sd.def_ 10 (d := dL "check_catalogue" 27) rfl
  obtain ⟨fd11, F11⟩ := sd.def_ 11 (d := dL "_law_seed" 29) rfl
  obtain ⟨fd12, F12⟩ := sd.def_ 12 (d := dL "_law_purse" 30) rfl
  obtain ⟨fd13, F13⟩ := sd.def_ 13 (d := dL "_law_draw" 31) rfl
  obtain ⟨fd14, F14⟩ := sd.def_ 14 (d := dL "_law_name" 32) rfl
  obtain ⟨fd15, F15⟩ := sd.def_ 15 (d := dL "_law_names" 33) rfl
  obtain ⟨fd16, F16⟩ := sd.def_ 16 (d := dL "_law_rule" 34) rfl
  obtain ⟨fd17, F17⟩ := sd.def_ 17 (d := dL "_law_rules" 35) rfl
  obtain ⟨fd18, F18⟩ := sd.def_ 18 (d := dL "_law_text" 36) rfl
  obtain ⟨fd19, F19⟩ := sd.def_ 19 (d := dL "_law_grown_right" 37) rfl
  obtain ⟨fd20, F20⟩ := sd.def_ 20 (d := dL "_law_taken_right" 38) rfl
  obtain ⟨fd21, F21⟩ := sd.def_ 21 (d := dL "_law_pieces_right" 39) rfl
  obtain ⟨fd22, F22⟩ := sd.def_ 22 (d := dL "_law_right" 40) rfl
  obtain ⟨fd23, F23⟩ := sd.def_ 23 (d := dL "law" 41) rfl
  obtain ⟨fd24, F24⟩ := sd.def_ 24 (d := dM "__init__" "Catalogue.__init__" 0 [.adr (He.dflAt ("Catalogue", some "__init__") 0)]) rfl
  obtain ⟨fd25, F25⟩ := sd.def_ 25 (d := dM "without" "Catalogue.without" 4 []) rfl
  obtain ⟨fd26, F26⟩ := sd.def_ 26 (d := dM "__add__" "Catalogue.__add__" 5 []) rfl
  obtain ⟨fd27, F27⟩ := sd.def_ 27 (d := dM "__eq__" "Catalogue.__eq__" 6 []) rfl
  obtain ⟨fd28, F28⟩ := sd.def_ 28 (d := dM "__str__" "Catalogue.__str__" 7 []) rfl
  obtain ⟨fd29, F29⟩ := sd.def_ 29 (d := dM "__len__" "Catalogue.__len__" 9 []) rfl
  obtain ⟨fd30, F30⟩ := sd.def_ 30 (d := dM "__bool__" "Catalogue.__bool__" 10 []) rfl
  obtain ⟨fd31, F31⟩ := sd.def_ 31 (d := dR) rfl
  have k_is_integer := He.glo_ok X G (sd.fact 0 (f := .glo "is_integer") rfl)
  have k_is_between := He.glo_ok X G (sd.fact 1 (f := .glo "is_between") rfl)
  have k_is_name := He.glo_ok X G (sd.fact 2 (f := .glo "is_name") rfl)
  have k_number_of := He.glo_ok X G (sd.fact 3 (f := .glo "number_of") rfl)
  have k_is_recipe := He.glo_ok X G (sd.fact 4 (f := .glo "is_recipe") rfl)
  have k_check_kinds := He.glo_ok X G (sd.fact 5 (f := .glo "check_kinds") rfl)
  have k_check_recipes := He.glo_ok X G (sd.fact 6 (f := .glo "check_recipes") rfl)
  have k_text_of := He.glo_ok X G (sd.fact 7 (f := .glo "text_of") rfl)
  have k_recipe_of := He.glo_ok X G (sd.fact 8 (f := .glo "recipe_of") rfl)
  have k_parts_of_text := He.glo_ok X G (sd.fact 9 (f := .glo "parts_of_text") rfl)
  have k_check_catalogue := He.glo_ok X G (sd.fact 10 (f := .glo "check_catalogue") rfl)
  have k__law_seed := He.glo_ok X G (sd.fact 11 (f := .glo "_law_seed") rfl)
  have k__law_purse := He.glo_ok X G (sd.fact 12 (f := .glo "_law_purse") rfl)
  have k__law_draw := He.glo_ok X G (sd.fact 13 (f := .glo "_law_draw") rfl)
  have k__law_name := He.glo_ok X G (sd.fact 14 (f := .glo "_law_name") rfl)
  have k__law_names := He.glo_ok X G (sd.fact 15 (f := .glo "_law_names") rfl)
  have k__law_rule := He.glo_ok X G (sd.fact 16 (f := .glo "_law_rule") rfl)
  have k__law_rules := He.glo_ok X G (sd.fact 17 (f := .glo "_law_rules") rfl)
  have k__law_text := He.glo_ok X G (sd.fact 18 (f := .glo "_law_text") rfl)
  have k__law_grown_right := He.glo_ok X G (sd.fact 19 (f := .glo "_law_grown_right") rfl)
  have k__law_taken_right := He.glo_ok X G (sd.fact 20 (f := .glo "_law_taken_right") rfl)
  have k__law_pieces_right := He.glo_ok X G (sd.fact 21 (f := .glo "_law_pieces_right") rfl)
  have k__law_right := He.glo_ok X G (sd.fact 22 (f := .glo "_law_right") rfl)
  have k_law := He.glo_ok X G (sd.fact 23 (f := .glo "law") rfl)
  have k_Catalogue := He.glo_ok X G (sd.fact 24 (f := .glo "Catalogue") rfl)
  have m_len := He.free_ok X G (sd.fact 25 (f := .free "len") rfl)
  have m_str := He.free_ok X G (sd.fact 26 (f := .free "str") rfl)
  have m_repr := He.free_ok X G (sd.fact 27 (f := .free "repr") rfl)
  have m_isinstance := He.free_ok X G (sd.fact 28 (f := .free "isinstance") rfl)
  have m_range := He.free_ok X G (sd.fact 29 (f := .free "range") rfl)
  have m_all := He.free_ok X G (sd.fact 30 (f := .free "all") rfl)
  have m_zip := He.free_ok X G (sd.fact 31 (f := .free "zip") rfl)
  have m_max := He.free_ok X G (sd.fact 32 (f := .free "max") rfl)
  have m_min := He.free_ok X G (sd.fact 33 (f := .free "min") rfl)
  have m_int := He.free_ok X G (sd.fact 34 (f := .free "int") rfl)
  have m_bool := He.free_ok X G (sd.fact 35 (f := .free "bool") rfl)
  have m_list := He.free_ok X G (sd.fact 36 (f := .free "list") rfl)
  have m_tuple := He.free_ok X G (sd.fact 37 (f := .free "tuple") rfl)
  have m_enumerate := He.free_ok X G (sd.fact 38 (f := .free "enumerate") rfl)
  have m_divmod := He.free_ok X G (sd.fact 39 (f := .free "divmod") rfl)
  have g_LONGEST_NAME := He.int_ok X G (sd.fact 40 (f := .int "LONGEST_NAME" 8) rfl)
  have g_MOST_KINDS := He.int_ok X G (sd.fact 41 (f := .int "MOST_KINDS" 4) rfl)
  have g_MOST_RECIPES := He.int_ok X G (sd.fact 42 (f := .int "MOST_RECIPES" 10) rfl)
  have g_MOST_PARTS := He.int_ok X G (sd.fact 43 (f := .int "MOST_PARTS" 3) rfl)
  have g_MOST_OWN := He.int_ok X G (sd.fact 44 (f := .int "MOST_OWN" 9) rfl)
  have g_LETTERS := He.str_ok X G (sd.fact 45 (f := .str "LETTERS" "abcdefghijklmnopqrstuvwxyz") rfl)
  have g_DIGITS := He.str_ok X G (sd.fact 46 (f := .str "DIGITS" "0123456789") rfl)
  have hcls := He.cls_ok (sd.fact 47 (f := .cls "Catalogue") rfl)
  have n_all_kinds := He.noat_ok (sd.fact 48 (f := .noat "Catalogue" "all_kinds") rfl)
  have n_all_recipes := He.noat_ok (sd.fact 49 (f := .noat "Catalogue" "all_recipes") rfl)
  have n_words := He.noat_ok (sd.fact 50 (f := .noat "Catalogue" "words") rfl)
  have t_without := He.meth_ok (sd.fact 51 (f := .meth "Catalogue" "without") rfl)
  have t_add := He.meth_ok (sd.fact 52 (f := .meth "Catalogue" "__add__") rfl)
  have t_eq := He.meth_ok (sd.fact 53 (f := .meth "Catalogue" "__eq__") rfl)
  have t_str := He.meth_ok (sd.fact 54 (f := .meth "Catalogue" "__str__") rfl)
  have t_len := He.meth_ok (sd.fact 55 (f := .meth "Catalogue" "__len__") rfl)
  have t_bool := He.meth_ok (sd.fact 56 (f := .meth "Catalogue" "__bool__") rfl)
  have hmk := He.mkr_ok (sd.fact 57 (f := .mkr "Catalogue") rfl)
  have e := hfa.symm.trans k_law
  cases e
  have b := FunD.bindsA (ps := ["_law_script"]) F23 fun _ _ _ _ _ _ us hl => match us, hl with | [_], _ => rfl
  refine ⟨fd23, fun s v => b s [v] rfl, fun base _ _ => ?_⟩
  have D__law_seed : Has P w K mg base "_law_seed" 1 ["_law_script", "_law_k"] (spSeed K) := ⟨_, fd11, ok_seed F11 m_len m_int, k__law_seed, F11.kp, (FunD.bindsN (ps := ["_law_script", "_law_k"]) F11 fun _ _ _ _ _ _ us hl => match us, hl with | [_, _], _ => rfl)⟩
  have D__law_purse : Has P w K mg base "_law_purse" 1 ["_law_number"] (spPurse) := ⟨_, fd12, ok_purse F12 m_int, k__law_purse, F12.kp, (FunD.bindsN (ps := ["_law_number"]) F12 fun _ _ _ _ _ _ us hl => match us, hl with | [_], _ => rfl)⟩
  have D__law_draw : Has P w K mg base "_law_draw" 1 ["_law_purse_here", "_law_many"] (spDraw) := ⟨_, fd13, ok_draw F13 m_int m_divmod, k__law_draw, F13.kp, (FunD.bindsN (ps := ["_law_purse_here", "_law_many"]) F13 fun _ _ _ _ _ _ us hl => match us, hl with | [_, _], _ => rfl)⟩
  have D__law_name : Has P w K mg base "_law_name" 2 ["_law_purse_here"] (spName) := ⟨_, fd14, ok_name D__law_draw F14 m_range, k__law_name, F14.kp, (FunD.bindsN (ps := ["_law_purse_here"]) F14 fun _ _ _ _ _ _ us hl => match us, hl with | [_], _ => rfl)⟩
  have D__law_names : Has P w K mg base "_law_names" 3 ["_law_purse_here"] (spNames) := ⟨_, fd15, ok_names D__law_draw D__law_name F15 m_range m_tuple, k__law_names, F15.kp, (FunD.bindsN (ps := ["_law_purse_here"]) F15 fun _ _ _ _ _ _ us hl => match us, hl with | [_], _ => rfl)⟩
  have D__law_rule : Has P w K mg base "_law_rule" 2 ["_law_purse_here", "_law_names_here"] (spRule K) := ⟨_, fd16, ok_rule D__law_draw F16 m_range m_tuple m_len, k__law_rule, F16.kp, (FunD.bindsN (ps := ["_law_purse_here", "_law_names_here"]) F16 fun _ _ _ _ _ _ us hl => match us, hl with | [_, _], _ => rfl)⟩
  have D__law_rules : Has P w K mg base "_law_rules" 3 ["_law_purse_here", "_law_names_here", "_law_most"] (spRules K) := ⟨_, fd17, ok_rules D__law_draw D__law_rule F17 m_range m_tuple, k__law_rules, F17.kp, (FunD.bindsN (ps := ["_law_purse_here", "_law_names_here", "_law_most"]) F17 fun _ _ _ _ _ _ us hl => match us, hl with | [_, _, _], _ => rfl)⟩
  have D__law_text : Has P w K mg base "_law_text" 1 ["_law_names_here", "_law_rules_here"] (spText K) := ⟨_, fd18, ok_ltext F18 m_str, k__law_text, F18.kp, (FunD.bindsN (ps := ["_law_names_here", "_law_rules_here"]) F18 fun _ _ _ _ _ _ us hl => match us, hl with | [_, _], _ => rfl)⟩
  have D_text_of : Has P w K mg base "text_of" 1 ["kinds", "recipes"] (spText K) := ⟨_, fd7, ok_text_of F7, k_text_of, F7.kp, (FunD.bindsN (ps := ["kinds", "recipes"]) F7 fun _ _ _ _ _ _ us hl => match us, hl with | [_, _], _ => rfl)⟩
  have D_is_integer : Has P w K mg base "is_integer" 1 ["value"] (spIsInt) := ⟨_, fd0, ok_is_integer m_isinstance m_int m_bool F0, k_is_integer, F0.kp, (FunD.bindsN (ps := ["value"]) F0 fun _ _ _ _ _ _ us hl => match us, hl with | [_], _ => rfl)⟩
  have D_is_between : Has P w K mg base "is_between" 2 ["value", "low", "high"] (spBetween) := ⟨_, fd1, ok_is_between D_is_integer F1, k_is_between, F1.kp, (FunD.bindsN (ps := ["value", "low", "high"]) F1 fun _ _ _ _ _ _ us hl => match us, hl with | [_, _, _], _ => rfl)⟩
  have D_is_name : Has P w K mg base "is_name" 1 ["value"] (spIsName) := ⟨_, fd2, ok_is_name m_isinstance m_str m_len m_all g_LONGEST_NAME g_LETTERS g_DIGITS F2, k_is_name, F2.kp, (FunD.bindsN (ps := ["value"]) F2 fun _ _ _ _ _ _ us hl => match us, hl with | [_], _ => rfl)⟩
  have D_is_recipe : Has P w K mg base "is_recipe" 3 ["value", "kinds"] (spIsRecipe K) := ⟨_, fd4, ok_is_recipe m_isinstance m_tuple m_len m_all g_MOST_OWN g_MOST_PARTS D_is_between F4, k_is_recipe, F4.kp, (FunD.bindsN (ps := ["value", "kinds"]) F4 fun _ _ _ _ _ _ us hl => match us, hl with | [_, _], _ => rfl)⟩
  have D_check_kinds : Has P w K mg base "check_kinds" 2 ["kinds"] (spChkK K) := ⟨_, fd5, ok_check_kinds m_isinstance m_tuple m_enumerate g_MOST_KINDS D_is_name F5, k_check_kinds, F5.kp, (FunD.bindsN (ps := ["kinds"]) F5 fun _ _ _ _ _ _ us hl => match us, hl with | [_], _ => rfl)⟩
  have D_check_recipes : Has P w K mg base "check_recipes" 4 ["recipes", "kinds"] (spChkR K) := ⟨_, fd6, ok_check_recipes m_isinstance m_tuple m_enumerate g_MOST_RECIPES D_is_recipe F6, k_check_recipes, F6.kp, (FunD.bindsN (ps := ["recipes", "kinds"]) F6 fun _ _ _ _ _ _ us hl => match us, hl with | [_, _], _ => rfl)⟩
  have D_number_of : Has P w K mg base "number_of" 1 ["word"] (spNumber) := ⟨_, fd3, ok_number_of m_len m_all m_int g_DIGITS F3, k_number_of, F3.kp, (FunD.bindsN (ps := ["word"]) F3 fun _ _ _ _ _ _ us hl => match us, hl with | [_], _ => rfl)⟩
  have D_recipe_of : Has P w K mg base "recipe_of" 2 ["line"] (spRecOf K) := ⟨_, fd8, ok_recipe_of m_len m_tuple D_number_of F8, k_recipe_of, F8.kp, (FunD.bindsN (ps := ["line"]) F8 fun _ _ _ _ _ _ us hl => match us, hl with | [_], _ => rfl)⟩
  have D_parts_of_text : Has P w K mg base "parts_of_text" 3 ["text"] (spParts K) := ⟨_, fd9, ok_parts_of_text m_isinstance m_str m_tuple D_recipe_of F9, k_parts_of_text, F9.kp, (FunD.bindsN (ps := ["text"]) F9 fun _ _ _ _ _ _ us hl => match us, hl with | [_], _ => rfl)⟩
  have cC : CatC K (He.ga K "Catalogue") := ⟨hcls, n_all_kinds, n_all_recipes, n_words, He.eqO_ok c1, He.eqO_ok c2, of_decide_eq_true c3, of_decide_eq_true c4, of_decide_eq_true c5⟩
  obtain ⟨da, va, ba⟩ := FunD.binds1 (ps := ["self", "kinds", "recipes"]) F24 3 1 (List.cons_ne_nil _ _) rfl fun T kV doc pm an cdv ct us its h1 h2 => match us, its, h1, h2 with | [_, _, _], [_], _, _ => ⟨_, rfl, rfl⟩
  obtain rfl : da = [] := by cases va; rfl
  obtain ⟨db, vb, bb⟩ := FunD.binds1 (ps := ["self", "kinds", "recipes"]) F24 2 0 (List.cons_ne_nil _ _) rfl fun T kV doc pm an cdv ct us its h1 h2 => match us, its, h1, h2 with | [_, _], [_], _, _ => ⟨_, rfl, rfl⟩
  have M : CatM P w K mg base (He.ga K "Catalogue") := ⟨⟨_, fd24, He.dflAt ("Catalogue", some "__init__") 0 K, db, hmk, ok_Cat_init cC D_check_kinds D_check_recipes D_text_of F24, ba, bb, vb, tupE_ok c0⟩, k_Catalogue, cC⟩
  have D_check_catalogue : Has P w K mg base "check_catalogue" 1 ["value"] (spChkC K (He.ga K "Catalogue")) := ⟨_, fd10, ok_check_catalogue cC k_Catalogue m_isinstance F10, k_check_catalogue, F10.kp, (FunD.bindsN (ps := ["value"]) F10 fun _ _ _ _ _ _ us hl => match us, hl with | [_], _ => rfl)⟩
  have O : CatO P w K mg base (He.ga K "Catalogue") := ⟨M, c6, ⟨_, _, ok_Cat_add M m_len g_MOST_KINDS g_MOST_RECIPES D_check_catalogue F26, ⟨t_add.1, t_add.2⟩, (FunD.bindsN (ps := ["self", "other"]) F26 fun _ _ _ _ _ _ us hl => match us, hl with | [_, _], _ => rfl)⟩, ⟨_, _, ok_Cat_eq cC k_Catalogue m_isinstance F27, ⟨t_eq.1, t_eq.2⟩, (FunD.bindsN (ps := ["self", "other"]) F27 fun _ _ _ _ _ _ us hl => match us, hl with | [_, _], _ => rfl), c7⟩, ⟨_, _, ok_Cat_str cC m_str F28, ⟨t_str.1, t_str.2⟩, (FunD.bindsN (ps := ["self"]) F28 fun _ _ _ _ _ _ us hl => match us, hl with | [_], _ => rfl)⟩, ⟨_, _, ok_Cat_len cC m_len F29, ⟨t_len.1, t_len.2⟩, (FunD.bindsN (ps := ["self"]) F29 fun _ _ _ _ _ _ us hl => match us, hl with | [_], _ => rfl)⟩, ⟨_, _, ok_Cat_bool F30, ⟨t_bool.1, t_bool.2⟩, (FunD.bindsN (ps := ["self"]) F30 fun _ _ _ _ _ _ us hl => match us, hl with | [_], _ => rfl)⟩⟩
  have W : CatW P w K mg base (He.ga K "Catalogue") := ⟨_, t_without, wo_fn M m_len m_tuple m_enumerate D_is_between F25⟩
  have R : CatR P w K mg base (He.ga K "Catalogue") := ⟨.type "type", _, _, ⟨c8, He.eqO_ok c9⟩, He5.cmet_of c10 c11, FnR.imp (FnOk.raw (ok_Cat_read M D_parts_of_text F31) (FunD.bindsN (ps := ["cls", "text"]) F31 fun _ _ _ _ _ _ us hl => match us, hl with | [_, _], _ => rfl) .nil) fun vs H Q E z => by rw [List.append_nil]; exact z⟩
  have D__law_grown_right : Has P w K mg base "_law_grown_right" 10 ["_law_names_here", "_law_rules_here"] (spGrown K) := ⟨_, fd19, ok_grown O R D__law_text m_len m_range m_str m_list m_all m_zip F19, k__law_grown_right, F19.kp, (FunD.bindsN (ps := ["_law_names_here", "_law_rules_here"]) F19 fun _ _ _ _ _ _ us hl => match us, hl with | [_, _], _ => rfl)⟩
  have D__law_taken_right : Has P w K mg base "_law_taken_right" 10 ["_law_purse_here", "_law_names_here", "_law_rules_here"] (spTaken K) := ⟨_, fd20, ok_taken O W D__law_text D__law_draw m_len m_range m_str m_list m_tuple m_bool F20, k__law_taken_right, F20.kp, (FunD.bindsN (ps := ["_law_purse_here", "_law_names_here", "_law_rules_here"]) F20 fun _ _ _ _ _ _ us hl => match us, hl with | [_, _, _], _ => rfl)⟩
  have D__law_pieces_right : Has P w K mg base "_law_pieces_right" 10 ["_law_purse_here", "_law_names_here", "_law_rules_here"] (spPieces K) := ⟨_, fd21, ok_pieces O D__law_text D__law_draw m_len m_str m_tuple F21, k__law_pieces_right, F21.kp, (FunD.bindsN (ps := ["_law_purse_here", "_law_names_here", "_law_rules_here"]) F21 fun _ _ _ _ _ _ us hl => match us, hl with | [_, _, _], _ => rfl)⟩
  have D__law_right : Has P w K mg base "_law_right" 11 ["_law_purse_here"] (spRight) := ⟨_, fd22, ok_right D__law_names D__law_rules D__law_grown_right D__law_taken_right D__law_pieces_right F22, k__law_right, F22.kp, (FunD.bindsN (ps := ["_law_purse_here"]) F22 fun _ _ _ _ _ _ us hl => match us, hl with | [_], _ => rfl)⟩
  exact ok_law D__law_seed D__law_purse D__law_right F23 m_len m_all m_range m_max m_min
end
end K20
open PySem PySem.W PySem.Calls PyProof.Rows
theorem PySem.Challenge.cw_sealedweights_k20_whole_catalogues_recip_holds : PySem.Challenge.rw_sealedweights_k20_whole_catalogues_recip.Holds := by
  w_on; o_law
  refine HandSHeadRun.head_any (r := K20.R) (q := view K20.R.prog [41]) (H := K20.hk) (ob := K20.ob) (M := 20000) (loose := K20.names) (d := HandSHeadRun.topDef K20.R.prog 41) (kwd := []) K20.ob_eq
    (by kernel_rfl) (fun s => by kernel_rfl) K20.run (by kernel_rfl) (by kernel_rfl) (by kernel_rfl) (by rfl) (by first | assumption | decide +kernel) (by decide +kernel) ⟨rfl, rfl, rfl, rfl, rfl, by decide +kernel⟩ ?hw ?hc
  case hw => w_witness2
  case hc =>
    refine SwX.walk_ofG (l := PySem.Challenge.rw_sealedweights_k20_whole_catalogues_recip) (n := 63) (k := 12) (x := "_law_script") (CX := L2.CX0) rfl (by decide) (by kernel_rfl) ⟨rfl, by decide, by decide⟩ ?F (fun _ _ _ _ z => z)
    intro w mg fa h Y G hmg0
    obtain ⟨K, KX, c⟩ := Y
    have hmg : mg ("law" : PySem.Str) = some (.ref fa) := by
      have e : (HandSHeadRun.topDef K20.R.prog 41).name = ("law" : PySem.Str) := by kernel_rfl
      rw [← e]
      exact hmg0
    obtain ⟨fd, hb, hF⟩ := K20.facts (P := (PySem.Challenge.rw_sealedweights_k20_whole_catalogues_recip).prog) (w := w) KX G hmg c
    exact ⟨K, fd, K20.spLaw K, KX, hb, fun H a ns hl hS => ⟨a, ns, rfl, hS, fun _ => rfl⟩, fun base x y => SwX.FnOk.calm (hF base x y)⟩
