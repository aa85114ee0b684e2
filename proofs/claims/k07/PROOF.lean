import PyProof.Rows.All
import Wide.All
import OpenK.AllK
import Wide.FinOn
import HandS.ForMost
import HandS.ExcInit
import HandS.ExcIs
import HandS.MakeKw
import KE.KExcIs
import HandS.IsInst
import HandS.ExcOwn
import HandS.ExcValue
import PyProof.EqAt
import PyProof.EqKinds
import PyProof.ReprRoads
import HandS.Deep
import HandS.Defaults
import HandS.Evl
import HandS.Exc
import HandS.Head0
import HandS.Head1
import HandS.Head2
import HandS.HeadHook1
import HandS.HeadHook2
import HandS.WideBits
import PyProof.ReprLen
import PyProof.FitsInt
import PyProof.InstNe
import OpenK.KMeth
import OpenK.KOps
import KE.KCallOwn
import HandS.OwnEq
import KE.GoesEnum
import HandS.More
import HandS.ClsMeth
import HandS.CallLocal
import HandS.FStr
import PyProof.P3In
import HandS.TupAny
import HandS.RaiseMore
import HandS.Codes
import HandS.JoinGen
import HandS.Walk
import HandS.Star
import PyProof.Conv_bool
import KE.KRevSl
import HandS.Style
import HandS.HeadNt
import KE.KTryMore
import HandS.HotCalls
import HandS.Lambda
import PyProof.FactsAll.dict
import HandS.EndTab
import HandS.HeadHook3
import HandS.HeadHook4
import HandS.Set
import HandS.SetFor
import HandS.Strs
import HandS.Property
import HandS.Comp
import HandS.DictComp
import HandS.Dict
import HandS.Iter
import HandS.List
import HandS.MakeKwOnly
import PyProof.ReprNest
import HandS.Base
import HandS.Call
import HandS.ExcCtx
import HandS.ExcInitHot
import HandS.TryOnly
import HandS.Hot
import HandS.SuiteRaise
import HandS.RaiseFrom
import PyProof.Walk
import PyProof.WalkLemmas
import PyProof.RaisesAny
import PyProof.NoPylong
import PySem.Challenge.RW_sealedweights_k07_first_onward_and_below
import HandS.MapSum
import HandS.Conv
import KE.KStateDown
import HandS.HeadEnd
set_option Elab.async false
set_option linter.all false
set_option maxRecDepth 100000
set_option maxHeartbeats 4000000
/-! own exceptions made by a call with keywords, over any of the built-in bases -/
namespace SwX
open PySem PySem.W
/-- C is a class of the text whose bases end in a built-in exception's -/
structure Born (h : Heap) (C : Addr) (newId : String) (bm : List Value) : Prop where
  ex : ∃ nm q N bs hd sn sub ab col dd k0 k1 k2 k3 k5, h.get? C = some (excClassObj nm q C N bs bm hd sn sub ab col dd k0 k1 k2 k3 k5 newId)
local macro_rules | `(tactic| walk_at "sw ask") => `(tactic| repeat (first
  | refine wpAny_loadPart_at ‹_› ?_
  | (refine wpAny_isSubtype_exc ‹_› ?_; first | rw [show List.contains (_ :: _) _ = true from ‹_›] | rw [show List.contains (_ :: _) _ = false from ‹_›])
  | refine wpAny_staticBase_exc ‹_› ?_
  | refine wpAny_madeBy_exc ‹_› ?_
  | simp only [bne_self_eq_false, Bool.false_eq_true, if_false]
  | wp_step))
local macro_rules | `(tactic| walk_at "sw ask1") => `(tactic| first
  | refine wpAny_loadPart_at ‹_› ?_
  | (refine wpAny_isSubtype_exc ‹_› ?_; first | rw [show List.contains (_ :: _) _ = true from ‹_›] | rw [show List.contains (_ :: _) _ = false from ‹_›])
  | wp_step)
section
variable {prog : Program} {w : World} {A : Around} {R : Result → Shared → Prop} {E : Value → Shared → Prop} {h : Heap} {g : Array GenState} {d : Drawn} {t : Nat} {os : OsState}
variable {C fI : Addr} {bm bmB : List Value} {B newId initId : String} {pos : List Value} {kw : List (Str × Value)}
/-- what of the bases is asked -/
structure Line (bm bmB : List Value) (B : String) : Prop where
  own : ∀ C : Addr, (Value.ref C :: bm).contains (.type B) = true
  noA : ∀ C : Addr, (Value.ref C :: bm).contains (.type "AttributeError") = false
  noN : ∀ C : Addr, (Value.ref C :: bm).contains (.type "NameError") = false
theorem line_of (F : ExcBaseFacts B newId initId bmB) (same : ∀ T : String, bm.contains (.type T) = bmB.contains (.type T)) : Line bm bmB B :=
  ⟨fun C => by rw [List.contains_cons, same, F.hasB]; exact Bool.or_true _, fun C => by rw [List.contains_cons, same, F.noAttr]; rfl, fun C => by rw [List.contains_cons, same, F.noName]; rfl⟩
/-- the two objects that a call lays: the arguments' tuple, the exception -/
abbrev laid2 (h : Heap) (C : Addr) (pos : List Value) : Heap := (h.push (kdv_tup pos)).push (PySem.HandSPX.excO C h.objs.size)
theorem look_new (F : ExcBaseFacts B newId initId bmB) (l : Line bm bmB B) (c : Born h C newId bm) {Q : Unit → Shared → Prop} (q : Q () ⟨h, g, d, t, os⟩) :
    wpAny (model prog w) A (checkBuiltinCall newId ⟨.ref C :: pos, kw⟩) Q E ⟨h, g, d, t, os⟩ := by
  obtain ⟨nm, qn, N, bs, hd, sn, sub, ab, col, dd, k0, k1, k2, k3, k5, hC⟩ := c.ex
  have own := l.own C
  have hs := F.noStar
  simp only [checkBuiltinCall, F.newKind, F.newSplit, F.newRow]
  walk_at "sw ask"
  exact q

/-- BaseException.__new__: keywords are not asked -/
theorem run_new (F : ExcBaseFacts B newId initId bmB) (l : Line bm bmB B) (c : Born h C newId bm) (hz : pos.length ≤ sizeLine) (q : R (.ok (.ret (.ref (h.objs.size + 1)))) ⟨laid2 h C pos, g, d, t, os⟩) :
    codeAny (model prog w) A (.builtin newId ⟨.ref C :: pos, kw⟩) R ⟨h, g, d, t, os⟩ := by
  obtain ⟨nm, qn, N, bs, hd, sn, sub, ab, col, dd, k0, k1, k2, k3, k5, hC⟩ := c.ex
  have e1 := l.own C
  have e2 := l.noA C
  have e3 := l.noN C
  have e4 := F.ends
  refine codeAny_builtinAt F.entry ?_
  unfold Builtin.«BaseException.__new__»
  refine PySem.wpAt_bind ?_
  show PySem.wpAt _ _ _ (stack >>= _) _ _ _
  refine PySem.wpAt_bind (wpAt_stack fun p below => PySem.wpAt_of_wpAny ?_)
  wp_walk
  refine PySem.wpAt_of_wpAny ?_
  rw [F.owner]
  repeat (first | with_reducible refine wpAny_madeHere_exc F.canon hC ?_ | walk_at "sw ask1")
  show R _ _
  rw [Heap.size_push]
  exact q

/-- a call of the class: the arguments' tuple and the exception are laid, __init__ runs -/
theorem run_class (F : ExcBaseFacts B newId initId bmB) (l : Line bm bmB B) (c : Born h C newId bm) (hz : pos.length ≤ sizeLine) (hi : Looks (model prog w) h (typeLookup (.ref C) "__init__") (some (.ref fI)))
    (hb : ∀ self, Looks (model prog w) h (bindSpecial (.ref fI) self) (.ref fI, [self]))
    (q : codeAny (model prog w) (A.under (.builtin "type.__call__" ⟨.ref C :: pos, kw⟩)) (.call (.ref fI) ⟨.ref (h.objs.size + 1) :: pos, kw⟩) (InitBack (h.objs.size + 1) R) ⟨laid2 h C pos, g, d, t, os⟩) :
    codeAny (model prog w) A (.call (.ref C) ⟨pos, kw⟩) R ⟨h, g, d, t, os⟩ := by
  obtain ⟨nm, qn, N, bs, hd, sn, sub, ab, col, dd, k0, k1, k2, k3, k5, hC⟩ := id c.ex
  have up : ∀ b o, h.get? b = some o → (laid2 h C pos).get? b = some o := fun b o z => Heap.get?_push_of_some _ (Heap.get?_push_of_some _ z)
  have hC' := up _ _ hC
  have it : (laid2 h C pos).get? (h.objs.size + 1) = some (PySem.HandSPX.excO C h.objs.size) := by heap_get
  have self : (Value.ref C :: bm).contains (.ref C) = true := by simp
  have isT : Looks (model prog w) h (isInstance (.ref C) (.type "type")) true := fun A' Q' E' s' k z => by
    have hC1 := k _ _ hC
    have sub1 := tc_sub
    obtain ⟨h1, g1, d1, t1, os1⟩ := s'
    unfold isInstance
    repeat (first | assumption | with_reducible refine wpAny_loadPart_at hC1 ?_ | wp_step)
  have i1 := hi.keeps up
  have b1 := (hb (.ref (h.objs.size + 1))).keeps up
  have c1 := tc_lookup
  have c2 := tc_bind (.ref C)
  have ty : (⟨h, g, d, t, os⟩ : Shared).TypeIs (.ref C) "type" := ⟨_, hC, rfl⟩
  refine codeAny_of_tree ?_
  show wpAny _ _ (callAny (.ref C) _) _ _ _
  repeat (any_goals (first | assumption | with_reducible refine wpAny_loadPart_at hC ?_ | wp_step))
  refine And.intro rfl ?_
  refine codeAny_call_builtin_at (Code.quiet_builtin _ (by decide +kernel)) entry_typeCall (check_slot tc_kind tc_split isT (tc_args _ _ _) ?_)
  unfold Builtin.«type.__call__»
  repeat (first | with_reducible refine wpAny_loadPart_at hC ?_ | with_reducible refine wpAny_madeBy_exc hC ?_ | wp_step)
  refine codeAny_call_builtin_code (Code.quiet_builtin _ F.quiet) (look_new F l c (run_new F l c hz ?_))
  show wpAny _ _ _ _ _ _
  unfold isInstance
  repeat (first | with_reducible refine wpAny_loadPart_at it ?_ | wp_step)
  show wpAny _ _ (isSubtype (.ref C) (.ref C)) _ _ _
  refine wpAny_isSubtype_exc hC' ?_
  rw [self]
  repeat (first | with_reducible refine wpAny_loadPart_at it ?_ | wp_step)
  show wpAny _ _ (typeLookup (.ref C) "__init__") _ _ _
  refine i1.at (wpAny_holding (wpAny_bind (b1.at ?_)))
  refine wpAny_bind (wpAny_call (codeAny_mono q fun r s' z => ?_))
  cases r with
  | error e => exact z
  | ok f =>
    cases f with
    | ret v =>
      obtain ⟨rfl, z⟩ := z
      first | exact wpAny_pure (wpAny_pure z) | (wp_walk; exact z)
    | next => exact z
    | brk => exact z
    | cont => exact z
end
end SwX
set_option Elab.async false
set_option linter.all false
set_option maxRecDepth 100000
set_option maxHeartbeats 4000000
/-! own exceptions as values: made, their fields stored and read, isinstance; over any of the built-in bases -/
namespace SwX
open PySem PySem.Spec PyProof.Rows L2
/-- a built-in base: its facts at calls and at stores -/
structure Base (B newId initId : String) (bmB : List Value) : Prop where
  call : ExcBaseFacts B newId initId bmB
  sto : StoreFacts B bmB "object.__setattr__" "object"
/-- what the written part says of an own exception class over one of them -/
structure Oex (K : PySem.W.Frag) (C : Addr) : Prop where
  base : ∃ B newId initId bmB, Base B newId initId bmB ∧ PySem.W.excOver K C bmB = true ∧
    ∃ nm q N bs bm hd sn sub ab col dd k0 k1 k2 k3 k5, K.lookup C = some (excClassObj nm q C N bs bm hd sn sub ab col dd k0 k1 k2 k3 k5 newId) ∧ PySem.W.excTail bmB bm = true
  set : PySem.W.findIn K (.ref C) "__setattr__" = some (some (.builtin "object.__setattr__"))
  get : PySem.W.findIn K (.ref C) "__getattribute__" = some (some (.builtin "BaseException.__getattribute__"))
  miss : PySem.W.findIn K (.ref C) "__getattr__" = some none
  exc : PySem.W.subIn K (.ref C) (.type "BaseException") = some true
  dct : PySem.W.hasDictIn K C = true
  cl : PySem.W.findIn K (.ref C) "__class__" = some (some (.builtin "object.__class__"))
  clg : PySem.W.specialIn K (.builtin "object.__class__") "__get__" = some (some (.builtin "getset_descriptor.__get__"))
  clt : PySem.W.takesIn K (.builtin "object.__class__") = some true
  top : PySem.W.mroIn K C (.type "object") = some true
  kp : PySem.W.keepIn K (.ref C) = true
/-- a field's name that the class has not -/
structure Free (K : PySem.W.Frag) (C : Addr) (f : Str) : Prop where
  no : PySem.W.findIn K (.ref C) f = some none
  tk : PySem.W.takerIn K C f = some none
section
variable {prog : Program} {w : World} {A : Around} {R : Result → Shared → Prop} {hp : Heap} {g : Array GenState} {d : Drawn} {t : Nat} {os : OsState}
open PySem.W Builtin Builtin.ObjectAttr in
/-- the first field of an exception: its dict is laid -/
theorem put_first {K : Frag} {f : Str} {tk : Tok} {v : Value} {x C t1 : Addr} (T : Oex K C) (no : Free K C f) (X : K.In hp) (hx : hp.get? x = some (PySem.HandSPX.excO C t1))
    (q : ∀ h' tk' dx, (∀ b o, b ≠ x → hp.get? b = some o → h'.get? b = some o) → hp.objs.size ≤ dx → dx ≠ x → h'.get? x = some { PySem.HandSPX.excO C t1 with dict := some dx } → h'.Ns1 dx (fun y => if y = f then some v else none) → R (.ok (.ret .none)) ⟨h', g, d, tk', os⟩) :
    codeAny (model prog w) A (.call (.builtin "object.__setattr__") ⟨[.ref x, .str f tk, v], []⟩) R ⟨hp, g, d, t, os⟩ := by
  obtain ⟨B, newId, initId, bmB, base, over, _⟩ := T.base
  obtain ⟨cd, hcd, hdc⟩ := any_some T.dct
  have cls : Looks (model prog w) hp (classData C) cd := looks_clsIn X hcd
  have far : x ≠ hp.objs.size := Nat.ne_of_lt (Heap.lt_size hx)
  refine osa_openX (s := ⟨hp, g, d, t, os⟩) (ox := PySem.HandSPX.excO C t1) (od := none) (r := none) base.sto X ⟨hx, rfl, rfl, trivial⟩ over no.tk fun b => ?_
  obtain ⟨nm, bs, mro, ns, qn, hasD, sn, sb, ab, col, del⟩ := cd
  dsimp only at hdc
  subst hdc
  show wpAny _ _ (storeInOwnDict _ _ _ _ _ _) _ _ _
  unfold storeInOwnDict ownDictForStores
  repeat (first | with_reducible refine PySem.HandSPX.store_in_new ?_ ?_ | with_reducible refine wpAny_loadPart_at hx ?_ | with_reducible refine cls.at ?_ | wp_step)
  · refine ⟨_, #[], _, (Heap.get?_update_ne _ _ _ _ (Ne.symm far)).trans (Heap.get?_push_at rfl rfl), rfl, ?_, fun _ => rfl⟩
    intro e he
    simp at he
  · intro h' tk' hn hs
    have old : ∀ {b : Addr} {o : Obj}, b ≠ x → hp.get? b = some o → h'.get? b = some o := fun {b o} ne ho => by
      rw [hs.2 b (Nat.ne_of_lt (Heap.lt_size ho)), Heap.get?_update_ne _ _ _ _ ne]
      exact Heap.get?_push_of_some _ ho
    refine q h' tk' _ (fun b o => old) (Nat.le_refl _) (Ne.symm far) ?_ hn
    rw [hs.2 x far, Heap.get?_update_self _ (Heap.get?_push_of_some _ hx) rfl]
open PySem.W Builtin Builtin.ObjectAttr in
/-- a further field -/
theorem put_next {K : Frag} {f : Str} {tk : Tok} {v : Value} {x C t1 dx : Addr} {m0 : Str → Option Value} {nl : List Str} (T : Oex K C) (no : Free K C f) (X : K.In hp) (hx : hp.get? x = some { PySem.HandSPX.excO C t1 with dict := some dx })
    (hns : hp.Ns1 dx m0) (hw : Within m0 nl) (hz : nl.length ≤ 1000) (q : ∀ h' tk', (∀ b o, b ≠ dx → hp.get? b = some o → h'.get? b = some o) → h'.Ns1 dx (fun y => if y = f then some v else m0 y) → R (.ok (.ret .none)) ⟨h', g, d, tk', os⟩) :
    codeAny (model prog w) A (.call (.builtin "object.__setattr__") ⟨[.ref x, .str f tk, v], []⟩) R ⟨hp, g, d, t, os⟩ := by
  obtain ⟨B, newId, initId, bmB, base, over, _⟩ := T.base
  obtain ⟨cd, hcd, hdc⟩ := any_some T.dct
  have cls : Looks (model prog w) hp (classData C) cd := looks_clsIn X hcd
  obtain ⟨oD, _, _, hoD, _, _⟩ := hns.count hw
  refine osa_openX (s := ⟨hp, g, d, t, os⟩) (ox := { PySem.HandSPX.excO C t1 with dict := some dx }) (od := some oD) (r := none) base.sto X ⟨hx, rfl, rfl, hoD⟩ over no.tk fun b => ?_
  obtain ⟨nm, bs, mro, ns, qn, hasD, sn, sb, ab, col, del⟩ := cd
  dsimp only at hdc
  subst hdc
  show wpAny _ _ (storeInOwnDict _ _ _ _ _ _) _ _ _
  unfold storeInOwnDict ownDictForStores
  repeat (first | with_reducible refine PySem.OEX.store_in_old hns hw hz ?_ | with_reducible refine wpAny_loadPart_at hx ?_ | with_reducible refine cls.at ?_ | wp_step)
  exact fun h' tk' hn hs => q h' tk' (fun b o ne ho => (hs.2 b ne).trans ho) hn
end
/-- the exception at a: of the class at C, its fields fs (its dict is not made while there is none) -/
def ExAt (H : Hp) (a C : Addr) (fs : List (Str × V)) : Prop := (H a = some (exo a C none) ∧ fs = []) ∨ ∃ d, H a = some (exo a C (some d)) ∧ H d = some (exd d fs)
section
variable {X : Cx} {pins : List (Addr × Obj)} {σ : L2.St} {H : Hp} {s : Shared} {a C d : Addr} {f : Str} {y v : V} {u : Value} {fs : List (Str × V)}
theorem ex_at_none (I : Inv X pins σ H s) (e : H a = some (exo a C none)) : ∃ t1, s.heap.get? a = some (PySem.HandSPX.excO C t1) := exo_at I.hok e
theorem ex_at_some (I : Inv X pins σ H s) (e : H a = some (exo a C (some d))) : ∃ t1, s.heap.get? a = some { PySem.HandSPX.excO C t1 with dict := some d } := exo_at I.hok e
theorem no_own {b c : Addr} {o : HO} (e : H b = some o) (h : H c = some (.own b)) (n : o ≠ .own b) : c ≠ b := fun z => n (Option.some.inj (e.symm.trans (z ▸ h)))
/-- what is tracked as something else stands elsewhere -/
theorem apart {b c : Addr} {o o' : HO} (e : H b = some o) (h : H c = some o') (n : o ≠ o') : c ≠ b := fun z => n (Option.some.inj (e.symm.trans (z ▸ h)))
theorem gone_apart {b c : Addr} {o : HO} (e : H b = some o) (h : H c = none) : c ≠ b := fun z => by rw [z, e] at h; cases h
/-- x.f = u, the first field of the exception at x -/
theorem set_first {A : Around} {E : Value → Shared → Prop} {Q : Unit → Shared → Prop} (T : Oex X.K C) (no : Free X.K C f) (I : Inv X pins σ H s) (e : H a = some (exo a C none)) (r : RelV y u)
    (k : ∀ d s', H d = none → d ≠ a → Inv X pins σ (upd (upd H d (exd d [(f, y)])) a (exo a C (some d))) s' → Q () s') : wpAny (model X.prog X.w) A (setAttr (.ref a) f u) Q E s := by
  obtain ⟨t1, ho⟩ := ex_at_none I e
  obtain ⟨hp, g, dr, t, os⟩ := s
  refine PySem.W.set_plain I.kIn (od := none) ⟨ho, rfl, rfl, trivial⟩ T.set (put_first T no I.kIn ho fun h' tk' d old dn dne hx hn => ?_)
  have fresh : H d = none := I.hok.fresh dn
  have far : ∀ {b : Addr} {o : Obj}, hp.get? b = some o → b ≠ d := fun z => Nat.ne_of_lt (Nat.lt_of_lt_of_le (Heap.lt_size z) dn)
  have same : ∀ {b : Addr} {o : HO}, H b = some o → exo a C none ≠ o → upd (upd H d (exd d [(f, y)])) a (exo a C (some d)) b = some o := fun {b o} z n => by
    rw [upd_ne (apart e z n), upd_ne (ne_of_none z fresh)]
    exact z
  have un : Un X.fs [] H (upd (upd H d (exd d [(f, y)])) a (exo a C (some d))) hp h' :=
    ⟨fun b o z n _ _ => old b o (gone_apart e n) z, fun b o z n _ _ => ⟨o.slots, old b o (gone_apart e n) z⟩, fun b o z n _ => by rw [upd_ne (gone_apart e n), upd_ne (far z)]; exact n,
      fun b o z _ => if hb : b = a then ⟨_, hb ▸ hx⟩ else ⟨o, old b o hb z⟩, fun b xs z => same z exo_tup, fun b o w z => same z exo_frz, fun b ps z => ⟨#[], by rw [same z exo_tbl]; simp⟩⟩
  refine k d _ fresh dne (I.un (t' := tk') un fun b o z => ?_)
  by_cases hb : b = a
  · subst hb
    rw [upd_same] at z
    cases z
    exact exo_ok hx
  rw [upd_ne hb] at z
  by_cases hd : b = d
  · subst hd
    rw [upd_same] at z
    cases z
    exact exd_ok hn (relO_put (fs := []) r fun _ => True.intro)
  rw [upd_ne hd] at z
  refine (I.hok b o z).stay (fun c w hc z' => old c w ?_ z') (fun c hc => same hc exo_own) (fun c xs hc => same hc exo_tup)
  rcases hc with hc | hc
  · exact hc ▸ hb
  · exact apart e hc exo_own
/-- a further field -/
theorem set_next {A : Around} {E : Value → Shared → Prop} {Q : Unit → Shared → Prop} (T : Oex X.K C) (no : Free X.K C f) (I : Inv X pins σ H s) (e : H a = some (exo a C (some d))) (ed : H d = some (exd d fs)) (hl : fs.length ≤ 900) (r : RelV y u)
    (k : ∀ s', Inv X pins σ (upd H d (exd d ((f, y) :: fs))) s' → Q () s') : wpAny (model X.prog X.w) A (setAttr (.ref a) f u) Q E s := by
  obtain ⟨t1, ho⟩ := ex_at_some I e
  obtain ⟨mA, hns, rel⟩ := exd_at I.hok ed
  obtain ⟨hp, g, dr, t, os⟩ := s
  obtain ⟨oD, _, _, hoD, _, _⟩ := hns.count (within_of rel)
  refine PySem.W.set_plain I.kIn (od := some oD) ⟨ho, rfl, rfl, hoD⟩ T.set (put_next T no I.kIn ho hns (within_of rel) (by rw [List.length_map]; omega) fun h' tk' old hn => ?_)
  have there : ∃ o, h'.get? d = some o := let ⟨o, _, _, z, _⟩ := hn; ⟨o, z⟩
  exact k _ (I.write (t' := tk') (x := d) (e := d) (by rw [ed]; exact True.intro) (.inl rfl) old there (exd_ok hn (relO_put r rel)))
/-- such an exception as the library's rules see it -/
theorem ExAt.seen (I : Inv X pins σ H s) (h : ExAt H a C fs) : ∃ ox od, PySem.W.InstAt s.heap a ox C od ∧ ∀ f v, fs.lookup f = some v → ∃ o u, od = some o ∧ PySem.W.lookIn f o = some (some u) ∧ RelV v u := by
  rcases h with ⟨e, rfl⟩ | ⟨d, e, ed⟩
  · obtain ⟨t1, ho⟩ := ex_at_none I e
    exact ⟨_, none, ⟨ho, rfl, rfl, trivial⟩, fun f v z => by cases z⟩
  · obtain ⟨t1, ho⟩ := ex_at_some I e
    obtain ⟨mA, hns, rel⟩ := exd_at I.hok ed
    obtain ⟨o, hod, look⟩ := lookIn_ns hns
    refine ⟨_, some o, ⟨ho, rfl, rfl, hod⟩, fun f v z => ?_⟩
    have ro := rel f
    rw [z] at ro
    cases q : mA f with
    | none => rw [q] at ro; exact ro.elim
    | some u => rw [q] at ro; exact ⟨o, u, rfl, (look f).trans (congrArg some q), ro⟩
end
/-- x.f = e, x an exception that is being made -/
def tSetX (K : PySem.W.Frag) (f : Str) (to te : TE) : TS := fun D σ H => te σ H fun y H1 => to σ H1 fun x H2 => ∃ a C : Addr, x = .ref a ∧ Oex K C ∧ Free K C f ∧
  ((H2 a = some (exo a C none) ∧ ∀ d, H2 d = none → d ≠ a → D.nx σ (upd (upd H2 d (exd d [(f, y)])) a (exo a C (some d)))) ∨
    ∃ (d : Addr) (fs : List (Str × V)), H2 a = some (exo a C (some d)) ∧ H2 d = some (exd d fs) ∧ fs.length ≤ 900 ∧ D.nx σ (upd H2 d (exd d ((f, y) :: fs))))
theorem ps_setX {X : Cx} {o e : Expr} {to te : TE} {f : Str} {p' pos : Pos} (ho : PE X o to) (he : PE X e te) (hs : swapsWith e (some (.Attribute o f p')) pos.line X.env = pure false := by rfl) : PS X (.Assign [.Attribute o f p'] e pos) (tSetX X.K f to te) := by
  refine ⟨fun pins s σ H D I h => plainObj_wpAny_Assign_Attribute (thn (he.run pins s σ H _ I h) fun v s1 hv => ?_) hs⟩
  obtain ⟨y, H1, I1, r1, q1⟩ := hv
  refine thn (ho.run pins s1 σ H1 _ I1 q1) fun u s2 hu => ?_
  obtain ⟨x, H2, I2, r2, a, C, rfl, T, no, q⟩ := hu
  obtain rfl : u = Value.ref a := r2
  rcases q with ⟨e2, q⟩ | ⟨d, fs, e2, ed, hl, q⟩
  · exact set_first T no I2 e2 r1 fun d s' n ne J => ⟨σ, _, J, q d n ne⟩
  · exact set_next T no I2 e2 ed hl r1 fun s' J => ⟨σ, _, J, q⟩
/-- isinstance(e, c), e such an exception -/
def rIsX (K : PySem.W.Frag) : List V → Hp → VK → Prop := fun xs H Q => ∃ (a C : Addr) (fs : List (Str × V)) (c : V) (u : Value) (b : Bool), xs = [.ref a, c] ∧ ExAt H a C fs ∧ Oex K C ∧ ClsV c u ∧ PySem.W.kitOne K (.ref C) u = some b ∧ Q (.bl b) H
theorem call_isX {X : Cx} : CallR X (.builtin "isinstance") (rIsX X.K) := fun pins s σ H xs us Q I r h => by
  obtain ⟨a, C, fs, c, u, b, rfl, at_, T, k, ans, q⟩ := h
  obtain ⟨u1, u2, rfl, r1, r2⟩ := vals2 r
  obtain rfl : u1 = Value.ref a := r1
  obtain rfl : u2 = u := k.eq r2
  obtain ⟨ox, od, J, _⟩ := at_.seen I
  obtain ⟨cd, hcd, _⟩ := PySem.W.any_some T.dct
  exact PySem.W.kia_one (PySem.W.kitx_exc (by rw [hcd]; rfl) T.get T.miss T.exc T.cl T.clg T.clt T.top) I.kIn J ans (fun z => nomatch z) fun tk => ⟨.bl b, H, I.tok tk, rfl, q⟩
/-- e.f, e such an exception -/
def tFldX (K : PySem.W.Frag) (f : Str) (te : TE) : TE := fun σ H Q => te σ H fun x H1 => ∃ (a C : Addr) (fs : List (Str × V)) (v : V), x = .ref a ∧ ExAt H1 a C fs ∧ Oex K C ∧ Free K C f ∧ fs.lookup f = some v ∧ Q v H1
theorem pe_fldX {X : Cx} {e : Expr} {te : TE} {f : Str} {pos : Pos} (he : PE X e te) (hb : attributeBase e f X.env (eval e X.env) = eval e X.env := by rfl) : PE X (.Attribute e f pos) (tFldX X.K f te) := by
  refine ⟨fun pins s σ H Q I h => attr_of hb (thn (he.run pins s σ H _ I h) fun u s1 hu => ?_)⟩
  obtain ⟨x, H1, I1, rx, a, C, fs, v, rfl, at_, T, no, hl, q⟩ := hu
  obtain rfl : u = Value.ref a := rx
  obtain ⟨ox, od, J, z⟩ := at_.seen I1
  obtain ⟨o, w, rfl, hw, rw'⟩ := z f v hl
  exact PySem.HandSPX.exc_get I1.kIn J T.get T.miss T.exc (PySem.W.findObj_own T.dct no.no rfl hw) (handed_of rw') ⟨v, H1, I1.tok _, rw', q⟩
/-- C(e, .., k = v, ..) as a value: a new exception, then __init__, which keeps sp -/
def tNewX (C : Addr) (n m : Nat) (sp : Sp) (gV : List V → List V → List V) (E : XK) (t tk : TA) : TE := fun σ H Q => t σ H fun vs H1 => tk σ H1 fun zs H2 => (vs.length = n ∧ zs.length = m ∧ n ≤ 1000) ∧
  ∀ a, H2 a = none → sp (gV (.ref a :: vs) zs) (upd H2 a (exo a C none)) (fun v H3 => v = .non ∧ Q (.ref a) H3) E
/-- the class at C has the def at fI for its __init__ -/
structure Ini (K : PySem.W.Frag) (C fI : Addr) : Prop where
  at_ : PySem.W.findIn K (.ref C) "__init__" = some (some (.ref fI))
  ty : PySem.W.typeIn K (.ref fI) = some (.type "function")
section
variable {X : Cx} {CX : CXT} {k n : Nat} {fI C : Addr} {fd : FuncData} {ps ks : List Str} {sp : Sp} {E : XK} {x : Str} {p pos : Pos} {e : Expr} {es : List Expr} {kws : List Keyword} {t tk : TA} {g : List Value → List Value → List Value} {gV : List V → List V → List V}
theorem new_runs {pins : List (Addr × Obj)} {σ : L2.St} {H : Hp} {s : Shared} {Q : VK} {us ws : List Value} {vs zs : List V} (T : Oex X.K C) (i : Ini X.K C fI) (F : FnOk X.prog X.w X.K X.mg X.base CX k fI fd ps sp) (room : Room (k + 1) X.A) (b : KBn X.K fd ps (n + 1) ks g gV) (out : Passes CX X E)
    (I : Inv X pins σ H s) (r : Vals vs us) (rz : Vals zs ws) (len : vs.length = n ∧ zs.length = ks.length ∧ n ≤ 1000) (h : ∀ a, H a = none → sp (gV (.ref a :: vs) zs) (upd H a (exo a C none)) (fun v H2 => v = .non ∧ Q (.ref a) H2) E) :
    wpAny (model X.prog X.w) X.A (call (.ref C) us (ks.zip ws)) (EP X pins σ Q) X.xe s := by
  obtain ⟨B, newId, initId, bmB, base, _, nm, qn, N, bs, bm, hd, sn, sub, ab, col, dd, k0, k1, k2, k3, k5, hC, tail⟩ := T.base
  obtain ⟨l1, l2, l3⟩ := len
  obtain ⟨hp, gs, dr, tok, os⟩ := s
  have new : H (hp.objs.size + 1) = none := I.hok.fresh (Nat.le_succ _)
  have there : (laid2 hp C us).get? (hp.objs.size + 1) = some (PySem.HandSPX.excO C hp.objs.size) := by heap_get
  have J : Inv X pins σ (upd H (hp.objs.size + 1) (exo (hp.objs.size + 1) C none)) ⟨laid2 hp C us, gs, dr, tok, os⟩ := I.laid (t' := tok) (fun _ _ z => Heap.get?_push_of_some _ (Heap.get?_push_of_some _ z)) (Nat.le_succ _) (exo_ok there)
  have ra : Vals (V.ref (hp.objs.size + 1) :: vs) (Value.ref (hp.objs.size + 1) :: us) := .cons rfl r
  have small : us.length ≤ sizeLine := by have := r.length; rw [sizeLine_eq]; omega
  refine wpAny_call (run_class base.call (line_of base.call fun Y => PySem.W.excTail_contains Y bm tail) ⟨_, _, _, _, _, _, _, _, _, _, _, _, _, _, _, I.kIn _ _ hC⟩ small (PySem.W.looks_findIn I.kIn i.at_) (fun self => PySem.W.bind_fn I.kIn self i.ty) ?_)
  refine codeAny_mono (F.run _ X.stack _ _ ⟨Value.ref (hp.objs.size + 1) :: us, ks.zip ws⟩ (g (Value.ref (hp.objs.size + 1) :: us) ws) _ _ E (room.make C us (ks.zip ws)) (J.env0.make C us (ks.zip ws)) (b.to _ (_ :: us) ws J.kIn ?_ ?_) (b.rel ra rz) (h _ new)) fun r s' z => ?_
  · exact ra.length.symm.trans (congrArg Nat.succ l1)
  · exact rz.length.symm.trans l2
  cases r with
  | error er => exact out pins σ _ _ er s' J z
  | ok fl =>
    cases fl with
    | ret u =>
      obtain ⟨v, H', I3, rv, ev, q3⟩ := J.after z
      subst ev
      exact ⟨rv, V.ref (hp.objs.size + 1), H', I3, rfl, q3⟩
    | next => exact z.elim
    | brk => exact z.elim
    | cont => exact z.elim
theorem pe_newX (T : Oex X.K C) (i : Ini X.K C fI) (F : FnOk X.prog X.w X.K X.mg X.base CX k fI fd ps sp) (room : Room (k + 1) X.A) (hg : Gl X x) (hm : X.mg x = some (.ref C)) (b : KBn X.K fd ps (n + 1) [] g gV) (out : Passes CX X E) (ha : PA X (e :: es) t)
    (hdb : (x == ("__debug__" : Str)) = false := by decide) (he : starEach (e :: es) X.env = (false, eval e X.env) :: starEach es X.env := by rfl) (hpl : (backTo pos (starEach es X.env)).any (·.1) = false := by rfl) :
    PE X (.Call (.Name x p) (e :: es) [] pos) (tNewX C n 0 sp gV E t tNil) := by
  refine ⟨fun pins s σ H Q I h => wpAny_Call_Name_kw (ld_glob I hg hm ?_ hdb)⟩
  refine PySem.W.callWith_K (h₀ := X.base) I.ok.mod.kin T.kp (thn (ha.run pos pins s σ H _ I h) fun us s1 hu => ?_) he hpl
  obtain ⟨vs, H1, I1, r, len, q⟩ := hu
  exact ⟨I1.kIn, new_runs (ks := []) (ws := []) (zs := []) T i F room b out I1 r .nil len q⟩
theorem pe_newXK (T : Oex X.K C) (i : Ini X.K C fI) (F : FnOk X.prog X.w X.K X.mg X.base CX k fI fd ps sp) (room : Room (k + 1) X.A) (hg : Gl X x) (hm : X.mg x = some (.ref C)) (b : KBn X.K fd ps 1 ks g gV) (out : Passes CX X E) (hkw : PK X kws tk)
    (hall : (backToKw pos (keywordEach kws X.env)).all (·.1.isSome) = true := by rfl) (hks : (backToKw pos (keywordEach kws X.env)).filterMap (·.1) = ks := by rfl) (hdb : (x == ("__debug__" : Str)) = false := by decide)
    (hpl : ((backTo pos (starEach [] X.env)).any (·.1) || (backToKw pos (keywordEach kws X.env)).any (·.1.isNone)) = false := by rfl) : PE X (.Call (.Name x p) [] kws pos) (tNewX C 0 ks.length sp gV E tNil tk) := by
  refine ⟨fun pins s σ H Q I h => wpAny_Call_Name_kw (ld_glob I hg hm ?_ hdb)⟩
  refine PySem.W.callWith_KW0 (h₀ := X.base) I.ok.mod.kin T.kp hall (thn (hkw.run pos pins s σ H _ I h) fun ws s2 hu => ?_) hpl
  obtain ⟨zs, H2, I2, rz, len, q2⟩ := hu
  rw [hks]
  exact ⟨I2.kIn, new_runs (us := []) (vs := []) T i F room b out I2 .nil rz len q2⟩
/-- C(), C without an __init__ of its own -/
theorem pe_newX0 {C : Addr} {bmB : List Value} {B newId initId : String} {x : Str} {p pos : Pos} (F : ExcBaseFacts B newId initId bmB) (ok : PySem.W.excIn X.K C bmB newId = true) (hm : X.mg x = some (.ref C)) (kC : PySem.W.keepIn X.K (.ref C) = true) (hg : Gl X x) (hdb : (x == ("__debug__" : Str)) = false := by decide) :
    PE X (.Call (.Name x p) [] [] pos) (fun _ H Q => ∀ a, H a = none → Q (.ref a) (upd H a (exo a C none))) := by
  refine ⟨fun pins s σ H Q I h => wpAny_Call_Name_kw (ld_glob I hg hm (PySem.W.callWith_K0 I.kIn kC ?_) hdb)⟩
  obtain ⟨bm, N, nm, qn, bs, hdct, sn, sub, ab, col, dd, k0, k1, k2, k3, k5, mN, hC, hN, hni, same⟩ := exc_obj I.kIn ok
  refine wpAny_call_exc_subT F same hC hN hni (fun h' a new => ?_) (Nat.zero_le _)
  have free : H a = none := I.hok.gone new.new
  obtain ⟨t1, ht, _, _⟩ := new.there
  exact ⟨.ref a, _, I.laidN new.keeps new.new free (exo_ok ht), rfl, h a free⟩
end
end SwX
set_option Elab.async false
set_option linter.all false
set_option maxRecDepth 100000
set_option maxHeartbeats 4000000
/-! defs whose frames stand outside of every repr (so that repr tells the whole text), from the law's call on; repr, count over data -/
namespace SwX
open PySem PySem.Spec PyProof.Rows L2
/-- no repr is under way around A -/
def Calm (A : Around) : Prop := A.guards = some []
/-- a def's promise, where no repr is under way -/
structure FnG (P : Program) (w : World) (K : PySem.W.Frag) (mg : Str → Option Value) (base : Heap) (CX : CXT) (k : Nat) (f : Addr) (fd : FuncData) (ps : List Str) (sp : Sp) : Prop where
  len : ∀ vs H Q E, sp vs H Q E → vs.length = ps.length
  run : ∀ (A : Around) (outer : List Env) (s : Shared) (H : Hp) (args : Args) (us : List Value) (vs : List V) (Q : VK) (E : XK), Room k A → Calm A → Env0 P w K mg base A outer s H → BindsTo s fd args (ps.zip us) → Vals vs us → sp vs H Q E →
    codeAny (model P w) A (.call (.ref f) args) (CR CX outer P w H s Q E) s
section
variable {P : Program} {w : World} {K : PySem.W.Frag} {mg : Str → Option Value} {base : Heap} {CX : CXT} {k : Nat} {f : Addr} {fd : FuncData} {N ps : List Str} {sp : Sp}
theorem FnOk.calm (F : FnOk P w K mg base CX k f fd ps sp) : FnG P w K mg base CX k f fd ps sp := ⟨F.len, fun A outer s H args us vs Q E hr _ => F.run A outer s H args us vs Q E hr⟩
variable {x qual : Str} {params : Arguments} {body : List Stmt} {scope : Scope} {dvs : List V} {kws : List (Str × V)}
/-- the rule of such a def -/
theorem FunD.okG (F : FunD K x qual params body scope dvs kws f fd) (S : FnScope N ps scope) (len : ∀ vs H Q E, sp vs H Q E → vs.length = ps.length)
    (hb : ∀ (cdv : Value) (A : Around) (outer : List Env) (s : Shared) (H : Hp) (vs : List V) (Q : VK) (E : XK), Room k (A.deeper (envOfC qual scope s.heap.objs.size f cdv)) → Calm A → sp vs H Q E →
      ∃ t, PSs (cxOf CX P w K mg base N qual scope f cdv A outer s H E) body t ∧ t { nx := fun _ H' => Q .non H', rt := Q } (start N vs) H) : FnG P w K mg base CX (k + 1) f fd ps sp := by
  obtain ⟨oc, od, dV, kV, doc, pm, an, cdv, ct, osl, rfl, lk, hcd, _, _⟩ := F.ex
  refine ⟨len, fun A outer s H args us vs Q E hr calm e0 bind r hsp => ?_⟩
  have base_in : ∀ b o, base.get? b = some o → s.heap.get? b = some o := fun b o z => (e0.bs b o z).1
  have KX : K.In s.heap := e0.mod.kin.keeps base_in
  have par : ∀ y ∈ ps.zip us, scope.names.lookup y.1 = some .local ∨ (scope.names.lookup y.1 = some .cell ∧ ((cellsFrom (s.heap.objs.size + 1) scope.names []).lookup y.1).isSome = true) := fun y hy => by
    cases S.par y.1 (List.of_mem_zip hy).1 with
    | inl q => exact Or.inl q
    | inr q => exact Or.inr ⟨q, PySem.W.cellsFrom_some _ _ _ (Or.inl q)⟩
  refine codeAny_call_function hr.depth (KX _ _ lk) rfl S.co S.gen rfl (PySem.W.codeRec_of KX hcd) (bind _ _ _ _ (wpAny_newFunctionEnv_cells S.kind par fun env he s1 made => ?_))
  subst he
  refine And.intro ((e0.mod.nolimit.keeps base_in).keeps made.toInCall.keep) (codeAny_func ?_)
  obtain ⟨t, ht, hq⟩ := hb cdv A outer s H vs Q E (hr.deeper _) calm hsp
  refine wpAny_mono (ht.run [] s1 (start N vs) H _ (inv_start S hr.hd e0 (len _ _ _ _ hsp) r made) hq) (fun fl s' z => ?_) fun _ _ z => z
  cases fl with
  | ret u =>
    obtain ⟨v, σ', H', J, rv, q⟩ := z
    exact ⟨v, H', J.os, J.bare, J.base, J.hok, rv, q⟩
  | next =>
    obtain ⟨σ', H', J, q⟩ := z
    exact ⟨V.non, H', J.os, J.bare, J.base, J.hok, rfl, q⟩
  | brk =>
    obtain ⟨_, _, _, q⟩ := z
    exact q.elim
  | cont =>
    obtain ⟨_, _, _, q⟩ := z
    exact q.elim
end
/-! ### calls of such defs -/
section
variable {X : Cx} {CX : CXT} {k : Nat} {f : Addr} {fd : FuncData} {ps : List Str} {sp : Sp} {dvs : List V} {ds : List Value} {E : XK} {x : Str} {p pos : Pos} {e : Expr} {es : List Expr} {t : TA}
theorem pe_callG (F : FnG X.prog X.w X.K X.mg X.base CX k f fd ps sp) (hr : Room k X.A) (calm : Calm X.A) (hg : Gl X x) (hm : X.mg x = some (.ref f)) (hk : PySem.W.keepIn X.K (.ref f) = true) (hb : Binds X.K fd ps ds) (hd : Vals dvs ds) (hx : Passes CX X E) (ha : PA X (e :: es) t)
    (hdb : (x == ("__debug__" : Str)) = false := by decide) (he : starEach (e :: es) X.env = (false, eval e X.env) :: starEach es X.env := by rfl) (hpl : (backTo pos (starEach es X.env)).any (·.1) = false := by rfl) :
    PE X (.Call (.Name x p) (e :: es) [] pos) (tCall sp dvs E t) := by
  refine ⟨fun pins s σ H Q I h => wpAny_Call_Name_kw (ld_glob I hg hm ?_ hdb)⟩
  refine PySem.W.callWith_K (h₀ := X.base) I.ok.mod.kin hk (thn (ha.run pos pins s σ H _ I h) fun us s1 hu => ?_) he hpl
  obtain ⟨vs, H1, I1, r, q⟩ := hu
  have all := r.append hd
  refine ⟨I1.kIn, wpAny_call (codeAny_mono (F.run X.A X.stack s1 H1 ⟨us, []⟩ (us ++ ds) (vs ++ dvs) Q E hr calm I1.env0 (hb s1 us I1.kIn ?_) all q) fun res s' z => ?_)⟩
  · rw [← all.length]
    exact F.len _ _ _ _ q
  cases res with
  | error er => exact hx pins σ H1 s1 er s' I1 z
  | ok fl =>
    cases fl with
    | ret u => exact I1.after z
    | next => exact z.elim
    | brk => exact z.elim
    | cont => exact z.elim
end
/-! ### the law's call -/
/-- the abstract heap ahead of the law: the script alone, where it is none of the module's own -/
def scriptH (K : PySem.W.Frag) (a : Addr) (o : Obj) (ns : List Int) : Hp := fun b => if b = a ∧ K.lookup a = none then some (.frz o (.lst (ns.map V.int))) else none
theorem scriptH_some {K : PySem.W.Frag} {a b : Addr} {o : Obj} {ns : List Int} {u : HO} (h : scriptH K a o ns b = some u) : b = a ∧ K.lookup a = none ∧ u = .frz o (.lst (ns.map V.int)) := by
  unfold scriptH at h
  split at h
  · rename_i c
    exact ⟨c.1, c.2, (Option.some.inj h).symm⟩
  · cases h
theorem law_runG {P : Program} {w : World} {K : PySem.W.Frag} {mg mb : Str → Option Value} {CX : CXT} {k : Nat} {fa a : Addr} {fd : FuncData} {x : Str} {sp : Sp} {s1 : Shared} {vs : List Value} {ns : List Int}
    (KX : K.In s1.heap) (gl : s1.heap.Ns mainGlobals mg) (bl : s1.heap.Ns builtinsNs mb) (bb : ∀ x : Str, x ≠ "__name__" → mb x = bootBuiltins x) (lim : s1.heap.NoLimit) (gens : s1.gens = #[])
    (ha : s1.heap.get? a = some { cls := .type "list", data := .seq vs.toArray }) (hi : IntsAre vs ns) (hl : ns.length ≤ sizeLine) (room : Room k callerA)
    (F : ∀ base : Heap, K.In base → base.Ns mainGlobals mg → FnG P w K mg base CX k fa fd [x] sp) (bind : ∀ (s : Shared) (u : Value), BindsTo s fd ⟨[u], []⟩ [(x, u)])
    (hsp : ∀ H : Hp, SqL K H a (ns.map V.int) → sp [.ref a] H (fun v _ => v = .bl true) fun _ _ _ => False) (out : ∀ H e s', CX [] H s1 (fun _ _ _ => False) e s' → False) :
    codeAny (model P w) callerA (.call (.ref fa) ⟨[.ref a], []⟩) (fun r s' => r = .ok (.ret (.bool true)) ∧ OldK s1.heap s'.heap ∧ s'.os = s1.os ∧ AllBare s'.gens) s1 := by
  let o : Obj := { cls := .type "list", data := .seq vs.toArray }
  let H : Hp := scriptH K a o ns
  have rv := vals_ints hi
  have short : (ns.map V.int).length ≤ sizeLine := by rw [List.length_map]; exact hl
  have seen : SqL K H a (ns.map V.int) := by
    cases q : K.lookup a with
    | none => exact Or.inl (Or.inr ⟨o, if_pos ⟨rfl, q⟩⟩)
    | some u =>
      have z := KX a u q
      rw [ha] at z
      cases z
      exact Or.inr ⟨_, vs.toArray, _, q, rfl, rfl, rfl, by rw [List.size_toArray, hi.length]; exact hl, by simpa using rv⟩
  have held : HOk P w H s1.heap := fun b u z => by
    obtain ⟨rfl, _, rfl⟩ := scriptH_some z
    exact ⟨ha, short, vs, _, rv, ha⟩
  -- nothing of the written part and no table of names is tracked
  have part : ∀ b u, K.lookup b = some u → H b = none := fun b u z => by
    cases q : H b with
    | none => rfl
    | some c =>
      obtain ⟨rfl, n, _⟩ := scriptH_some q
      rw [n] at z
      cases z
  have table : ∀ {b : Addr} {m : Str → Option Value}, s1.heap.Ns b m → (hidT s1.heap H).Ns b m := fun {b m} z => by
    obtain ⟨ob, es, ep, e1, e2, rest⟩ := z
    refine ⟨ob, es, ep, hidT_get e1 ?_, e2, rest⟩
    cases q : H b with
    | none => rfl
    | some c =>
      obtain ⟨rfl, _, _⟩ := scriptH_some q
      rw [ha] at e1
      cases e1
      exact nomatch (show Data.seq vs.toArray _ = Data.dict es ep from e2)
  have kin : K.In (hidT s1.heap H) := fun b u z => hidT_get (KX b u z) (part b u z)
  have env : Env0 P w K mg (hidT s1.heap H) callerA [] s1 H := by
    refine ⟨rfl, ⟨kin, table gl, ⟨mb, table bl, bb⟩, ?_⟩, fun b u z => of_hidT z, Nat.le_of_eq (hidT_size _ _), trivial, fun b z => ?_, held, .of_eq gens⟩
    · obtain ⟨mc, h1, h2⟩ := lim
      exact ⟨mc, table h1, h2⟩
    · exact absurd (show b ∈ ([] : List Addr) from z) List.not_mem_nil
  refine codeAny_mono ((F _ kin (table gl)).run callerA [] s1 H ⟨[.ref a], []⟩ [.ref a] [.ref a] _ _ room rfl env (bind s1 (.ref a)) (.cons rfl .nil) (hsp H seen)) fun r s' z => ?_
  cases r with
  | error e => exact (out H e s' z).elim
  | ok fl =>
    cases fl with
    | next => exact z.elim
    | brk => exact z.elim
    | cont => exact z.elim
    | ret u =>
      obtain ⟨v, H', os, bare, un, held', r', rfl⟩ := z
      obtain rfl : u = Value.bool true := r'
      refine ⟨rfl, OldK.of_keep fun b ob e => ?_, os, bare⟩
      cases q : H b with
      | none => exact un.keep b ob e q (fun z => absurd (show b ∈ ([] : List Addr) from z) List.not_mem_nil) (fun z => absurd z List.not_mem_nil)
      | some c =>
        obtain ⟨rfl, _, rfl⟩ := scriptH_some q
        have z1 := (held b _ q).1
        have z2 := (held' b _ (un.frzs b _ _ q)).1
        rw [e] at z1
        cases z1
        exact z2
/-- the end of a law's row over a head by facts: the law's def keeps its promise where no repr is under way -/
theorem walk_ofG {l : PySem.W.OpenLaw} {n k : Nat} {q : Program} {loose : List Str} {XP : (Str → Option Value) → Heap → Prop} {YP : World → Heap → Prop} {d : DefRec} {CX : CXT} {x : Str}
    (hn : l.most = some n) (hn2 : n ≤ sizeLine) (hdf : d.params.defaults = []) (room : Room k callerA)
    (F : ∀ (w : World) (mg : Str → Option Value) (fa : Addr) (h : Heap), YP w h → h.Ns mainGlobals mg → mg d.name = some (.ref fa) →
      ∃ (K : PySem.W.Frag) (fd : FuncData) (sp : Sp), K.In h ∧ (∀ (s : Shared) (u : Value), BindsTo s fd ⟨[u], []⟩ [(x, u)]) ∧
        (∀ (H : Hp) (a : Addr) (ns : List Int), ns.length ≤ n → SqL K H a (ns.map V.int) → sp [.ref a] H (fun v _ => v = .bl true) fun _ _ _ => False) ∧
        ∀ base : Heap, K.In base → base.Ns mainGlobals mg → FnG l.prog w K mg base CX k fa fd [x] sp)
    (out : ∀ (H : Hp) (s : Shared) (e : Value) (s' : Shared), CX [] H s (fun _ _ _ => False) e s' → False) : PySem.W.WalkO q loose XP YP l.row.toRowW d [] (fun f vs => PySem.call f vs) := by
  refine Att.attach_call hn hdf fun w s0 s1 mg mb fa o pm cd doc a vs ns G Y _ _ _ hm hobj hints hlen hg => ?_
  obtain ⟨K, fd, sp, KX, bind, hsp, hF⟩ := F w mg fa _ Y G.T.g hm
  exact law_runG KX G.T.g G.T.b G.T.builtins G.T.nolimit hg hobj hints (Nat.le_trans hlen hn2) room hF bind (fun H z => hsp H a ns hlen z) fun H e s' => out H s1 e s'
end SwX
set_option Elab.async false
set_option linter.all false
set_option maxRecDepth 100000
set_option maxHeartbeats 4000000
/-! data in the abstract heap, dicts with flat keys among it; its repr; counting truths -/
namespace SwX
open PySem PySem.Spec PyProof.Rows L2
def keyD : Key → PyData
  | .inl i => .int i
  | .inr x => .str x
/-- v stands for the data d -/
inductive Da (K : PySem.W.Frag) (H : Hp) : V → PyData → Prop
  | non : Da K H .non .none
  | bl (b : Bool) : Da K H (.bl b) (.bool b)
  | int (i : Int) : Da K H (.int i) (.int i)
  | str (x : Str) : Da K H (.str x) (.str x)
  | lst {a : Addr} {xs : List V} {ds : List PyData} (h : H a = some (.lst xs)) (l : xs.length = ds.length) (each : ∀ (i : Nat) x d, xs[i]? = some x → ds[i]? = some d → Da K H x d) : Da K H (.ref a) (.list ds)
  | tup {a : Addr} {xs : List V} {ds : List PyData} (h : SqT K H a xs) (l : xs.length = ds.length) (each : ∀ (i : Nat) x d, xs[i]? = some x → ds[i]? = some d → Da K H x d) : Da K H (.ref a) (.tuple ds)
  | dic {a : Addr} {kvs : List (Key × V)} {ds : List PyData} (h : H a = some (.dK kvs)) (l : kvs.length = ds.length) (each : ∀ (i : Nat) kv d, kvs[i]? = some kv → ds[i]? = some d → Da K H kv.2 d) :
      Da K H (.ref a) (.dict ((kvs.map fun q => keyD q.1).zip ds))
theorem Da.mono {K : PySem.W.Frag} {H H' : Hp} (e : Evl.Ex H H') {v : V} {d : PyData} (h : Da K H v d) : Da K H' v d := by
  induction h with
  | non => exact .non
  | bl b => exact .bl b
  | int i => exact .int i
  | str x => exact .str x
  | lst h l _ ih => exact .lst (e _ _ h) l ih
  | tup h l _ ih => exact .tup (Evl.ex_t e h) l ih
  | dic h l _ ih => exact .dic (e _ _ h) l ih
/-- what the written part holds of sys.modules -/
def SysIn (K : PySem.W.Frag) : Prop := ∃ o, K.lookup sysModules = some o
section
variable {X : Cx} {pins : List (Addr × Obj)} {σ : L2.St} {H : Hp} {s : Shared}
theorem reads_each {h : Heap} : ∀ {us : List Value} {ds : List PyData}, us.length = ds.length → (∀ (i : Nat) u d, us[i]? = some u → ds[i]? = some d → ∃ as, Reads h u d as ∧ sysModules ∉ as) → ∃ as, ReadsAll h us ds as ∧ sysModules ∉ as
  | [], [], _, _ => ⟨[], .nil, List.not_mem_nil⟩
  | [], _ :: _, l, _ => by cases l
  | _ :: _, [], l, _ => by cases l
  | u :: us, d :: ds, l, k => by
    obtain ⟨as, r, n⟩ := k 0 u d rfl rfl
    obtain ⟨bs, rs, ns⟩ := reads_each (us := us) (ds := ds) (Nat.succ.inj l) fun i u' d' e1 e2 => k (i + 1) u' d' (by simpa using e1) (by simpa using e2)
    exact ⟨as ++ bs, .cons r rs, fun z => (List.mem_append.mp z).elim n ns⟩
/-- the other way: an item of the values is one of what is paired -/
theorem Vals.back : ∀ {xs : List V} {us : List Value} {i : Nat} {u : Value}, Vals xs us → us[i]? = some u → ∃ x, xs[i]? = some x ∧ RelV x u
  | _, _, _, _, .nil, e => by simp at e
  | _, _, 0, _, .cons r _, e => by
    simp at e
    subst e
    exact ⟨_, rfl, r⟩
  | _, _, i + 1, u, .cons _ t, e => by
    obtain ⟨x, e1, r⟩ := Vals.back (i := i) (u := u) t (by simpa using e)
    exact ⟨x, by simpa using e1, r⟩
theorem kv_back : ∀ {kvs : List (Key × V)} {vs : List (Key × Value)}, KV kvs vs → vs.length = kvs.length ∧ vs.map (·.1) = kvs.map (·.1) ∧ ∀ (i : Nat) q, vs[i]? = some q → ∃ p, kvs[i]? = some p ∧ RelV p.2 q.2
  | _, _, .nil => ⟨rfl, rfl, fun i q e => by simp at e⟩
  | _, _, .cons (a := p) (b := q) r t => by
    obtain ⟨l, m, k⟩ := kv_back t
    refine ⟨congrArg Nat.succ l, by rw [List.map_cons, List.map_cons, m, r.1], fun i q' e => ?_⟩
    cases i with
    | zero =>
      simp at e
      subst e
      exact ⟨p, rfl, r.2⟩
    | succ i =>
      obtain ⟨p', e1, r'⟩ := k i q' (by simpa using e)
      exact ⟨p', by simpa using e1, r'⟩
theorem keys_read {h : Heap} {knd : PySem.KeyKind X.prog X.w Key} (hk : ∀ k v, knd.is k v = keyIs k v) : ∀ {es : List DictEntry} {vs : List (Key × Value)}, Pairs knd es vs → ReadsAll h (es.map (·.key)) (vs.map fun q => keyD q.1) [] ∧ es.map (·.val) = vs.map (·.2)
  | _, _, .nil => ⟨.nil, rfl⟩
  | _, _, .cons (e := e) (kv := kv) i v t => by
    obtain ⟨r, m⟩ := keys_read hk t
    refine ⟨?_, by rw [List.map_cons, List.map_cons, m, v]⟩
    rw [hk] at i
    have one : Reads h e.key (keyD kv.1) [] := by
      rcases keyIs_shape i with ⟨j, tk, e1, e2⟩ | ⟨x, tk, e1, e2⟩
      · rw [e1, e2]
        exact .int j tk
      · rw [e1, e2]
        exact .str x tk
    exact ReadsAll.cons (as := []) (bs := []) one r
theorem not_sys (I : Inv X pins σ H s) (S : SysIn X.K) {a : Addr} {o : HO} (h : H a = some o) : sysModules ≠ a := fun e => by
  obtain ⟨ob, z⟩ := S
  have n := (I.bs _ _ (I.ok.mod.kin _ _ z)).2
  rw [e, h] at n
  cases n
theorem Da.reads (I : Inv X pins σ H s) (S : SysIn X.K) {v : V} {d : PyData} (h : Da X.K H v d) : ∀ u, RelV v u → ∃ as, Reads s.heap u d as ∧ sysModules ∉ as := by
  induction h with
  | non => intro u r; cases r; exact ⟨_, .none, List.not_mem_nil⟩
  | bl b => intro u r; cases r; exact ⟨_, .bool b, List.not_mem_nil⟩
  | int i =>
    intro u r
    obtain ⟨t, rfl⟩ := r
    exact ⟨_, .int i t, List.not_mem_nil⟩
  | str x =>
    intro u r
    obtain ⟨t, rfl⟩ := r
    exact ⟨_, .str x t, List.not_mem_nil⟩
  | @lst a xs ds h l _ ih =>
    intro u r
    cases r
    obtain ⟨its, rv, ⟨o, n, ho, hc, _, hd⟩, _⟩ := I.list (Evl.sq_of h)
    obtain ⟨as, ra, na⟩ := reads_each (h := s.heap) (us := its) (ds := ds) (rv.length.symm.trans l) fun i u d e1 e2 => by
      obtain ⟨x, e3, r⟩ := Vals.back rv e1
      exact ih i x d e3 e2 u r
    exact ⟨_, .list ho hc hd ra, fun z => (List.mem_cons.mp z).elim (not_sys I S h) na⟩
  | @tup a xs ds h l _ ih =>
    intro u r
    cases r
    obtain ⟨its, rv, ⟨o, ho, hc, n, hd⟩, _⟩ := I.tuple h
    obtain ⟨as, ra, na⟩ := reads_each (h := s.heap) (us := its) (ds := ds) (rv.length.symm.trans l) fun i u d e1 e2 => by
      obtain ⟨x, e3, r⟩ := Vals.back rv e1
      exact ih i x d e3 e2 u r
    exact ⟨_, .tuple ho hc hd ra, na⟩
  | @dic a kvs ds h l _ ih =>
    intro u r
    cases r
    have ok : ObjOk X.prog X.w H s.heap a (.dK kvs) := I.hok a _ h
    obtain ⟨_, _, vs, kv, o, es, ep, ho, hx, hd, _, hp, _⟩ := ok
    obtain ⟨l2, m2, k2⟩ := kv_back kv
    obtain ⟨rk, mv⟩ := keys_read (X := X) (h := s.heap) (mixKind_is X.prog X.w) hp
    have lk : (kvs.map fun q => keyD q.1).length = ds.length := by rw [List.length_map]; exact l
    obtain ⟨as, ra, na⟩ := reads_each (h := s.heap) (us := es.toList.map (·.val)) (ds := ds) (by rw [mv, List.length_map, l2]; exact l) fun i u d e1 e2 => by
      rw [mv, List.getElem?_map] at e1
      cases q : vs[i]? with
      | none => rw [q] at e1; cases e1
      | some p =>
        rw [q] at e1
        obtain ⟨p', e3, r⟩ := k2 i p q
        cases e1
        exact ih i p' d e3 e2 p.2 r
    have f1 : ((kvs.map fun q => keyD q.1).zip ds).map (·.1) = vs.map fun q => keyD q.1 := by
      rw [List.map_fst_zip (Nat.le_of_eq lk)]
      have z := congrArg (List.map keyD) m2
      rw [List.map_map, List.map_map] at z
      exact z.symm
    have f2 : ((kvs.map fun q => keyD q.1).zip ds).map (·.2) = ds := List.map_snd_zip (Nat.le_of_eq lk.symm)
    refine ⟨_, .dict (as := []) (bs := as) ho hx.1 hd (by rw [f1]; exact rk) (by rw [f2]; exact ra), fun z => ?_⟩
    rcases List.mem_cons.mp (show sysModules ∈ a :: as from z) with z | z
    · exact not_sys I S h z
    · exact na z
end
/-- repr(x), x a list or a tuple that is data -/
def rRepr (K : PySem.W.Frag) : List V → Hp → VK → Prop := fun xs H Q => ∃ (a : Addr) (d : PyData), xs = [.ref a] ∧ Da K H (.ref a) d ∧ d.showable = true ∧ d.depth ≤ 180 ∧ d.shown.length ≤ sizeLine ∧ Q (.str d.shown) H
theorem call_repr {X : Cx} {k : Nat} (S : SysIn X.K) (calm : Calm X.A) (hr : Room k X.A) : CallR X (.builtin "repr") (rRepr X.K) := fun pins s σ H xs us Q I r h => by
  obtain ⟨a, d, rfl, da, sh, dp, len, q⟩ := h
  obtain ⟨u, rfl, ru⟩ := Vals.one r
  obtain ⟨as, rd, ns⟩ := da.reads I S u ru
  cases ru
  have un := hr.un
  exact repr_of_reads' rd sh (fun _ => ns) calm (by omega) (fun _ _ e => e) (fun h' u tk keep => ⟨.str d.shown, H, I.kept keep, ⟨u, rfl⟩, q⟩) len
/-- xs.count(b), xs a list of truths -/
def rCountB (K : PySem.W.Frag) : V → List V → Hp → VK → Prop := fun x xs H Q => ∃ (p : Addr) (bs : List Bool) (b : Bool), x = .ref p ∧ xs = [.bl b] ∧ SqL K H p (bs.map V.bl) ∧ Q (.int (bs.count b : Nat)) H
theorem bools_of : ∀ {bs : List Bool} {its : List Value}, Vals (bs.map V.bl) its → its = bs.map Value.bool
  | [], _, r => by cases r; rfl
  | b :: bs, _, r => by
    cases r with
    | cons r t => rw [bools_of t, List.map_cons, show _ = Value.bool b from r]
def isB (b : Bool) : Value → Bool
  | .bool c => c == b
  | _ => false
theorem isB_count (b : Bool) : ∀ bs : List Bool, (bs.map Value.bool).countP (isB b) = bs.count b
  | [] => rfl
  | c :: bs => by rw [List.map_cons, List.countP_cons, List.count_cons, isB_count b bs]; rfl
theorem mt_countB {X : Cx} {k : Nat} (hr : Room k X.A) : MtR X "list.count" (rCountB X.K) := fun pins s σ H x xs v us Q I rx rxs h => by
  obtain ⟨p, bs, b, rfl, rfl, hs, q⟩ := h
  cases rx
  obtain ⟨u, rfl, ru⟩ := Vals.one rxs
  obtain rfl : u = Value.bool b := ru
  obtain ⟨its, rv, ⟨⟨cls, dd, data, sl⟩, n, ho, hc, hdn, hd⟩, _⟩ := I.list hs
  simp only at hc hd
  subst hc hd
  have e := bools_of rv
  subst e
  have un := hr.un
  refine call_meets PySem.F.slot_list_count ⟨_, ho, rfl⟩ PySem.F.entry_list_count (PySem.F.args_list_count_2 _ _) (SeqAt.list_countAt p _ n dd sl (.bool b) (isB b)) ⟨ho, fun y hy => ?_, ?_⟩
  · obtain ⟨c, _, rfl⟩ := List.mem_map.mp (show y ∈ bs.map Value.bool by simpa using hy)
    exact SeqAt.eqAt_reads (.bool c) (.bool b) _ _ _ _ [] [] (.bool c) (.bool b) rfl rfl (by show X.A.units + 1 + min _ _ < cLine; simp only [PyData.depth]; omega)
  · refine ⟨.int (bs.count b : Nat), H, I.tok _, ⟨s.toks, ?_⟩, q⟩
    rw [isB_count]
end SwX
set_option Elab.async false
set_option linter.all false
set_option maxRecDepth 100000
set_option maxHeartbeats 4000000
/-! what a head tells of own exception classes, and a Hook with a further look -/
namespace SwX
open PySem PySem.Spec PyProof.Rows L2 He
/-- the bases: 0 ValueError, 1 LookupError, else ArithmeticError -/
def baseN : Nat → String
  | 0 => "ValueError"
  | 1 => "LookupError"
  | _ => "ArithmeticError"
def newN (i : Nat) : String := match i with
  | 0 => "ValueError.__new__"
  | 1 => "LookupError.__new__"
  | _ => "ArithmeticError.__new__"
def mroN (i : Nat) : List Value := [.type (baseN i), .type "Exception", .type "BaseException", .type "object"]
theorem base_of (i : Nat) : ∃ initId, Base (baseN i) (newN i) initId (mroN i) := match i with
  | 0 => ⟨_, PySem.F.excBase_ValueError, PySem.F.store_ValueError⟩
  | 1 => ⟨_, PySem.F.excBase_LookupError, PySem.F.store_LookupError⟩
  | _ + 2 => ⟨_, PySem.F.excBase_ArithmeticError, PySem.F.store_ArithmeticError⟩
def oB (a b : Option Bool) : Bool := decide (a = b)
/-- the class at C is an own exception over base i -/
def oexB (K : PySem.W.Frag) (i : Nat) (C : Addr) : Bool :=
  PySem.W.excOver K C (mroN i) && (PySem.W.excInitIn K C (mroN i) (newN i) && (eqO (PySem.W.findIn K (.ref C) "__setattr__") (some (some (.builtin "object.__setattr__"))) &&
  (eqO (PySem.W.findIn K (.ref C) "__getattribute__") (some (some (.builtin "BaseException.__getattribute__"))) && (eqO (PySem.W.findIn K (.ref C) "__getattr__") (some none) &&
  (oB (PySem.W.subIn K (.ref C) (.type "BaseException")) (some true) && (PySem.W.hasDictIn K C && (eqO (PySem.W.findIn K (.ref C) "__class__") (some (some (.builtin "object.__class__"))) &&
  (eqO (PySem.W.specialIn K (.builtin "object.__class__") "__get__") (some (some (.builtin "getset_descriptor.__get__"))) && (oB (PySem.W.takesIn K (.builtin "object.__class__")) (some true) &&
  (oB (PySem.W.mroIn K C (.type "object")) (some true) && PySem.W.keepIn K (.ref C)))))))))))
theorem born_in {K : PySem.W.Frag} {C : Addr} {bmB : List Value} {newId : String} (q : PySem.W.excInitIn K C bmB newId = true) :
    ∃ nm qn N bs bm hd sn sub ab col dd k0 k1 k2 k3 k5, K.lookup C = some (excClassObj nm qn C N bs bm hd sn sub ab col dd k0 k1 k2 k3 k5 newId) ∧ PySem.W.excTail bmB bm = true := by
  unfold PySem.W.excInitIn at q
  split at q
  · rename_i dd cd sl at_
    obtain ⟨nm, bs, mro, ns, qn, hd, sn, sub, ab, col, del⟩ := cd
    obtain ⟨l⟩ := sl
    cases mro with
    | nil => cases q
    | cons c bm =>
      cases c with
      | ref C' =>
        match l, q with
        | [k0, k1, k2, k3, some (.builtin n), k5], q =>
          have q' : (C' == C && n == newId && !del && PySem.W.excTail bmB bm) = true := q
          simp only [Bool.and_eq_true, beq_iff_eq, Bool.not_eq_true'] at q'
          obtain ⟨⟨⟨rfl, rfl⟩, rfl⟩, tail⟩ := q'
          exact ⟨nm, qn, ns, bs, bm, hd, sn, sub, ab, col, dd, k0, k1, k2, k3, k5, at_, tail⟩
      | _ => cases q
  · cases q
theorem oex_of {K : PySem.W.Frag} {i : Nat} {C : Addr} (h : oexB K i C = true) : Oex K C := by
  simp only [oexB, Bool.and_eq_true, eqO, oB, decide_eq_true_eq] at h
  obtain ⟨over, ini, set, get, miss, exc, dct, cl, clg, clt, top, kp⟩ := h
  obtain ⟨initId, base⟩ := base_of i
  obtain ⟨nm, qn, N, bs, bm, hd, sn, sub, ab, col, dd, k0, k1, k2, k3, k5, at_, tail⟩ := born_in ini
  exact ⟨⟨_, _, initId, _, base, over, nm, qn, N, bs, bm, hd, sn, sub, ab, col, dd, k0, k1, k2, k3, k5, at_, tail⟩, set, get, miss, exc, dct, cl, clg, clt, top, kp⟩
theorem free_of {K : PySem.W.Frag} {C : Addr} {f : Str} (h : PySem.W.findIn K (.ref C) f = some none) : Free K C f := ⟨h, by unfold PySem.W.takerIn; rw [h] <;> rfl⟩
/-- the class at C has the def at fI for its __init__ -/
def iniB (K : PySem.W.Frag) (C : Addr) : Bool := eqO (PySem.W.findIn K (.ref C) "__init__") (some (some (.ref (ma K C "__init__")))) && decide (PySem.W.typeIn K (.ref (ma K C "__init__")) = some (.type "function"))
theorem ini_of {K : PySem.W.Frag} {C : Addr} (h : iniB K C = true) : Ini K C (ma K C "__init__") := by
  simp only [iniB, Bool.and_eq_true, eqO, decide_eq_true_eq] at h
  exact ⟨h.1, h.2⟩
/-! ### a Hook with a further look; sys.modules is among what is seen -/
def asS (g : Addr → Option Obj) (n : Nat) : List Addr := sysModules :: asD g n
abbrev AlS : Type := Bool × AlD
def obsS (fa : List Fa) (fn : List DefD) (chk : PySem.W.Frag → Bool) (K : PySem.W.Frag) : AlS := ((K.lookup sysModules).isSome && chk K, obsD fa fn K)
def obsSG (n : Nat) (fa : List Fa) (fn : List DefD) (chk : PySem.W.Frag → Bool) (g : Addr → Option Obj) : AlS := obsS fa fn chk (frG g (asS g n))
def hookS (n : Nat) (fa : List Fa) (fn : List DefD) (chk : PySem.W.Frag → Bool) : PySem.W.Hook where
  α := AlS
  obs := fun s => obsSG n fa fn chk s.heap.get?
  val := fun _ => (true, valD fn)
  says := fun _ h => ∃ K : PySem.W.Frag, K.In h ∧ obsS fa fn chk K = (true, valD fn)
  of := fun _ _ e => ⟨_, frG_in, e⟩
  keeps := fun _ _ _ ⟨K, hK, c⟩ k => ⟨K, PySem.W.Frag.In.keeps hK k, c⟩
theorem obsSG_eq {n : Nat} {fa : List Fa} {fn : List DefD} {chk : PySem.W.Frag → Bool} {g : Addr → Option Obj} {s : Shared} (h : ∀ a, g a = s.heap.get? a) : obsSG n fa fn chk g = (hookS n fa fn chk).obs s := by
  rw [show g = s.heap.get? from funext h] <;> rfl
theorem saysS {fa : List Fa} {fn : List DefD} {chk : PySem.W.Frag → Bool} {K : PySem.W.Frag} (h : obsS fa fn chk K = (true, valD fn)) : SysIn K ∧ chk K = true ∧ SaysD fa fn K := by
  have h1 : ((K.lookup sysModules).isSome && chk K) = true := congrArg (fun z : AlS => z.1) h
  have h2 : obsD fa fn K = valD fn := congrArg (fun z : AlS => z.2) h
  obtain ⟨a, b⟩ := Bool.and_eq_true_iff.mp h1
  exact ⟨Option.isSome_iff_exists.mp a, b, h2⟩
end SwX
set_option Elab.async false
set_option linter.all false
set_option maxRecDepth 100000
set_option maxHeartbeats 4000000
/-! a def by its name; joined rules, so that a body's term needs no types; heaps that grow -/
namespace SwX
open PySem PySem.Spec PyProof.Rows L2
/-- the module's name x is a def that keeps sp -/
structure Has (P : Program) (w : World) (K : PySem.W.Frag) (mg : Str → Option Value) (base : Heap) (x : Str) (k : Nat) (ps : List Str) (sp : Sp) : Prop where
  ex : ∃ f fd, FnOk P w K mg base CX0 k f fd ps sp ∧ mg x = some (.ref f) ∧ PySem.W.keepIn K (.ref f) = true ∧ Binds K fd ps []
/-- the same where no repr is under way -/
structure HasG (P : Program) (w : World) (K : PySem.W.Frag) (mg : Str → Option Value) (base : Heap) (x : Str) (k : Nat) (ps : List Str) (sp : Sp) : Prop where
  ex : ∃ f fd, FnG P w K mg base CX0 k f fd ps sp ∧ mg x = some (.ref f) ∧ PySem.W.keepIn K (.ref f) = true ∧ Binds K fd ps []
/-- the module's name x is an own exception class, its __init__ keeps sp; m keywords ks -/
structure HasX (P : Program) (w : World) (K : PySem.W.Frag) (mg : Str → Option Value) (base : Heap) (x : Str) (k : Nat) (C : Addr) (n : Nat) (ks : List Str) (g : {α : Type} → List α → List α → List α) (sp : Sp) : Prop where
  ex : ∃ fI fd ps, Oex K C ∧ Ini K C fI ∧ FnOk P w K mg base CX0 k fI fd ps sp ∧ mg x = some (.ref C) ∧ KBn K fd ps (n + 1) [] (fun us _ => us) (fun vs _ => vs) ∧ KBn K fd ps 1 ks (fun us ws => g us ws) (fun vs zs => g vs zs)
section
variable {X : Cx} {k n : Nat} {C : Addr} {ps ks : List Str} {sp : Sp} {x : Str} {p pos : Pos} {e : Expr} {es : List Expr} {kws : List Keyword} {t tk : TA} {gg : {α : Type} → List α → List α → List α}
theorem pe_has (D : Has X.prog X.w X.K X.mg X.base x k ps sp) (hr : Room k X.A) (ha : PA X (e :: es) t) (hg : Gl X x := by rfl) (hdb : (x == ("__debug__" : Str)) = false := by decide)
    (he : starEach (e :: es) X.env = (false, eval e X.env) :: starEach es X.env := by rfl) (hpl : (backTo pos (starEach es X.env)).any (·.1) = false := by rfl) : PE X (.Call (.Name x p) (e :: es) [] pos) (tCall sp [] E0 t) := by
  obtain ⟨f, fd, F, hm, hk, hb⟩ := D.ex
  exact pe_call F hr hg hm hk hb .nil pass0 ha hdb he hpl
theorem pe_hasG (D : HasG X.prog X.w X.K X.mg X.base x k ps sp) (hr : Room k X.A) (calm : Calm X.A) (ha : PA X (e :: es) t) (hg : Gl X x := by rfl) (hdb : (x == ("__debug__" : Str)) = false := by decide)
    (he : starEach (e :: es) X.env = (false, eval e X.env) :: starEach es X.env := by rfl) (hpl : (backTo pos (starEach es X.env)).any (·.1) = false := by rfl) : PE X (.Call (.Name x p) (e :: es) [] pos) (tCall sp [] E0 t) := by
  obtain ⟨f, fd, F, hm, hk, hb⟩ := D.ex
  exact pe_callG F hr calm hg hm hk hb .nil pass0 ha hdb he hpl
theorem pe_newH (D : HasX X.prog X.w X.K X.mg X.base x k C n ks gg sp) (hr : Room (k + 1) X.A) (ha : PA X (e :: es) t) (hg : Gl X x := by rfl) (hdb : (x == ("__debug__" : Str)) = false := by decide)
    (he : starEach (e :: es) X.env = (false, eval e X.env) :: starEach es X.env := by rfl) (hpl : (backTo pos (starEach es X.env)).any (·.1) = false := by rfl) :
    PE X (.Call (.Name x p) (e :: es) [] pos) (tNewX C n 0 sp (fun vs _ => vs) E0 t tNil) := by
  obtain ⟨fI, fd, ps, T, i, F, hm, b, _⟩ := D.ex
  exact pe_newX T i F hr hg hm b pass0 ha hdb he hpl
theorem pe_newHK (D : HasX X.prog X.w X.K X.mg X.base x k C n ks gg sp) (hr : Room (k + 1) X.A) (hkw : PK X kws tk) (hg : Gl X x := by rfl)
    (hall : (backToKw pos (keywordEach kws X.env)).all (·.1.isSome) = true := by rfl) (hks : (backToKw pos (keywordEach kws X.env)).filterMap (·.1) = ks := by rfl) (hdb : (x == ("__debug__" : Str)) = false := by decide)
    (hpl : ((backTo pos (starEach [] X.env)).any (·.1) || (backToKw pos (keywordEach kws X.env)).any (·.1.isNone)) = false := by rfl) : PE X (.Call (.Name x p) [] kws pos) (tNewX C 0 ks.length sp (fun vs zs => gg vs zs) E0 tNil tk) := by
  obtain ⟨fI, fd, ps, T, i, F, hm, _, b⟩ := D.ex
  exact pe_newXK T i F hr hg hm b pass0 hkw hall hks hdb hpl
end
/-! ### joined rules -/
section
variable {X : Cx} {k : Nat}
theorem op_join {f : Value → Value → Sem Value} {r r' : R2} (h : OpR X f r) (h' : OpR X f r') : OpR X f (fun x y H Q => r x y H Q ∨ r' x y H Q) := fun pins s σ H x y v u Q I rx ry z => z.elim (h pins s σ H x y v u Q I rx ry) (h' pins s σ H x y v u Q I rx ry)
theorem ix_join {r r' : R2} (h : IxR X r) (h' : IxR X r') : IxR X (fun x y H Q => r x y H Q ∨ r' x y H Q) := fun a b pins s σ H x y v u Q I rx ry z hs => z.elim (fun z => h a b pins s σ H x y v u Q I rx ry z hs) fun z => h' a b pins s σ H x y v u Q I rx ry z hs
theorem cr_join {f : Value} {r r' : List V → Hp → VK → Prop} (h : CallR X f r) (h' : CallR X f r') : CallR X f (fun xs H Q => r xs H Q ∨ r' xs H Q) := fun pins s σ H xs us Q I rx z => z.elim (h pins s σ H xs us Q I rx) (h' pins s σ H xs us Q I rx)
/-- a + b: ints | lists -/
theorem op_addA : OpR X (binaryOp .Add) (fun x y H Q => rI0 (fun i j => .int (i + j)) x y H Q ∨ rCat x y H Q) := op_join op_add op_cat
/-- a == b: flat things | data -/
theorem op_eqA (hr : Room k X.A) : OpR X (compareOp .Eq) (fun x y H Q => rEq x y H Q ∨ rEqD X.K x y H Q) := op_join op_eq (op_eqD (by have := hr.un; omega))
theorem op_neA (hr : Room k X.A) : OpR X (compareOp .NotEq) (fun x y H Q => rNe x y H Q ∨ rNeD X.K x y H Q) := op_join op_ne (op_neD (by have := hr.un; omega))
/-- a[i]: lists | tuples -/
theorem ix_A : IxR X (fun x y H Q => rIxL X.K x y H Q ∨ rIxT X.K x y H Q) := ix_join ix_list ix_tup
end
/-! ### heaps that grow -/
open Evl (Ex)
theorem ex_new {H : Hp} {p : Addr} {o : HO} (h : H p = none) : Ex H (upd H p o) := Evl.Ex.new h
theorem ExAt.mono {H H' : Hp} {a C : Addr} {fs : List (Str × V)} (e : Ex H H') (h : ExAt H a C fs) : ExAt H' a C fs := by
  rcases h with ⟨h1, h2⟩ | ⟨d, h1, h2⟩
  · exact .inl ⟨e _ _ h1, h2⟩
  · exact .inr ⟨d, e _ _ h1, e _ _ h2⟩
/-- te gives, over any greater heap, a value of which P holds in a greater heap still -/
def Yi (te : TE) (σ : L2.St) (H : Hp) (P : V → Hp → Prop) : Prop := ∀ H1, Ex H H1 → ∀ Q : VK, (∀ v H2, Ex H1 H2 → P v H2 → Q v H2) → te σ H1 Q
/-- the same of an argument list -/
def Ys (ta : TA) (σ : L2.St) (H : Hp) (P : List V → Hp → Prop) : Prop := ∀ H1, Ex H H1 → ∀ Q : List V → Hp → Prop, (∀ vs H2, Ex H1 H2 → P vs H2 → Q vs H2) → ta σ H1 Q
section
variable {σ : L2.St} {H : Hp} {te : TE} {ta : TA} {P : V → Hp → Prop} {R : List V → Hp → Prop}
theorem Yi.mono {H' : Hp} (h : Yi te σ H P) (e : Ex H H') : Yi te σ H' P := fun H1 e1 => h H1 (e.trans e1)
theorem Ys.mono {H' : Hp} (h : Ys ta σ H R) (e : Ex H H') : Ys ta σ H' R := fun H1 e1 => h H1 (e.trans e1)
/-- items of a list, one predicate each -/
theorem ys_nil {α : Type} {F : α → V → Hp → Prop} : Ys tNil σ H fun vs H' => Paired (fun i v => F i v H') [] vs := fun H1 _ Q q => q [] H1 (Evl.Ex.refl H1) .nil
theorem ys_cons {α : Type} {F : α → V → Hp → Prop} {i : α} {is : List α} (mono : ∀ i v H H', Ex H H' → F i v H → F i v H') (h : Yi te σ H (F i)) (t : Ys ta σ H fun vs H' => Paired (fun i v => F i v H') is vs) :
    Ys (tCons te ta) σ H fun vs H' => Paired (fun i v => F i v H') (i :: is) vs := fun H1 e1 Q q =>
  h H1 e1 _ fun v H2 e2 p => t H2 (e1.trans e2) _ fun vs H3 e3 r => q (v :: vs) H3 (e2.trans e3) (.cons (mono i v H2 H3 e3 p) r)
theorem paired_mono {α : Type} {F : α → V → Hp → Prop} {H H' : Hp} (e : Ex H H') (mono : ∀ i v H H', Ex H H' → F i v H → F i v H') : ∀ {is : List α} {vs : List V}, Paired (fun i v => F i v H) is vs → Paired (fun i v => F i v H') is vs
  | _, _, .nil => .nil
  | _, _, .cons h t => .cons (mono _ _ _ _ e h) (paired_mono e mono t)
theorem paired_append {α β : Type} {F : α → β → Prop} : ∀ {is js : List α} {vs ws : List β}, Paired F is vs → Paired F js ws → Paired F (is ++ js) (vs ++ ws)
  | _, _, _, _, .nil, t => t
  | _, _, _, _, .cons h r, t => .cons h (paired_append r t)
theorem paired_get {α β : Type} {F : α → β → Prop} : ∀ {is : List α} {vs : List β} {n : Nat} {i : α}, Paired F is vs → is[n]? = some i → ∃ v, vs[n]? = some v ∧ F i v
  | _, _, n, _, .nil, e => by simp at e
  | _, _, 0, _, .cons h _, e => by
    simp at e
    subst e
    exact ⟨_, rfl, h⟩
  | _, _, n + 1, i, .cons _ t, e => by
    obtain ⟨v, e1, h⟩ := paired_get (n := n) (i := i) t (by simpa using e)
    exact ⟨v, by simpa using e1, h⟩
theorem paired_len {α β : Type} {F : α → β → Prop} {is : List α} {vs : List β} (h : Paired F is vs) : is.length = vs.length := Paired.length h
end
end SwX
set_option Elab.async false
set_option linter.all false
set_option maxRecDepth 100000
set_option maxHeartbeats 4000000
/-! readings of joined rules evaluated; the purse of the laws' draws -/
namespace SwX
open PySem PySem.Spec PyProof.Rows L2 Evl
section
variable {K : PySem.W.Frag} {σ : L2.St} {H : Hp} {x y z v : V} {r r' : R2} {te : TE}
theorem rv_l (h : RV r x y H z) : RV (fun x y H Q => r x y H Q ∨ r' x y H Q) x y H z := fun H1 e Q q => .inl (h H1 e Q q)
theorem rv_r (h : RV r' x y H z) : RV (fun x y H Q => r x y H Q ∨ r' x y H Q) x y H z := fun H1 e Q q => .inr (h H1 e Q q)
theorem rv_add {i j : Int} : RV (fun x y H Q => rI0 (fun i j => .int (i + j)) x y H Q ∨ rCat x y H Q) (.int i) (.int j) H (.int (i + j)) := rv_l rv_I0
theorem rv_at {p : Addr} {xs : List V} {i : Int} (h : SqL K H p xs) (ha : atI xs i = some v) : RV (fun x y H Q => rIxL K x y H Q ∨ rIxT K x y H Q) (.ref p) (.int i) H v := rv_l (rv_ixL h ha)
theorem rv_atT {p : Addr} {xs : List V} {i : Int} (h : SqT K H p xs) (ha : atI xs i = some v) : RV (fun x y H Q => rIxL K x y H Q ∨ rIxT K x y H Q) (.ref p) (.int i) H v := rv_r (rv_ixT h ha)
/-- a statement, then the rest -/
theorem s_seq {t u : TS} {D : Ends} (h : t { D with nx := u D } σ H) : tSeq t u D σ H := h
/-- int(i) -/
def rInt1 : List V → Hp → VK → Prop := fun xs H Q => (∃ i, xs = [.int i] ∧ Q (.int i) H) ∨ ∃ k, xs = [.bl k] ∧ Q (.int (if k then 1 else 0)) H
theorem ev_int1 {i : Int} (h : Ev te σ H (.int i)) : Ev (tCB rInt1 (tCons te tNil)) σ H (.int i) := ev_cb (ea_cons h ea_nil) fun H1 _ _ q => .inl ⟨i, rfl, q H1 (Ex.refl H1)⟩
end
/-- the purse at a: its state, what is left of a great number, its count -/
def Pur (H : Hp) (a : Addr) : Prop := ∃ x y z : Int, H a = some (.lst [.int x, .int y, .int z]) ∧ 0 ≤ x ∧ x < 2147483629 ∧ 0 ≤ y
/-- the heap without what stands at a -/
def less (a : Addr) (H : Hp) : Hp := fun b => if b = a then none else H b
theorem less_at {a : Addr} {H : Hp} : less a H a = none := if_pos rfl
theorem less_ne {a b : Addr} {H : Hp} (h : b ≠ a) : less a H b = H b := if_neg h
theorem less_ex {a : Addr} {H : Hp} : Ex (less a H) H := fun b o e => by
  unfold less at e
  split at e
  · cases e
  · exact e
theorem ex_less {a : Addr} {G H : Hp} (n : G a = none) (e : Ex G H) : Ex G (less a H) := fun b o h => by
  rw [less_ne (fun z => by rw [z, n] at h; cases h)]
  exact e b o h
theorem less_upd {a : Addr} {H H1 : Hp} {o : HO} (e : Ex (less a H) H1) : Ex (less a H) (upd H1 a o) := e.mut less_at
/-- what was known aside of the purse is known still -/
theorem ex_past {a : Addr} {G H H' : Hp} (n : G a = none) (e : Ex G H) (e' : Ex (less a H) H') : Ex G H' := (ex_less n e).trans e'
theorem Pur.keep {a : Addr} {H H' : Hp} (h : Pur H a) (e : Ex H H') : Pur H' a := by
  obtain ⟨x, y, z, q, r⟩ := h
  exact ⟨x, y, z, e _ _ q, r⟩
/-! promises of the three defs that draw -/
def spSeed (K : PySem.W.Frag) : Sp := fun vs H Q _ => ∃ (a : Addr) (ns : List Int) (k : Int), vs = [.ref a, .int k] ∧ SqL K H a (ns.map V.int) ∧ 0 ≤ k ∧ k ≤ 1000 ∧ ∀ n H', Ex H H' → Q (.int n) H'
def spPurse : Sp := fun vs H Q _ => ∃ n : Int, vs = [.int n] ∧ ∀ a H', H a = none → Ex H H' → Pur H' a → Q (.ref a) H'
def spDraw : Sp := fun vs H Q _ => ∃ (a : Addr) (m : Int), vs = [.ref a, .int m] ∧ 0 < m ∧ m ≤ 1000000 ∧ Pur H a ∧ ∀ k H', 0 ≤ k → k < m → Pur H' a → Ex (less a H) H' → Q (.int k) H'
theorem pylong_small {i j : Int} (h : 0 < j) (h2 : j ≤ 1000000) : CDivP i j := by
  refine ⟨h, ?_⟩
  have e : (2 : Nat) ^ 20 = 1048576 := by decide
  have l : j.natAbs.log2 < 20 := (Nat.log2_lt (by omega)).mpr (by omega)
  have n : j ≠ 0 := by omega
  simp [Builtin.divisionGoesByPylong, n]
  intro q
  omega
theorem cut_mem {xs : List V} {lo hi : Option Int} {i : Nat} {x : V} (h : (cutV xs lo hi)[i]? = some x) : x ∈ xs := List.mem_of_mem_drop (List.mem_of_mem_take (List.mem_of_getElem? h))
end SwX
set_option Elab.async false
set_option linter.all false
set_option maxRecDepth 100000
set_option maxHeartbeats 4000000
/-! own exceptions and lists of things, evaluated over heaps that grow -/
namespace SwX
open PySem PySem.Spec PyProof.Rows L2 Evl
/-! ### keywords without defaults -/
theorem kbn_of {K : PySem.W.Frag} {x qual : Str} {params : Arguments} {body : List Stmt} {scope : Scope} {kws : List (Str × V)} {f : Addr} {fd : FuncData} {ps : List Str} (F : FunD K x qual params body scope [] kws f fd) (n : Nat) (ks : List Str) (g : {α : Type} → List α → List α → List α)
    (hrel : ∀ {vs zs : List V} {us ws : List Value}, Vals vs us → Vals zs ws → Vals (g vs zs) (g us ws))
    (h : ∀ (kV doc pm : Value) (an : Option Addr) (cdv ct : Value) (us ws : List Value), us.length = n → ws.length = ks.length → bindArgs (PySem.W.fnOf x qual params body scope .none kV doc pm an cdv ct) ⟨us, ks.zip ws⟩ = pure (ps.zip (g us ws))) : KBn K fd ps n ks (fun us ws => g us ws) (fun vs zs => g vs zs) := by
  obtain ⟨oc, od, dV, kV, doc, pm, an, cdv, ct, osl, rfl, lk, hcd, hD, hK⟩ := F.ex
  rcases hD with ⟨_, rfl⟩ | ⟨e, _⟩
  · exact ⟨fun s us ws _ l1 l2 => .of_eq (h kV doc pm an cdv ct us ws l1 l2), fun r1 r2 => hrel r1 r2⟩
  · exact absurd rfl e
theorem vals_rev : ∀ {vs : List V} {us : List Value}, Vals vs us → Vals vs.reverse us.reverse
  | _, _, .nil => .nil
  | _, _, .cons r t => by
    rw [List.reverse_cons, List.reverse_cons]
    exact (vals_rev t).append (.cons r .nil)
/-! ### things over growing heaps -/
section
variable {K : PySem.W.Frag} {σ : L2.St} {H H' : Hp} {te ta' tb' : TE} {ta : TA} {P P' : V → Hp → Prop} {D : Ends} {tz : TS} {v : V}
theorem Yi.imp (h : Yi te σ H P) (i : ∀ v H', Ex H H' → P v H' → P' v H') : Yi te σ H P' := fun H1 e1 Q q => h H1 e1 Q fun v H2 e2 p => q v H2 e2 (i v H2 (e1.trans e2) p)
theorem yi_ev (h : Ev te σ H v) : Yi te σ H fun x _ => x = v := fun H1 e1 Q q => h H1 e1 Q fun H2 e2 => q v H2 e2 rfl
theorem yi_var {i : Nat} (h : σ[i]? = some (some v)) (m : ∀ H1, Ex H H1 → P v H1) : Yi (tVar i) σ H P := fun H1 e1 Q q => ⟨v, h, q v H1 (Ex.refl H1) (m H1 e1)⟩
theorem q_asgY {i : Nat} (h : Yi te σ H P) (k : ∀ v H1, Ex H H1 → P v H1 → tz D (σ.set i (some v)) H1) : tSeq (tAsg te (gName i)) tz D σ H := h H (Ex.refl H) _ k
theorem s_retY (h : Yi te σ H P) (k : ∀ v H1, Ex H H1 → P v H1 → D.rt v H1) : tRet te D σ H := h H (Ex.refl H) _ k
/-- a list, each of its items as F says of its index's datum -/
def LstOf {α : Type} (F : α → V → Hp → Prop) (is : List α) (x : V) (H : Hp) : Prop := ∃ p vs, x = .ref p ∧ H p = some (.lst vs) ∧ Paired (fun i v => F i v H) is vs
section
variable {α : Type} {F : α → V → Hp → Prop} {is js : List α}
theorem LstOf.mono {x : V} (m : ∀ i v H H', Ex H H' → F i v H → F i v H') (e : Ex H H') (h : LstOf F is x H) : LstOf F is x H' := by
  obtain ⟨p, vs, rfl, hp, q⟩ := h
  exact ⟨p, vs, rfl, e _ _ hp, paired_mono e m q⟩
theorem yi_lst (m : ∀ i v H H', Ex H H' → F i v H → F i v H') (h : Ys ta σ H fun vs H' => Paired (fun i v => F i v H') is vs) (l : is.length ≤ 100000) : Yi (tLst ta) σ H (LstOf F is) := fun H1 e1 Q q =>
  h H1 e1 _ fun vs H2 e2 p => ⟨sz_of (by rw [← paired_len p]; exact l), fun a ha => q (.ref a) _ (e2.trans (Ex.new ha)) ⟨a, vs, rfl, upd_same, paired_mono (Ex.new ha) m p⟩⟩
theorem yi_cat (m : ∀ i v H H', Ex H H' → F i v H → F i v H') (ha : Yi ta' σ H (LstOf F is)) (hb : Yi tb' σ H (LstOf F js)) (l : is.length + js.length ≤ 100000) :
    Yi (tOp (fun x y H Q => rI0 (fun i j => .int (i + j)) x y H Q ∨ rCat x y H Q) ta' tb') σ H (LstOf F (is ++ js)) := fun H1 e1 Q q =>
  ha H1 e1 _ fun x H2 e2 p => hb H2 (e1.trans e2) _ fun y H3 e3 p' => by
    obtain ⟨a, vs, rfl, ha, pa⟩ := p.mono m e3
    obtain ⟨b, ws, rfl, hb, pb⟩ := p'
    refine .inr ⟨a, b, vs, ws, rfl, rfl, ha, hb, sz_of (by rw [← paired_len pa, ← paired_len pb]; exact l), fun c hc => ?_⟩
    exact q _ _ ((e2.trans e3).trans (Ex.new hc)) ⟨c, _, rfl, upd_same, paired_mono (Ex.new hc) m (paired_append pa pb)⟩
end
/-! truths in a list -/
def Tru (b : Bool) (v : V) (_ : Hp) : Prop := v = .bl b
theorem tru_mono (i : Bool) (v : V) (H H' : Hp) (_ : Ex H H') (h : Tru i v H) : Tru i v H' := h
theorem trus : ∀ {bs : List Bool} {vs : List V} {H : Hp}, Paired (fun b v => Tru b v H) bs vs → vs = bs.map V.bl
  | _, _, _, .nil => rfl
  | _, _, _, .cons h t => by rw [trus t, List.map_cons, show _ = V.bl _ from h]
theorem LstOf.trus {bs : List Bool} {x : V} (h : LstOf Tru bs x H) : ∃ p, x = .ref p ∧ H p = some (.lst (bs.map V.bl)) := by
  obtain ⟨p, vs, rfl, hp, q⟩ := h
  rw [SwX.trus q] at hp
  exact ⟨p, rfl, hp⟩
theorem dpAll_bl : ∀ bs : List Bool, DpAll K H (bs.map V.bl) (bs.map PyData.bool)
  | [] => .nil
  | b :: r => .cons (.bl b) (dpAll_bl r)
/-! isinstance -/
theorem ev_isX {a C : Addr} {fs : List (Str × V)} {c : V} {u : Value} {b : Bool} (h : Ev te σ H (.ref a)) (hc : Ev tb' σ H c) (x : ExAt H a C fs) (T : Oex K C) (k : ClsV c u) (e : PySem.W.kitOne K (.ref C) u = some b) : Ev (tCB (rIsX K) (tCons te (tCons tb' tNil))) σ H (.bl b) := fun H1 e1 Q q =>
  h H1 e1 _ fun H2 e2 => hc H2 (e1.trans e2) _ fun H3 e3 => ⟨a, C, fs, c, u, b, rfl, x.mono ((e1.trans e2).trans e3), T, k, e, q H3 (e2.trans e3)⟩
theorem ev_fldX {a C : Addr} {fs : List (Str × V)} {f : Str} {v : V} (h : Ev te σ H (.ref a)) (x : ExAt H a C fs) (T : Oex K C) (n : Free K C f) (l : fs.lookup f = some v) : Ev (tFldX K f te) σ H v := fun H1 e1 Q q =>
  h H1 e1 _ fun H2 e2 => ⟨a, C, fs, v, rfl, x.mono (e1.trans e2), T, n, l, q H2 e2⟩
theorem yi_tru {b : Bool} (h : Ev te σ H (.bl b)) : Yi te σ H (Tru b) := yi_ev h
theorem dp_trus {bs : List Bool} {p : Addr} (h : H p = some (.lst (bs.map V.bl))) : Dp K H (.ref p) (.list (bs.map PyData.bool)) := .lst (sq_of h) (dpAll_bl bs)
/-- two lists of truths -/
theorem rv_neTru {bs cs : List Bool} {p q : Addr} {z : Bool} (hp : H p = some (.lst (bs.map V.bl))) (hq : H q = some (.lst (cs.map V.bl))) (s1 : SeqAt.shaped (.list (bs.map PyData.bool)) = true) (s2 : SeqAt.shaped (.list (cs.map PyData.bool)) = true) (e : PyData.eqv (.list (bs.map PyData.bool)) (.list (cs.map PyData.bool)) = z) :
    RV (fun x y H Q => rNe x y H Q ∨ rNeD K x y H Q) (.ref p) (.ref q) H (.bl (!z)) := fun H1 e1 Q k => .inr ⟨_, _, dp_trus (e1 _ _ hp), dp_trus (e1 _ _ hq), s1, s2, by rw [e]; exact k H1 (Ex.refl H1)⟩
theorem ev_eqTru {bs cs : List Bool} {p : Addr} {z : Bool} (ha : Ev te σ H (.ref p)) (hp : H p = some (.lst (bs.map V.bl))) (hb : Yi tb' σ H (LstOf Tru cs)) (s1 : SeqAt.shaped (.list (bs.map PyData.bool)) = true) (s2 : SeqAt.shaped (.list (cs.map PyData.bool)) = true) (e : PyData.eqv (.list (bs.map PyData.bool)) (.list (cs.map PyData.bool)) = z) :
    Ev (tOp (fun x y H Q => rEq x y H Q ∨ rEqD K x y H Q) te tb') σ H (.bl z) := fun H1 e1 Q k => ha H1 e1 _ fun H2 e2 => hb H2 (e1.trans e2) _ fun y H3 e3 l => by
  obtain ⟨q, rfl, hq⟩ := l.trus
  exact .inr ⟨_, _, dp_trus (((e1.trans e2).trans e3) _ _ hp), dp_trus hq, s1, s2, by rw [e]; exact k H3 (e2.trans e3)⟩
theorem ev_chainI {f g : Int → Int → Bool} {i j l : Int} {tc : TE} (ha : Ev te σ H (.int i)) (hb : Ev ta' σ H (.int j)) (hc : Ev tc σ H (.int l)) : Ev (tChain (rI0 fun a b => .bl (f a b)) (rI0 fun a b => .bl (g a b)) te ta' tc) σ H (.bl (f i j && g j l)) := fun H1 e1 Q k =>
  ha H1 e1 _ fun H2 e2 => hb H2 (e1.trans e2) _ fun H3 e3 => ⟨i, j, rfl, rfl, f i j, rfl, by
    have fin : ∀ H4, Ex H3 H4 → Q (.bl (f i j && g j l)) H4 := fun H4 e4 => k H4 ((e2.trans e3).trans e4)
    cases c : f i j with
    | false =>
      rw [c] at fin
      exact fin H3 (Ex.refl H3)
    | true =>
      rw [c] at fin
      exact hc H3 ((e1.trans e2).trans e3) _ fun H4 e4 => ⟨j, l, rfl, rfl, fin H4 e4⟩⟩
theorem el_ifY {b : Bool} {tt : TT} {xs : List V} (h : EvT tt σ H b) (h1 : b = true → EvL ta' σ H xs) (h2 : b = false → EvL tb' σ H xs) : EvL (tIf tt ta' tb') σ H xs := fun H1 e1 Q k => h H1 e1 _ fun H2 e2 => by
  have k2 : ∀ p H3, H2 p = none → Ex H2 H3 → H3 p = some (.lst xs) → Q (.ref p) H3 := fun p H3 n e3 h3 => k p H3 (fresh_back e2 n) (e2.trans e3) h3
  cases b with
  | true =>
    show ta' σ H2 Q
    exact h1 rfl H2 (e1.trans e2) Q k2
  | false =>
    show tb' σ H2 Q
    exact h2 rfl H2 (e1.trans e2) Q k2
/-! making one -/
def spIni1 (C : Addr) (f : Str) : Sp := fun vs H Q _ => ∃ a v, vs = [.ref a, v] ∧ H a = some (exo a C none) ∧ ∀ d, H d = none → d ≠ a → Q .non (upd (upd H d (exd d [(f, v)])) a (exo a C (some d)))
def spIni2 (C : Addr) (f g : Str) : Sp := fun vs H Q _ => ∃ a v u, vs = [.ref a, v, u] ∧ H a = some (exo a C none) ∧ ∀ d, H d = none → d ≠ a → ∀ H', H' = upd (upd (upd H d (exd d [(f, v)])) a (exo a C (some d))) d (exd d [(g, u), (f, v)]) → Q .non H'
theorem exAt_new {a C d : Addr} {H : Hp} {fs : List (Str × V)} (h : H a = none) (hd : upd H a (exo a C none) d = none) : Ex H (upd (upd (upd H a (exo a C none)) d (exd d fs)) a (exo a C (some d))) ∧ ExAt (upd (upd (upd H a (exo a C none)) d (exd d fs)) a (exo a C (some d))) a C fs := by
  have ne : d ≠ a := fun z => by rw [z, upd_same] at hd; cases hd
  have hd' : H d = none := by rwa [upd_ne ne] at hd
  exact ⟨((Ex.refl H).mut h).mut hd' |>.mut h, .inr ⟨d, upd_same, by rw [upd_ne ne, upd_same]⟩⟩
section
variable {C : Addr} {E : XK} {f g : Str} {tv tu : TE} {u : V} {gV : List V → List V → List V}
theorem yi_new1 (h : Ev tv σ H v) (hg : ∀ x, gV [x, v] [] = [x, v] := by intros; rfl) : Yi (tNewX C 1 0 (spIni1 C f) gV E (tCons tv tNil) tNil) σ H fun x H' => ∃ a, x = .ref a ∧ ExAt H' a C [(f, v)] := fun H1 e1 Q q =>
  h H1 e1 _ fun H2 e2 => ⟨⟨rfl, rfl, by decide⟩, fun a ha => ⟨a, v, hg _, upd_same, fun d hd ne => ⟨rfl, q _ _ (e2.trans (exAt_new ha hd).1) ⟨a, rfl, (exAt_new ha hd).2⟩⟩⟩⟩
theorem yi_newK1 (h : Ev tv σ H v) (hg : ∀ x, gV [x] [v] = [x, v] := by intros; rfl) : Yi (tNewX C 0 1 (spIni1 C f) gV E tNil (tCons tv tNil)) σ H fun x H' => ∃ a, x = .ref a ∧ ExAt H' a C [(f, v)] := fun H1 e1 Q q =>
  h H1 e1 _ fun H2 e2 => ⟨⟨rfl, rfl, by decide⟩, fun a ha => ⟨a, v, hg _, upd_same, fun d hd ne => ⟨rfl, q _ _ (e2.trans (exAt_new ha hd).1) ⟨a, rfl, (exAt_new ha hd).2⟩⟩⟩⟩
theorem exAt_new2 {a d : Addr} {H : Hp} (h : H a = none) (hd : upd H a (exo a C none) d = none) :
    Ex H (upd (upd (upd (upd H a (exo a C none)) d (exd d [(f, v)])) a (exo a C (some d))) d (exd d [(g, u), (f, v)])) ∧ ExAt (upd (upd (upd (upd H a (exo a C none)) d (exd d [(f, v)])) a (exo a C (some d))) d (exd d [(g, u), (f, v)])) a C [(g, u), (f, v)] := by
  have ne : d ≠ a := fun z => by rw [z, upd_same] at hd; cases hd
  have hd' : H d = none := by rwa [upd_ne ne] at hd
  exact ⟨(exAt_new h hd).1.mut hd', .inr ⟨d, by rw [upd_ne (Ne.symm ne), upd_same], upd_same⟩⟩
theorem yi_new2 (h : Ev tv σ H v) (hu : Ev tu σ H u) (hg : ∀ x, gV [x, v, u] [] = [x, v, u] := by intros; rfl) : Yi (tNewX C 2 0 (spIni2 C f g) gV E (tCons tv (tCons tu tNil)) tNil) σ H fun x H' => ∃ a, x = .ref a ∧ ExAt H' a C [(g, u), (f, v)] := fun H1 e1 Q q =>
  h H1 e1 _ fun H2 e2 => hu H2 (e1.trans e2) _ fun H3 e3 => ⟨⟨rfl, rfl, by decide⟩, fun a ha => ⟨a, v, u, hg _, upd_same, fun d hd ne H' e => by
    subst e
    exact ⟨rfl, q _ _ ((e2.trans e3).trans (exAt_new2 ha hd).1) ⟨a, rfl, (exAt_new2 ha hd).2⟩⟩⟩⟩
theorem yi_newK2 (h : Ev tv σ H v) (hu : Ev tu σ H u) (hg : ∀ x, gV [x] [u, v] = [x, v, u] := by intros; rfl) : Yi (tNewX C 0 2 (spIni2 C f g) gV E tNil (tCons tu (tCons tv tNil))) σ H fun x H' => ∃ a, x = .ref a ∧ ExAt H' a C [(g, u), (f, v)] := fun H1 e1 Q q =>
  hu H1 e1 _ fun H2 e2 => h H2 (e1.trans e2) _ fun H3 e3 => ⟨⟨rfl, rfl, by decide⟩, fun a ha => ⟨a, v, u, hg _, upd_same, fun d hd ne H' e => by
    subst e
    exact ⟨rfl, q _ _ ((e2.trans e3).trans (exAt_new2 ha hd).1) ⟨a, rfl, (exAt_new2 ha hd).2⟩⟩⟩⟩
theorem yi_new0 : Yi (fun _ H Q => ∀ a, H a = none → Q (.ref a) (upd H a (exo a C none))) σ H fun x H' => ∃ a, x = .ref a ∧ ExAt H' a C [] := fun H1 e1 Q q a ha => q _ _ (Ex.new ha) ⟨a, rfl, .inl ⟨upd_same, rfl⟩⟩
/-- the bodies of the two inits -/
theorem body_ini1 {D : Ends} {a C : Addr} {f : Str} {v : V} {H : Hp} {σ : L2.St} (T : Oex K C) (n : Free K C f) (h0 : σ[0]? = some (some (.ref a))) (h1 : σ[1]? = some (some v)) (h : H a = some (exo a C none)) (k : ∀ d, H d = none → d ≠ a → D.nx σ (upd (upd H d (exd d [(f, v)])) a (exo a C (some d)))) :
    tSetX K f (tVar 0) (tVar 1) D σ H := ⟨v, h1, .ref a, h0, a, C, rfl, T, n, .inl ⟨h, k⟩⟩
end
end
/-! ### names of the module, of the builtins -/
theorem pe_own {X : Cx} {x : Str} {C : Addr} {pos : Pos} (hm : X.mg x = some (.ref C)) (hg : Gl X x := by rfl) (hd : (x == ("__debug__" : Str)) = false := by decide) : PE X (.Name x pos) (tC (.ref C)) := pe_glob hg hm rfl hd
theorem pe_gint {X : Cx} {x : Str} {i : Int} {pos : Pos} (hm : ∃ t, X.mg x = some (.int i t)) (hg : Gl X x := by rfl) (hd : (x == ("__debug__" : Str)) = false := by decide) : PE X (.Name x pos) (tC (.int i)) := by
  obtain ⟨t, h⟩ := hm
  exact pe_glob hg h ⟨t, rfl⟩ hd
theorem pe_bty {X : Cx} {x : Str} {n : String} {pos : Pos} (hm : X.mg x = none) (hv : bootBuiltins x = some (.type n) := by decide +kernel) (hg : Gl X x := by rfl) (hn : x ≠ "__name__" := by decide) (hd : (x == ("__debug__" : Str)) = false := by decide) : PE X (.Name x pos) (tC (.ty n)) := pe_bltn hg hm hv rfl hn hd
/-! ### the rules of a list's count and index -/
section
variable {X : Cx} {k : Nat} {o e : Expr} {to te : TE} {apos cpos : Pos}
theorem rc_count {K : PySem.W.Frag} {σ : L2.St} {H : Hp} {p : Addr} {bs : List Bool} {b : Bool} {to te : TE} (ho : Ev to σ H (.ref p)) (hs : SqL K H p (bs.map V.bl)) (he : Ev te σ H (.bl b)) : Ev (tBM K "list" (rCountB K) to (tCons te tNil)) σ H (.int (bs.count b : Nat)) := fun H1 e1 Q q =>
  ho H1 e1 _ fun H2 e2 => ⟨.inl ⟨rfl, _, ex_l (e1.trans e2) hs⟩, he H2 (e1.trans e2) _ fun H3 e3 => ⟨p, bs, b, rfl, rfl, ex_l ((e1.trans e2).trans e3) hs, q H3 (e2.trans e3)⟩⟩
theorem rc_index {K : PySem.W.Frag} {σ : L2.St} {H : Hp} {p : Addr} {bs : List Bool} {j : Nat} {to te : TE} (ho : Ev to σ H (.ref p)) (hs : SqL K H p (bs.map V.bl)) (he : Ev te σ H (.bl true)) (h1 : bs[j]? = some true) (h2 : ∀ m, m < j → bs[m]? = some false) :
    Ev (tBM K "list" (rIndex K) to (tCons te tNil)) σ H (.int (j : Nat)) := fun H1 e1 Q q =>
  ho H1 e1 _ fun H2 e2 => ⟨.inl ⟨rfl, _, ex_l (e1.trans e2) hs⟩, he H2 (e1.trans e2) _ fun H3 e3 => ⟨p, bs.map V.bl, .bl true, j, .bl true, rfl, rfl, ex_l ((e1.trans e2).trans e3) hs, rfl, by
    rw [List.all_eq_true]
    intro x hx
    obtain ⟨c, _, rfl⟩ := List.mem_map.mp hx
    rfl, by rw [List.getElem?_map, h1]; rfl, rfl, fun m z hm hz => by
    rw [List.getElem?_map, h2 m hm] at hz
    cases hz
    rfl, q H3 (e2.trans e3)⟩⟩
end
end SwX
set_option Elab.async false
set_option linter.all false
set_option maxRecDepth 100000
set_option maxHeartbeats 4000000
/-! draws in readings; data beside the purse; repr of lists that are data -/
namespace SwX
open PySem PySem.Spec PyProof.Rows L2 Evl
/-! ### what repr can show shortly -/
structure Good (d : PyData) (n w : Nat) : Prop where
  sh : d.showable = true
  dp : d.depth ≤ n
  lv : d.leavesShort 100 = true
  wt : d.weight ≤ w
theorem Good.len {d : PyData} {n w : Nat} (h : Good d n w) (hw : w ≤ 100000) : d.shown.length ≤ sizeLine := by
  have z := PyData.shown_le 100 (by decide) d h.lv
  have y := h.wt
  exact Nat.le_trans z (Nat.le_trans (show (100 + 2) * d.weight + 100 ≤ 11000000 by omega) (by decide))
theorem good_int {i : Int} (h : i.natAbs < 10 ^ 41) : Good (.int i) 0 137 := by
  have big : (10 : Nat) ^ 41 < 2 ^ 137 := by decide
  refine ⟨?_, Nat.le_refl _, ?_, ?_⟩
  · show decide (i.natAbs.log2 < 1920) = true
    have p : (2 : Nat) ^ 137 ≤ 2 ^ 1920 := Nat.pow_le_pow_right (by decide) (by decide)
    have l : i.natAbs.log2 < 1920 := by
      by_cases z : i.natAbs = 0
      · rw [z]
        decide
      · exact (Nat.log2_lt z).mpr (by omega)
    exact decide_eq_true l
  · show decide ((PyData.shown (.int i)).length ≤ 100) = true
    rw [PyData.shown_int]
    have l := int_text_length_le10 (a := i) (k := 41) (by decide) h
    refine decide_eq_true ?_
    rw [PySem.ofString_length]
    omega
  · show (if (i == 0) = true then 0 else i.natAbs.log2 + 1) ≤ 137
    split
    · omega
    · rename_i c
      have z : i.natAbs ≠ 0 := by simpa using c
      have l := (Nat.log2_lt z).mpr (show i.natAbs < 2 ^ 137 by omega)
      omega
/-! ### repr of a new list that is data -/
section
variable {K : PySem.W.Frag} {σ : L2.St} {H : Hp} {te : TE} {v : V}
theorem da_list {xs : List V} {ds : List PyData} {p : Addr} (h : H p = some (.lst xs)) (q : Paired (fun d v => Da K H v d) ds xs) : Da K H (.ref p) (.list ds) :=
  .lst h (paired_len q).symm fun i x d e1 e2 => by
    obtain ⟨y, e3, r⟩ := paired_get q e2
    rw [e1] at e3
    cases e3
    exact r
theorem da_tuple {xs : List V} {ds : List PyData} {p : Addr} (h : SqT K H p xs) (q : Paired (fun d v => Da K H v d) ds xs) : Da K H (.ref p) (.tuple ds) :=
  .tup h (paired_len q).symm fun i x d e1 e2 => by
    obtain ⟨y, e3, r⟩ := paired_get q e2
    rw [e1] at e3
    cases e3
    exact r
theorem ev_reprL {xs : List V} {ds : List PyData} {n w : Nat} (h : EvL te σ H xs) (da : ∀ H1, Ex H H1 → Paired (fun d v => Da K H1 v d) ds xs) (g : Good (.list ds) n w) (hn : n ≤ 180) (hw : w ≤ 100000) : Ev (tCB (rRepr K) (tCons te tNil)) σ H (.str (PyData.shown (.list ds))) := fun H1 e1 Q q =>
  h H1 e1 _ fun p H2 _ e2 h2 => ⟨p, .list ds, rfl, da_list h2 (da H2 (e1.trans e2)), g.sh, Nat.le_trans g.dp hn, g.len hw, q H2 e2⟩
theorem ev_reprV {p : Addr} {xs : List V} {ds : List PyData} {n w : Nat} (h : Ev te σ H (.ref p)) (hp : H p = some (.lst xs)) (da : ∀ H1, Ex H H1 → Paired (fun d v => Da K H1 v d) ds xs) (g : Good (.list ds) n w) (hn : n ≤ 180) (hw : w ≤ 100000) : Ev (tCB (rRepr K) (tCons te tNil)) σ H (.str (PyData.shown (.list ds))) := fun H1 e1 Q q =>
  h H1 e1 _ fun H2 e2 => ⟨p, .list ds, rfl, da_list (e2 _ _ (e1 _ _ hp)) (da H2 (e1.trans e2)), g.sh, Nat.le_trans g.dp hn, g.len hw, q H2 e2⟩
end
/-! ### draws: te gives a value of which P holds, the purse at a is kept, all else grows -/
def Dr (a : Addr) (te : TE) (σ : L2.St) (G : Hp) (P : V → Prop) : Prop := ∀ H1, Ex G H1 → Pur H1 a → ∀ Q : VK, (∀ v H2, P v → Ex G H2 → Pur H2 a → Q v H2) → te σ H1 Q
section
variable {K : PySem.W.Frag} {σ : L2.St} {G H : Hp} {a : Addr} {te ta tb : TE} {v : V} {P P1 P2 : V → Prop} {D : Ends} {tz : TS}
theorem dr_ev (h : Ev te σ G v) (hp : P v) : Dr a te σ G P := fun H1 e p Q q => h H1 e Q fun H2 e2 => q v H2 hp (e.trans e2) (p.keep e2)
theorem dr_op {r : R2} (ha : Dr a ta σ G P1) (hb : Dr a tb σ G P2) (hr : ∀ x y, P1 x → P2 y → ∃ z, P z ∧ ∀ H, RV r x y H z) : Dr a (tOp r ta tb) σ G P := fun H1 e p Q q =>
  ha H1 e p _ fun x H2 px e2 p2 => hb H2 e2 p2 _ fun y H3 py e3 p3 => by
    obtain ⟨z, pz, rv⟩ := hr x y px py
    exact rv H3 H3 (Ex.refl _) Q fun H4 e4 => q z H4 pz (e3.trans e4) (p3.keep e4)
theorem dr_draw {m : Int} {E : XK} {tm : TE} (n : G a = none) (h : σ[0]? = some (some (.ref a))) (hm : Ev tm σ G (.int m)) (m0 : 0 < m) (m1 : m ≤ 1000000) : Dr a (tCall spDraw [] E (tCons (tVar 0) (tCons tm tNil))) σ G fun v => ∃ k, v = .int k ∧ 0 ≤ k ∧ k < m := fun H1 e p Q q =>
  ⟨.ref a, h, hm H1 e _ fun H2 e2 => ⟨a, m, rfl, m0, m1, p.keep e2, fun k H3 k0 k1 p3 e3 => q _ H3 ⟨k, rfl, k0, k1⟩ ((ex_less n (e.trans e2)).trans e3) p3⟩⟩
theorem atI_nat {xs : List V} {k : Int} (h0 : 0 ≤ k) (h1 : k < xs.length) : ∃ v, atI xs k = some v ∧ xs[k.toNat]? = some v := by
  obtain ⟨j, rfl⟩ := Int.eq_ofNat_of_zero_le h0
  have hj : j < xs.length := by omega
  refine ⟨xs[j], ?_, by simp [hj]⟩
  unfold atI
  rw [ixN_nat hj]
  simp
/-- a new list's item by a draw -/
theorem dr_pick {xs : List V} (n : G a = none) (ha : EvL ta σ G xs) (hb : ∀ G', G' a = none → Ex G G' → Dr a tb σ G' fun v => ∃ k, v = .int k ∧ 0 ≤ k ∧ k < xs.length) : Dr a (tOp (fun x y H Q => rIxL K x y H Q ∨ rIxT K x y H Q) ta tb) σ G fun v => v ∈ xs := fun H1 e p Q q =>
  ha H1 e _ fun l H2 hl e2 h2 => by
    obtain ⟨x, y, z, hp, _⟩ := p
    have ne : l ≠ a := fun w => by rw [w, hp] at hl; cases hl
    refine hb (less a H2) less_at (ex_less n (e.trans e2)) H2 less_ex (Pur.keep ⟨x, y, z, hp, by assumption⟩ e2) _ fun k H3 pk e3 p3 => ?_
    obtain ⟨k, rfl, k0, k1⟩ := pk
    obtain ⟨v, hv, hv2⟩ := atI_nat k0 k1
    refine .inl ⟨l, xs, k, v, rfl, rfl, sq_of (e3 _ _ (by rw [less_ne ne]; exact h2)), hv, q v H3 (List.mem_of_getElem? hv2) ((ex_less n (e.trans e2)).trans e3) p3⟩
theorem q_asgDr {i : Nat} (h : Dr a te σ G P) (e : Ex G H) (p : Pur H a) (k : ∀ v H1, P v → Ex G H1 → Pur H1 a → tz D (σ.set i (some v)) H1) : tSeq (tAsg te (gName i)) tz D σ H := h H e p _ k
theorem s_retDr (h : Dr a te σ G P) (e : Ex G H) (p : Pur H a) (k : ∀ v H1, P v → Ex G H1 → Pur H1 a → D.rt v H1) : tRet te D σ H := h H e p _ k
end
/-! ### data beside the purse -/
def DaA (K : PySem.W.Frag) (a : Addr) (d : PyData) (v : V) (H : Hp) : Prop := Da K (less a H) v d
theorem less_mono {a : Addr} {H H' : Hp} (e : Ex H H') : Ex (less a H) (less a H') := ex_less less_at (less_ex.trans e)
theorem daA_mono {K : PySem.W.Frag} {a : Addr} (d : PyData) (v : V) (H H' : Hp) (e : Ex H H') (h : DaA K a d v H) : DaA K a d v H' := Da.mono (less_mono e) h
section
variable {K : PySem.W.Frag} {σ : L2.St} {H : Hp} {a : Addr} {te : TE} {ta : TA} {ds : List PyData} {o : HO}
theorem yi_dat {v : V} {d : PyData} (h : Ev te σ H v) (q : ∀ G, Da K G v d) : Yi te σ H (DaA K a d) := (yi_ev h).imp fun x H' _ e => by
  subst e
  exact q _
theorem yi_dtup (at_ : H a = some o) (h : Ys ta σ H fun vs H' => Paired (fun d v => DaA K a d v H') ds vs) (l : ds.length ≤ 100000) : Yi (tTup ta) σ H (DaA K a (.tuple ds)) := fun H1 e1 Q q =>
  h H1 e1 _ fun vs H2 e2 p => ⟨sz_of (by rw [← paired_len p]; exact l), fun c hc => by
    have ne : c ≠ a := fun z => by rw [z, (e1.trans e2) _ _ at_] at hc; cases hc
    have p' : Paired (fun d v => DaA K a d v (upd H2 c (.tup vs))) ds vs := paired_mono (Ex.new hc) daA_mono p
    exact q (.ref c) _ (e2.trans (Ex.new hc)) (da_tuple (.inl (.inl (by rw [less_ne ne, upd_same]))) p')⟩
theorem yi_dlst (at_ : H a = some o) (h : Ys ta σ H fun vs H' => Paired (fun d v => DaA K a d v H') ds vs) (l : ds.length ≤ 100000) : Yi (tLst ta) σ H (DaA K a (.list ds)) := fun H1 e1 Q q =>
  h H1 e1 _ fun vs H2 e2 p => ⟨sz_of (by rw [← paired_len p]; exact l), fun c hc => by
    have ne : c ≠ a := fun z => by rw [z, (e1.trans e2) _ _ at_] at hc; cases hc
    have p' : Paired (fun d v => DaA K a d v (upd H2 c (.lst vs))) ds vs := paired_mono (Ex.new hc) daA_mono p
    exact q (.ref c) _ (e2.trans (Ex.new hc)) (da_list (by rw [less_ne ne, upd_same]) p')⟩
theorem yi_ddic0 (at_ : H a = some o) : Yi tDNewK σ H (DaA K a (.dict [])) := fun H1 e1 Q q c hc => by
  have ne : c ≠ a := fun z => by rw [z, e1 _ _ at_] at hc; cases hc
  exact q (.ref c) _ (Ex.new hc) (.dic (kvs := []) (ds := []) (by rw [less_ne ne, upd_same]) rfl (fun i kv d e => by simp at e))
theorem yi_ddic1 {x : Str} {v : V} {d : PyData} {tk tv : TE} (at_ : H a = some o) (hk : Ev tk σ H (.str x)) (hv : Ev tv σ H v) (q : ∀ G, Da K G v d) : Yi (tDisp [(tk, tv)]) σ H (DaA K a (.dict [(.str x, d)])) := fun H1 e1 Q k c hc => by
  have ne : c ≠ a := fun z => by rw [z, e1 _ _ at_] at hc; cases hc
  refine hk _ (e1.trans (Ex.new hc)) _ fun H2 e2 => hv H2 ((e1.trans (Ex.new hc)).trans e2) _ fun H3 e3 => ⟨e3 _ _ (e2 _ _ upd_same), [(.inr x, v)], rfl, by simp, ?_⟩
  refine k (.ref c) _ ((show Ex H1 H3 from ((Ex.new hc).trans e2).trans e3).mut hc) (.dic (kvs := [(.inr x, v)]) (ds := [d]) (by rw [less_ne ne, upd_same]; rfl) rfl fun i kv d' h1 h2 => ?_)
  · cases i with
    | zero =>
      cases h1
      cases h2
      exact q _
    | succ i => simp at h1
end
theorem q_par {i j : Nat} {ta : TA} {u : TS} {D : Ends} {σ : L2.St} {H : Hp} (h : ta σ H fun vs H1 => ∃ v w, vs = [v, w] ∧ u D ((σ.set i (some v)).set j (some w)) H1) : tSeq (tPar i j ta) u D σ H := h
/-! ### a loop over a new list of such things -/
section
variable {α : Type} {F : α → V → Hp → Prop} {is : List α} {K : PySem.W.Frag} {σ : L2.St} {H : Hp} {tl : TE} {g : TG} {tu tz : TS} {D : Ends}
theorem q_forY (m : ∀ i v H H', Ex H H' → F i v H → F i v H') (h : Yi tl σ H (LstOf F is)) (Pv : Nat → L2.St → Prop) (h0 : Pv 0 σ)
    (hs : ∀ i d x H1 σ' H', is[i]? = some d → Ex H H1 → Ex H1 H' → F d x H' → Pv i σ' → g x σ' H' fun σ2 H2 => tu { D with nx := fun σ3 H3 => Pv (i + 1) σ3 ∧ Ex H1 H3, ct := fun σ3 H3 => Pv (i + 1) σ3 ∧ Ex H1 H3, bk := tz D } σ2 H2)
    (hd : ∀ σ' H', Ex H H' → Pv is.length σ' → tz D σ' H') : tSeq (tFor (iList K tl) g tu) tz D σ H := h H (Ex.refl H) _ fun x H1 e1 l => by
  obtain ⟨p, vs, rfl, hp, q⟩ := l
  refine ⟨p, rfl, ⟨vs, sq_of hp⟩, for_list (fun i σ' H' => Pv i σ' ∧ Ex H1 H') ⟨h0, Ex.refl H1⟩ (fun i σ' H' _ z => sq_of (z.2 _ _ hp)) (fun i x σ' H' hx z => ?_) fun σ' H' z => ?_⟩
  · have lt : i < is.length := by
      have := (List.getElem?_eq_some_iff.mp hx).1
      rw [← paired_len q] at this
      exact this
    have e2 : is[i]? = some is[i] := by simp [lt]
    obtain ⟨y, e3, f⟩ := paired_get q e2
    rw [hx] at e3
    cases e3
    exact hs i _ x H1 σ' H' e2 e1 z.2 (m _ _ _ _ z.2 f) z.1
  · rw [← paired_len q] at z
    exact hd σ' H' (e1.trans z.2) z.1
end
theorem kbn_pos {K : PySem.W.Frag} {fd : FuncData} {ps : List Str} {n : Nat} (h : KBn K fd ps n [] (fun us ws => us ++ ws.reverse) (fun vs zs => vs ++ zs.reverse)) : KBn K fd ps n [] (fun us _ => us) (fun vs _ => vs) :=
  ⟨fun s us ws X l1 l2 => (by
    cases ws with
    | nil =>
      have z := h.to s us [] X l1 rfl
      rw [List.reverse_nil, List.append_nil] at z
      exact z
    | cons _ _ => cases l2), fun {vs us zs ws} r1 _ => r1⟩
section
variable {K : PySem.W.Frag} {σ : L2.St} {H : Hp} {te ta tb : TE} {D : Ends}
theorem body_ini2 {a C : Addr} {f g : Str} {v u : V} (T : Oex K C) (n : Free K C f) (n2 : Free K C g) (h0 : σ[0]? = some (some (.ref a))) (h1 : σ[1]? = some (some v)) (h2 : σ[2]? = some (some u)) (h : H a = some (exo a C none))
    (k : ∀ d, H d = none → d ≠ a → ∀ H', H' = upd (upd (upd H d (exd d [(f, v)])) a (exo a C (some d))) d (exd d [(g, u), (f, v)]) → D.nx σ H') : tSeq (tSetX K f (tVar 0) (tVar 1)) (tSetX K g (tVar 0) (tVar 2)) D σ H :=
  ⟨v, h1, .ref a, h0, a, C, rfl, T, n, .inl ⟨h, fun d hd ne => ⟨u, h2, .ref a, h0, a, C, rfl, T, n2, .inr ⟨d, [(f, v)], upd_same, by rw [upd_ne ne, upd_same], by simp, k d hd ne _ rfl⟩⟩⟩⟩
theorem el_cat {l : Addr} {xs ys : List V} (ha : Ev ta σ H (.ref l)) (hl : H l = some (.lst xs)) (hb : EvL tb σ H ys) (z : xs.length + ys.length ≤ 100000) : EvL (tOp (fun x y H Q => rI0 (fun i j => .int (i + j)) x y H Q ∨ rCat x y H Q) ta tb) σ H (xs ++ ys) := fun H1 e1 Q q =>
  ha H1 e1 _ fun H2 e2 => hb H2 (e1.trans e2) _ fun p H3 _ e3 h3 => .inr ⟨l, p, xs, ys, rfl, rfl, e3 _ _ (e2 _ _ (e1 _ _ hl)), h3, sz_of z, fun c hc => q c _ (fresh_back (e2.trans e3) hc) ((e2.trans e3).trans (Ex.new hc)) upd_same⟩
theorem el_is {xs ys : List V} (h : EvL te σ H xs) (e : xs = ys) : EvL te σ H ys := e ▸ h
theorem ev_allT {bs : List Bool} (h : EvL te σ H (bs.map V.bl)) : Ev (tCB (rAll K) (tCons te tNil)) σ H (.bl (bs.all id)) := fun H1 e1 Q q => h H1 e1 _ fun p H2 _ e2 h2 => ⟨p, bs, rfl, sq_of h2, q H2 e2⟩
def rMin2 : List V → Hp → VK → Prop := fun xs H Q => ∃ i j, xs = [.int i, .int j] ∧ Q (.int (if j < i then j else i)) H
theorem ev_min2 {i j : Int} (ha : Ev ta σ H (.int i)) (hb : Ev tb σ H (.int j)) : Ev (tCB rMin2 (tCons ta (tCons tb tNil))) σ H (.int (if j < i then j else i)) := fun H1 e Q q =>
  ha H1 e _ fun H2 e2 => hb H2 (e.trans e2) _ fun H3 e3 => ⟨i, j, rfl, q H3 (e2.trans e3)⟩
end
end SwX
set_option Elab.async false
set_option linter.all false
set_option maxRecDepth 100000
set_option maxHeartbeats 4000000
/-! own +, ==, !=, str, len, bool of instances; statements that are never come to -/
namespace SwX
open PySem PySem.Spec PyProof.Rows L2
/-! ### what is never come to -/
theorem ps_never {X : Cx} {st : Stmt} : PS X st (fun _ _ _ => False) := ⟨fun _ _ _ _ _ _ z => z.elim⟩
theorem pss_never {X : Cx} {ss : List Stmt} : PSs X ss (fun _ _ _ => False) := ⟨fun _ _ _ _ _ _ z => z.elim⟩
theorem pe_never {X : Cx} {e : Expr} : PE X e (fun _ _ _ => False) := ⟨fun _ _ _ _ _ _ z => z.elim⟩
theorem rel_ref (a : Addr) : RelV (.ref a) (.ref a) := rfl
theorem rel_bl (k : Bool) : RelV (.bl k) (.bool k) := rfl
/-! ### a def called by the machine, at an around of its own -/
section
variable {X : Cx} {CX : CXT} {n : Nat} {f C : Addr} {fd : FuncData} {ps : List Str} {sp : Sp} {E : XK}
theorem by_machine {A' : Around} {pins : List (Addr × Obj)} {σ : L2.St} {H : Hp} {s : Shared} {Q : VK} {us : List Value} {vs : List V} (F : FnOk X.prog X.w X.K X.mg X.base CX n f fd ps sp) (room : Room n A') (same : A'.frames = X.A.frames) (b : Binds X.K fd ps []) (out : Passes CX X E)
    (I : Inv X pins σ H s) (r : Vals vs us) (h : sp vs H Q E) : wpAny (model X.prog X.w) A' (call (.ref f) us) (fun u s' => ∃ v H', Inv X pins σ H' s' ∧ RelV v u ∧ Q v H') X.xe s := by
  obtain ⟨fr, md, bs, bz, fu, ff, ho, ba⟩ := I.env0
  have z := b s us I.kIn (by simpa [← r.length] using F.len _ _ _ _ h)
  simp only [List.append_nil] at z
  refine wpAny_call (codeAny_mono (F.run A' X.stack s H ⟨us, []⟩ us vs Q E room ⟨same ▸ fr, md, bs, bz, fu, ff, ho, ba⟩ z r h) fun res s' q => ?_)
  cases res with
  | error er => exact out pins σ H s er s' I q
  | ok fl =>
    cases fl with
    | ret u =>
      obtain ⟨v, H', J, rv, q'⟩ := I.after q
      exact ⟨v, H', J, rv, q'⟩
    | next => exact q.elim
    | brk => exact q.elim
    | cont => exact q.elim
/-- the class at C has the def at f for its m -/
structure Spc (K : PySem.W.Frag) (C : Addr) (m : Str) (f : Addr) : Prop where
  at_ : PySem.W.findIn K (.ref C) m = some (some (.ref f))
  fn : PySem.W.isFn K (.ref f) = true
/-- an instance of the class at C in the abstract heap -/
def IsI (H : Hp) (a C : Addr) : Prop := ∃ dx fs, H a = some (.ins C dx fs)
theorem IsI.look {pins : List (Addr × Obj)} {σ : L2.St} {H : Hp} {s : Shared} {a : Addr} (I : Inv X pins σ H s) (h : IsI H a C) : ∃ ox od, PySem.W.InstAt s.heap a ox C od := by
  obtain ⟨dx, fs, e⟩ := h
  obtain ⟨mA, J, _⟩ := ins_get I.hok e
  obtain ⟨od, J, _⟩ := J.look
  exact ⟨_, _, J⟩
theorem IsI.mono {H H' : Hp} {a : Addr} (e : Evl.Ex H H') (h : IsI H a C) : IsI H' a C := by
  obtain ⟨dx, fs, z⟩ := h
  exact ⟨dx, fs, e _ _ z⟩
/-- a op b, both of the class at C -/
def rOwn (C : Addr) (sp : Sp) (E : XK) : R2 := fun x y H Q => ∃ a b, x = .ref a ∧ y = .ref b ∧ IsI H a C ∧ IsI H b C ∧ sp [.ref a, .ref b] H (fun v H' => (∃ c, v = .ref c) ∧ Q v H') E
theorem op_own {op : Operator} (F : FnOk X.prog X.w X.K X.mg X.base CX n f fd ps sp) (S : Spc X.K C (PySem.dunder op.info.2) f) (first : PySem.W.selfFirst X.K C = true) (b : Binds X.K fd ps []) (out : Passes CX X E) (room : Room n X.A) : OpR X (binaryOp op) (rOwn C sp E) := by
  intro pins s σ H x y v u Q I rx ry h
  obtain ⟨a, c, rfl, rfl, ia, ic, q⟩ := h
  cases rx
  cases ry
  obtain ⟨ox, od, J⟩ := ia.look I
  obtain ⟨oy, oe, J'⟩ := ic.look I
  obtain ⟨m, fr⟩ := I.fr
  refine PySem.W.binop_K fr I.ok.mod.kin J J'.type first S.at_ S.fn (wpAny_mono (by_machine F room rfl b out I (.cons (rel_ref _) (.cons (rel_ref _) .nil)) q) (fun r s' z => ?_) fun _ _ z => z)
  obtain ⟨v, H', K', rv, ⟨w, rfl⟩, q'⟩ := z
  cases rv
  exact ⟨_, H', K', rel_ref _, q'⟩
/-- a == b, both of the class at C -/
def rOwnB (C : Addr) (sp : Sp) (E : XK) (g : Bool → Bool) : R2 := fun x y H Q => ∃ a b, x = .ref a ∧ y = .ref b ∧ IsI H a C ∧ IsI H b C ∧ sp [.ref a, .ref b] H (fun v H' => ∃ k, v = .bl k ∧ Q (.bl (g k)) H') E
theorem op_eqOwn (F : FnOk X.prog X.w X.K X.mg X.base CX n f fd ps sp) (S : Spc X.K C "__eq__" f) (b : Binds X.K fd ps []) (out : Passes CX X E) (room : Room n X.A) : OpR X (compareOp .Eq) (rOwnB C sp E id) := by
  intro pins s σ H x y v u Q I rx ry h
  obtain ⟨a, c, rfl, rfl, ia, ic, q⟩ := h
  cases rx
  cases ry
  obtain ⟨ox, od, J⟩ := ia.look I
  obtain ⟨oy, oe, J'⟩ := ic.look I
  obtain ⟨m, fr⟩ := I.fr
  have un := room.un
  show wpAny (model X.prog X.w) X.A (richCompare .Eq _ _) _ _ _
  refine PySem.W.cmp_K (op := .Eq) (tb := .ref C) (by omega) fr I.ok.mod.kin J J'.type (by simp [PySem.W.notFirst]) S.at_ S.fn (wpAny_mono (by_machine F room rfl b out I (.cons (rel_ref _) (.cons (rel_ref _) .nil)) q) (fun r s' z => ?_) fun _ _ z => z)
  obtain ⟨v, H', K', rv, k, rfl, q'⟩ := z
  cases rv
  exact ⟨_, H', K', rel_bl _, q'⟩
/-! != of a class that has == alone -/
/-- the class at C: over object alone, the def at f for its ==, no != -/
def eqOnly (K : PySem.W.Frag) (C f : Addr) : Bool := match K.lookup C with
  | some ⟨ty, _, .cls ⟨_, _, mro, N, _, _, _, _, _, _, del⟩, ⟨[_, _, _, _, some (.builtin _), _]⟩⟩ => decide (ty = .type "type") && (decide (mro = [.ref C, .type "object"]) && (!del && (PySem.W.nsOkIn K N && (He.eqO (PySem.W.nsIn K N "__eq__") (some (some (.ref f))) && (He.eqO (PySem.W.nsIn K N "__ne__") (some none) &&
    (match K.lookup f with
    | some o => decide (o.cls = .type "function")
    | none => false))))))
  | _ => false
theorem ns_some_of {K : PySem.W.Frag} {h : Heap} {N : Addr} {mp : Str → Option Value} {x : Str} {v : Value} (L : K.In h) (G : h.Ns N mp) (e : PySem.W.nsIn K N x = some (some v)) : mp x = some v := by
  obtain ⟨o, es, ep, ho, hd, _, look⟩ := G
  unfold PySem.W.nsIn at e
  split at e
  · rename_i c d es' n' sl at_
    have z := L _ _ at_
    rw [ho] at z
    cases z
    cases hd
    split at e
    · rename_i en found
      cases e
      have y := look x
      unfold nsFind findBy at y
      rw [← Array.find?_toList, found] at y
      exact y.symm
    · split at e <;> cases e
  · cases e
theorem eqOnly_of {K : PySem.W.Frag} {h : Heap} {a : Addr} {ox : Obj} {od : Option Obj} (L : K.In h) (J : PySem.W.InstAt h a ox C od) (e : eqOnly K C f = true) : h.OwnEqNoNe a C f "object" [.type "object"] := by
  unfold eqOnly at e
  split at e
  · rename_i ty dd nm bs mro N qn hd sn sub ab col del k0 k1 k2 k3 nid k5 at_
    simp only [Bool.and_eq_true, decide_eq_true_eq, Bool.not_eq_true', He.eqO] at e
    obtain ⟨rfl, rfl, rfl, ok, eq, ne, fn⟩ := e
    split at fn
    · rename_i o lk
      have G := Heap.Ns.of_isNs (PySem.W.isNs_of_in L ok)
      exact ⟨ox, o, nm, qn, N, bs, hd, sn, sub, ab, col, dd, k0, k1, k2, k3, k5, nid, _, _, J.at_, J.cls, L _ _ at_, G, ns_some_of L G eq, L _ _ lk, of_decide_eq_true fn, PySem.F.mro_object, PySem.F.cmp_object.eq.lookup, PySem.W.ns_none_of L G ne⟩
    · cases fn
  · cases e
theorem op_neOwn (F : FnOk X.prog X.w X.K X.mg X.base CX n f fd ps sp) (S : eqOnly X.K C f = true) (b : Binds X.K fd ps []) (out : Passes CX X E) (room : Room n X.A.in1) : OpR X (compareOp .NotEq) (rOwnB C sp E not) := by
  intro pins s σ H x y v u Q I rx ry h
  obtain ⟨a, c, rfl, rfl, ia, ic, q⟩ := h
  cases rx
  cases ry
  obtain ⟨ox, od, J⟩ := ia.look I
  obtain ⟨oy, oe, J'⟩ := ic.look I
  have un := room.un
  have Y := eqOnly_of I.kIn J S
  obtain ⟨hh, g, d, t, os⟩ := s
  have more : X.A.in1.units = X.A.units + 1 := rfl
  refine compareOp_ne_ownEq PySem.F.cmp_object Y J'.at_ J'.cls (by omega) (wpAny_mono (by_machine F room rfl b out I (.cons (rel_ref _) (.cons (rel_ref _) .nil)) q) (fun r s' z => ?_) fun _ _ z => z)
  obtain ⟨v, H', K', rv, k, rfl, q'⟩ := z
  cases rv
  exact ⟨k, rfl, .bl (!k), H', K', rel_bl _, q'⟩
/-! len, bool, str -/
def rLenOwn (C : Addr) (sp : Sp) (E : XK) : List V → Hp → VK → Prop := fun xs H Q => ∃ a, xs = [.ref a] ∧ IsI H a C ∧ sp [.ref a] H (fun v H' => ∃ k : Int, v = .int k ∧ 0 ≤ k ∧ k < 2 ^ 63 ∧ Q (.int k) H') E
theorem call_lenOwn (F : FnOk X.prog X.w X.K X.mg X.base CX n f fd ps sp) (S : Spc X.K C "__len__" f) (b : Binds X.K fd ps []) (out : Passes CX X E) (room : Room n X.A.in1) : CallR X (.builtin "len") (rLenOwn C sp E) := by
  intro pins s σ H xs us Q I r h
  obtain ⟨a, rfl, ia, q⟩ := h
  obtain ⟨u, rfl, ru⟩ := Vals.one r
  cases ru
  obtain ⟨ox, od, J⟩ := ia.look I
  obtain ⟨m, fr⟩ := I.fr
  refine PySem.W.len_K fr I.ok.mod.kin J S.at_ S.fn (wpAny_mono (by_machine F room rfl b out I (.cons (rel_ref _) .nil) q) (fun r s' z => ?_) fun _ _ z => z)
  obtain ⟨v, H', K', rv, k, rfl, k0, k1, q'⟩ := z
  obtain ⟨t, rfl⟩ := rv
  exact ⟨⟨k0, k1⟩, .int k, H', K'.tok _, ⟨_, rfl⟩, q'⟩
def rStrOwn (C : Addr) (sp : Sp) (E : XK) : List V → Hp → VK → Prop := fun xs H Q => ∃ a, xs = [.ref a] ∧ IsI H a C ∧ sp [.ref a] H (fun v H' => ∃ z : Str, v = .str z ∧ Q (.str z) H') E
theorem call_strOwn (F : FnOk X.prog X.w X.K X.mg X.base CX n f fd ps sp) (S : Spc X.K C "__str__" f) (b : Binds X.K fd ps []) (out : Passes CX X E) (room : Room n X.A.in1.in1) : CallR X (.type "str") (rStrOwn C sp E) := by
  intro pins s σ H xs us Q I r h
  obtain ⟨a, rfl, ia, q⟩ := h
  obtain ⟨u, rfl, ru⟩ := Vals.one r
  cases ru
  obtain ⟨ox, od, J⟩ := ia.look I
  have un := room.un
  refine PySem.W.kso_call (by omega) I.kIn J S.at_ S.fn (wpAny_mono (by_machine F room rfl b out I (.cons (rel_ref _) .nil) q) (fun r s' z => ?_) fun _ _ z => z)
  obtain ⟨v, H', K', rv, k, rfl, q'⟩ := z
  obtain ⟨t, rfl⟩ := rv
  exact ⟨.str k, H', K', ⟨_, rfl⟩, q'⟩
end
end SwX
set_option Elab.async false
set_option linter.all false
set_option maxRecDepth 100000
set_option maxHeartbeats 4000000
/-! for i, x in enumerate(a tuple) -/
namespace SwX
open PySem PySem.Spec PyProof.Rows L2
theorem enum_made {v : Value} {o : Obj} {Ok : Heap → Prop} (B : Begins v o Ok) : Meets (Builtin.«enumerate.__new__» ⟨[.type "enumerate", v], []⟩) (fun _ R s => Ok s.heap ∧
    R (.ok (.ret (.ref (s.heap.push o).objs.size))) { s with heap := (s.heap.push o).push { cls := .type "enumerate", data := .fields #[.none, .bool false, .ref s.heap.objs.size, rawInt 0, .none, .none] } }) :=
  .of_wp fun prog w A R s z => by
    obtain ⟨ok, fin⟩ := z
    obtain ⟨hp, gs, dr, tk, os⟩ := s
    have sub := sub_enumerate
    have starts : ∀ {A' : Around} {E Q : Value → Shared → Prop}, Q (.ref hp.objs.size) ⟨hp.push o, gs, dr, tk, os⟩ → wpAny (model prog w) A' (pyIter v) Q E ⟨hp, gs, dr, tk, os⟩ := fun q => B.iter prog w _ _ ⟨hp, gs, dr, tk, os⟩ _ ok q
    wp_walk using starts
    refine wpAny_stack_any fun st => wpAny_pure ?_
    split
    · rename_i c _ _ _ _ _
      cases (c == Value.type "enumerate") <;> (wp_walk using starts; exact ⟨_, rfl, fin⟩)
    · wp_walk using starts
      exact ⟨_, rfl, fin⟩
section
variable {prog : Program} {w : World} {A : Around} {E : Value → Shared → Prop} {s : Shared}
theorem call_enum1 {v : Value} {o : Obj} {Ok : Heap → Prop} {Q : Value → Shared → Prop} (B : Begins v o Ok) (ok : Ok s.heap)
    (k : ∀ h', IsEnum h' (s.heap.objs.size + 1) s.heap.objs.size 0 .none → h'.get? s.heap.objs.size = some o → (∀ b u, s.heap.get? b = some u → h'.get? b = some u) → Q (.ref (s.heap.objs.size + 1)) { s with heap := h' }) : wpAny (model prog w) A (call (.type "enumerate") [v]) Q E s := by
  have size1 : (s.heap.push o).objs.size = s.heap.objs.size + 1 := Heap.size_push ..
  have made := Heap.get?_push_size (s.heap.push o) (o := { cls := .type "enumerate", data := .fields #[.none, .bool false, .ref s.heap.objs.size, rawInt 0, .none, .none] }) rfl
  rw [size1] at made
  refine callType_new F.called_enumerate (by decide) (F.typeCall_enumerate_1 _) (F.newCall_enumerate_1 _) (fun z => F.args_object_init_2 z _) F.entry_enumerate_new (enum_made B) ⟨ok, ?_⟩
  rw [size1]
  exact ⟨⟨_, made, rfl⟩, k _ made (Heap.get?_push_of_some _ (Heap.get?_push_size _ B.free)) fun b u e => Heap.get?_push_of_some _ (Heap.get?_push_of_some _ e)⟩
end
/-- the tuple at a, each item in a new pair with its place -/
def Itu (K : PySem.W.Frag) (a : Addr) : It :=
  ⟨fun i H => ∃ (xs : List V) (x : V), SqT K H a xs ∧ xs[i]? = some x, fun i H v H' => ∃ T x, v = .ref T ∧ H T = none ∧ H' = upd H T (.tup [.int (i : Nat), x]) ∧ ∀ xs, SqT K H a xs → xs[i]? = some x, fun i H => ∃ xs : List V, SqT K H a xs ∧ i = xs.length⟩
theorem tuple_same {X : Cx} {pins : List (Addr × Obj)} {σ : L2.St} {H : Hp} {s : Shared} {a : Addr} {xs ys : List V} (I : Inv X pins σ H s) (h : SqT X.K H a xs) (h' : SqT X.K H a ys) : xs = ys := I.tuple_inj h h'
theorem turn_enumT {P : Program} {w : World} {K : PySem.W.Frag} {elts : List Expr} {kk : Nat} {tpos : Pos} (a e it : Addr) :
    Turn P w K (.Tuple elts kk tpos) (Itu K a) [e, it] e (fun i h => (∃ old, IsEnum h e it ((i : Nat) : Int) old) ∧ h.IsTupleIter it a i ∧ e ≠ it) where
  mem := List.mem_cons_self
  obj := fun i h st b hb => by
    obtain ⟨⟨old, he⟩, ⟨o, ho, _, hd⟩, _⟩ := st
    rcases (show b = e ∨ b = it by simpa using hb) with rfl | rfl
    · exact ⟨_, he, fun v q => nomatch q⟩
    · exact ⟨o, ho, fun v q => by rw [hd] at q; cases q⟩
  keep := fun i h h' st k => by
    obtain ⟨⟨old, he⟩, hi, ne⟩ := st
    exact ⟨⟨old, k e (by simp) _ he⟩, hi.at fun o q => k it (by simp) o q, ne⟩
  item := by
    rintro X rfl rfl rfl hc i pins s σ H E I hf ⟨⟨old, he⟩, hit, ne⟩ ⟨xs, x, hq, hx⟩
    obtain ⟨its, rv, tup, _⟩ := I.tuple hq
    obtain ⟨u, hu, ru⟩ := rv.get hx
    have el : e < s.heap.objs.size := Heap.lt_size he
    have il : it < s.heap.objs.size := by
      obtain ⟨_, q, _⟩ := hit
      exact Heap.lt_size q
    have ah : a ≠ e ∧ a ≠ it := by
      obtain ⟨o, ho, hcl, _⟩ := tup
      refine ⟨fun z => ?_, fun z => ?_⟩
      · rw [z, he] at ho
        cases ho
        simp at hcl
      · obtain ⟨o', ho', hcl', _⟩ := hit
        rw [z, ho'] at ho
        cases ho
        rw [hcl] at hcl'
        simp at hcl'
    have hlt : i < its.toArray.size := by
      rw [List.size_toArray]
      exact (List.getElem?_eq_some_iff.mp hu).1
    refine wpAny_pyNext_enum_itemD (Draws.tuple (show X.A.in1.handled = none from I.ok.hd hc) it a ah.2 its.toArray) he ⟨hit, tup⟩ hlt ne (by simp [ne, Ne.symm ah.1]) fun x' h' tk px out st' tT sz keep => ?_
    have ex : x' = u := by
      have px : its.toArray[i]? = some x' := px
      rw [List.getElem?_toArray, hu] at px
      exact (Option.some.inj px).symm
    subst ex
    refine ⟨_, rfl, wpAny_letOwnedTupleGo_enum (s := { s with heap := h', toks := tk + 1 }) out fun h2 he2 sb => ?_⟩
    have tT2 := (sb.2 _ (Nat.ne_of_gt el)).trans tT
    have fresh : H s.heap.objs.size = none := I.hok.fresh (Nat.le_refl _)
    have J : Inv X pins σ (upd H s.heap.objs.size (.tup [.int (i : Nat), x])) { s with heap := h2, toks := tk + 1 } :=
      I.turnedNew (ch := [e, it]) (fun b ob hb q => (sb.2 b fun z => hb (by simp [z])).trans (keep b ob (fun z => hb (by simp [z])) (fun z => hb (by simp [z])) q)) hf (Nat.le_refl _)
        ⟨show 2 ≤ sizeLine by decide, [.int i tk, x'], .cons ⟨_, rfl⟩ (.cons ru .nil), ⟨_, tT2, rfl, _, rfl⟩⟩
    refine ⟨.ref s.heap.objs.size, _, J, rfl, ⟨_, x, rfl, fresh, rfl, fun ys hy => by rw [tuple_same I hy hq]; exact hx⟩, ⟨⟨x', ?_⟩, st'.1.at fun o q => (sb.2 it (Ne.symm ne)).trans q, ne⟩, fun b hb => ?_⟩
    · rw [show (((i + 1 : Nat) : Int)) = (i : Int) + 1 by omega]
      exact he2
    · have hb' : b < s.heap.objs.size := by
        rcases (show b = e ∨ b = it by simpa using hb) with rfl | rfl
        · exact el
        · exact il
      rw [upd_ne (Nat.ne_of_lt hb')]
      exact (hf b hb).1
  done := by
    rintro X rfl rfl rfl hc i pins s σ H E I hf ⟨⟨old, he⟩, hit, ne⟩ ⟨xs, hq, hx⟩
    obtain ⟨its, rv, tup, _⟩ := I.tuple hq
    obtain ⟨f0, f1, f2, f3, f4, f5⟩ := hf it (by simp)
    have len := rv.length
    have ah : a ≠ it := by
      obtain ⟨o, ho, hcl, _⟩ := tup
      intro z
      obtain ⟨o', ho', hcl', _⟩ := hit
      rw [z, ho'] at ho
      cases ho
      rw [hcl] at hcl'
      simp at hcl'
    have eq : i = its.toArray.size := by
      rw [List.size_toArray]
      omega
    subst eq
    exact wpAny_pyNext_enum_endD (Draws.tuple (show X.A.in1.handled = none from I.ok.hd hc) it a ah its.toArray) he ⟨hit, tup⟩ fun h' eb => ⟨rfl, I.turned (t' := s.toks) (fun b o hb q => eb b o hb q) f0 f1 f3 f4 f5⟩
  self := fun A i s Q E st h => by
    obtain ⟨⟨_, he⟩, _⟩ := st
    exact wpAny_pyIter_enum he h
def iEnumT (K : PySem.W.Frag) (ta : TA) : TI := fun σ H R => ta σ H fun vs H1 => ∃ a xs, vs = [.ref a] ∧ SqT K H1 a xs ∧ R (Itu K a) H1
theorem pi_enumT {X : Cx} {e : Expr} {ta : TA} {p pos tpos : Pos} {elts : List Expr} {kk : Nat} (hg : Gl X "enumerate") (hm : X.mg "enumerate" = none) (ha : PA X [e] ta) (hs : starEach [e] X.env = [(false, eval e X.env)] := by rfl) :
    PI X (.Tuple elts kk tpos) (.Call (.Name "enumerate" p) [e] [] pos) (iEnumT X.K ta) := by
  refine ⟨fun pins s σ H R I h => Call_ (ld_blt I hg hm boot_enumerate (PyProof.Rows.callWith_type1 (thn (ha.run pos pins s σ H _ I h) fun us s1 z => ?_) hs rfl))⟩
  obtain ⟨vs, H1, I1, r1, a, xs, rfl, hq, q⟩ := z
  obtain ⟨u, rfl, ru⟩ := Vals.one r1
  cases ru
  obtain ⟨its, rv, tup, _⟩ := I1.tuple hq
  refine call_enum1 (begins_tuple a its.toArray) tup fun h' he hit keep => wpAny_pyIter_enum he ?_
  have J : Inv X pins σ H1 { s1 with heap := h' } := I1.kept (t' := s1.toks) keep
  refine ⟨s1.heap.objs.size + 1, [s1.heap.objs.size + 1, s1.heap.objs.size], _, _, H1, rfl, J, turn_enumT a (s1.heap.objs.size + 1) s1.heap.objs.size, ⟨⟨.none, he⟩, ⟨_, hit, rfl, rfl⟩, Nat.succ_ne_self _⟩, fun b hb => ?_, q⟩
  have le : s1.heap.objs.size ≤ b := by
    rcases (show b = s1.heap.objs.size + 1 ∨ b = s1.heap.objs.size by simpa using hb) with rfl | rfl
    · exact Nat.le_succ _
    · exact Nat.le_refl _
  exact I1.fpOk le (I1.hok.fresh le)
/-- for i, x in enumerate(the tuple at a): by a word of the turn -/
theorem for_enumT {K : PySem.W.Frag} {a : Addr} {xs : List V} {g : TG} {tb : TS} {D : Ends} {σ : L2.St} {H : Hp} (Pv : Nat → L2.St → Hp → Prop) (h0 : Pv 0 σ H) (hl : ∀ i σ H, i ≤ xs.length → Pv i σ H → SqT K H a xs)
    (hs : ∀ i x T σ H, xs[i]? = some x → H T = none → Pv i σ H → g (.ref T) σ (upd H T (.tup [.int (i : Nat), x])) fun σ2 H2 => tb { D with nx := Pv (i + 1), ct := Pv (i + 1), bk := D.nx } σ2 H2) (hd : ∀ σ H, Pv xs.length σ H → D.nx σ H) :
    ∃ W : Nat → Nat → L2.St → Hp → Prop, (∃ m, W 0 m σ H) ∧ ∀ i m σ H, W i m σ H →
      ((Itu K a).stop i H ∧ D.nx σ H) ∨ ((Itu K a).go i H ∧ ∃ N : L2.St → Hp → Prop, (∀ σ' H', N σ' H' → ∃ m', m' < m ∧ W (i + 1) m' σ' H') ∧ ∀ x H', (Itu K a).yld i H x H' → g x σ H' fun σ2 H2 => tb { D with nx := N, ct := N, bk := D.nx } σ2 H2) := by
  refine ⟨fun i m σ H => m + i = xs.length ∧ Pv i σ H, ⟨xs.length, rfl, h0⟩, fun i m σ H w => ?_⟩
  obtain ⟨le, p⟩ := w
  have q := hl i σ H (by omega) p
  rcases Nat.lt_or_ge i xs.length with lt | ge
  · have some_ : xs[i]? = some xs[i] := List.getElem?_eq_getElem lt
    refine .inr ⟨⟨xs, _, q, some_⟩, Pv (i + 1), fun σ' H' p' => ⟨m - 1, by omega, by omega, p'⟩, fun x H' y => ?_⟩
    obtain ⟨T, x, rfl, fresh, rfl, at_⟩ := y
    exact hs i x T σ H (at_ xs q) fresh p
  · have eq : i = xs.length := by omega
    subst eq
    exact .inl ⟨⟨xs, q, rfl⟩, hd σ H p⟩
end SwX
set_option Elab.async false
set_option linter.all false
set_option maxRecDepth 100000
set_option maxHeartbeats 4000000
/-! fields as targets in a tuple; a class held by a local name called -/
namespace SwX
open PySem PySem.Spec PyProof.Rows L2
/-- .., o.f, .. = .. -/
def gFld (K : PySem.W.Frag) (to : TE) (f : Str) : TG := fun v σ H Q => to σ H fun x H1 => ∃ a C dx fs, x = .ref a ∧ H1 a = some (.ins C dx fs) ∧ Cls K C ∧ NoAttr K C f ∧ fs.length < 1000 ∧ Q σ (upd H1 a (.ins C dx (putF f v fs)))
theorem pg_fldT {X : Cx} {o : Expr} {to : TE} {f : Str} {pos : Pos} (ho : PE X o to) : PG X (.Attribute o f pos) (gFld X.K to f) := by
  refine ⟨fun pins s σ H v u Q I r h => ?_⟩
  rw [arm_assign_Attribute]
  refine wpAny_bind (wpAny_holding (thn (ho.run pins s σ H _ I h) fun ov s1 z => ?_))
  obtain ⟨x, H1, I1, rx, a, C, dx, fs, rfl, ea, c, n, l, q⟩ := z
  cases rx
  refine wpAny_bind (wpAny_standAt (wpAny_bind (wpAny_holding (setattr_ok I1 ea c n l r fun s3 I3 => ?_))))
  first
    | exact wpAny_release ⟨σ, _, I3, q⟩
    | exact wpAny_pure ⟨σ, _, I3, q⟩
/-- x(e, ..), x a local name that holds the class at C -/
def tMakeL (i : Nat) (C : Addr) (sp : Sp) (dvs : List V) (E : XK) (t : TA) : TE := fun σ H Q => σ[i]? = some (some (.ref C)) ∧ tMake C sp dvs E t σ H Q
theorem pe_makeL {X : Cx} {CX : CXT} {k i : Nat} {f C : Addr} {fd : FuncData} {ps : List Str} {sp : Sp} {E : XK} {dvs : List V} {ds : List Value} {x : Str} {p pos : Pos} {e : Expr} {es : List Expr} {t : TA} (M : Mk X.K C f) (F : FnOk X.prog X.w X.K X.mg X.base CX k f fd ps sp) (room : Room (k + 1) X.A) (hN : X.N[i]? = some x) (hv : Vis X.env.scope x) (hb : Binds X.K fd ps ds) (hd : Vals dvs ds) (out : Passes CX X E) (ha : PA X (e :: es) t)
    (hdb : (x == ("__debug__" : Str)) = false := by decide) (hcd : (x == ("__classdict__" : Str)) = false := by decide) (he : starEach (e :: es) X.env = (false, eval e X.env) :: starEach es X.env := by rfl) (hpl : (backTo pos (starEach es X.env)).any (·.1) = false := by rfl) :
    PE X (.Call (.Name x p) (e :: es) [] pos) (tMakeL i C sp dvs E t) := by
  refine ⟨fun pins s σ H Q I h => ?_⟩
  have look := (pe_var (pos := p) hN hv hdb hcd).run pins s σ H (fun v H1 => v = .ref C ∧ H1 = H) I ⟨.ref C, h.1, rfl, rfl⟩
  refine wpAny_Call_Name_kw (thn look fun u s1 z => ?_)
  obtain ⟨v, H1, I1, r1, rfl, rfl⟩ := z
  cases r1
  refine PySem.W.callWith_K (h₀ := X.base) I1.ok.mod.kin M.kp (thn (ha.run pos pins s1 σ _ _ I1 h.2) fun us s2 z => ?_) he hpl
  obtain ⟨vs, H2, I2, r, q⟩ := z
  exact ⟨I2.kIn, run_make M F room hb hd out I2 r q⟩
end SwX
set_option Elab.async false
set_option linter.all false
set_option maxRecDepth 100000
set_option maxHeartbeats 4000000
/-! data compared, looked for; texts, tuples, lists by joined rules -/
namespace SwX
open PySem PySem.Spec PyProof.Rows L2 Evl
/-! ### data without dicts -/
theorem dpAll_of {K : PySem.W.Frag} {H : Hp} : ∀ {xs : List V} {ds : List PyData}, xs.length = ds.length → (∀ (i : Nat) x d, xs[i]? = some x → ds[i]? = some d → Dp K H x d) → DpAll K H xs ds
  | [], [], _, _ => .nil
  | [], _ :: _, l, _ => by cases l
  | _ :: _, [], l, _ => by cases l
  | x :: xs, d :: ds, l, k => .cons (k 0 x d rfl rfl) (dpAll_of (Nat.succ.inj l) fun i x' d' e1 e2 => k (i + 1) x' d' (by simpa using e1) (by simpa using e2))
theorem noDict_at : ∀ {ds : List PyData} {i : Nat} {d : PyData}, PyData.hasDictAll ds = false → ds[i]? = some d → d.hasDict = false
  | [], _, _, _, e => by simp at e
  | x :: xs, 0, d, n, e => by
    simp at e
    subst e
    simp only [PyData.hasDictAll, Bool.or_eq_false_iff] at n
    exact n.1
  | x :: xs, i + 1, d, n, e => by
    simp only [PyData.hasDictAll, Bool.or_eq_false_iff] at n
    exact noDict_at (i := i) n.2 (by simpa using e)
theorem Da.dp {K : PySem.W.Frag} {H : Hp} {v : V} {d : PyData} (h : Da K H v d) : d.hasDict = false → Dp K H v d := by
  induction h with
  | non => exact fun _ => .non
  | bl b => exact fun _ => .bl b
  | int i => exact fun _ => .int i
  | str x => exact fun _ => .str x
  | lst h l _ ih => exact fun n => .lst (sq_of h) (dpAll_of l fun i x d e1 e2 => ih i x d e1 e2 (noDict_at (by simpa only [PyData.hasDict] using n) e2))
  | tup h l _ ih => exact fun n => .tup h (dpAll_of l fun i x d e1 e2 => ih i x d e1 e2 (noDict_at (by simpa only [PyData.hasDict] using n) e2))
  | dic h l _ _ => exact fun n => by simp [PyData.hasDict] at n
/-- plain enough for == -/
structure Pl (d : PyData) : Prop where
  nd : d.hasDict = false
  sh : SeqAt.shaped d = true
section
variable {X : Cx} {k : Nat}
/-- x in y, y a list | a tuple that is data -/
def rInDat (K : PySem.W.Frag) (neg : Bool) : R2 := fun x y H Q => ∃ d c ds, (c = .list ds ∨ c = .tuple ds) ∧ Da K H x d ∧ Da K H y c ∧ Pl d ∧ Pl c ∧ Q (.bl (if neg then !ds.any fun z => PyData.eqv z d else ds.any fun z => PyData.eqv z d)) H
theorem op_inDat (hr : Room k X.A) : OpR X (compareOp .In) (rInDat X.K false) := by
  intro pins s σ H x y v u Q I rx ry h
  obtain ⟨d, c, ds, hc, hx, hy, px, py, q⟩ := h
  obtain ⟨as, r1⟩ := Dp.reads I d x v (hx.dp px.nd) rx
  obtain ⟨bs, r2⟩ := Dp.reads I c y u (hy.dp py.nd) ry
  have un := hr.un
  rcases hc with rfl | rfl
  · exact SeqAt.in_list_reads r2 r1 (SeqAt.canLay_of_shaped py.sh) (SeqAt.canLay_of_shaped px.sh) (room_in_shaped px.sh (by omega)) ⟨.bl _, H, I, rel_bl _, q⟩
  · exact SeqAt.in_tuple_reads r2 r1 (SeqAt.canLay_of_shaped py.sh) (SeqAt.canLay_of_shaped px.sh) (room_in_shaped px.sh (by omega)) ⟨.bl _, H, I, rel_bl _, q⟩
theorem op_niDat (hr : Room k X.A) : OpR X (compareOp .NotIn) (rInDat X.K true) := by
  intro pins s σ H x y v u Q I rx ry h
  obtain ⟨d, c, ds, hc, hx, hy, px, py, q⟩ := h
  obtain ⟨as, r1⟩ := Dp.reads I d x v (hx.dp px.nd) rx
  obtain ⟨bs, r2⟩ := Dp.reads I c y u (hy.dp py.nd) ry
  have un := hr.un
  rcases hc with rfl | rfl
  · exact SeqAt.notIn_list_reads r2 r1 (SeqAt.canLay_of_shaped py.sh) (SeqAt.canLay_of_shaped px.sh) (room_in_shaped px.sh (by omega)) ⟨.bl _, H, I, rel_bl _, q⟩
  · exact SeqAt.notIn_tuple_reads r2 r1 (SeqAt.canLay_of_shaped py.sh) (SeqAt.canLay_of_shaped px.sh) (room_in_shaped px.sh (by omega)) ⟨.bl _, H, I, rel_bl _, q⟩
/-- x == y, both data -/
def rEqDat (K : PySem.W.Frag) (g : Bool → Bool) : R2 := fun x y H Q => ∃ d e, Da K H x d ∧ Da K H y e ∧ Pl d ∧ Pl e ∧ Q (.bl (g (PyData.eqv d e))) H
theorem op_eqDat (hr : Room k X.A) : OpR X (compareOp .Eq) (rEqDat X.K id) := fun pins s σ H x y v u Q I rx ry ⟨d, e, hx, hy, px, py, q⟩ =>
  op_eqD (by have := hr.un; omega) pins s σ H x y v u Q I rx ry ⟨d, e, hx.dp px.nd, hy.dp py.nd, px.sh, py.sh, q⟩
theorem op_neDat (hr : Room k X.A) : OpR X (compareOp .NotEq) (rEqDat X.K not) := fun pins s σ H x y v u Q I rx ry ⟨d, e, hx, hy, px, py, q⟩ =>
  op_neD (by have := hr.un; omega) pins s σ H x y v u Q I rx ry ⟨d, e, hx.dp px.nd, hy.dp py.nd, px.sh, py.sh, q⟩
/-- text + text -/
def rCatZ : R2 := fun x y H Q => ∃ i j, x = .str i ∧ y = .str j ∧ i.length + j.length ≤ sizeLine ∧ Q (.str (i ++ j)) H
/-- a + b: ints | lists | texts | tuples -/
def rAddX (K : PySem.W.Frag) : R2 := fun x y H Q => rI0 (fun i j => .int (i + j)) x y H Q ∨ rCat x y H Q ∨ rCatZ x y H Q ∨ rCatA K x y H Q
theorem op_addX : OpR X (binaryOp .Add) (rAddX X.K) := op_join op_add (op_join op_cat (op_join op_add_str op_catA))
/-- x in y: a sign in a text | data in data -/
theorem op_inX (hr : Room k X.A) : OpR X (compareOp .In) (fun x y H Q => (∃ (c : Nat) (z : Str), x = .str ⟨#[c]⟩ ∧ y = .str z ∧ Q (.bl (decide (c ∈ z.cps.toList))) H) ∨ rInDat X.K false x y H Q) := op_join op_in_sign (op_inDat hr)
theorem op_niX (hr : Room k X.A) : OpR X (compareOp .NotIn) (fun x y H Q => (∃ (c : Nat) (z : Str), x = .str ⟨#[c]⟩ ∧ y = .str z ∧ Q (.bl (!decide (c ∈ z.cps.toList))) H) ∨ rInDat X.K true x y H Q) := op_join op_notIn_sign (op_niDat hr)
/-- x == y: flat things | data -/
theorem op_eqX (hr : Room k X.A) : OpR X (compareOp .Eq) (fun x y H Q => rEq x y H Q ∨ rEqDat X.K id x y H Q) := op_join op_eq (op_eqDat hr)
theorem op_neX (hr : Room k X.A) : OpR X (compareOp .NotEq) (fun x y H Q => rNe x y H Q ∨ rEqDat X.K not x y H Q) := op_join op_ne (op_neDat hr)
/-- lo:hi of a list | a tuple | a text -/
def rSlY (K : PySem.W.Frag) : V → Option Int → Option Int → Hp → VK → Prop := fun x lo hi H Q => rSlL K x lo hi H Q ∨ rSlA K x lo hi H Q ∨ rSlS x lo hi H Q
theorem sl_Y : SlR X (rSlY X.K) := SlR.or sl_list (SlR.or sl_tupA sl_str)
/-- len of a list, a tuple | a text -/
def rLenY (K : PySem.W.Frag) : List V → Hp → VK → Prop := fun xs H Q => (∃ p ys, xs = [.ref p] ∧ (SqL K H p ys ∨ SqT K H p ys) ∧ Q (.int ys.length) H) ∨ ∃ z, xs = [.str z] ∧ z.length ≤ sizeLine ∧ Q (.int z.length) H
theorem call_lenY : CallR X (.builtin "len") (rLenY X.K) := cr_join call_len_seq call_len_str
/-- str(x): an int | a text -/
def rStrY : List V → Hp → VK → Prop := fun xs H Q => (∃ i, xs = [.int i] ∧ i.natAbs.log2 < 1920 ∧ Q (.str (toString i)) H) ∨ ∃ a, xs = [.str a] ∧ Q (.str a) H
theorem call_strY : CallR X (.type "str") rStrY := cr_join call_str_int SkE.call_str_str
end
end SwX
set_option Elab.async false
set_option linter.all false
set_option maxRecDepth 100000
set_option maxHeartbeats 4000000
/-! names, rules of a catalogue: plain, and as data -/
namespace SwX
open PySem PySem.Spec PyProof.Rows L2 Evl
abbrev Nm := List Nat
abbrev Rul := Nm × Nat × List Nm
def okSign (c : Nat) : Prop := (97 ≤ c ∧ c ≤ 122) ∨ (48 ≤ c ∧ c ≤ 57)
structure NameOk (n : Nm) : Prop where
  hd : ∃ c r, n = c :: r ∧ 97 ≤ c ∧ c ≤ 122
  len : n.length ≤ 8
  sg : ∀ c ∈ n, okSign c
structure NamesOk (ns : List Nm) : Prop where
  ne : ns ≠ []
  len : ns.length ≤ 4
  nd : ns.Nodup
  ok : ∀ n ∈ ns, NameOk n
structure RulOk (ns : List Nm) (r : Rul) : Prop where
  wd : r.1 ∈ ns
  lo : 1 ≤ r.2.1
  hi : r.2.1 ≤ 9
  len : r.2.2.length ≤ 3
  pt : ∀ p ∈ r.2.2, p ∈ ns
structure RulesOk (ns : List Nm) (rs : List Rul) : Prop where
  len : rs.length ≤ 10
  nd : rs.Nodup
  ok : ∀ r ∈ rs, RulOk ns r
def nmD (n : Nm) : PyData := .str (SX.S n)
def nmsD (ns : List Nm) : PyData := .tuple (ns.map nmD)
def rulD (r : Rul) : PyData := .tuple [nmD r.1, .int (r.2.1 : Nat), nmsD r.2.2]
def rulsD (rs : List Rul) : PyData := .tuple (rs.map rulD)
theorem nmD_eqv (a b : Nm) : PyData.eqv (nmD a) (nmD b) = decide (a = b) := by
  show (SX.S a == SX.S b) = _
  exact SX.S_beq_eq
theorem nms_eqv : ∀ a b : List Nm, PyData.eqvAll (a.map nmD) (b.map nmD) = decide (a = b)
  | [], [] => by simp [PyData.eqvAll]
  | [], _ :: _ => by simp [PyData.eqvAll]
  | _ :: _, [] => by simp [PyData.eqvAll]
  | x :: a, y :: b => by
    have h1 := nmD_eqv x y
    have h2 := nms_eqv a b
    simp only [List.map_cons, PyData.eqvAll, h1, h2]
    rw [Bool.eq_iff_iff]
    simp
theorem nmsD_eqv (a b : List Nm) : PyData.eqv (nmsD a) (nmsD b) = decide (a = b) := by
  show PyData.eqv (.tuple _) (.tuple _) = _
  simp only [PyData.eqv]
  exact nms_eqv a b
theorem rulD_eqv (a b : Rul) : PyData.eqv (rulD a) (rulD b) = decide (a = b) := by
  obtain ⟨w, o, p⟩ := a
  obtain ⟨w', o', p'⟩ := b
  unfold rulD
  simp only [PyData.eqv, PyData.eqvAll, nmD_eqv, nmsD_eqv]
  rw [Bool.eq_iff_iff]
  simp [Prod.ext_iff]
  omega
theorem ruls_eqv : ∀ a b : List Rul, PyData.eqvAll (a.map rulD) (b.map rulD) = decide (a = b)
  | [], [] => by simp [PyData.eqvAll]
  | [], _ :: _ => by simp [PyData.eqvAll]
  | _ :: _, [] => by simp [PyData.eqvAll]
  | x :: a, y :: b => by
    have h1 := rulD_eqv x y
    have h2 := ruls_eqv a b
    simp only [List.map_cons, PyData.eqvAll, h1, h2]
    rw [Bool.eq_iff_iff]
    simp
theorem any_rul (rs : List Rul) (r : Rul) : (rs.map rulD).any (fun z => PyData.eqv z (rulD r)) = decide (r ∈ rs) := by
  rw [Bool.eq_iff_iff]
  simp only [List.any_map, List.any_eq_true, Function.comp, rulD_eqv, decide_eq_true_eq]
  exact ⟨fun ⟨x, h, e⟩ => e ▸ h, fun h => ⟨r, h, rfl⟩⟩
theorem any_nm (ns : List Nm) (n : Nm) : (ns.map nmD).any (fun z => PyData.eqv z (nmD n)) = decide (n ∈ ns) := by
  rw [Bool.eq_iff_iff]
  simp only [List.any_map, List.any_eq_true, Function.comp, nmD_eqv, decide_eq_true_eq]
  exact ⟨fun ⟨x, h, e⟩ => e ▸ h, fun h => ⟨n, h, rfl⟩⟩
/-! they are plain -/
theorem lay_all {α : Type} {f : α → PyData} : ∀ {l : List α}, (∀ a ∈ l, (f a).canLay0 = true) → PyData.canLayAll0 (l.map f) = true
  | [], _ => by simp [PyData.canLayAll0]
  | x :: l, h => by
    simp only [List.map_cons, PyData.canLayAll0, Bool.and_eq_true]
    exact ⟨h x List.mem_cons_self, lay_all fun a ha => h a (List.mem_cons_of_mem _ ha)⟩
theorem depth_all {α : Type} {f : α → PyData} {n : Nat} : ∀ {l : List α}, (∀ a ∈ l, (f a).depth ≤ n) → PyData.depthAll (l.map f) ≤ n
  | [], _ => by simp [PyData.depthAll]
  | x :: l, h => by
    simp only [List.map_cons, PyData.depthAll]
    exact Nat.max_le.mpr ⟨h x List.mem_cons_self, depth_all fun a ha => h a (List.mem_cons_of_mem _ ha)⟩
theorem nodict_all {α : Type} {f : α → PyData} : ∀ {l : List α}, (∀ a ∈ l, (f a).hasDict = false) → PyData.hasDictAll (l.map f) = false
  | [], _ => by simp [PyData.hasDictAll]
  | x :: l, h => by
    simp only [List.map_cons, PyData.hasDictAll, Bool.or_eq_false_iff]
    exact ⟨h x List.mem_cons_self, nodict_all fun a ha => h a (List.mem_cons_of_mem _ ha)⟩
end SwX
set_option Elab.async false
set_option linter.all false
set_option maxRecDepth 100000
set_option maxHeartbeats 4000000
/-! lists of draws -/
namespace SwX
open PySem PySem.Spec PyProof.Rows L2 Evl
theorem Pur.ne {H : Hp} {a p : Addr} (h : Pur H a) (n : H p = none) : p ≠ a := fun z => by
  obtain ⟨_, _, _, e, _⟩ := h
  rw [z, e] at n
  cases n
theorem Pur.other {H : Hp} {a p : Addr} {o : HO} (h : Pur H a) (e : H p = some o) (ne : ∀ x y z : Int, o ≠ .lst [.int x, .int y, .int z]) : p ≠ a := fun w => by
  obtain ⟨x, y, z, e', _⟩ := h
  rw [w, e'] at e
  exact ne x y z (Option.some.inj e).symm
theorem pur_new {H : Hp} {a p : Addr} {o : HO} (h : Pur H a) (n : H p = none) : Pur (upd H p o) a := h.keep (Ex.new n)
/-- a list of at most m things of which P holds -/
def DrL (a : Addr) (te : TE) (σ : L2.St) (G : Hp) (m : Nat) (P : V → Prop) : Prop := ∀ H1, Ex G H1 → Pur H1 a → ∀ Q : VK, (∀ p xs H2, xs.length ≤ m → (∀ x ∈ xs, P x) → H2 p = some (.lst xs) → p ≠ a → Ex G H2 → Pur H2 a → Q (.ref p) H2) → te σ H1 Q
section
variable {K : PySem.W.Frag} {σ : L2.St} {G H : Hp} {a : Addr} {te ta tb t0 : TE} {v : V} {P P1 P2 : V → Prop} {D : Ends} {tz : TS} {m : Nat}
theorem drl_lc {j : Nat} {vs : List Nat} (n : G a = none) (h0 : Dr a t0 σ G fun v => ∃ k : Int, v = .int k ∧ 0 ≤ k ∧ k ≤ m) (hm : m ≤ 1000) (hw : ∀ x, wipe ((wipe σ vs).set j (some x)) vs = wipe σ vs)
    (he : ∀ (i : Int) G', G' a = none → Ex G G' → Dr a te ((wipe σ vs).set j (some (.int i))) G' P) : DrL a (tLc (iRng1 (tCons t0 tNil)) (gName j) tYes te vs) σ G m P := fun H1 e1 p1 Q q =>
  h0 H1 e1 p1 _ fun v H2 pv e2 p2 => by
    obtain ⟨k, rfl, k0, k1⟩ := pv
    refine ⟨k, rfl, by omega, by omega, fun D' hD => ?_⟩
    have ne := p2.ne hD
    refine lc_range (lo := 0) (n := k.toNat) (fun i H' => ∃ acc, H' D' = some (.lst acc) ∧ acc.length = i ∧ (∀ x ∈ acc, P x) ∧ Ex G H' ∧ Pur H' a) ⟨[], upd_same, rfl, (fun _ h => nomatch h), e2.trans (Ex.new hD), pur_new p2 hD⟩ (fun i H' hi z => ⟨hw _, ?_⟩) fun H' z => ?_
    · obtain ⟨acc, ha, la, pa, ea, pu⟩ := z
      show te ((wipe σ vs).set j (some (.int (0 + (i : Int))))) H' fun y H4 => ∃ acc, H4 D' = some (.lst acc) ∧ acc.length < sizeLine ∧ ∃ acc', upd H4 D' (.lst (acc ++ [y])) D' = some (.lst acc') ∧ acc'.length = i + 1 ∧ (∀ x ∈ acc', P x) ∧ Ex G (upd H4 D' (.lst (acc ++ [y]))) ∧ Pur (upd H4 D' (.lst (acc ++ [y]))) a
      refine he _ (less a H') less_at (ex_less n ea) H' less_ex pu _ fun y H4 py e4 p4 => ?_
      refine ⟨acc, e4 _ _ (by rw [less_ne ne]; exact ha), sz_lt (by omega), _, upd_same, by simp [la], fun x hx => ?_, ?_, ?_⟩
      · rcases List.mem_append.mp hx with hx | hx
        · exact pa x hx
        · rw [List.mem_singleton.mp hx]
          exact py
      · intro b o hb
        by_cases z : b = D'
        · subst z
          have := e2 _ _ hb
          rw [hD] at this
          cases this
        · rw [upd_ne z]
          exact e4 _ _ (by rw [less_ne (fun w => by rw [w, n] at hb; cases hb)]; exact ea _ _ hb)
      · obtain ⟨x, y', z, e, r⟩ := p4
        exact ⟨x, y', z, by rw [upd_ne (Ne.symm ne)]; exact e, r⟩
    · obtain ⟨acc, ha, la, pa, ea, pu⟩ := z
      exact q D' acc H' (by omega) pa ha ne ea pu
theorem Dr.imp (h : Dr a te σ G P) (i : ∀ v, P v → P1 v) : Dr a te σ G P1 := fun H1 e p Q q => h H1 e p Q fun v H2 pv => q v H2 (i v pv)
/-! texts of one sign, joined -/
theorem join_ones : ∀ cs : List Nat, TL.joinL [] (cs.map fun c => [c]) = cs
  | [] => rfl
  | [c] => rfl
  | c :: d :: r => by
    have h := join_ones (d :: r)
    simp only [List.map_cons] at h ⊢
    show [c] ++ ([] ++ TL.joinL [] ([d] :: r.map fun c => [c])) = c :: d :: r
    rw [h] <;> rfl
theorem ones_of {R : Nat → Prop} : ∀ {xs : List V}, (∀ x ∈ xs, ∃ c, x = .str ⟨#[c]⟩ ∧ R c) → ∃ cs : List Nat, xs = ((cs.map fun c => [c]).map SX.S).map V.str ∧ (∀ c ∈ cs, R c) ∧ cs.length = xs.length
  | [], _ => ⟨[], rfl, (fun _ h => nomatch h), rfl⟩
  | x :: xs, h => by
    obtain ⟨c, rfl, rc⟩ := h x List.mem_cons_self
    obtain ⟨cs, rfl, rs, l⟩ := ones_of (xs := xs) fun y hy => h y (List.mem_cons_of_mem _ hy)
    exact ⟨c :: cs, rfl, fun d hd => (List.mem_cons.mp hd).elim (fun e => e ▸ rc) (rs d), congrArg Nat.succ l⟩
/-- "".join(a list of signs drawn) -/
def rJoin (K : PySem.W.Frag) : V → List V → Hp → VK → Prop := fun x xs H Q => ∃ a p, ∃ ys : List Str, x = .str a ∧ xs = [.ref p] ∧ (SqL K H p (ys.map V.str) ∨ SqT K H p (ys.map V.str)) ∧ (ys.map (·.length)).sum + ys.length * a.length ≤ 16777216 ∧ Q (.str (Txt.join a ys)) H
theorem sum_ones : ∀ cs : List Nat, (((cs.map fun c => [c]).map SX.S).map (·.length)).sum = cs.length
  | [] => rfl
  | c :: cs => by
    have h := sum_ones cs
    simp only [List.map_cons, List.sum_cons, List.length_cons]
    rw [h]
    show 1 + _ = _
    omega
theorem dr_join {R : Nat → Prop} {to : TE} (hm : m ≤ 1000) (ho : Ev to σ G (.str (SX.S []))) (h : DrL a te σ G m fun v => ∃ c, v = .str ⟨#[c]⟩ ∧ R c) : Dr a (tM1 (rJoin K) to te) σ G fun v => ∃ cs : List Nat, v = .str (SX.S cs) ∧ cs.length ≤ m ∧ ∀ c ∈ cs, R c := fun H1 e1 p1 Q q =>
  ho H1 e1 _ fun H2 e2 => ⟨⟨_, rfl⟩, h H2 (e1.trans e2) (p1.keep e2) _ fun p xs H3 l3 px h3 _ e3 p3 => by
    obtain ⟨cs, rfl, rc, lc⟩ := ones_of px
    refine ⟨SX.S [], p, _, rfl, rfl, .inl (sq_of h3), ?_, ?_⟩
    · rw [sum_ones]
      simp only [List.length_map]
      have z : (SX.S []).length = 0 := rfl
      rw [z]
      omega
    · rw [SX.join_S, join_ones]
      exact q _ H3 ⟨cs, rfl, by omega, rc⟩ e3 p3⟩
end
/-! ### the joined rules, the written part named -/
section
variable {X : Cx} {k : Nat} (K : PySem.W.Frag)
theorem ixK (h : X.K = K := by rfl) : IxR X (rIx K) := h ▸ ix_seq
theorem addK (h : X.K = K := by rfl) : OpR X (binaryOp .Add) (rAddX K) := h ▸ op_addX
theorem eqK (hr : Room k X.A) (h : X.K = K := by rfl) : OpR X (compareOp .Eq) (fun x y H Q => rEq x y H Q ∨ rEqDat K id x y H Q) := h ▸ op_eqX hr
theorem neK (hr : Room k X.A) (h : X.K = K := by rfl) : OpR X (compareOp .NotEq) (fun x y H Q => rNe x y H Q ∨ rEqDat K not x y H Q) := h ▸ op_neX hr
theorem inK (hr : Room k X.A) (h : X.K = K := by rfl) : OpR X (compareOp .In) (fun x y H Q => (∃ (c : Nat) (z : Str), x = .str ⟨#[c]⟩ ∧ y = .str z ∧ Q (.bl (decide (c ∈ z.cps.toList))) H) ∨ rInDat K false x y H Q) := h ▸ op_inX hr
theorem niK (hr : Room k X.A) (h : X.K = K := by rfl) : OpR X (compareOp .NotIn) (fun x y H Q => (∃ (c : Nat) (z : Str), x = .str ⟨#[c]⟩ ∧ y = .str z ∧ Q (.bl (!decide (c ∈ z.cps.toList))) H) ∨ rInDat K true x y H Q) := h ▸ op_niX hr
theorem slK (h : X.K = K := by rfl) : SlR X (rSlY K) := h ▸ sl_Y
theorem lenK (h : X.K = K := by rfl) : CallR X (.builtin "len") (rLenY K) := h ▸ call_lenY
end
end SwX
set_option Elab.async false
set_option linter.all false
set_option maxRecDepth 100000
set_option maxHeartbeats 4000000
/-! names and rules drawn: evaluation -/
namespace SwX
open PySem PySem.Spec PyProof.Rows L2 Evl
def nmV (n : Nm) : V := .str (SX.S n)
/-! ### plain data -/
theorem okSign_lt {c : Nat} (h : okSign c) : c < 0x110000 := by
  unfold okSign at h
  omega
theorem nm_lay {n : Nm} (h : ∀ c ∈ n, okSign c) : (nmD n).canLay0 = true := by
  show PyData.strOk (SX.S n) = true
  unfold PyData.strOk
  rw [← Array.all_toList]
  show n.all _ = true
  rw [List.all_eq_true]
  exact fun c hc => decide_eq_true (okSign_lt (h c hc))
theorem shaped_of {d : PyData} (a : d.canLay0 = true) (b : d.depth ≤ 64) : SeqAt.shaped d = true := by
  unfold SeqAt.shaped
  rw [a, Bool.true_and]
  exact decide_eq_true b
theorem pl_nm {n : Nm} (h : NameOk n) : Pl (nmD n) := ⟨rfl, shaped_of (nm_lay h.sg) (Nat.zero_le _)⟩
theorem dep_l (xs : List PyData) : (PyData.list xs).depth = PyData.depthAll xs + 1 := by simp only [PyData.depth]
theorem dep_t (xs : List PyData) : (PyData.tuple xs).depth = PyData.depthAll xs + 1 := by simp only [PyData.depth]
theorem nms_lay {ns : List Nm} (h : ∀ n ∈ ns, NameOk n) : PyData.canLayAll0 (ns.map nmD) = true := lay_all fun n hn => nm_lay (h n hn).sg
theorem nms_dep (ns : List Nm) : PyData.depthAll (ns.map nmD) ≤ 0 := depth_all fun n _ => Nat.le_refl _
theorem nms_nod (ns : List Nm) : PyData.hasDictAll (ns.map nmD) = false := nodict_all fun n _ => rfl
theorem pl_nmL {ns : List Nm} (h : ∀ n ∈ ns, NameOk n) : Pl (.list (ns.map nmD)) := ⟨by simp only [PyData.hasDict]; exact nms_nod ns, shaped_of (by simp only [PyData.canLay0]; exact nms_lay h) (by rw [dep_l]; have := nms_dep ns; omega)⟩
theorem pl_nms {ns : List Nm} (h : ∀ n ∈ ns, NameOk n) : Pl (nmsD ns) := ⟨by unfold nmsD; simp only [PyData.hasDict]; exact nms_nod ns, shaped_of (by unfold nmsD; simp only [PyData.canLay0]; exact nms_lay h) (by unfold nmsD; rw [dep_t]; have := nms_dep ns; omega)⟩
/-- a rule's texts are names -/
def RulNm (r : Rul) : Prop := NameOk r.1 ∧ ∀ p ∈ r.2.2, NameOk p
theorem RulOk.nm {ns : List Nm} {r : Rul} (h : RulOk ns r) (n : ∀ m ∈ ns, NameOk m) : RulNm r := ⟨n _ h.wd, fun p hp => n _ (h.pt p hp)⟩
theorem rul_parts {r : Rul} (h : RulNm r) : (rulD r).canLay0 = true ∧ (rulD r).depth ≤ 2 ∧ (rulD r).hasDict = false := by
  have z := nms_dep r.2.2
  unfold rulD nmsD
  refine ⟨?_, ?_, ?_⟩
  · simp only [PyData.canLay0, PyData.canLayAll0, nm_lay h.1.sg, nms_lay h.2, Bool.and_self]
  · have e : (nmD r.1).depth = 0 := rfl
    simp only [PyData.depth, PyData.depthAll, e]
    omega
  · have e : (nmD r.1).hasDict = false := rfl
    simp only [PyData.hasDict, PyData.hasDictAll, nms_nod, e, Bool.or_self]
theorem pl_rul {r : Rul} (h : RulNm r) : Pl (rulD r) := by
  obtain ⟨a, b, c⟩ := rul_parts h
  refine ⟨c, ?_⟩
  unfold SeqAt.shaped
  rw [a, Bool.true_and]
  exact decide_eq_true (by omega)
theorem ruls_dep {rs : List Rul} (h : ∀ r ∈ rs, RulNm r) : PyData.depthAll (rs.map rulD) ≤ 2 := depth_all fun r hr => (rul_parts (h r hr)).2.1
theorem pl_rulL {rs : List Rul} (h : ∀ r ∈ rs, RulNm r) : Pl (.list (rs.map rulD)) := ⟨by simp only [PyData.hasDict]; exact nodict_all fun r hr => (rul_parts (h r hr)).2.2, shaped_of (by simp only [PyData.canLay0]; exact lay_all fun r hr => (rul_parts (h r hr)).1) (by rw [dep_l]; have := ruls_dep h; omega)⟩
theorem pl_ruls {rs : List Rul} (h : ∀ r ∈ rs, RulNm r) : Pl (rulsD rs) := ⟨by unfold rulsD; simp only [PyData.hasDict]; exact nodict_all fun r hr => (rul_parts (h r hr)).2.2, shaped_of (by unfold rulsD; simp only [PyData.canLay0]; exact lay_all fun r hr => (rul_parts (h r hr)).1) (by unfold rulsD; rw [dep_t]; have := ruls_dep h; omega)⟩
/-! ### in the heap -/
section
variable {K : PySem.W.Frag} {H : Hp} {p : Addr}
theorem nms_pair (ns : List Nm) : Paired (fun d v => Da K H v d) (ns.map nmD) (ns.map nmV) := by
  induction ns with
  | nil => exact .nil
  | cons n ns ih => exact .cons (.str _) ih
theorem da_nmL {ns : List Nm} (h : H p = some (.lst (ns.map nmV))) : Da K H (.ref p) (.list (ns.map nmD)) := da_list h (nms_pair ns)
theorem da_nms {ns : List Nm} (h : SqT K H p (ns.map nmV)) : Da K H (.ref p) (nmsD ns) := da_tuple h (nms_pair ns)
end
/-! ### evaluation -/
section
variable {K : PySem.W.Frag} {σ : L2.St} {G H : Hp} {a : Addr} {te ta tb t0 : TE} {v : V} {P P1 P2 : V → Prop} {D : Ends} {tz tu : TS} {m : Nat} {t u : TT}
theorem el_catX {l : Addr} {xs ys : List V} (ha : Ev ta σ H (.ref l)) (hl : H l = some (.lst xs)) (hb : EvL tb σ H ys) (z : xs.length + ys.length ≤ 100000) : EvL (tOp (rAddX K) ta tb) σ H (xs ++ ys) := fun H1 e1 Q q =>
  ha H1 e1 _ fun H2 e2 => hb H2 (e1.trans e2) _ fun p H3 _ e3 h3 => .inr (.inl ⟨l, p, xs, ys, rfl, rfl, e3 _ _ (e2 _ _ (e1 _ _ hl)), h3, sz_of z, fun c hc => q c _ (fresh_back (e2.trans e3) hc) ((e2.trans e3).trans (Ex.new hc)) upd_same⟩)
theorem rv_niDat {x y : V} {d c : PyData} {ds : List PyData} {b : Bool} (hc : c = .list ds ∨ c = .tuple ds) (hx : Da K H x d) (hy : Da K H y c) (px : Pl d) (py : Pl c) (e : (ds.any fun z => PyData.eqv z d) = b) :
    RV (fun x y H Q => (∃ (c : Nat) (z : Str), x = .str ⟨#[c]⟩ ∧ y = .str z ∧ Q (.bl (!decide (c ∈ z.cps.toList))) H) ∨ rInDat K true x y H Q) x y H (.bl (!b)) := fun H1 e1 Q q => .inr ⟨d, c, ds, hc, hx.mono e1, hy.mono e1, px, py, by subst e; exact q H1 (Ex.refl H1)⟩
theorem rv_inDat {x y : V} {d c : PyData} {ds : List PyData} {b : Bool} (hc : c = .list ds ∨ c = .tuple ds) (hx : Da K H x d) (hy : Da K H y c) (px : Pl d) (py : Pl c) (e : (ds.any fun z => PyData.eqv z d) = b) :
    RV (fun x y H Q => (∃ (c : Nat) (z : Str), x = .str ⟨#[c]⟩ ∧ y = .str z ∧ Q (.bl (decide (c ∈ z.cps.toList))) H) ∨ rInDat K false x y H Q) x y H (.bl b) := fun H1 e1 Q q => .inr ⟨d, c, ds, hc, hx.mono e1, hy.mono e1, px, py, by subst e; exact q H1 (Ex.refl H1)⟩
theorem rv_neDat {x y : V} {d e : PyData} {b : Bool} (hx : Da K H x d) (hy : Da K H y e) (px : Pl d) (py : Pl e) (z : PyData.eqv d e = b) : RV (fun x y H Q => rNe x y H Q ∨ rEqDat K not x y H Q) x y H (.bl (!b)) := fun H1 e1 Q q =>
  .inr ⟨d, e, hx.mono e1, hy.mono e1, px, py, by subst z; exact q H1 (Ex.refl H1)⟩
theorem rv_eqDat {x y : V} {d e : PyData} {b : Bool} (hx : Da K H x d) (hy : Da K H y e) (px : Pl d) (py : Pl e) (z : PyData.eqv d e = b) : RV (fun x y H Q => rEq x y H Q ∨ rEqDat K id x y H Q) x y H (.bl b) := fun H1 e1 Q q =>
  .inr ⟨d, e, hx.mono e1, hy.mono e1, px, py, by subst z; exact q H1 (Ex.refl H1)⟩
theorem rv_addI {i j : Int} : RV (rAddX K) (.int i) (.int j) H (.int (i + j)) := fun H1 _ _ q => .inl ⟨i, j, rfl, rfl, q H1 (Ex.refl H1)⟩
theorem rv_addS {x y : List Nat} (h : x.length + y.length ≤ 100000) : RV (rAddX K) (.str (SX.S x)) (.str (SX.S y)) H (.str (SX.S (x ++ y))) := fun H1 _ _ q => .inr (.inr (.inl ⟨_, _, rfl, rfl, by rw [SX.S_len, SX.S_len]; exact sz_of h, by rw [SX.S_cat]; exact q H1 (Ex.refl H1)⟩))
theorem rv_ixLX {p : Addr} {xs : List V} {i : Int} (h : SqL K H p xs) (ha : atI xs i = some v) : RV (rIx K) (.ref p) (.int i) H v := fun H1 e _ q => .inl ⟨p, xs, i, v, rfl, rfl, ex_l e h, ha, q H1 (Ex.refl H1)⟩
theorem rv_ixTX {p : Addr} {xs : List V} {i : Int} (h : SqT K H p xs) (ha : atI xs i = some v) : RV (rIx K) (.ref p) (.int i) H v := fun H1 e _ q => .inr (.inl ⟨p, xs, i, v, rfl, rfl, ex_t e h, ha, q H1 (Ex.refl H1)⟩)
/-- a test that may draw -/
def DrT (a : Addr) (tt : TT) (σ : L2.St) (G : Hp) (R : Bool → Prop) : Prop := ∀ H1, Ex G H1 → Pur H1 a → ∀ Q : Bool → Hp → Prop, (∀ b H2, R b → Ex G H2 → Pur H2 a → Q b H2) → tt σ H1 Q
theorem dt_ev {R : Bool → Prop} {b : Bool} (h : EvT t σ G b) (r : R b) : DrT a t σ G R := fun H1 e p Q q => h H1 e Q fun H2 e2 => q b H2 r (e.trans e2) (p.keep e2)
theorem dt_B {R : Bool → Prop} (h : Dr a te σ G fun v => ∃ b, v = .bl b ∧ R b) : DrT a (tTest te) σ G R := fun H1 e p Q q => h H1 e p _ fun v H2 pv e2 p2 => by
  obtain ⟨b, rfl, r⟩ := pv
  exact ⟨b, rfl, q b H2 r e2 p2⟩
theorem dt_and {R R1 R2 : Bool → Prop} (h1 : DrT a t σ G R1) (h2 : R1 true → DrT a u σ G R2) (f : R1 false → R false) (g : ∀ b, R1 true → R2 b → R b) : DrT a (tAnd t u) σ G R := fun H1 e p Q q => h1 H1 e p _ fun b H2 r e2 p2 => by
  cases b with
  | true =>
    show u σ H2 Q
    exact h2 r H2 e2 p2 Q fun b H3 r' e3 p3 => q b H3 (g b r r') e3 p3
  | false =>
    show Q false H2
    exact q false H2 (f r) e2 p2
theorem dr_if {R : Bool → Prop} (h : DrT a t σ G R) (h1 : R true → Dr a ta σ G P) (h2 : R false → Dr a tb σ G P) : Dr a (tIf t ta tb) σ G P := fun H1 e p Q q => h H1 e p _ fun b H2 r e2 p2 => by
  cases b with
  | true =>
    show ta σ H2 Q
    exact h1 r H2 e2 p2 Q q
  | false =>
    show tb σ H2 Q
    exact h2 r H2 e2 p2 Q q
/-- for i in range(a drawn number) -/
theorem q_forDr {j : Nat} {R : Int → Prop} (h0 : Dr a t0 σ G fun v => ∃ k : Int, v = .int k ∧ 0 ≤ k ∧ k ≤ m ∧ R k) (hm : m ≤ 1000) (e : Ex G H) (p : Pur H a) (Pv : Nat → L2.St → Hp → Prop) (hp : ∀ H1, Ex G H1 → Pur H1 a → Pv 0 σ H1)
    (hs : ∀ (i : Nat) σ' H', i < m → Pv i σ' H' → tu { D with nx := Pv (i + 1), ct := Pv (i + 1), bk := tz D } (σ'.set j (some (.int (i : Int)))) H') (hd : ∀ (k : Int) σ' H', R k → 0 ≤ k → Pv k.toNat σ' H' → tz D σ' H') : tSeq (tFor (iRng1 (tCons t0 tNil)) (gName j) tu) tz D σ H :=
  h0 H e p _ fun v H1 pv e1 p1 => by
    obtain ⟨k, rfl, k0, k1, r⟩ := pv
    refine ⟨k, rfl, by omega, by omega, for_range (lo := 0) (n := k.toNat) Pv (hp H1 e1 p1) (fun i σ' H' hi z => ?_) fun σ' H' z => hd k σ' H' r k0 z⟩
    show tu { D with nx := Pv (i + 1), ct := Pv (i + 1), bk := tz D } (σ'.set j (some (.int (0 + (i : Int))))) H'
    rw [Int.zero_add]
    exact hs i σ' H' (by omega) z
end
section
variable {K : PySem.W.Frag} {σ : L2.St} {G H : Hp} {a : Addr} {te ta tb t0 : TE} {v : V} {P P1 P2 : V → Prop} {D : Ends} {tz tu : TS} {m : Nat}
theorem dr_opG {r : R2} (ha : Dr a ta σ G P1) (hb : Dr a tb σ G P2) (hr : ∀ x y, P1 x → P2 y → ∃ z, P z ∧ RV r x y G z) : Dr a (tOp r ta tb) σ G P := fun H1 e p Q q =>
  ha H1 e p _ fun x H2 px e2 p2 => hb H2 e2 p2 _ fun y H3 py e3 p3 => by
    obtain ⟨z, pz, rv⟩ := hr x y px py
    exact rv H3 e3 Q fun H4 e4 => q z H4 pz (e3.trans e4) (p3.keep e4)
def rTupOf (K : PySem.W.Frag) : List V → Hp → VK → Prop := fun xs H Q => ∃ p ys, xs = [.ref p] ∧ ((SqL K H p ys ∧ ∀ l, H l = none → Q (.ref l) (upd H l (.tup ys))) ∨ (SqT K H p ys ∧ Q (.ref p) H))
theorem q_asgTupL {i : Nat} (h : DrL a te σ G m P) (e : Ex G H) (p : Pur H a) (k : ∀ q xs H1, xs.length ≤ m → (∀ x ∈ xs, P x) → H1 q = some (.tup xs) → q ≠ a → Ex G H1 → Pur H1 a → tz D (σ.set i (some (.ref q))) H1) : tSeq (tAsg (tCB (rTupOf K) (tCons te tNil)) (gName i)) tz D σ H :=
  h H e p _ fun l xs H1 lx px hl _ e1 p1 => ⟨l, xs, rfl, .inl ⟨sq_of hl, fun c hc => k c xs _ lx px upd_same (p1.ne hc) (e1.trans (Ex.new hc)) (pur_new p1 hc)⟩⟩
theorem ev_lenL {p : Addr} {xs : List V} (ha : Ev te σ H (.ref p)) (h : SqL K H p xs ∨ SqT K H p xs) : Ev (tCB (rLenY K) (tCons te tNil)) σ H (.int (xs.length : Int)) := fun H1 e Q q =>
  ha H1 e _ fun H2 e2 => .inl ⟨p, xs, rfl, h.imp (ex_l (e.trans e2)) (ex_t (e.trans e2)), q H2 e2⟩
theorem ev_lenS {x : List Nat} (ha : Ev te σ H (.str (SX.S x))) (h : x.length ≤ 100000) : Ev (tCB (rLenY K) (tCons te tNil)) σ H (.int (x.length : Int)) := fun H1 e Q q =>
  ha H1 e _ fun H2 e2 => .inr ⟨SX.S x, rfl, by rw [SX.S_len]; exact sz_of h, by rw [SX.S_len]; exact q H2 e2⟩
end
end SwX
set_option Elab.async false
set_option linter.all false
set_option maxRecDepth 100000
set_option maxHeartbeats 4000000
/-! texts of catalogues -/
namespace SwX
open PySem PySem.Spec PyProof.Rows L2 Evl
theorem isiK {X : Cx} (K : PySem.W.Frag) (h : X.K = K := by rfl) : CallR X (.builtin "isinstance") (rIsi K) := h ▸ call_isi
theorem pe_gstr {X : Cx} {x z : Str} {pos : Pos} (hm : ∃ t, X.mg x = some (.str z t)) (hg : Gl X x := by rfl) (hd : (x == ("__debug__" : Str)) = false := by decide) : PE X (.Name x pos) (tC (.str z)) := by
  obtain ⟨t, h⟩ := hm
  exact pe_glob hg h ⟨t, rfl⟩ hd
/-! ### plain texts -/
def kindsL : List Nat := [107, 105, 110, 100, 115]
def tailL (ps : List Nm) : List Nat := if ps = [] then [] else [58, 32] ++ TL.joinL [32] ps
def rowL (r : Rul) : List Nat := r.1 ++ ([32] ++ (TL.numL r.2.1 ++ tailL r.2.2))
def headL (ns : List Nm) : List Nat := TL.joinL [32] (kindsL :: ns)
def textL (ns : List Nm) (rs : List Rul) : List Nat := TL.joinL [10] (headL ns :: rs.map rowL)
theorem numS (o : Nat) : (Str.ofString (toString ((o : Nat) : Int))) = SX.S (TL.numL o) := (SX.S_tl _).symm.trans (congrArg SX.S (TL.tl_num o))
/-! ### data told apart -/
section
variable {K : PySem.W.Frag} {H : Hp} {v : V}
theorem da_pairs : ∀ {xs : List V} {ds : List PyData}, xs.length = ds.length → (∀ (i : Nat) x d, xs[i]? = some x → ds[i]? = some d → Da K H x d) → Paired (fun d x => Da K H x d) ds xs
  | [], [], _, _ => .nil
  | [], _ :: _, l, _ => by cases l
  | _ :: _, [], l, _ => by cases l
  | x :: xs, d :: ds, l, k => .cons (k 0 x d rfl rfl) (da_pairs (Nat.succ.inj l) fun i x' d' e1 e2 => k (i + 1) x' d' (by simpa using e1) (by simpa using e2))
theorem da_tupI {ds : List PyData} (h : Da K H v (.tuple ds)) : ∃ q xs, v = .ref q ∧ SqT K H q xs ∧ Paired (fun d x => Da K H x d) ds xs := by
  cases h with
  | tup h l k => exact ⟨_, _, rfl, h, da_pairs l k⟩
theorem paired_unmap {α β γ : Type} {F : γ → β → Prop} {g : α → γ} : ∀ {is : List α} {vs : List β}, Paired F (is.map g) vs → Paired (fun i v => F (g i) v) is vs
  | [], _, .nil => .nil
  | _ :: _, _, .cons h t => .cons h (paired_unmap t)
theorem da_ruls (rs : List Rul) (h : Da K H v (rulsD rs)) : ∃ q xs, v = .ref q ∧ SqT K H q xs ∧ Paired (fun r x => Da K H x (rulD r)) rs xs := by
  obtain ⟨q, xs, e, s, p⟩ := da_tupI h
  exact ⟨q, xs, e, s, paired_unmap p⟩
theorem da_strI {z : Str} (h : Da K H v (.str z)) : v = .str z := by
  cases h
  rfl
theorem da_intI {i : Int} (h : Da K H v (.int i)) : v = .int i := by
  cases h
  rfl
theorem nms_vals : ∀ {ns : List Nm} {xs : List V}, Paired (fun n x => Da K H x (nmD n)) ns xs → xs = ns.map nmV
  | [], _, .nil => rfl
  | n :: ns, _, .cons h t => by rw [nms_vals t, List.map_cons, da_strI h] <;> rfl
theorem da_nmsI {ns : List Nm} (h : Da K H v (nmsD ns)) : ∃ q, v = .ref q ∧ SqT K H q (ns.map nmV) := by
  obtain ⟨q, xs, e, s, p⟩ := da_tupI h
  rw [nms_vals (paired_unmap p)] at s
  exact ⟨q, e, s⟩
theorem paired3 {α β : Type} {F : α → β → Prop} {a b c : α} : ∀ {xs : List β}, Paired F [a, b, c] xs → ∃ x y z, xs = [x, y, z] ∧ F a x ∧ F b y ∧ F c z
  | _, .cons h1 (.cons h2 (.cons h3 .nil)) => ⟨_, _, _, rfl, h1, h2, h3⟩
theorem da_rul {r : Rul} (h : Da K H v (rulD r)) : ∃ b c, v = .ref b ∧ SqT K H b [nmV r.1, .int (r.2.1 : Nat), .ref c] ∧ SqT K H c (r.2.2.map nmV) := by
  obtain ⟨q, xs, e, s, p⟩ := da_tupI h
  obtain ⟨x, y, z, rfl, h1, h2, h3⟩ := paired3 p
  obtain ⟨c, rfl, sc⟩ := da_nmsI h3
  rw [da_strI h1, da_intI h2] at s
  exact ⟨q, c, e, s, sc⟩
end
/-! ### evaluation of texts -/
section
variable {K : PySem.W.Frag} {σ : L2.St} {H : Hp} {te ta tb to : TE} {v : V} {D : Ends} {tz tu : TS}
theorem S_map (l : List Nm) : l.map nmV = (l.map SX.S).map V.str := by rw [List.map_map] <;> rfl
theorem sum_small {B : Nat} : ∀ {l : List (List Nat)}, (∀ x ∈ l, x.length ≤ B) → ((l.map SX.S).map (·.length)).sum ≤ B * l.length
  | [], _ => Nat.zero_le _
  | x :: l, h => by
    have z := sum_small (l := l) fun y hy => h y (List.mem_cons_of_mem _ hy)
    have y := h x List.mem_cons_self
    simp only [List.map_cons, List.sum_cons, List.length_cons]
    rw [SX.S_len, Nat.mul_add]
    omega
/-- sep.join(a list | a tuple of texts) -/
theorem ev_joinS {sep : List Nat} {l : List (List Nat)} {p : Addr} {B : Nat} (ho : Ev to σ H (.str (SX.S sep))) (he : Ev te σ H (.ref p)) (hp : SqL K H p ((l.map SX.S).map V.str) ∨ SqT K H p ((l.map SX.S).map V.str)) (hB : ∀ x ∈ l, x.length ≤ B) (small : B ≤ 1000 ∧ l.length ≤ 1000 ∧ sep.length ≤ 10) :
    Ev (tM1 (rJoin K) to te) σ H (.str (SX.S (TL.joinL sep l))) := fun H1 e1 Q q => ho H1 e1 _ fun H2 e2 => ⟨⟨_, rfl⟩, he H2 (e1.trans e2) _ fun H3 e3 => by
  refine ⟨SX.S sep, p, _, rfl, rfl, hp.imp (ex_l ((e1.trans e2).trans e3)) (ex_t ((e1.trans e2).trans e3)), ?_, by rw [SX.join_S]; exact q H3 (e2.trans e3)⟩
  have z := sum_small hB
  obtain ⟨b, c, d⟩ := small
  have m1 : B * l.length ≤ 1000 * 1000 := Nat.mul_le_mul b c
  have m2 : (l.map SX.S).length * (SX.S sep).length ≤ 1000 * 10 := Nat.mul_le_mul (by rw [List.length_map]; exact c) (by rw [SX.S_len]; exact d)
  omega⟩
theorem ev_fmtS {x : List Nat} (h : Ev te σ H (.str (SX.S x))) (l : x.length ≤ 100000) : Ev (tFmt te) σ H (.str (SX.S x)) := fun H1 e1 Q q => h H1 e1 _ fun H2 e2 => .inl ⟨_, rfl, by rw [SX.S_len]; exact sz_of l, q H2 e2⟩
theorem ev_fmtI {o : Nat} (h : Ev te σ H (.int (o : Int))) (l : o < 1000) : Ev (tFmt te) σ H (.str (SX.S (TL.numL o))) := fun H1 e1 Q q => h H1 e1 _ fun H2 e2 => .inr ⟨o, rfl, by
  have : (o : Int).natAbs.log2 < 10 := by
    by_cases z : o = 0
    · subst z
      decide
    · exact (Nat.log2_lt (by omega)).mpr (by omega)
  omega, by rw [numS]; exact q H2 e2⟩
theorem q_appX {l : Addr} {xs : List V} (hl : H l = some (.lst xs)) (ha : Ev ta σ H (.ref l)) (h : Ev te σ H v) (hz : xs.length < 100000) (k : ∀ H1, Ex H H1 → D.nx σ (upd H1 l (.lst (xs ++ [v])))) : tDrop (tBM K "list" rAppend ta (tCons te tNil)) D σ H := s_app hl ha h hz k
end
end SwX
set_option Elab.async false
set_option linter.all false
set_option maxRecDepth 100000
set_option maxHeartbeats 4000000
/-! isinstance of data, comprehensions over texts and tuples, enumerate: evaluation -/
namespace SwX
open PySem PySem.Spec PyProof.Rows L2 Evl
section
variable {K : PySem.W.Frag} {σ : L2.St} {H : Hp} {te ta tb to : TE} {v x : V} {D : Ends} {tz tu : TS} {t : TT}
theorem ty_tup {p : Addr} {xs : List V} (h : SqT K H p xs) : TyX K H (.ref p) (.type "tuple") := by
  rcases h with (h | ⟨o, h⟩) | ⟨o, its, n, h, c, _⟩
  · exact .base (.tup h)
  · exact .fTuple h
  · exact .kTuple h c
theorem ev_isi {T n : String} {b : Bool} (h : Ev te σ H x) (ty : ∀ H', Ex H H' → TyX K H' x (.type T)) (k : kitB T n = some b) : Ev (tCB (rIsi K) (tCons te (tCons (tC (.ty n)) tNil))) σ H (.bl b) := fun H1 e1 Q q =>
  h H1 e1 _ fun H2 e2 => ⟨x, .ty n, .type T, .type n, b, rfl, .ty n, ty H2 (e1.trans e2), kit_ty k, q H2 e2⟩
/-- [te for x in a tuple] -/
theorem el_lcT {a : Addr} {xs : List V} {tl : TE} {j : Nat} {vs : List Nat} (f : Nat → V) (h : Ev tl σ H (.ref a)) (hx : SqT K H a xs) (hz : xs.length ≤ 40000) (hw : ∀ x, wipe ((wipe σ vs).set j (some x)) vs = wipe σ vs)
    (he : ∀ (i : Nat) (x : V) H1, Ex H H1 → xs[i]? = some x → Ev te ((wipe σ vs).set j (some x)) H1 (f i)) : EvL (tLc (iTup K tl) (gName j) tYes te vs) σ H (given xs.length (fun _ => true) f) := fun H0 e Q q => h H0 e _ fun H1 e1 => ⟨a, rfl, ⟨xs, ex_t (e.trans e1) hx⟩, fun Dl hD =>
  lc_tup (xs := xs) (Cw H1 (fun _ => true) f Dl) ⟨hD, Ex.new hD, upd_same⟩ (fun i H' _ p => ex_t ((e.trans e1).trans p.2.1) hx) (fun i x H' hi p => ⟨hw x, cw_turn p (by have := (List.getElem?_eq_some_iff.mp hi).1; omega) (fun H4 _ Q' k => k H4 (Ex.refl H4)) (fun _ => he i x H1 (e.trans e1) hi)⟩)
    (fun H' p => q Dl H' (fresh_back e1 p.1) (e1.trans p.2.1) p.2.2)⟩
/-- [te for c in a text] -/
theorem el_lcZ {l : List Nat} {tl : TE} {j : Nat} {vs : List Nat} (f : Nat → V) (h : Ev tl σ H (.str (SX.S l))) (hz : l.length ≤ 40000) (hw : ∀ x, wipe ((wipe σ vs).set j (some x)) vs = wipe σ vs)
    (he : ∀ (i c : Nat) H1, Ex H H1 → l[i]? = some c → Ev te ((wipe σ vs).set j (some (.str ⟨#[c]⟩))) H1 (f i)) : EvL (tLc (iStr tl) (gName j) tYes te vs) σ H (given l.length (fun _ => true) f) := fun H0 e Q q => h H0 e _ fun H1 e1 => ⟨SX.S l, rfl, fun Dl hD => by
  have sz : (SX.S l).cps.size = l.length := by simp [SX.S]
  have w := walk_str (z := SX.S l)
  rw [sz] at w
  refine lc_it w (Cw H1 (fun _ => true) f Dl) ⟨hD, Ex.new hD, upd_same⟩ (fun _ _ _ _ => trivial) (fun i x H' H2 hi p y => ?_) (fun H' p => q Dl H' (fresh_back e1 p.1) (e1.trans p.2.1) p.2.2)
  obtain ⟨rfl, c, hc, rfl⟩ := y
  exact ⟨hw _, cw_turn p (by omega) (fun H4 _ Q' k => k H4 (Ex.refl H4)) (fun _ => he i c H1 (e.trans e1) (by simpa [SX.S] using hc))⟩⟩
theorem given_trues (n : Nat) : given n (fun _ => true) (fun _ => .bl true) = ((List.range n).map fun _ => true).map V.bl := by
  unfold given
  rw [List.filter_eq_self.mpr (fun _ _ => rfl), List.map_map] <;> rfl
theorem ev_allG {n : Nat} (h : EvL te σ H (given n (fun _ => true) (fun _ => .bl true))) : Ev (tCB (rAll K) (tCons te tNil)) σ H (.bl true) := by
  have z := ev_allT (K := K) (el_is h (given_trues n))
  have e : (((List.range n).map fun _ => true).all id) = true := by simp
  rw [e] at z
  exact z
theorem q_retE (h : Ev te σ H v) (k : ∀ H1, Ex H H1 → D.rt v H1) : tRet te D σ H := s_ret h k
theorem rv_signIn {c : Nat} {l : List Nat} {b : Bool} (h : decide (c ∈ l) = b) : RV (fun x y H Q => (∃ (c : Nat) (z : Str), x = .str ⟨#[c]⟩ ∧ y = .str z ∧ Q (.bl (decide (c ∈ z.cps.toList))) H) ∨ rInDat K false x y H Q) (.str ⟨#[c]⟩) (.str (SX.S l)) H (.bl b) := fun H1 _ Q q =>
  .inl ⟨c, SX.S l, rfl, rfl, by rw [show (SX.S l).cps.toList = l from rfl, h]; exact q H1 (Ex.refl H1)⟩
theorem rv_signNi {c : Nat} {l : List Nat} {b : Bool} (h : decide (c ∈ l) = b) : RV (fun x y H Q => (∃ (c : Nat) (z : Str), x = .str ⟨#[c]⟩ ∧ y = .str z ∧ Q (.bl (!decide (c ∈ z.cps.toList))) H) ∨ rInDat K true x y H Q) (.str ⟨#[c]⟩) (.str (SX.S l)) H (.bl (!b)) := fun H1 _ Q q =>
  .inl ⟨c, SX.S l, rfl, rfl, by rw [show (SX.S l).cps.toList = l from rfl, h]; exact q H1 (Ex.refl H1)⟩
theorem rv_ixZ {l : List Nat} {c : Nat} {i : Nat} (h : l[i]? = some c) (hl : l.length ≤ 100000) : RV (rIx K) (.str (SX.S l)) (.int (i : Int)) H (.str ⟨#[c]⟩) := fun H1 _ Q q => .inr (.inr ⟨SX.S l, i, c, rfl, rfl, by rw [SX.S_len]; exact sz_of hl, by
  show atI l (i : Int) = some c
  unfold atI
  rw [ixN_nat (List.getElem?_eq_some_iff.mp h).1]
  exact h, q H1 (Ex.refl H1)⟩)
theorem rv_ixTn {p : Addr} {xs : List V} {i : Nat} (h : SqT K H p xs) (ha : xs[i]? = some v) : RV (rIx K) (.ref p) (.int (i : Int)) H v := rv_ixTX h (by
  unfold atI
  rw [ixN_nat (List.getElem?_eq_some_iff.mp ha).1]
  exact ha)
theorem rv_ixLn {p : Addr} {xs : List V} {i : Nat} (h : SqL K H p xs) (ha : xs[i]? = some v) : RV (rIx K) (.ref p) (.int (i : Int)) H v := rv_ixLX h (by
  unfold atI
  rw [ixN_nat (List.getElem?_eq_some_iff.mp ha).1]
  exact ha)
/-- a slice of a tuple -/
theorem yi_slT {p : Addr} {xs : List V} {lo hi : Option Int} {tl th : TO} (ha : Ev te σ H (.ref p)) (hp : SqT K H p xs) (hl : EvO tl σ H lo) (hh : EvO th σ H hi) : Yi (tSl (rSlY K) te tl th) σ H fun v H' => ∃ q, v = .ref q ∧ SqT K H' q (cutV xs lo hi) := fun H1 e1 Q q =>
  ha H1 e1 _ fun H2 e2 => hl H2 (e1.trans e2) _ fun H3 e3 => hh H3 ((e1.trans e2).trans e3) _ fun H4 e4 => by
    have hp4 := ex_t (((e1.trans e2).trans e3).trans e4) hp
    refine .inr (.inl ⟨p, xs, rfl, hp4, fun w => ?_, fun w c hc => ?_⟩)
    · refine q _ H4 ((e2.trans e3).trans e4) ⟨p, rfl, ?_⟩
      unfold cutV
      rw [w.1, w.2, List.drop_zero, Nat.sub_zero, List.take_length]
      exact hp4
    · exact q _ _ (((e2.trans e3).trans e4).trans (Ex.new hc)) ⟨c, rfl, .inl (.inl upd_same)⟩
theorem cut_take (xs : List V) (n : Nat) : cutV xs none (some (n : Int)) = xs.take n := by
  unfold cutV
  rw [HT.sIx_nat, HT.sIx_none, List.drop_zero, Nat.sub_zero]
  rcases Nat.le_total n xs.length with h | h
  · rw [Nat.min_eq_left h]
  · rw [Nat.min_eq_right h, List.take_length, List.take_of_length_le h]
theorem cut_drop (xs : List V) (n : Nat) : cutV xs (some (n : Int)) none = xs.drop n := by
  unfold cutV
  rw [HT.sIx_nat, HT.sIx_none]
  rcases Nat.le_total n xs.length with h | h
  · rw [Nat.min_eq_left h, List.take_of_length_le (by rw [List.length_drop]; exact Nat.le_refl _)]
  · rw [Nat.min_eq_right h, List.drop_of_length_le (Nat.le_refl _), List.drop_of_length_le h, List.take_nil]
theorem el_slL {p : Addr} {xs : List V} {lo hi : Option Int} {tl th : TO} (ha : Ev te σ H (.ref p)) (hp : SqL K H p xs) (hl : EvO tl σ H lo) (hh : EvO th σ H hi) : EvL (tSl (rSlY K) te tl th) σ H (cutV xs lo hi) := fun H1 e1 Q q =>
  ha H1 e1 _ fun H2 e2 => hl H2 (e1.trans e2) _ fun H3 e3 => hh H3 ((e1.trans e2).trans e3) _ fun H4 e4 =>
    .inl ⟨p, xs, rfl, ex_l (((e1.trans e2).trans e3).trans e4) hp, fun c hc => q c _ (fresh_back ((e2.trans e3).trans e4) hc) (((e2.trans e3).trans e4).trans (Ex.new hc)) upd_same⟩
/-- x in a thing made on the way -/
theorem ev_inY {d c : PyData} {ds : List PyData} {b : Bool} (hc : c = .list ds ∨ c = .tuple ds) (ha : Ev ta σ H x) (hx : ∀ H', Ex H H' → Da K H' x d) (hb : Yi tb σ H fun v H' => Da K H' v c) (px : Pl d) (py : Pl c) (e : (ds.any fun z => PyData.eqv z d) = b) :
    Ev (tOp (fun x y H Q => (∃ (c : Nat) (z : Str), x = .str ⟨#[c]⟩ ∧ y = .str z ∧ Q (.bl (decide (c ∈ z.cps.toList))) H) ∨ rInDat K false x y H Q) ta tb) σ H (.bl b) := fun H1 e1 Q q => ha H1 e1 _ fun H2 e2 => hb H2 (e1.trans e2) _ fun y H3 e3 hy =>
  .inr ⟨d, c, ds, hc, hx H3 ((e1.trans e2).trans e3), hy, px, py, by subst e; exact q H3 (e2.trans e3)⟩
/-- for i, x in enumerate(a tuple) -/
theorem q_forEnumT {p : Addr} {xs : List V} {tl : TE} {i1 i2 : Nat} (h : Ev tl σ H (.ref p)) (hp : SqT K H p xs) (Pv : Nat → L2.St → Hp → Prop) (h0 : ∀ H1, Ex H H1 → Pv 0 σ H1) (hl : ∀ i σ' H', i ≤ xs.length → Pv i σ' H' → SqT K H' p xs)
    (hs : ∀ i x σ' H' T, xs[i]? = some x → H' T = none → Pv i σ' H' → tu { D with nx := Pv (i + 1), ct := Pv (i + 1), bk := tz D } ((σ'.set i1 (some (.int (i : Nat)))).set i2 (some x)) (upd H' T (.tup [.int (i : Nat), x]))) (hd : ∀ σ' H', Pv xs.length σ' H' → tz D σ' H') :
    tSeq (tFor (iEnumT K (tCons tl tNil)) (gTup K 2 (gCons (gName i1) (gCons (gName i2) gNil))) tu) tz D σ H := h H (Ex.refl H) _ fun H1 e1 =>
  ⟨p, xs, rfl, ex_t e1 hp, for_enumT Pv (h0 H1 e1) hl (fun i x T σ' H' hx hT z => ⟨T, _, rfl, .inl (.inl upd_same), rfl, _, _, rfl, _, _, rfl, rfl, hs i x σ' H' T hx hT z⟩) hd⟩
end
end SwX
set_option Elab.async false
set_option linter.all false
set_option maxRecDepth 100000
set_option maxHeartbeats 4000000
/-! comprehensions that make objects; split, partition -/
namespace SwX
open PySem PySem.Spec PyProof.Rows L2 Evl
theorem less_upd_same {D : Addr} {H : Hp} {o : HO} : less D (upd H D o) = less D H := by
  funext b
  unfold less
  split
  · rfl
  · rename_i n
    exact upd_ne n
section
variable {K : PySem.W.Frag} {σ : L2.St} {H : Hp} {te tl ta to : TE} {v x : V} {α : Type} {F : α → V → Hp → Prop} {is : List α} {xs : List V}
/-- [te for x in a list], each a new thing of which F holds aside of whatever stood before -/
theorem yi_lcL {j : Nat} {vs : List Nat} (m : ∀ i v H H', Ex H H' → F i v H → F i v H') (h : EvL tl σ H xs) (l : xs.length = is.length) (hz : xs.length ≤ 1000) (hw : ∀ x, wipe ((wipe σ vs).set j (some x)) vs = wipe σ vs)
    (he : ∀ (i : Nat) (x : V) (d : α) H1, Ex H H1 → xs[i]? = some x → is[i]? = some d → ∀ Q : VK, (∀ v H2, Ex H1 H2 → (∀ a, H1 a ≠ none → F d v (less a H2)) → Q v H2) → te ((wipe σ vs).set j (some x)) H1 Q) : Yi (tLc (iList K tl) (gName j) tYes te vs) σ H (LstOf F is) := fun H0 e0 Q q =>
  h H0 e0 _ fun p H1 n1 e1 h1 => ⟨p, rfl, ⟨xs, sq_of h1⟩, fun D hD => by
    have ne : p ≠ D := fun z => by rw [z, hD] at h1; cases h1
    refine lc_list (xs := xs) (fun i H' => ∃ acc, H' D = some (.lst acc) ∧ Paired (fun d v => F d v (less D H')) (is.take i) acc ∧ Ex H1 H') ⟨[], upd_same, by rw [List.take_zero]; exact .nil, Ex.new hD⟩ (fun i H' _ z => sq_of (z.choose_spec.2.2 _ _ h1)) (fun i x H' hx z => ⟨hw x, ?_⟩) fun H' z => ?_
    · obtain ⟨acc, ha, pa, ea⟩ := z
      have lt : i < is.length := by
        rw [← l]
        exact (List.getElem?_eq_some_iff.mp hx).1
      have at_ : is[i]? = some is[i] := by simp [lt]
      show te ((wipe σ vs).set j (some x)) H' fun y H4 => ∃ acc, H4 D = some (.lst acc) ∧ acc.length < sizeLine ∧ ∃ acc', upd H4 D (.lst (acc ++ [y])) D = some (.lst acc') ∧ Paired (fun d v => F d v (less D (upd H4 D (.lst (acc ++ [y]))))) (is.take (i + 1)) acc' ∧ Ex H1 (upd H4 D (.lst (acc ++ [y])))
      refine he i x is[i] H' ((e0.trans e1).trans ea) hx at_ _ fun y H4 e4 fy => ?_
      have ln := paired_len pa
      rw [List.length_take] at ln
      refine ⟨acc, e4 _ _ ha, sz_lt (by omega), _, upd_same, ?_, ?_⟩
      · rw [less_upd_same, List.take_succ, at_]
        exact paired_append (paired_mono (F := fun d v H => F d v H) (less_mono e4) m pa) (.cons (fy D (by rw [ha]; exact fun z => nomatch z)) .nil)
      · intro b o hb
        have nb : b ≠ D := fun z => by rw [z, hD] at hb; cases hb
        rw [upd_ne nb]
        exact e4 _ _ (ea _ _ hb)
    · obtain ⟨acc, ha, pa, ea⟩ := z
      rw [l, List.take_length] at pa
      exact q (.ref D) H' (e1.trans ea) ⟨D, acc, rfl, ha, paired_mono (F := fun d v H => F d v H) less_ex m pa⟩⟩
/-- s.split(sep), of a joined text -/
theorem el_split {c : Nat} {sep : List Nat} {parts : List (List Nat)} (ho : Ev to σ H (.str (SX.S (TL.joinL (c :: sep) parts)))) (he : Ev te σ H (.str (SX.S (c :: sep)))) (ne : parts ≠ []) (free : ∀ p ∈ parts, c ∉ p) (small : (TL.joinL (c :: sep) parts).length ≤ 100000) (lo : (c :: sep).all (· < 256) = true) :
    EvL (tM1 (fun x xs H Q => ∃ a b, x = .str a ∧ xs = [.str b] ∧ (b.length == 0) = false ∧ a.length + 2 ≤ sizeLine ∧ rNewStrs (Txt.split a b) H Q) to te) σ H ((parts.map SX.S).map V.str) := fun H1 e1 Q q =>
  ho H1 e1 _ fun H2 e2 => ⟨⟨_, rfl⟩, he H2 (e1.trans e2) _ fun H3 e3 => ⟨_, _, rfl, rfl, by rw [SX.S_len]; rfl, by
    rw [SX.S_len]
    exact Nat.le_trans (show _ ≤ 100002 by omega) (by decide), fun p hp => by
    rw [SX.split_S (List.cons_ne_nil _ _) lo, SX.spl_join ne free]
    exact q p _ (fresh_back (e2.trans e3) hp) ((e2.trans e3).trans (Ex.new hp)) upd_same⟩⟩
/-- s.partition(sep): (p, sep, q) | (s, "", "") -/
theorem yu_part {c : Nat} {sep a p m q : List Nat} (ho : Ev to σ H (.str (SX.S a))) (he : Ev te σ H (.str (SX.S (c :: sep)))) (h : (a = p ++ (c :: sep ++ q) ∧ c ∉ p ∧ m = c :: sep) ∨ (c ∉ a ∧ p = a ∧ m = [] ∧ q = [])) (small : a.length ≤ 100000) :
    EvU (tM1 (fun x xs H Q => ∃ a b, x = .str a ∧ xs = [.str b] ∧ (b.length == 0) = false ∧ a.length ≤ sizeLine ∧ ∀ p, H p = none → Q (.ref p) (upd H p (.tup [.str (Txt.partition a b).1, .str (Txt.partition a b).2.1, .str (Txt.partition a b).2.2]))) to te) σ H [.str (SX.S p), .str (SX.S m), .str (SX.S q)] := fun H1 e1 Q k =>
  ho H1 e1 _ fun H2 e2 => ⟨⟨_, rfl⟩, he H2 (e1.trans e2) _ fun H3 e3 => ⟨_, _, rfl, rfl, by rw [SX.S_len]; rfl, by rw [SX.S_len]; exact sz_of small, fun r hr => by
    refine k r _ (fresh_back (e2.trans e3) hr) ((e2.trans e3).trans (Ex.new hr)) ?_
    rcases h with ⟨rfl, f, rfl⟩ | ⟨f, rfl, rfl, rfl⟩
    · rw [upd_same, SX.partition_some (List.cons_ne_nil _ _) (SX.par_head q f)]
    · rw [upd_same, SX.partition_none (List.cons_ne_nil _ _) (SX.par_head_none f)]⟩⟩
/-- tuple(a new list) -/
theorem eu_tupOf (h : EvL te σ H xs) : EvU (tCB (rTupOf K) (tCons te tNil)) σ H xs := fun H1 e1 Q q => h H1 e1 _ fun p H2 n2 e2 h2 => ⟨p, xs, rfl, .inl ⟨sq_of h2, fun c hc => q c _ (fresh_back e2 hc) (e2.trans (Ex.new hc)) upd_same⟩⟩
theorem yi_tupOf (m : ∀ i v H H', Ex H H' → F i v H → F i v H') (h : Yi te σ H (LstOf F is)) : Yi (tCB (rTupOf K) (tCons te tNil)) σ H fun v H' => ∃ p vs, v = .ref p ∧ H' p = some (.tup vs) ∧ Paired (fun i v => F i v H') is vs := fun H1 e1 Q q => h H1 e1 _ fun v H2 e2 z => by
  obtain ⟨p, vs, rfl, hp, pr⟩ := z
  exact ⟨p, vs, rfl, .inl ⟨sq_of hp, fun c hc => q _ _ (e2.trans (Ex.new hc)) ⟨c, vs, rfl, upd_same, paired_mono (Ex.new hc) m pr⟩⟩⟩
end
end SwX
set_option Elab.async false
set_option linter.all false
set_option maxRecDepth 100000
set_option maxHeartbeats 4000000
/-! comprehensions with a test over tuples -/
namespace SwX
open PySem PySem.Spec PyProof.Rows L2 Evl
theorem fldK {X : Cx} (K : PySem.W.Frag) {e : Expr} {f : Str} {pos : Pos} {ta : TE} (he : PE X e ta) (hb : attributeBase e f X.env (eval e X.env) = eval e X.env) (h : X.K = K := by rfl) : PE X (.Attribute e f pos) (tFld K ta f) := h ▸ pe_fld he hb
section
variable {K : PySem.W.Frag} {σ : L2.St} {H : Hp} {te tl ta to : TE} {tt : TT} {v x : V} {α : Type} {F : α → V → Hp → Prop} {is : List α} {xs : List V}
/-- [x for x in a tuple if ..] -/
theorem yi_lcTF {j : Nat} {vs : List Nat} (b : α → Bool) (m : ∀ i v H H', Ex H H' → F i v H → F i v H') (h : Yi tl σ H fun v H' => ∃ a xs, v = .ref a ∧ SqT K H' a xs ∧ Paired (fun i v => F i v H') is xs) (hz : is.length ≤ 1000) (hw : ∀ x, wipe ((wipe σ vs).set j (some x)) vs = wipe σ vs) (hj : ∀ x : V, ((wipe σ vs).set j (some x))[j]? = some (some x))
    (ht : ∀ (i : α) (x : V) H1, Ex H H1 → i ∈ is → F i x H1 → EvT tt ((wipe σ vs).set j (some x)) H1 (b i)) : Yi (tLc (iTup K tl) (gName j) tt (tVar j) vs) σ H (LstOf F (is.filter b)) := fun H0 e0 Q q =>
  h H0 e0 _ fun w H1 e1 z => by
    obtain ⟨p, xs, rfl, hp, pr⟩ := z
    have len := paired_len pr
    refine ⟨p, rfl, ⟨xs, hp⟩, fun D hD => ?_⟩
    refine lc_tup (xs := xs) (fun i H' => ∃ acc, H' D = some (.lst acc) ∧ Paired (fun d v => F d v H1) ((is.take i).filter b) acc ∧ Ex H1 H') ⟨[], upd_same, by rw [List.take_zero]; exact .nil, Ex.new hD⟩ (fun i H' _ z => ex_t z.choose_spec.2.2 hp) (fun i x H' hx z => ⟨hw x, ?_⟩) fun H' z => ?_
    · obtain ⟨acc, ha, pa, ea⟩ := z
      have lt : i < is.length := by
        rw [len]
        exact (List.getElem?_eq_some_iff.mp hx).1
      have at_ : is[i]? = some is[i] := by simp [lt]
      obtain ⟨x', hx', fx⟩ := SwX.paired_get pr at_
      rw [hx] at hx'
      cases hx'
      have ln := paired_len pa
      have le : acc.length ≤ is.length := by
        rw [← ln]
        exact Nat.le_trans (List.length_filter_le _ _) (by rw [List.length_take]; omega)
      have add : (is.take (i + 1)).filter b = (is.take i).filter b ++ (if b is[i] = true then [is[i]] else []) := by
        rw [List.take_succ, at_, List.filter_append]
        show _ ++ List.filter b [is[i]] = _
        by_cases z : b is[i] = true
        · rw [if_pos z, List.filter_cons_of_pos z] <;> rfl
        · rw [if_neg z, List.filter_cons_of_neg z] <;> rfl
      refine ht is[i] x H' ((e0.trans e1).trans ea) (List.getElem_mem lt) (m _ _ _ _ ea fx) H' (Ex.refl _) _ fun H3 e3 => ?_
      cases hb : b is[i] with
      | true =>
        show tVar j ((wipe σ vs).set j (some x)) H3 fun y H4 => ∃ acc, H4 D = some (.lst acc) ∧ acc.length < sizeLine ∧ ∃ acc', upd H4 D (.lst (acc ++ [y])) D = some (.lst acc') ∧ Paired (fun d v => F d v H1) ((is.take (i + 1)).filter b) acc' ∧ Ex H1 (upd H4 D (.lst (acc ++ [y])))
        refine ⟨x, hj x, acc, e3 _ _ ha, sz_lt (by omega), _, upd_same, ?_, ?_⟩
        · rw [add, if_pos hb]
          exact paired_append pa (.cons fx .nil)
        · intro c o hc
          have nc : c ≠ D := fun z => by rw [z, hD] at hc; cases hc
          rw [upd_ne nc]
          exact e3 _ _ (ea _ _ hc)
      | false =>
        show ∃ acc', H3 D = some (.lst acc') ∧ Paired (fun d v => F d v H1) ((is.take (i + 1)).filter b) acc' ∧ Ex H1 H3
        refine ⟨acc, e3 _ _ ha, ?_, ea.trans e3⟩
        rw [add, if_neg (by rw [hb]; decide), List.append_nil]
        exact pa
    · obtain ⟨acc, ha, pa, ea⟩ := z
      rw [← len, List.take_length] at pa
      exact q (.ref D) H' (e1.trans ea) ⟨D, acc, rfl, ha, paired_mono ea m pa⟩
end
end SwX
set_option Elab.async false
set_option linter.all false
set_option maxRecDepth 100000
set_option maxHeartbeats 4000000
/-! comprehensions over enumerate(a tuple) with a test; bool of an own instance -/
namespace SwX
open PySem PySem.Spec PyProof.Rows L2 Evl
theorem walk_enumT {K : PySem.W.Frag} {a : Addr} {xs : List V} : Walk (Itu K a) xs.length (fun H => SqT K H a xs) (fun i H v H' => ∃ T x, v = .ref T ∧ H T = none ∧ H' = upd H T (.tup [.int (i : Nat), x]) ∧ xs[i]? = some x) :=
  ⟨fun i H hi q => ⟨xs, xs[i], q, List.getElem?_eq_getElem hi⟩, fun H q => ⟨xs, q, rfl⟩, fun i H v H' hi q y => by
    obtain ⟨T, x, rfl, n, rfl, at_⟩ := y
    exact ⟨T, x, rfl, n, rfl, at_ xs q⟩⟩
/-- those whose places b wants, from place k on -/
def keepAt {α : Type} (b : Nat → Bool) : Nat → List α → List α
  | _, [] => []
  | k, x :: r => if b k = true then x :: keepAt b (k + 1) r else keepAt b (k + 1) r
theorem keepAt_snoc {α : Type} (b : Nat → Bool) (x : α) : ∀ (l : List α) (k : Nat), keepAt b k (l ++ [x]) = keepAt b k l ++ if b (k + l.length) = true then [x] else []
  | [], k => by
    show (if b k = true then x :: [] else []) = _
    simp [keepAt]
  | y :: l, k => by
    have z := keepAt_snoc b x l (k + 1)
    rw [show k + 1 + l.length = k + (y :: l).length by simp; omega] at z
    show (if b k = true then y :: keepAt b (k + 1) (l ++ [x]) else keepAt b (k + 1) (l ++ [x])) = (if b k = true then y :: keepAt b (k + 1) l else keepAt b (k + 1) l) ++ _
    rw [z]
    split <;> rfl
theorem keepAt_len {α : Type} (b : Nat → Bool) : ∀ (l : List α) (k : Nat), (keepAt b k l).length ≤ l.length
  | [], _ => Nat.le_refl _
  | y :: l, k => by
    have z := keepAt_len b l (k + 1)
    show (if b k = true then y :: keepAt b (k + 1) l else keepAt b (k + 1) l).length ≤ _
    split <;> simp only [List.length_cons] <;> omega
section
variable {K : PySem.W.Frag} {σ : L2.St} {H : Hp} {te tl ta to : TE} {tt : TT} {v x : V} {α : Type} {F : α → V → Hp → Prop} {is : List α} {xs : List V}
/-- [x for i, x in enumerate(a tuple) if ..] -/
theorem yi_lcET {j1 j2 : Nat} {vs : List Nat} (b : Nat → Bool) (m : ∀ i v H H', Ex H H' → F i v H → F i v H') (h : Yi tl σ H fun v H' => ∃ a xs, v = .ref a ∧ SqT K H' a xs ∧ Paired (fun i v => F i v H') is xs) (hz : is.length ≤ 1000)
    (hw : ∀ x y, wipe (((wipe σ vs).set j1 (some x)).set j2 (some y)) vs = wipe σ vs) (hj : ∀ x y : V, (((wipe σ vs).set j1 (some x)).set j2 (some y))[j2]? = some (some y))
    (ht : ∀ (i : Nat) (x : V) H1, Ex H H1 → i < is.length → EvT tt (((wipe σ vs).set j1 (some (.int (i : Nat)))).set j2 (some x)) H1 (b i)) : Yi (tLc (iEnumT K (tCons tl tNil)) (gTup K 2 (gCons (gName j1) (gCons (gName j2) gNil))) tt (tVar j2) vs) σ H (LstOf F (keepAt b 0 is)) := fun H0 e0 Q q =>
  h H0 e0 _ fun w H1 e1 z => by
    obtain ⟨p, xs, rfl, hp, pr⟩ := z
    have len := paired_len pr
    refine ⟨p, xs, rfl, hp, fun D hD => ?_⟩
    refine lc_it (walk_enumT (K := K) (a := p) (xs := xs)) (fun i H' => ∃ acc, H' D = some (.lst acc) ∧ Paired (fun d v => F d v H1) (keepAt b 0 (is.take i)) acc ∧ Ex H1 H') ⟨[], upd_same, by rw [List.take_zero]; exact .nil, Ex.new hD⟩ (fun i H' _ z => ex_t z.choose_spec.2.2 hp) (fun i x H' H2 hi z y => ?_) fun H' z => ?_
    · obtain ⟨acc, ha, pa, ea⟩ := z
      obtain ⟨T, x, rfl, nT, rfl, hx⟩ := y
      have lt : i < is.length := by omega
      have at_ : is[i]? = some is[i] := by simp [lt]
      obtain ⟨x', hx', fx⟩ := SwX.paired_get pr at_
      rw [hx] at hx'
      cases hx'
      have eT : Ex H' (upd H' T (.tup [.int (i : Nat), x])) := Ex.new nT
      refine ⟨T, _, rfl, .inl (.inl upd_same), rfl, _, _, rfl, _, _, rfl, rfl, hw _ _, ?_⟩
      have ln := paired_len pa
      have le : acc.length ≤ is.length := by
        rw [← ln]
        exact Nat.le_trans (keepAt_len _ _ _) (by rw [List.length_take]; omega)
      have add : keepAt b 0 (is.take (i + 1)) = keepAt b 0 (is.take i) ++ (if b i = true then [is[i]] else []) := by
        rw [List.take_succ, at_]
        show keepAt b 0 (is.take i ++ [is[i]]) = _
        rw [keepAt_snoc, List.length_take, Nat.min_eq_left (Nat.le_of_lt lt), Nat.zero_add]
      refine ht i x _ (((e0.trans e1).trans ea).trans eT) lt _ (Ex.refl _) _ fun H3 e3 => ?_
      cases hb : b i with
      | true =>
        show tVar j2 _ H3 fun y H4 => ∃ acc, H4 D = some (.lst acc) ∧ acc.length < sizeLine ∧ ∃ acc', upd H4 D (.lst (acc ++ [y])) D = some (.lst acc') ∧ Paired (fun d v => F d v H1) (keepAt b 0 (is.take (i + 1))) acc' ∧ Ex H1 (upd H4 D (.lst (acc ++ [y])))
        refine ⟨x, hj _ x, acc, e3 _ _ (eT _ _ ha), sz_lt (by omega), _, upd_same, ?_, ?_⟩
        · rw [add, if_pos hb]
          exact paired_append pa (.cons fx .nil)
        · intro c o hc
          have nc : c ≠ D := fun z => by rw [z, hD] at hc; cases hc
          rw [upd_ne nc]
          exact e3 _ _ (eT _ _ (ea _ _ hc))
      | false =>
        show ∃ acc', H3 D = some (.lst acc') ∧ Paired (fun d v => F d v H1) (keepAt b 0 (is.take (i + 1))) acc' ∧ Ex H1 H3
        refine ⟨acc, e3 _ _ (eT _ _ ha), ?_, (ea.trans eT).trans e3⟩
        rw [add, if_neg (by rw [hb]; decide), List.append_nil]
        exact pa
    · obtain ⟨acc, ha, pa, ea⟩ := z
      rw [← len, List.take_length] at pa
      exact q (.ref D) H' (e1.trans ea) ⟨D, acc, rfl, ha, paired_mono ea m pa⟩
end
end SwX
set_option Elab.async false
set_option linter.all false
set_option maxRecDepth 100000
set_option maxHeartbeats 1000000
/-! bool of an own instance -/
namespace SwX
open PySem PySem.Spec PyProof.Rows L2 Evl
theorem bool_made {prog : Program} {w : World} {A : Around} {E : Value → Shared → Prop} {s : Shared} {x : Addr} {Q : Value → Shared → Prop} (h : wpAny (model prog w) A.in1.in1 (truthy (.ref x)) (fun b s' => Q (.bool b) s') E s) : wpAny (model prog w) A (call (.type "bool") [.ref x]) Q E s := by
  refine callType_codes (T := "bool") (Bi := Builtin.«object.__init__») (Q₁ := fun r s₁ => ∃ b, r = .bool b ∧ Q r s₁) PySem.F.called_bool (PySem.F.typeCall_bool_1 _) PySem.F.entry_object_init ?_ ?_
  · refine codeAny_of_tree ?_
    show wpAny _ A.in1.in1 (do checkBuiltinCall "bool.__new__" ⟨[.type "bool", .ref x], []⟩; again (.builtin "bool.__new__" ⟨[.type "bool", .ref x], []⟩)) _ _ s
    refine wpAny_bind (wpAny_of_eq (PySem.F.newCall_bool_1 _) (wpAny_pure ⟨plainId_quiet (by decide +kernel) _, codeAny_builtin PySem.F.entry_bool_new ?_⟩))
    rw [Around.under_plainId (by decide +kernel) _]
    unfold Builtin.«bool.__new__»
    have sub := F.conv_sub_bool
    obtain ⟨hp, gs, dr, tk, os⟩ := s
    repeat (any_goals (first | assumption | (refine wpAny_bind (m := truthy (.ref x)) (wpAny_mono h (fun b s' hb => ?_) fun _ _ z => z)) | wp_step))
    exact ⟨_, rfl, hb⟩
  · rintro obj s₁ ⟨b, rfl, q⟩
    have ty : s₁.TypeIs (.bool b) "bool" := by first | exact rfl | exact typeIs_bool _ _
    exact ⟨ty, PySem.F.args_object_init_2 _ _, object_init_meets PySem.F.called_bool.init.lookup PySem.F.called_bool.made (by decide) prog w A.in1 _ s₁ ⟨ty, rfl, q⟩⟩
def rBoolOwn (C : Addr) (sp : Sp) (E : XK) : List V → Hp → VK → Prop := fun xs H Q => ∃ a, xs = [.ref a] ∧ IsI H a C ∧ sp [.ref a] H (fun v H' => ∃ k : Bool, v = .bl k ∧ Q (.bl k) H') E
theorem call_boolOwn {X : Cx} {CX : CXT} {n : Nat} {f C : Addr} {fd : FuncData} {ps : List Str} {sp : Sp} {E : XK} (F : FnOk X.prog X.w X.K X.mg X.base CX n f fd ps sp) (S : Spc X.K C "__bool__" f) (b : Binds X.K fd ps []) (out : Passes CX X E) (room : Room n X.A.in1.in1) : CallR X (.type "bool") (rBoolOwn C sp E) := by
  intro pins s σ H xs us Q I r h
  obtain ⟨a, rfl, ia, q⟩ := h
  obtain ⟨u, rfl, ru⟩ := Vals.one r
  cases ru
  obtain ⟨ox, od, J⟩ := ia.look I
  obtain ⟨m, fr⟩ := I.fr
  refine bool_made (PySem.W.truthy_K fr I.ok.mod.kin J S.at_ S.fn (wpAny_mono (by_machine F room rfl b out I (.cons (rel_ref _) .nil) q) (fun r s' z => ?_) fun _ _ z => z))
  obtain ⟨v, H', K', rv, k, rfl, q'⟩ := z
  cases rv
  exact ⟨.bl k, H', K', rel_bl _, q'⟩
end SwX
set_option Elab.async false
set_option linter.all false
set_option maxRecDepth 100000
set_option maxHeartbeats 1000000
/-! t[::-1] of a tuple -/
namespace SwX
open PySem PySem.Spec PyProof.Rows L2 Evl HT
section
variable {prog : Program} {w : World} {A : Around} {E : Value → Shared → Prop} {s : Shared}
theorem adjust_back (n : Nat) : Builtin.Slice.sliceAdjust none none (-1) (n : Int) = ((n : Int) - 1, -1) := by
  unfold Builtin.Slice.sliceAdjust
  simp
theorem places_back (n : Nat) : Builtin.Slice.slicePlaces ((n : Int) - 1) (-1) (-1) = n := by
  unfold Builtin.Slice.slicePlaces
  simp
  omega
theorem slice_back {sl : Addr} {vl vu vs : Value} {n : Nat} {Q : Int × Int × Nat → Shared → Prop} (hs : s.heap.IsSliceOf sl vl vu vs) (pl : IsPart vl none) (pu : IsPart vu none) (ps : IsPart vs (some (-1))) (h : Q ((n : Int) - 1, -1, n) s) : wpAny (model prog w) A (Builtin.Slice.sliceApplied (.ref sl) (pure (n : Int))) Q E s := by
  obtain ⟨os, at_, _, dat⟩ := hs
  unfold Builtin.Slice.sliceApplied Builtin.Slice.sliceFields
  refine wpAny_bind (wpAny_bind (wpAny_field at_ dat (x := vl) rfl (wpAny_bind (wpAny_field at_ dat (x := vu) rfl (wpAny_bind (wpAny_field at_ dat (x := vs) rfl (wpAny_pure ?_)))))))
  refine wpAny_bind (slicePart_ ps ?_)
  show wpAny _ _ (if ((-1 : Int) == 0) = true then _ else _) _ _ s
  rw [if_neg (by decide)]
  refine wpAny_bind (slicePart_ pl (wpAny_bind (slicePart_ pu (wpAny_bind (wpAny_pure ?_)))))
  show wpAny _ _ (match Builtin.Slice.sliceAdjust none none (-1) (n : Int) with | (lo, hi) => pure (lo, (-1 : Int), Builtin.Slice.slicePlaces lo hi (-1))) _ _ s
  rw [adjust_back]
  show wpAny _ _ (pure ((n : Int) - 1, (-1 : Int), Builtin.Slice.slicePlaces ((n : Int) - 1) (-1) (-1))) _ _ s
  rw [places_back]
  exact wpAny_pure h
theorem pick_back (xs : Array Value) : ((List.range xs.size).filterMap fun (k : Nat) => xs[(((xs.size : Int) - 1) + (k : Int) * (-1)).toNat]?).toArray = xs.toList.reverse.toArray := by
  have e : (fun (k : Nat) => xs[(((xs.size : Int) - 1) + (k : Int) * (-1)).toNat]?) = fun (k : Nat) => xs[(((xs.size : Int) - 1) - (k : Int)).toNat]? := by
    funext k
    rw [show ((xs.size : Int) - 1) + (k : Int) * (-1) = ((xs.size : Int) - 1) - (k : Int) by omega]
  rw [e]
  apply congrArg
  apply List.ext_getElem?
  intro i
  have key : ∀ m, m ≤ xs.size → ((List.range m).filterMap fun (k : Nat) => xs[(((xs.size : Int) - 1) - (k : Int)).toNat]?) = xs.toList.reverse.take m := by
    intro m
    induction m with
    | zero => intro _; simp
    | succ m ih =>
      intro hm
      have lt : xs.size - 1 - m < xs.size := by omega
      rw [List.range_succ, List.filterMap_append, ih (by omega), List.take_succ]
      congr 1
      have e1 : (((xs.size : Int) - 1) - (m : Int)).toNat = xs.size - 1 - m := by omega
      simp only [List.filterMap_cons, List.filterMap_nil, e1]
      rw [Array.getElem?_eq_getElem lt, List.getElem?_reverse (by simpa using (show m < xs.size by omega))]
      simp
      rw [Array.getElem?_eq_getElem lt] <;> rfl
  rw [key xs.size (Nat.le_refl _), List.take_of_length_le (by simp)]
theorem item_back {t sl : Addr} {items : Array Value} {vl vu vs : Value} {Q : Value → Shared → Prop} (ht : IsTup s.heap t items) (hs : s.heap.IsSliceOf sl vl vu vs) (pl : IsPart vl none) (pu : IsPart vu none) (ps : IsPart vs (some (-1)))
    (h : Q (.ref s.heap.objs.size) { s with heap := s.heap.push { cls := .type "tuple", data := .seq items.toList.reverse.toArray } }) (small : items.size ≤ sizeLine) : wpAny (model prog w) A (getItem (.ref t) (.ref sl)) Q E s := by
  have fits : sizeOk (.seq items.toList.reverse.toArray) := by
    show items.toList.reverse.toArray.size ≤ sizeLine
    rw [List.size_toArray, List.length_reverse, Array.length_toList]
    exact small
  have isS : s.TypeIs (.ref sl) "slice" := let ⟨os, at_, c, _⟩ := hs; ⟨os, at_, c⟩
  unfold getItem
  try with_reducible refine wpAny_holding ?_
  first | refine wpAny_bind (wpAny_pure ?_) | skip
  refine wpAny_bind (wpAny_sequenceKey ht.typeIs (by decide) ?_)
  refine wpAny_bind (wpAny_callSpecial?_slot (name := Str.ofString "__getitem__") ht.typeIs PyProof.Rows.slot_tuple_getitem (wpAny_call_entry PyProof.Rows.slot_tuple_getitem ht.typeIs entry_tuple_getitem ?_ (args_tuple_getitem _ _)))
  show wpAny _ _ (Builtin.Tuple.tupleItemsOf (.ref t) >>= _) _ _ s
  refine wpAny_bind (tupleItemsOf_ ht (wpAny_bind (wpAny_typeOf isS ?_)))
  rw [if_pos (by decide)]
  refine wpAny_bind (slice_back hs pl pu ps ?_)
  have never : ¬ ((((items.size : Int) - 1 : Int) == 0 && (-1 : Int) == 1 && items.size == items.size) = true) := by simp
  show wpAny _ _ (if (((items.size : Int) - 1 : Int) == 0 && (-1 : Int) == 1 && items.size == items.size) = true then _ else _) _ _ s
  rw [if_neg never, pick_back]
  first
    | exact wpAny_bind (m := Builtin.Tuple.tupleExact _) (wpAny_newObj_type (wpAny_pure ⟨_, rfl, wpAny_pure h⟩) fits)
    | exact wpAny_bind (m := Builtin.Tuple.tupleExact _) (wpAny_newObj_type (wpAny_bind (wpAny_pure (wpAny_pure ⟨_, rfl, wpAny_pure h⟩))) fits)
    | exact wpAny_bind (wpAny_bind (m := Builtin.Tuple.tupleExact _) (wpAny_newObj_type (wpAny_pure (wpAny_pure ⟨_, rfl, wpAny_pure h⟩)) fits))
    | exact wpAny_bind (wpAny_bind (m := Builtin.Tuple.tupleExact _) (wpAny_newObj_type (wpAny_pure ⟨_, rfl, wpAny_pure h⟩) fits))
end
def tRevT (K : PySem.W.Frag) (te : TE) : TE := fun σ H Q => te σ H fun x H1 => ∃ a xs, x = .ref a ∧ SqT K H1 a xs ∧ ∀ p, H1 p = none → Q (.ref p) (upd H1 p (.tup xs.reverse))
theorem pe_revT {X : Cx} {e : Expr} {te : TE} {k : Nat} {p1 p2 p3 pos : Pos} (he : PE X e te) : PE X (.Subscript e (.Slice none none (some (.UnaryOp .USub (.Constant (.int 1) k p1) p2)) p3) pos) (tRevT X.K te) := by
  refine ⟨fun pins s σ H Q I h => Subscript_ (thn (he.run pins s σ H _ I h) fun v s1 z => ?_)⟩
  obtain ⟨x, H1, I1, r1, a, xs, rfl, hx, q⟩ := z
  cases r1
  have step : PO X (some (.UnaryOp .USub (.Constant (.int 1) k p1) p2)) (tPart (tUn (rU fun i => .int (-i)) (tC (.int 1)))) := po_some (pe_un un_neg pe_int)
  refine wpAny_Slice (thn (po_none.run pins s1 σ H1 (fun o H2 => o = none ∧ H2 = H1) I1 ⟨rfl, rfl⟩) fun vl s2 z => ?_)
  obtain ⟨l, H2, I2, pl, rfl, e2⟩ := z
  rw [e2] at I2
  clear e2
  refine thn (po_none.run pins s2 σ _ (fun o H3 => o = none ∧ H3 = H1) I2 ⟨rfl, rfl⟩) fun vu s3 z => ?_
  obtain ⟨u, H3, I3, pu, rfl, e3⟩ := z
  rw [e3] at I3
  clear e3
  refine thn (step.run pins s3 σ _ (fun o H4 => o = some (-1) ∧ H4 = H1) I3 ⟨1, rfl, -1, rfl, rfl, rfl⟩) fun vs s4 z => ?_
  obtain ⟨o, H4, I4, ps, rfl, e4⟩ := z
  rw [e4] at I4
  have I5 : Inv X pins σ H1 { s4 with heap := s4.heap.push { cls := .type "slice", data := .fields #[vl, vu, vs] } } := I4.kept (t' := s4.toks) fun b ob q => Heap.get?_push_of_some _ q
  obtain ⟨its, r, ht, hz⟩ := I5.tuple hx
  have len := r.length
  show wpAny (model X.prog X.w) X.A (subscriptTail e (.Slice none none (some (.UnaryOp .USub (.Constant (.int 1) k p1) p2)) p3) (.ref a) (.ref s4.heap.objs.size)) (EP X pins σ Q) X.xe { s4 with heap := s4.heap.push { cls := .type "slice", data := .fields #[vl, vu, vs] } }
  refine tail_any (ops := [.ref a, .ref s4.heap.objs.size]) ht.typeIs PyProof.Rows.slot_tuple_getitem.lookup ?_ (by with_unfolding_all rfl)
  refine item_back ht (Heap.IsSliceOf.new _ vl vu vs) pl pu ps ?_ (by rw [List.size_toArray]; omega)
  refine ⟨.ref _, _, I5.laid (t' := s4.toks) (o := .tup xs.reverse) (fun b ob q => Heap.get?_push_of_some _ q) (Nat.le_refl _) ⟨by rw [List.length_reverse]; exact hz, _, r.reverse, ⟨_, Heap.get?_push_size _ rfl, rfl, _, rfl⟩⟩, rel_ref _, q _ (I5.hok.fresh (Nat.le_refl _))⟩
end SwX
set_option Elab.async false
set_option linter.all false
set_option maxRecDepth 100000
set_option maxHeartbeats 2000000
/-! a hook: facts, defs at any address, a further look of ours -/
namespace SwX
open PySem PySem.Spec PyProof.Rows L2
abbrev AlE : Type := Bool × He.AlD
def obsE (fa : List He.Fa) (fn : List He5.DefA) (ex : PySem.W.Frag → Bool) (K : PySem.W.Frag) : AlE := (ex K, He5.obsA fa fn K)
def valE (fn : List He5.DefA) : AlE := (true, He5.valA fn)
def obsEG (n : Nat) (fa : List He.Fa) (fn : List He5.DefA) (ex : PySem.W.Frag → Bool) (g : Addr → Option Obj) : AlE := obsE fa fn ex (He.frG g (He5.asA g n))
def hookE (n : Nat) (fa : List He.Fa) (fn : List He5.DefA) (ex : PySem.W.Frag → Bool) : PySem.W.Hook where
  α := AlE
  obs := fun s => obsEG n fa fn ex s.heap.get?
  val := fun _ => valE fn
  says := fun _ h => ∃ K : PySem.W.Frag, K.In h ∧ obsE fa fn ex K = valE fn
  of := fun _ _ e => ⟨_, He.frG_in, e⟩
  keeps := fun _ _ _ ⟨K, hK, c⟩ k => ⟨K, PySem.W.Frag.In.keeps hK k, c⟩
theorem obsEG_eq {n : Nat} {fa : List He.Fa} {fn : List He5.DefA} {ex : PySem.W.Frag → Bool} {g : Addr → Option Obj} {s : Shared} (h : ∀ a, g a = s.heap.get? a) : obsEG n fa fn ex g = (hookE n fa fn ex).obs s := by
  have e : g = s.heap.get? := funext h
  rw [e] <;> rfl
theorem saysE {fa : List He.Fa} {fn : List He5.DefA} {ex : PySem.W.Frag → Bool} {K : PySem.W.Frag} (c : obsE fa fn ex K = valE fn) : ex K = true ∧ He5.SaysA fa fn K := ⟨congrArg (fun z : AlE => z.1) c, congrArg (fun z : AlE => z.2) c⟩
end SwX
set_option Elab.async false
set_option linter.all false
set_option maxRecDepth 100000
set_option maxHeartbeats 4000000
/-! try: .. except (A, B, C) as n: .. -/
namespace SwX
open PySem PySem.Spec PyProof.Rows L2
/-- in flight still, when a heap has grown -/
theorem flying_kept {B h h' : Heap} {l : List Env} {a : Addr} {Z : Obj → Prop} (x : HandSPX.FlyingZ B l a Z h) (k : ∀ b o, h.get? b = some o → h'.get? b = some o) : HandSPX.FlyingZ B l a Z h' := by
  obtain ⟨st, new, fr, oe, vs, T, oT, ts, t1, t2, t3, t4, t5, t6, t7, t8, t9⟩ := x
  exact ⟨fun b o e => k b o (st b o e), new, fr.of_keeps fun b o e _ => ⟨o, k b o e, rfl⟩, oe, vs, T, oT, ts, k _ _ t1, t2, t3, t4, t5, t6, k _ _ t7, t8, t9⟩
/-- what the clause wishes of an exception of the body: it is of one of the classes cs -/
def wAsT (K : PySem.W.Frag) (cs : List Value) (i n : Nat) (ts : Addr → Value → Option Addr → TS) (D : Ends) : WX := fun cls d σ H => PySem.W.exmAny K cls cs = some true ∧ ∀ a, H a = none → σ.length = n →
  ts a cls d { nx := fun z Y => D.nx (z.set i none) Y, rt := D.rt, bk := fun z Y => D.bk (z.set i none) Y, ct := fun z Y => D.ct (z.set i none) Y } (σ.set i (some (.ref a))) H
abbrev tupO (cs : List Value) : Obj := { cls := .type "tuple", data := .seq cs.toArray }
/-- the clause's classes are evaluated: a new tuple of them -/
def ClsT (X : Cx) (ty : Expr) (cs : List Value) : Prop :=
  (∀ (a : Addr) (pn pins : List (Addr × Obj)) (σ : L2.St) (H : Hp) (s : Shared) (Q : Value → Shared → Prop) (E : Value → Shared → Prop), Inv (X.suite a pn) pins σ H s → Q (.ref s.heap.objs.size) { s with heap := s.heap.push (tupO cs) } →
    wpAny (model X.prog X.w) (X.A.mark (some (.ref a))) (eval ty X.env) Q E s) ∧
  ∀ (h : Heap) (tp e : Addr) (cls : Value) (b : Bool), X.K.In h → PySem.W.Looks (model X.prog X.w) h (typeOf (.ref e)) cls → h.get? tp = some (tupO cs) → PySem.W.exmAny X.K cls cs = some b → PySem.W.Looks (model X.prog X.w) h (excMatches (.ref e) (.ref tp)) b
theorem ld_name {X : Cx} {pins : List (Addr × Obj)} {σ : L2.St} {H : Hp} {s : Shared} {x : Str} {c : Value} {p : Pos} {Q : Value → Shared → Prop} {E : Value → Shared → Prop} (I : Inv X pins σ H s) (n : Names X x c) (q : Q c s) : wpAny (model X.prog X.w) X.A (eval (.Name x p) X.env) Q E s := by
  obtain ⟨g, db, h | ⟨h1, h2, h3⟩⟩ := n
  · exact ld_glob I g h q db
  · exact ld_blt I g h1 h2 q h3 db
theorem clsT3 {X : Cx} {x y z : Str} {c d e : Value} {p1 p2 p3 pt : Pos} {k} (hx : Names X x c) (hy : Names X y d) (hz : Names X z e) : ClsT X (.Tuple [.Name x p1, .Name y p2, .Name z p3] k pt) [c, d, e] := by
  refine ⟨fun a pn pins σ H s Q E I q => ?_, fun h tp w cls b K L g m => PySem.W.exm_tup3 K L g m⟩
  refine wpAny_Tuple_spliced ?_
  refine Calls.spliced_cons (ld_name (X := X.suite a pn) I hx (Calls.spliced_cons (ld_name (X := X.suite a pn) I hy (Calls.spliced_cons (ld_name (X := X.suite a pn) I hz (Calls.spliced_nil ⟨show 3 ≤ sizeLine by decide, q⟩))))))
theorem clsT2 {X : Cx} {x y : Str} {c d : Value} {p1 p2 pt : Pos} {k} (hx : Names X x c) (hy : Names X y d) : ClsT X (.Tuple [.Name x p1, .Name y p2] k pt) [c, d] := by
  refine ⟨fun a pn pins σ H s Q E I q => ?_, fun h tp w cls b K L g m => PySem.W.exm_tup2 K L g m⟩
  refine wpAny_Tuple_spliced ?_
  refine Calls.spliced_cons (ld_name (X := X.suite a pn) I hx (Calls.spliced_cons (ld_name (X := X.suite a pn) I hy (Calls.spliced_nil ⟨show 2 ≤ sizeLine by decide, q⟩))))
section
variable {X : Cx} {n : Str} {cs : List Value} {i : Nat} {body suite : List Stmt} {b₀ : Stmt} {ty : Expr} {pos cpos : Pos} {tb : WX → TS} {ts : Addr → Value → Option Addr → TS}
theorem ps_try_asT (sk : X.stack = X.env :: X.outer) (fr : X.env.frame = some X.env.locals) (nd : X.N.Nodup) (ni : X.N[i]? = some n) (nl : X.env.kindOf n = some .local) (T : ClsT X ty cs)
    (hb : ∀ (W : WX) (pn : List (Addr × Obj)) (xe : Value → Shared → Prop), L2.Takes (X.tr pn xe) W → PassesOwn (model X.prog X.w) X.A X.env xe → PSs (X.tr pn xe) body (tb W))
    (hu : ∀ (a : Addr) (oe : Obj) (cls : Value) (d : Option Addr) (pn : List (Addr × Obj)), Zc cls d oe → (∃ vs, oe.data = .fields vs) → PSs (X.suite a ((a, oe) :: pn)) (b₀ :: suite) (ts a cls d)) :
    PS X (.Try body [.ExceptHandler (some ty) (some n) (b₀ :: suite) cpos] [] [] pos) (fun D σ H => tb (wAsT X.K cs i X.N.length ts D) D σ H) := by
  refine ⟨fun pins s σ H D I0 h => ?_⟩
  have ok0 := I0.ok
  have frs0 : X.A.frames = some (X.env :: X.outer) := ok0.frames.trans (by rw [sk])
  refine wpAny_Try_except (wpAny_mono ((hb (wAsT X.K cs i X.N.length ts D) (X.pn ++ pins) (fun e z => wpAny (model X.prog X.w) X.A (noteFrame e X.env) (fun _ z2 => wpAny (model X.prog X.w) X.A (setFlight e none) (fun _ z3 =>
    wpAny (model X.prog X.w) X.A (handleBy e X.env [.ExceptHandler (some ty) (some n) (b₀ :: suite) cpos]) (SP X pins D) X.xe z3) X.xe z2) X.xe z) (fun u t air => ?_) PassesOwn.looking).run [] s σ H D (I0.toTry _) h) (fun f t sp => ?_) fun e t z => z)
  · obtain ⟨a, B, sI, pins1, σ1, H1, cls, d, rfl, J', nb, up, sky, na, os, ag, hit, go⟩ := air
    have J : Inv X pins σ1 H1 sI := J'.ofTry ok0
    have sky1 : Sky B (X.env :: X.outer) a (Zc cls d) X.env.locals t.heap := sk ▸ sky
    show wpAny (model X.prog X.w) X.A (noteFrame (.ref a) X.env) _ _ _
    refine Sky.land Zc.steady frs0 fr sky1 fun h3 fl3 up3 => ?_
    have J3 : Inv X pins σ1 H1 { t with heap := h3 } := J.landed nb fl3.1 (up.trans up3) os ag
    obtain ⟨oe, vs, got, zc, dat⟩ := fl3.there
    have nfr : a ∉ frs (X.env :: X.outer) := fun hm => by
      obtain ⟨_, o, e, no⟩ := fl3.2.2.1.mem hm
      rw [got] at e
      cases e
      exact no _ dat
    have nL : a ≠ X.env.locals := fun z => nfr (List.mem_filterMap.mpr ⟨X.env, List.mem_cons_self, z ▸ fr⟩)
    have nF : a ∉ X.fs := fun hm => by
      obtain ⟨e, he, q⟩ := List.mem_filterMap.mp hm
      exact nfr (List.mem_filterMap.mpr ⟨e, List.mem_cons_of_mem _ he, q⟩)
    have S3 := J3.suite got dat na nL nF
    refine wpAny_handleBy_cons (codeAny_handlers_test (T.1 a _ [] σ1 H1 _ _ _ S3 ?_)) (by intro q; cases q)
    have pk : ∀ b o, h3.get? b = some o → (h3.push (tupO cs)).get? b = some o := fun b o e => Heap.get?_push_of_some _ e
    have LT : PySem.W.Looks (model X.prog X.w) (h3.push (tupO cs)) (typeOf (.ref a)) cls := fun _ _ _ _ k q => wpAny_typeOf_ref (k _ _ (pk _ _ got)) (zc.1.symm ▸ q)
    refine (T.2 (h3.push (tupO cs)) _ a cls true (J3.kIn.keeps pk) LT (Heap.get?_push_size _ rfl) hit).here ?_
    refine codeAny_handlers_suite_as (HandSPX.lands_againZ (s := { t with heap := h3.push (tupO cs) }) (flying_kept fl3 pk) fun h4 fl4 up4 => ?_)
    have J4 : Inv X pins σ1 H1 { t with heap := h4 } := J.landed nb fl4.1 ((up.trans up3).trans ((Heap.UpToSlots.of_keeps pk).trans up4)) os ag
    obtain ⟨oe4, vs4, got4, zc4, dat4⟩ := fl4.there
    have S4 := J4.suite got4 dat4 na nL nF
    refine store_ok (X := X.suite a ((a, oe4) :: (X.pn ++ pins))) (v := .ref a) S4 nd ni (.inl nl) rfl (fun s5 S5 => ?_) (.inr nl)
    refine wpAny_mono ((hu a oe4 cls d (X.pn ++ pins) zc4 ⟨_, dat4⟩).run [] s5 _ H1 _ S5 (go a na J.len)) (fun f s6 out => ?_) fun _ _ z => False.elim z
    have done : ∀ {z : L2.St} {Y : Hp} {R : Shared → Prop}, Inv (X.suite a ((a, oe4) :: (X.pn ++ pins))) [] z Y s6 → (∀ s7, Inv X pins (z.set i none) Y s7 → R s7) →
        wpAny (model X.prog X.w) X.A (do bindName X.env n .none; unbindBehindTheSuite X.env n cpos) (fun _ s7 => R s7) X.xe s6 := fun S r => gone_ok (S.unsuite ok0) nd ni nl r
    cases f with
    | ret u =>
      obtain ⟨v, z, Y, S6, rv, q⟩ := out
      exact done S6 fun s7 J7 => ⟨_, _, _, J7, rv, q⟩
    | next =>
      obtain ⟨z, Y, S6, q⟩ := out
      exact done S6 fun s7 J7 => ⟨_, _, J7, q⟩
    | brk =>
      obtain ⟨z, Y, S6, q⟩ := out
      exact done S6 fun s7 J7 => ⟨_, _, J7, q⟩
    | cont =>
      obtain ⟨z, Y, S6, q⟩ := out
      exact done S6 fun s7 J7 => ⟨_, _, J7, q⟩
  · cases f with
    | ret u =>
      obtain ⟨v, z, Y, J, rv, q⟩ := sp
      exact ⟨v, z, Y, J.ofTry ok0, rv, q⟩
    | next =>
      obtain ⟨z, Y, J, q⟩ := sp
      exact wpAny_execs_nil ⟨z, Y, J.ofTry ok0, q⟩
    | brk =>
      obtain ⟨z, Y, J, q⟩ := sp
      exact ⟨z, Y, J.ofTry ok0, q⟩
    | cont =>
      obtain ⟨z, Y, J, q⟩ := sp
      exact ⟨z, Y, J.ofTry ok0, q⟩
end
end SwX
set_option Elab.async false
set_option linter.all false
set_option maxRecDepth 100000
set_option maxHeartbeats 4000000
/-! the exception that a suite holds, handed to defs: isinstance, its fields -/
namespace SwX
open PySem PySem.Spec PyProof.Rows L2
/-- the exception that is held at a: of the class at C, its dict at d -/
def Held (X : Cx) (a C : Addr) (d : Option Addr) : Prop := ∃ oe, (a, oe) ∈ X.pn ∧ Zc (.ref C) d oe ∧ ∃ vs, oe.data = .fields vs
/-- its fields -/
def Flds (H : Hp) (d : Option Addr) (fs : List (Str × V)) : Prop := (d = none ∧ fs = []) ∨ ∃ dd, d = some dd ∧ H dd = some (.xd fs)
theorem Flds.mono {H H' : Hp} {d : Option Addr} {fs : List (Str × V)} (e : Evl.Ex H H') (h : Flds H d fs) : Flds H' d fs := by
  rcases h with h | ⟨dd, h1, h2⟩
  · exact .inl h
  · exact .inr ⟨dd, h1, e _ _ h2⟩
section
variable {X : Cx} {pins : List (Addr × Obj)} {σ : L2.St} {H : Hp} {s : Shared} {a C : Addr} {d : Option Addr} {fs : List (Str × V)}
theorem Held.seen (I : Inv X pins σ H s) (h : Held X a C d) (x : Flds H d fs) : ∃ ox od, PySem.W.InstAt s.heap a ox C od ∧ ∀ f v, fs.lookup f = some v → ∃ o u, od = some o ∧ PySem.W.lookIn f o = some (some u) ∧ RelV v u := by
  obtain ⟨oe, mem, ⟨z1, z2⟩, vs, dat⟩ := h
  have at_ := (I.pin (a, oe) (List.mem_append_left _ mem)).1
  have nc : PySem.W.notCls oe = true := by unfold PySem.W.notCls; rw [dat] <;> rfl
  rcases x with ⟨rfl, rfl⟩ | ⟨dd, rfl, e⟩
  · exact ⟨oe, none, ⟨at_, z1, nc, by rw [z2]; trivial⟩, fun f v z => by cases z⟩
  · obtain ⟨mA, hns, rel⟩ := (show ObjOk X.prog X.w H s.heap dd (.xd fs) from I.hok dd _ e)
    obtain ⟨o, hod, look⟩ := lookIn_ns hns
    refine ⟨oe, some o, ⟨at_, z1, nc, by rw [z2]; exact hod⟩, fun f v z => ?_⟩
    have ro := rel f
    rw [z] at ro
    cases q : mA f with
    | none => rw [q] at ro; exact ro.elim
    | some u => rw [q] at ro; exact ⟨o, u, rfl, (look f).trans (congrArg some q), ro⟩
end
/-- isinstance(e, c), e the exception that is held -/
def rIsP (K : PySem.W.Frag) (a C : Addr) (d : Option Addr) : List V → Hp → VK → Prop := fun xs H Q => ∃ (fs : List (Str × V)) (c : V) (u : Value) (b : Bool), xs = [.ref a, c] ∧ Flds H d fs ∧ Oex K C ∧ ClsV c u ∧ PySem.W.kitOne K (.ref C) u = some b ∧ Q (.bl b) H
theorem call_isP {X : Cx} {a C : Addr} {d : Option Addr} (hd : Held X a C d) : CallR X (.builtin "isinstance") (rIsP X.K a C d) := fun pins s σ H xs us Q I r h => by
  obtain ⟨fs, c, u, b, rfl, at_, T, k, ans, q⟩ := h
  obtain ⟨u1, u2, rfl, r1, r2⟩ := vals2 r
  obtain rfl : u1 = Value.ref a := r1
  obtain rfl : u2 = u := k.eq r2
  obtain ⟨ox, od, J, _⟩ := hd.seen I at_
  obtain ⟨cd, hcd, _⟩ := PySem.W.any_some T.dct
  exact PySem.W.kia_one (PySem.W.kitx_exc (by rw [hcd]; rfl) T.get T.miss T.exc T.cl T.clg T.clt T.top) I.kIn J ans (fun z => nomatch z) fun tk => ⟨.bl b, H, I.tok tk, rfl, q⟩
/-- e.f, e the exception that is held -/
def tFldP (K : PySem.W.Frag) (a C : Addr) (d : Option Addr) (f : Str) (te : TE) : TE := fun σ H Q => te σ H fun x H1 => ∃ (fs : List (Str × V)) (v : V), x = .ref a ∧ Flds H1 d fs ∧ Oex K C ∧ Free K C f ∧ fs.lookup f = some v ∧ Q v H1
theorem pe_fldP {X : Cx} {a C : Addr} {d : Option Addr} {e : Expr} {te : TE} {f : Str} {pos : Pos} (hd : Held X a C d) (he : PE X e te) (hb : attributeBase e f X.env (eval e X.env) = eval e X.env := by rfl) : PE X (.Attribute e f pos) (tFldP X.K a C d f te) := by
  refine ⟨fun pins s σ H Q I h => attr_of hb (thn (he.run pins s σ H _ I h) fun u s1 hu => ?_)⟩
  obtain ⟨x, H1, I1, rx, fs, v, rfl, at_, T, no, hl, q⟩ := hu
  obtain rfl : u = Value.ref a := rx
  obtain ⟨ox, od, J, z⟩ := hd.seen I1 at_
  obtain ⟨o, w, rfl, hw, rw'⟩ := z f v hl
  exact PySem.HandSPX.exc_get I1.kIn J T.get T.miss T.exc (PySem.W.findObj_own T.dct no.no rfl hw) (handed_of rw') ⟨v, H1, I1.tok _, rw', q⟩
/-! ### defs called with it -/
abbrev SpC := Addr → Addr → Option Addr → Sp
structure FnC (P : Program) (w : World) (K : PySem.W.Frag) (mg : Str → Option Value) (base : Heap) (k : Nat) (f : Addr) (fd : FuncData) (ps : List Str) (sp : SpC) : Prop where
  len : ∀ a C d vs H Q E, sp a C d vs H Q E → vs.length = ps.length
  run : ∀ (A : Around) (outer : List Env) (s : Shared) (H : Hp) (args : Args) (us : List Value) (vs : List V) (Q : VK) (E : XK) (a C : Addr) (d : Option Addr) (oe : Obj), L2H.RoomH k A → Zc (.ref C) d oe → (∃ vs, oe.data = .fields vs) → L2H.PinOk outer H s (a, oe) →
    Env0 P w K mg base A outer s H → BindsTo s fd args (ps.zip us) → Vals vs us → sp a C d vs H Q E → codeAny (model P w) A (.call (.ref f) args) (CR CX0 outer P w H s Q E) s
section
variable {P : Program} {w : World} {K : PySem.W.Frag} {mg : Str → Option Value} {base : Heap} {k : Nat} {f : Addr} {fd : FuncData} {N ps : List Str} {sp : SpC} {x qual : Str} {params : Arguments} {body : List Stmt} {scope : Scope} {dvs : List V} {kws : List (Str × V)}
theorem FunD.okC (F : FunD K x qual params body scope dvs kws f fd) (S : FnScope N ps scope) (len : ∀ a C d vs H Q E, sp a C d vs H Q E → vs.length = ps.length)
    (hb : ∀ (cdv : Value) (A : Around) (outer : List Env) (s : Shared) (H : Hp) (vs : List V) (Q : VK) (E : XK) (a C : Addr) (d : Option Addr) (oe : Obj), L2H.RoomH k (A.deeper (envOfC qual scope s.heap.objs.size f cdv)) → Held (L2H.cxH CX0 P w K mg base N qual scope f cdv A outer s H E (a, oe)) a C d → sp a C d vs H Q E →
      ∃ t, PSs (L2H.cxH CX0 P w K mg base N qual scope f cdv A outer s H E (a, oe)) body t ∧ t { nx := fun _ H' => Q .non H', rt := Q } (start N vs) H) : FnC P w K mg base (k + 1) f fd ps sp := by
  obtain ⟨oc, od, dV, kV, doc, pm, an, cdv, ct, osl, rfl, lk, hcd, _, _⟩ := F.ex
  refine ⟨len, fun A outer s H args us vs Q E a C d oe hr zc dat pin e0 bind r hsp => ?_⟩
  have base_in : ∀ b o, base.get? b = some o → s.heap.get? b = some o := fun b o z => (e0.bs b o z).1
  have KX : K.In s.heap := e0.mod.kin.keeps base_in
  have par : ∀ y ∈ ps.zip us, scope.names.lookup y.1 = some .local ∨ (scope.names.lookup y.1 = some .cell ∧ ((cellsFrom (s.heap.objs.size + 1) scope.names []).lookup y.1).isSome = true) := fun y hy => by
    cases S.par y.1 (List.of_mem_zip hy).1 with
    | inl q => exact Or.inl q
    | inr q => exact Or.inr ⟨q, PySem.W.cellsFrom_some _ _ _ (Or.inl q)⟩
  refine codeAny_call_function hr.depth (KX _ _ lk) rfl S.co S.gen rfl (PySem.W.codeRec_of KX hcd) (bind _ _ _ _ (wpAny_newFunctionEnv_cells S.kind par fun env he s1 made => ?_))
  subst he
  refine And.intro ((e0.mod.nolimit.keeps base_in).keeps made.toInCall.keep) (codeAny_func ?_)
  obtain ⟨t, ht, hq⟩ := hb cdv A outer s H vs Q E a C d oe (hr.deeper _) ⟨oe, List.mem_singleton.mpr rfl, zc, dat⟩ hsp
  refine wpAny_mono (ht.run [] s1 (start N vs) H _ (L2H.inv_startH S pin e0 (len _ _ _ _ _ _ _ hsp) r made) hq) (fun fl s' z => ?_) fun _ _ z => z
  cases fl with
  | ret u =>
    obtain ⟨v, σ', H', J, rv, q⟩ := z
    exact ⟨v, H', J.os, J.bare, J.base, J.hok, rv, q⟩
  | next =>
    obtain ⟨σ', H', J, q⟩ := z
    exact ⟨V.non, H', J.os, J.bare, J.base, J.hok, rfl, q⟩
  | brk =>
    obtain ⟨_, _, _, q⟩ := z
    exact q.elim
  | cont =>
    obtain ⟨_, _, _, q⟩ := z
    exact q.elim
end
/-- the module's name x is such a def -/
structure HasC (P : Program) (w : World) (K : PySem.W.Frag) (mg : Str → Option Value) (base : Heap) (x : Str) (k : Nat) (ps : List Str) (sp : SpC) : Prop where
  ex : ∃ f fd, FnC P w K mg base k f fd ps sp ∧ mg x = some (.ref f) ∧ PySem.W.keepIn K (.ref f) = true ∧ Binds K fd ps []
section
variable {X : Cx} {k : Nat} {a C : Addr} {d : Option Addr} {ps : List Str} {sp : SpC} {x : Str} {p pos : Pos} {e : Expr} {es : List Expr} {t : TA}
theorem pe_hasC (D : HasC X.prog X.w X.K X.mg X.base x k ps sp) (hd : Held X a C d) (hr : L2H.RoomH k X.A) (ha : PA X (e :: es) t) (hg : Gl X x := by rfl) (hdb : (x == ("__debug__" : Str)) = false := by decide)
    (he : starEach (e :: es) X.env = (false, eval e X.env) :: starEach es X.env := by rfl) (hpl : (backTo pos (starEach es X.env)).any (·.1) = false := by rfl) : PE X (.Call (.Name x p) (e :: es) [] pos) (tCall (sp a C d) [] E0 t) := by
  obtain ⟨f, fd, F, hm, hk, hb⟩ := D.ex
  refine ⟨fun pins s σ H Q I h => wpAny_Call_Name_kw (ld_glob I hg hm (PySem.W.callWith_K (h₀ := X.base) I.ok.mod.kin hk (thn (ha.run pos pins s σ H _ I h) fun us s1 hu => ?_) he hpl) hdb)⟩
  obtain ⟨vs, H1, I1, r, q⟩ := hu
  rw [List.append_nil] at q
  obtain ⟨oe, mem, zc, dat⟩ := hd
  have pin := I1.pin (a, oe) (List.mem_append_left _ mem)
  have lay : L2H.PinOk X.stack H1 s1 (a, oe) := ⟨pin.1, pin.2.1, fun hm => (List.mem_cons.mp (I1.stkSub a hm)).elim pin.2.2.1 pin.2.2.2.1, pin.2.2.2.2⟩
  have b := hb s1 us I1.kIn (by rw [List.append_nil, ← r.length]; exact F.len _ _ _ _ _ _ _ q)
  rw [List.append_nil] at b
  refine ⟨I1.kIn, wpAny_call (codeAny_mono (F.run X.A X.stack s1 H1 ⟨us, []⟩ us vs Q E0 a C d oe hr zc dat lay I1.env0 b r q) fun res s' z => ?_)⟩
  cases res with
  | error er => exact z.elim
  | ok fl =>
    cases fl with
    | ret u => exact I1.after z
    | next => exact z.elim
    | brk => exact z.elim
    | cont => exact z.elim
end
section
variable {X : Cx} {k : Nat}
theorem op_eqH (hr : L2H.RoomH k X.A) : OpR X (compareOp .Eq) (fun x y H Q => rEq x y H Q ∨ rEqD X.K x y H Q) := op_join op_eq (op_eqD (by have := hr.un; omega))
theorem op_neH (hr : L2H.RoomH k X.A) : OpR X (compareOp .NotEq) (fun x y H Q => rNe x y H Q ∨ rNeD X.K x y H Q) := op_join op_ne (op_neD (by have := hr.un; omega))
theorem call_reprH (S : SysIn X.K) (calm : Calm X.A) (un : X.A.units + 200 < cLine) : CallR X (.builtin "repr") (rRepr X.K) := fun pins s σ H xs us Q I r h => by
  obtain ⟨a, d, rfl, da, sh, dp, len, q⟩ := h
  obtain ⟨u, rfl, ru⟩ := Vals.one r
  obtain ⟨as, rd, ns⟩ := da.reads I S u ru
  cases ru
  exact repr_of_reads' rd sh (fun _ => ns) calm (by omega) (fun _ _ e => e) (fun h' u tk keep => ⟨.str d.shown, H, I.kept keep, ⟨u, rfl⟩, q⟩) len
end
/-! ### readings -/
section
open Evl (Ex Ev)
variable {K : PySem.W.Frag} {σ : L2.St} {H : Hp} {te tb' : TE} {a C : Addr} {dd : Option Addr} {fs : List (Str × V)}
theorem ev_isP {c : V} {u : Value} {b : Bool} (h : Ev te σ H (.ref a)) (hc : Ev tb' σ H c) (x : Flds H dd fs) (T : Oex K C) (k : ClsV c u) (e : PySem.W.kitOne K (.ref C) u = some b) : Ev (tCB (rIsP K a C dd) (tCons te (tCons tb' tNil))) σ H (.bl b) := fun H1 e1 Q q =>
  h H1 e1 _ fun H2 e2 => hc H2 (e1.trans e2) _ fun H3 e3 => ⟨fs, c, u, b, rfl, x.mono ((e1.trans e2).trans e3), T, k, e, q H3 (e2.trans e3)⟩
theorem ev_fldP {f : Str} {v : V} (h : Ev te σ H (.ref a)) (x : Flds H dd fs) (T : Oex K C) (n : Free K C f) (l : fs.lookup f = some v) : Ev (tFldP K a C dd f te) σ H v := fun H1 e1 Q q =>
  h H1 e1 _ fun H2 e2 => ⟨fs, v, rfl, x.mono (e1.trans e2), T, n, l, q H2 e2⟩
end
end SwX
set_option Elab.async false
set_option linter.all false
set_option maxRecDepth 100000
set_option maxHeartbeats 4000000
/-! own exceptions raised; defs that let exceptions out; own repr -/
namespace SwX
open PySem PySem.Spec PyProof.Rows L2
/-- C(e, ..), to be raised -/
def tMkN (C : Addr) (n : Nat) (sp : Sp) (t : TA) : L2.St → Hp → XK → Prop := fun σ H Q => t σ H fun vs H1 => (vs.length = n ∧ n ≤ 1000) ∧ ∀ a, H1 a = none → sp (.ref a :: vs) (upd H1 a (exo a C none))
  (fun v H2 => v = .non ∧ ∃ (d : Addr) (fs : List (Str × V)), H2 a = some (exo a C (some d)) ∧ H2 d = some (exd d fs) ∧ H1 d = none ∧ Q (.ref C) (some d) (upd (del H2 a) d (.xd fs))) E0
section
variable {X : Cx} {k n : Nat} {fI C : Addr} {fd : FuncData} {ps : List Str} {sp : Sp} {x : Str} {p pos : Pos} {e : Expr} {es : List Expr} {t : TA}
theorem mk_runs {pins : List (Addr × Obj)} {σ : L2.St} {H : Hp} {s : Shared} {Q : XK} {us : List Value} {vs : List V} (T : Oex X.K C) (ty : PySem.W.typeIn X.K (.ref C) = some (.type "type")) (i : Ini X.K C fI) (F : FnOk X.prog X.w X.K X.mg X.base CX0 k fI fd ps sp) (room : Room (k + 1) X.A)
    (b : KBn X.K fd ps (n + 1) [] (fun us _ => us) (fun vs _ => vs)) (I : Inv X pins σ H s) (r : Vals vs us) (len : vs.length = n ∧ n ≤ 1000)
    (h : ∀ a, H a = none → sp (.ref a :: vs) (upd H a (exo a C none)) (fun v H2 => v = .non ∧ ∃ (d : Addr) (fs : List (Str × V)), H2 a = some (exo a C (some d)) ∧ H2 d = some (exd d fs) ∧ H d = none ∧ Q (.ref C) (some d) (upd (del H2 a) d (.xd fs))) E0) :
    wpAny (model X.prog X.w) X.A (call (.ref C) us) (MkP X pins σ Q) X.xe s := by
  obtain ⟨B, newId, initId, bmB, base, _, nm, qn, N, bs, bm, hd, sn, sub, ab, col, dd, k0, k1, k2, k3, k5, hC, tail⟩ := T.base
  obtain ⟨l1, l3⟩ := len
  obtain ⟨hp, gs, dr, tok, os⟩ := s
  have new : H (hp.objs.size + 1) = none := I.hok.fresh (Nat.le_succ _)
  have keep : ∀ z o, hp.get? z = some o → (laid2 hp C us).get? z = some o := fun _ _ z => Heap.get?_push_of_some _ (Heap.get?_push_of_some _ z)
  have there : (laid2 hp C us).get? (hp.objs.size + 1) = some (PySem.HandSPX.excO C hp.objs.size) := by heap_get
  have J : Inv X pins σ (upd H (hp.objs.size + 1) (exo (hp.objs.size + 1) C none)) ⟨laid2 hp C us, gs, dr, tok, os⟩ := I.laid (t' := tok) keep (Nat.le_succ _) (exo_ok there)
  have ra : Vals (V.ref (hp.objs.size + 1) :: vs) (Value.ref (hp.objs.size + 1) :: us) := .cons rfl r
  have small : us.length ≤ sizeLine := by have := r.length; rw [sizeLine_eq]; omega
  refine wpAny_call (run_class base.call (line_of base.call fun Y => PySem.W.excTail_contains Y bm tail) ⟨_, _, _, _, _, _, _, _, _, _, _, _, _, _, _, I.kIn _ _ hC⟩ small (PySem.W.looks_findIn I.kIn i.at_) (fun self => PySem.W.bind_fn I.kIn self i.ty) ?_)
  refine codeAny_mono (F.run _ X.stack _ _ ⟨Value.ref (hp.objs.size + 1) :: us, []⟩ (Value.ref (hp.objs.size + 1) :: us) _ _ E0 (room.make C us []) (J.env0.make C us []) (b.to _ (_ :: us) [] J.kIn ?_ rfl) (b.rel ra .nil) (h _ new)) fun r s' z => ?_
  · exact ra.length.symm.trans (congrArg Nat.succ l1)
  cases r with
  | error er => exact z.elim
  | ok fl =>
    cases fl with
    | ret u =>
      obtain ⟨v, H2, os2, bare2, un2, hok2, rv, ev, d, fs, ea, ed, hd1, q2⟩ := z
      subst ev
      obtain ⟨h2, g2, d2, t2, os'⟩ := s'
      exact ⟨rv, mk_end (raises_own T.exc ty) I (Nat.le_succ _) keep un2 hok2 os2 bare2 ea ed hd1 q2⟩
    | next => exact z.elim
    | brk => exact z.elim
    | cont => exact z.elim
theorem pmk_new {ks : List Str} {gg : {α : Type} → List α → List α → List α} (D : HasX X.prog X.w X.K X.mg X.base x k C n ks gg sp) (ty : PySem.W.typeIn X.K (.ref C) = some (.type "type")) (hr : Room (k + 1) X.A) (ha : PA X (e :: es) t) (hg : Gl X x := by rfl) (hdb : (x == ("__debug__" : Str)) = false := by decide)
    (he : starEach (e :: es) X.env = (false, eval e X.env) :: starEach es X.env := by rfl) (hpl : (backTo pos (starEach es X.env)).any (·.1) = false := by rfl) : PMk X (.Call (.Name x p) (e :: es) [] pos) (tMkN C n sp t) := by
  obtain ⟨fI, fd, ps, T, i, F, hm, b, _⟩ := D.ex
  intro pins s σ H Q I h
  refine wpAny_Call_Name_kw (ld_glob I hg hm (PySem.W.callWith_K (h₀ := X.base) I.ok.mod.kin T.kp (thn (ha.run pos pins s σ H _ I h) fun us s1 hu => ?_) he hpl) hdb)
  obtain ⟨vs, H1, I1, r, len, q⟩ := hu
  exact ⟨I1.kIn, mk_runs T ty i F hr b I1 r len q⟩
end
section
open Evl (Ex Ev)
variable {σ : L2.St} {H : Hp} {tv : TE} {v : V} {C : Addr} {f : Str}
theorem mk_new1 {Q : XK} (h : Ev tv σ H v) (q : ∀ d H', Ex H H' → Flds H' (some d) [(f, v)] → Q (.ref C) (some d) H') : tMkN C 1 (spIni1 C f) (tCons tv tNil) σ H Q := h H (Ex.refl H) _ fun H1 e1 => by
  refine ⟨⟨rfl, by decide⟩, fun a ha => ⟨a, v, rfl, upd_same, fun d hd ne => ⟨rfl, d, [(f, v)], upd_same, ?_, ?_, ?_⟩⟩⟩
  · rw [upd_ne ne, upd_same]
  · rwa [upd_ne ne] at hd
  · have hd' : H1 d = none := by rwa [upd_ne ne] at hd
    refine q d _ (fun b o z => ?_) (.inr ⟨d, rfl, upd_same⟩)
    have z1 := e1 b o z
    have nb : b ≠ a := ne_of_none z1 ha
    have nd : b ≠ d := ne_of_none z1 hd'
    rw [upd_ne nd]
    show (if b = a then none else _) = _
    rw [if_neg nb, upd_ne nb, upd_ne nd, upd_ne nb]
    exact z1
end
/-! ### defs that let exceptions out -/
/-- the module's name x is a def that may let an exception out -/
structure HasE (P : Program) (w : World) (K : PySem.W.Frag) (mg : Str → Option Value) (base : Heap) (x : Str) (k : Nat) (ps : List Str) (sp : Sp) : Prop where
  ex : ∃ f fd, FnOk P w K mg base (L2.CX P w) k f fd ps sp ∧ mg x = some (.ref f) ∧ PySem.W.keepIn K (.ref f) = true ∧ Binds K fd ps []
section
variable {X : Cx} {k : Nat} {ps : List Str} {sp : Sp} {x : Str} {p pos : Pos} {e : Expr} {es : List Expr} {t : TA} {E : XK} {W : WX}
theorem pass_E (tk : L2.Takes X W) (hW : ∀ cls d σ H, E cls d H → W cls d σ H) : Passes (L2.CX X.prog X.w) X E := fun pins σ H s e s' I c => passes_call tk hW pins σ H s e s' I c
theorem pe_hasE (D : HasE X.prog X.w X.K X.mg X.base x k ps sp) (hr : Room k X.A) (hx : Passes (L2.CX X.prog X.w) X E) (ha : PA X (e :: es) t) (hg : Gl X x := by rfl) (hdb : (x == ("__debug__" : Str)) = false := by decide)
    (he : starEach (e :: es) X.env = (false, eval e X.env) :: starEach es X.env := by rfl) (hpl : (backTo pos (starEach es X.env)).any (·.1) = false := by rfl) : PE X (.Call (.Name x p) (e :: es) [] pos) (tCall sp [] E t) := by
  obtain ⟨f, fd, F, hm, hk, hb⟩ := D.ex
  exact pe_call F hr hg hm hk hb .nil hx ha hdb he hpl
end
/-! ### own repr -/
section
variable {X : Cx} {n : Nat} {f C : Addr} {fd : FuncData} {ps : List Str} {sp : Sp}
/-- repr(x), x an instance of the class at C -/
def rReprOwn (C : Addr) (sp : Sp) : List V → Hp → VK → Prop := fun xs H Q => ∃ a, xs = [.ref a] ∧ IsI H a C ∧ sp [.ref a] H (fun v H' => ∃ z : Str, v = .str z ∧ Q (.str z) H') E0
theorem call_reprOwn (F : FnOk X.prog X.w X.K X.mg X.base CX0 n f fd ps sp) (S : Spc X.K C "__repr__" f) (b : Binds X.K fd ps []) (room : Room n X.A.in1) : CallR X (.builtin "repr") (rReprOwn C sp) := by
  intro pins s σ H xs us Q I r h
  obtain ⟨a, rfl, ia, q⟩ := h
  obtain ⟨u, rfl, ru⟩ := Vals.one r
  cases ru
  obtain ⟨ox, od, J⟩ := ia.look I
  obtain ⟨m, fr⟩ := I.fr
  have un := room.un
  refine PySem.W.repr_K (by omega) fr I.ok.mod.kin J S.at_ S.fn (wpAny_mono (by_machine F room rfl b pass0 I (.cons (rel_ref _) .nil) q) (fun r s' z => ?_) fun _ _ z => z)
  obtain ⟨v, H', K', rv, k, rfl, q'⟩ := z
  obtain ⟨t, rfl⟩ := rv
  exact ⟨.str k, H', K', ⟨_, rfl⟩, q'⟩
end
end SwX
set_option Elab.async false
set_option linter.all false
set_option maxRecDepth 100000
set_option maxHeartbeats 4000000
/-! what a law's _law_fault, _law_kept, _law_caught tell of a caught exception -/
namespace SwX
open PySem PySem.Spec PyProof.Rows L2 Evl
/-- the exceptions' names in the laws' order -/
def exNm : Nat → Str
  | 0 => "InvalidNumber"
  | 1 => "InvalidText"
  | 2 => "InvalidName"
  | 3 => "InvalidIndex"
  | 4 => "InvalidClaim"
  | 5 => "InvalidThing"
  | 6 => "NotACatalogue"
  | 7 => "NotWeights"
  | 8 => "InvalidKinds"
  | 9 => "InvalidRecipes"
  | 10 => "InvalidMembers"
  | 11 => "InvalidRows"
  | 12 => "UnknownName"
  | 13 => "InUse"
  | 14 => "TooMany"
  | 15 => "NothingToUndo"
  | _ => "Broken"
/-- which field is told: 0 given, 1 index, 2 limit -/
def exKd (i : Nat) : Nat := if i = 14 then 2 else if i = 8 ∨ i = 9 ∨ i = 10 ∨ i = 11 ∨ i = 13 then 1 else 0
def exFld (i : Nat) : Str := match exKd i with
  | 0 => "given"
  | 1 => "index"
  | _ => "limit"
/-- what is asked of the classes; rs: those that are raised (each tells one field) -/
structure Cl (P : Program) (w : World) (K : PySem.W.Frag) (mg : Str → Option Value) (base : Heap) (rs : List Nat) (C : Nat → Addr) (WV WN NA : Addr) : Prop where
  lt : ∀ i ∈ rs, i < 15
  T : ∀ i ∈ rs, Oex K (C i)
  ty : ∀ i ∈ rs, PySem.W.typeIn K (.ref (C i)) = some (.type "type")
  hit : ∀ i ∈ rs, PySem.W.exmAny K (.ref (C i)) [.ref WV, .ref WN, .ref NA] = some true
  kit : ∀ i ∈ rs, ∀ j, j < 17 → PySem.W.kitOne K (.ref (C i)) (.ref (C j)) = some (decide (i = j))
  kWV : ∀ i ∈ rs, PySem.W.kitOne K (.ref (C i)) (.ref WV) = some (decide ((i : Int) < 12))
  kWN : ∀ i ∈ rs, PySem.W.kitOne K (.ref (C i)) (.ref WN) = some (decide ((11 : Int) < i) && decide ((i : Int) < 14))
  kNA : ∀ i ∈ rs, PySem.W.kitOne K (.ref (C i)) (.ref NA) = some (decide ((13 : Int) < i))
  kVE : ∀ i ∈ rs, PySem.W.kitOne K (.ref (C i)) (.type "ValueError") = some (decide ((i : Int) < 12))
  kLE : ∀ i ∈ rs, PySem.W.kitOne K (.ref (C i)) (.type "LookupError") = some (decide ((11 : Int) < i) && decide ((i : Int) < 14))
  kAE : ∀ i ∈ rs, PySem.W.kitOne K (.ref (C i)) (.type "ArithmeticError") = some (decide ((13 : Int) < i))
  fr : ∀ i ∈ rs, Free K (C i) (exFld i)
  g : ∀ i, i < 17 → mg (exNm i) = some (.ref (C i))
  gWV : mg "WrongValue" = some (.ref WV)
  gWN : mg "WrongName" = some (.ref WN)
  gNA : mg "NoAnswer" = some (.ref NA)
  D : ∀ i ∈ rs, HasX P w K mg base (exNm i) 1 (C i) 1 [exFld i] (fun us ws => us ++ ws.reverse) (spIni1 (C i) (exFld i))
/-! which truths _law_fault gathers -/
def sortsB (i : Nat) : List Bool := ((((([decide (i = 0), decide (i = 1), decide (i = 2)] ++ [decide (i = 3), decide (i = 4), decide (i = 5)]) ++ [decide (i = 6), decide (i = 7), decide (i = 8)]) ++ [decide (i = 9), decide (i = 10), decide (i = 11)]) ++ [decide (i = 12), decide (i = 13), decide (i = 14)]) ++ [decide (i = 15), decide (i = 16)])
theorem sorts_count : ∀ i, i < 17 → (sortsB i).count true = 1 := by decide +kernel
theorem sorts_at : ∀ i, i < 17 → (sortsB i)[i]? = some true := by decide +kernel
theorem sorts_before : ∀ i, i < 17 → ∀ m, m < i → (sortsB i)[m]? = some false := by decide +kernel
def basesB (i : Int) : List Bool := [decide (i < 12), decide ((11 : Int) < i) && decide (i < 14), decide ((13 : Int) < i)]
theorem bases_ok (i : Int) : SeqAt.shaped (.list ((basesB i).map PyData.bool)) = true ∧ PyData.eqv (.list ((basesB i).map PyData.bool)) (.list ((basesB i).map PyData.bool)) = true := by
  unfold basesB
  cases decide (i < 12) <;> cases decide ((11 : Int) < i) && decide (i < 14) <;> cases decide ((13 : Int) < i) <;> exact ⟨by rfl, by rfl⟩
def spFaultC (rs : List Nat) (C : Nat → Addr) : SpC := fun a c d vs H Q _ => ∃ (i : Nat) (fs : List (Str × V)), i ∈ rs ∧ c = C i ∧ vs = [.ref a] ∧ Flds H d fs ∧ ∀ H', Ex H H' → Q (.int (i : Nat)) H'
def spKeptC (rs : List Nat) (C : Nat → Addr) : SpC := fun a c d vs H Q _ => ∃ (i : Nat) (v : V), i ∈ rs ∧ c = C i ∧ vs = [.ref a, .int (i : Nat)] ∧ Flds H d [(exFld i, v)] ∧ ∀ p H', H p = none → Ex H H' → H' p = some (.lst [v]) → Q (.ref p) H'
theorem kd1 : ∀ i : Nat, i < 15 → inV (.int (i : Nat)) [.int 8, .int 9, .int 10, .int 11, .int 13] = decide (exKd i = 1) := by decide +kernel
theorem kd2 : ∀ i : Nat, i < 15 → decide (V.int (i : Nat) = V.int 14) = decide (exKd i = 2) := by decide +kernel
theorem kd4 : ∀ i : Nat, i < 15 → decide (V.int (i : Nat) = V.int 16) = false := by decide +kernel
theorem kd3 : ∀ i : Nat, i < 15 → inV (.int (i : Nat)) [.int (-1), .int 15] = false := by decide +kernel
theorem kd_le : ∀ i : Nat, i < 15 → exKd i ≤ 2 := by decide +kernel
/-- a reading, its end weakened -/
def tMono (t : TE) : TE := fun σ H Q => ∃ P : VK, t σ H P ∧ ∀ v H', P v H' → Q v H'
theorem pe_mono {X : Cx} {e : Expr} {t : TE} (h : PE X e t) : PE X e (tMono t) := ⟨fun pins s σ H Q I z => by
  obtain ⟨P, hp, w⟩ := z
  exact thn (h.run pins s σ H P I hp) fun u s1 hu => by
    obtain ⟨x, H1, I1, r, q⟩ := hu
    exact ⟨x, H1, I1, r, w _ _ q⟩⟩
/-- what a raised exception brings with it: its class, its one field -/
def Thrown (rs : List Nat) (C : Nat → Addr) (R : Nat → V → Hp → Prop) : XK := fun cls d H => ∃ (i : Nat) (v : V), i ∈ rs ∧ cls = .ref (C i) ∧ Flds H d [(exFld i, v)] ∧ R i v H
/-- what _law_caught makes of its lambda: tl runs it; rr: how repr reads -/
def TTc (K : PySem.W.Frag) (rs : List Nat) (C : Nat → Addr) (rr : List V → Hp → VK → Prop) : (XK → Hp → VK → Prop) → Hp → VK → Prop := fun tl H Q =>
  tl (Thrown rs C fun i v H' => ∃ D : PyData, (∀ H1, Ex H' H1 → Da K H1 v D) ∧ (PyData.list [D]).showable = true ∧ (PyData.list [D]).depth ≤ 180 ∧ (PyData.list [D]).shown.length ≤ sizeLine ∧
    ∀ p H2, Ex H' H2 → H2 p = some (.lst [.int (i : Nat), .str (PyData.shown (.list [D]))]) → Q (.ref p) H2) H
  fun v H' => rr [v] H' fun x H2 => ([V.str "told", x] : List V).length ≤ sizeLine ∧ ∀ p, H2 p = none → Q (.ref p) (upd H2 p (.lst [.str "told", x]))
theorem mt_countH {X : Cx} {k : Nat} (hr : L2H.RoomH k X.A) : MtR X "list.count" (rCountB X.K) := fun pins s σ H x xs v us Q I rx rxs h => by
  obtain ⟨p, bs, b, rfl, rfl, hs, q⟩ := h
  cases rx
  obtain ⟨u, rfl, ru⟩ := Vals.one rxs
  obtain rfl : u = Value.bool b := ru
  obtain ⟨its, rv, ⟨⟨cls, dd, data, sl⟩, n, ho, hc, hdn, hd⟩, _⟩ := I.list hs
  simp only at hc hd
  subst hc hd
  have e := bools_of rv
  subst e
  have un := hr.un
  refine call_meets PySem.F.slot_list_count ⟨_, ho, rfl⟩ PySem.F.entry_list_count (PySem.F.args_list_count_2 _ _) (SeqAt.list_countAt p _ n dd sl (.bool b) (isB b)) ⟨ho, fun y hy => ?_, ?_⟩
  · obtain ⟨c, _, rfl⟩ := List.mem_map.mp (show y ∈ bs.map Value.bool by simpa using hy)
    exact SeqAt.eqAt_reads (.bool c) (.bool b) _ _ _ _ [] [] (.bool c) (.bool b) rfl rfl (by show X.A.units + 1 + min _ _ < cLine; simp only [PyData.depth]; omega)
  · refine ⟨.int (bs.count b : Nat), H, I.tok _, ⟨s.toks, ?_⟩, q⟩
    rw [isB_count]
end SwX
set_option Elab.async false
set_option linter.all false
set_option maxRecDepth 100000
set_option maxHeartbeats 4000000
/-! a tuple against (), whatever its items; a dict sought among texts -/
namespace SwX
open PySem PySem.Spec PyProof.Rows L2 PySem.SeqAt
open AutoSeq1 (wpAny_loadPart')
open MeetsSeq
abbrev dicO (es : Array DictEntry) (ep : Nat) : Obj := { cls := .type "dict", data := .dict es ep }
theorem str_declines_dict (b : Str) (u : Tok) (l : Addr) (es : Array DictEntry) (ep : Nat) :
    Meets (Builtin.«str.__eq__» ⟨[.str b u, .ref l], []⟩) (fun _ R s => s.heap.get? l = some (dicO es ep) ∧ R (.ok (.ret .notImplemented)) s) :=
  .of_wp fun prog w A R s h => by obtain ⟨hp, g, d, tk, os⟩ := s; obtain ⟨hl, h⟩ := h; wp_walk using wpAny_loadPart' hl, wpAny_load hl; exact ⟨_, rfl, h⟩
theorem dict_declines_str (b : Str) (u : Tok) (l : Addr) (es : Array DictEntry) (ep : Nat) :
    Meets (Builtin.«dict.__eq__» ⟨[.ref l, .str b u], []⟩) (fun _ R s => s.heap.get? l = some (dicO es ep) ∧ R (.ok (.ret .notImplemented)) s) :=
  .of_wp fun prog w A R s h => by obtain ⟨hp, g, d, tk, os⟩ := s; obtain ⟨hl, h⟩ := h; have f1 := F.sub_str_dict; wp_walk using wpAny_loadPart' hl, wpAny_load hl; exact ⟨_, rfl, h⟩
theorem eq_str_dict {A : Around} {s : Shared} {l : Addr} {es : Array DictEntry} {ep : Nat} (b : Str) (u : Tok) (hl : s.heap.get? l = some (dicO es ep)) (hu : A.units < cLine) : EqAt A s (.str b u) (.ref l) false := fun prog w E Q h => by
  unfold eqBool
  refine wpAny_holding (wpAny_ite_split (fun hab => absurd (eq_of_beq hab) nofun) fun _ => wpAny_bind ?_)
  exact rc_eq_decline_or (k := false) (typeIs_str s b u) ⟨_, hl, rfl⟩ (by decide) F.sub_dict_str F.slot_str_eq F.slot_dict_eq_refl
    (fun _ hq => call_meets F.slot_str_eq (typeIs_str s b u) F.entry_str_eq (F.args_str_eq_2 _ _) (str_declines_dict b u l es ep) ⟨hl, hq⟩)
    (fun _ hq => call_meets F.slot_dict_eq_refl ⟨_, hl, rfl⟩ F.entry_dict_eq (F.args_dict_eq_2 _ _) (dict_declines_str b u l es ep) ⟨hl, hq⟩)
    (fun _ hq => wpAny_of_eq (rfl : isSame (.str b u) (.ref l) = pure false) hq) (.inr hu) (wpAny_truthy_bool h)
section
variable {X : Cx} {k : Nat}
/-- texts, as the machine has them -/
theorem strs_of : ∀ {zs : List Str} {us : List Value}, Vals (zs.map V.str) us → ∀ u ∈ us, ∃ z t, u = .str z t
  | [], _, r, u, hu => by cases r; cases hu
  | z :: zs, _, r, u, hu => by
    cases r with
    | cons r0 rs =>
      obtain ⟨t, rfl⟩ := r0
      rcases List.mem_cons.mp hu with rfl | hu
      · exact ⟨_, _, rfl⟩
      · exact strs_of rs u hu
theorem dict_at {pins : List (Addr × Obj)} {σ : L2.St} {H : Hp} {s : Shared} {a : Addr} {kvs : List (Key × V)} (I : Inv X pins σ H s) (h : H a = some (.dK kvs)) : ∃ es ep, s.heap.get? a = some (dicO es ep) := by
  obtain ⟨_, _, vs, r, ob, es, ep, e, c, dt, _⟩ := (show ObjOk X.prog X.w H s.heap a (.dK kvs) from I.hok a _ h)
  obtain ⟨oc, od, odt, osl⟩ := ob
  obtain ⟨c1, c2, c3⟩ := c
  dsimp only at c1 c2 c3 dt
  subst c1 c2 c3 dt
  exact ⟨es, ep, e⟩
/-- a dict in | not in a tuple of texts -/
def rInDic (K : PySem.W.Frag) (b : Bool) : R2 := fun x y H Q => ∃ (a p : Addr) (kvs : List (Key × V)) (zs : List Str), x = .ref a ∧ y = .ref p ∧ H a = some (.dK kvs) ∧ SqT K H p (zs.map V.str) ∧ Q (.bl b) H
theorem no_any {us : List Value} : us.toArray.any (fun _ => false) = false := by simp
theorem op_inDic (hr : Room k X.A) : OpR X (compareOp .In) (rInDic X.K false) := by
  intro pins s σ H x y v u Q I rx ry h
  obtain ⟨a, p, kvs, zs, rfl, rfl, ha, hp, q⟩ := h
  cases rx
  cases ry
  obtain ⟨es, ep, e⟩ := dict_at I ha
  obtain ⟨its, rv, ho, _⟩ := I.tuple hp
  have un := hr.un
  refine in_tupleAt (items := its.toArray) (fun _ => false) ho (fun y hy => ?_) (by rw [no_any]; exact ⟨.bl false, H, I, rel_bl _, q⟩)
  obtain ⟨z, t, rfl⟩ := strs_of rv y (by simpa using hy)
  exact eq_str_dict z t e (by show X.A.units + 1 < _; omega)
theorem op_niDic (hr : Room k X.A) : OpR X (compareOp .NotIn) (rInDic X.K true) := by
  intro pins s σ H x y v u Q I rx ry h
  obtain ⟨a, p, kvs, zs, rfl, rfl, ha, hp, q⟩ := h
  cases rx
  cases ry
  obtain ⟨es, ep, e⟩ := dict_at I ha
  obtain ⟨its, rv, ho, _⟩ := I.tuple hp
  have un := hr.un
  refine notIn_tupleAt (items := its.toArray) (fun _ => false) ho (fun y hy => ?_) (by rw [no_any]; exact ⟨.bl true, H, I, rel_bl _, q⟩)
  obtain ⟨z, t, rfl⟩ := strs_of rv y (by simpa using hy)
  exact eq_str_dict z t e (by show X.A.units + 1 < _; omega)
/-- a tuple == () -/
def rEqNil (K : PySem.W.Frag) : R2 := fun x y H Q => ∃ (p q : Addr) (xs : List V), x = .ref p ∧ y = .ref q ∧ SqT K H p xs ∧ SqT K H q [] ∧ Q (.bl (decide (xs = []))) H
theorem op_eqNil (hr : Room k X.A) : OpR X (compareOp .Eq) (rEqNil X.K) := by
  intro pins s σ H x y v u Q I rx ry h
  obtain ⟨p, q0, xs, rfl, rfl, hp, hq, q⟩ := h
  cases rx
  cases ry
  obtain ⟨its, rv, ho, _⟩ := I.tuple hp
  obtain ⟨its2, rv2, ho2, _⟩ := I.tuple hq
  cases rv2
  have un := hr.un
  refine eq_tupleAt (items := its.toArray) (items2 := #[]) (e := fun _ => true) ho ho2 (by omega) (fun j h1 h2 => absurd h2 (by simp)) ?_
  have e : ((List.range (min its.toArray.size (#[] : Array Value).size)).all (fun _ => true) && its.toArray.size == (#[] : Array Value).size) = decide (xs = []) := by
    cases rv with
    | nil => simp
    | cons r rs => simp
  rw [e]
  exact ⟨.bl _, H, I, rel_bl _, q⟩
end
end SwX
set_option Elab.async false
set_option linter.all false
set_option maxRecDepth 100000
set_option maxHeartbeats 4000000
/-! names and recipes among data of any kind -/
namespace SwX
open PySem PySem.Spec PyProof.Rows L2 Evl
/-! ### what kind of thing a datum is -/
def tyn : PyData → String
  | .none => "NoneType"
  | .bool _ => "bool"
  | .int _ => "int"
  | .str _ => "str"
  | .list _ => "list"
  | .tuple _ => "tuple"
  | .dict _ => "dict"
theorem da_ty {K : PySem.W.Frag} {H : Hp} {v : V} {d : PyData} (h : Da K H v d) : TyX K H v (.type (tyn d)) := by
  cases h with
  | non => exact .base .non
  | bl b => exact .base (.bl b)
  | int i => exact .base (.int i)
  | str x => exact .base (.str x)
  | lst h _ _ => exact .base (.lst h)
  | tup h _ _ =>
    rcases h with (h | ⟨o, h⟩) | ⟨o, its, n, h, c, _⟩
    · exact .base (.tup h)
    · exact .fTuple h
    · exact .kTuple h c
  | dic h _ _ => exact .base (.dK h)
def isStr : PyData → Bool
  | .str _ => true
  | _ => false
def isTup : PyData → Bool
  | .tuple _ => true
  | _ => false
def isInt : PyData → Bool
  | .int _ => true
  | .bool _ => true
  | _ => false
def isBl : PyData → Bool
  | .bool _ => true
  | _ => false
theorem kit_str (d : PyData) : kitB (tyn d) "str" = some (isStr d) := match d with
  | .none => (by decide +kernel : kitB "NoneType" "str" = some false)
  | .bool _ => (by decide +kernel : kitB "bool" "str" = some false)
  | .int _ => (by decide +kernel : kitB "int" "str" = some false)
  | .str _ => (by decide +kernel : kitB "str" "str" = some true)
  | .list _ => (by decide +kernel : kitB "list" "str" = some false)
  | .tuple _ => (by decide +kernel : kitB "tuple" "str" = some false)
  | .dict _ => (by decide +kernel : kitB "dict" "str" = some false)
theorem kit_tup (d : PyData) : kitB (tyn d) "tuple" = some (isTup d) := match d with
  | .none => (by decide +kernel : kitB "NoneType" "tuple" = some false)
  | .bool _ => (by decide +kernel : kitB "bool" "tuple" = some false)
  | .int _ => (by decide +kernel : kitB "int" "tuple" = some false)
  | .str _ => (by decide +kernel : kitB "str" "tuple" = some false)
  | .list _ => (by decide +kernel : kitB "list" "tuple" = some false)
  | .tuple _ => (by decide +kernel : kitB "tuple" "tuple" = some true)
  | .dict _ => (by decide +kernel : kitB "dict" "tuple" = some false)
theorem kit_int (d : PyData) : kitB (tyn d) "int" = some (isInt d) := match d with
  | .none => (by decide +kernel : kitB "NoneType" "int" = some false)
  | .bool _ => (by decide +kernel : kitB "bool" "int" = some true)
  | .int _ => (by decide +kernel : kitB "int" "int" = some true)
  | .str _ => (by decide +kernel : kitB "str" "int" = some false)
  | .list _ => (by decide +kernel : kitB "list" "int" = some false)
  | .tuple _ => (by decide +kernel : kitB "tuple" "int" = some false)
  | .dict _ => (by decide +kernel : kitB "dict" "int" = some false)
theorem kit_bl (d : PyData) : kitB (tyn d) "bool" = some (isBl d) := match d with
  | .none => (by decide +kernel : kitB "NoneType" "bool" = some false)
  | .bool _ => (by decide +kernel : kitB "bool" "bool" = some true)
  | .int _ => (by decide +kernel : kitB "int" "bool" = some false)
  | .str _ => (by decide +kernel : kitB "str" "bool" = some false)
  | .list _ => (by decide +kernel : kitB "list" "bool" = some false)
  | .tuple _ => (by decide +kernel : kitB "tuple" "bool" = some false)
  | .dict _ => (by decide +kernel : kitB "dict" "bool" = some false)
/-! ### names -/
def lowB (c : Nat) : Bool := decide (97 ≤ c ∧ c ≤ 122)
def signB (c : Nat) : Bool := lowB c || decide (48 ≤ c ∧ c ≤ 57)
def hdB : List Nat → Bool
  | c :: _ => lowB c
  | [] => false
def nameB (l : List Nat) : Bool := decide (1 ≤ l.length) && decide (l.length ≤ 8) && hdB l && l.all signB
def nameD : PyData → Bool
  | .str x => nameB x.cps.toList
  | _ => false
theorem nameB_ok {l : List Nat} : nameB l = true ↔ NameOk l := by
  constructor
  · intro h
    simp only [nameB, Bool.and_eq_true, decide_eq_true_eq, List.all_eq_true] at h
    obtain ⟨⟨⟨h1, h2⟩, h3⟩, h4⟩ := h
    match l, h3 with
    | c :: r, h3 =>
      refine ⟨⟨c, r, rfl, of_decide_eq_true h3⟩, h2, fun d hd => ?_⟩
      have z := h4 d hd
      simp only [signB, lowB, Bool.or_eq_true, decide_eq_true_eq] at z
      exact z
  · intro h
    obtain ⟨c, r, rfl, hc⟩ := h.hd
    simp only [nameB, Bool.and_eq_true, decide_eq_true_eq, List.all_eq_true]
    refine ⟨⟨⟨by simp, h.len⟩, decide_eq_true hc⟩, fun d hd => ?_⟩
    simp only [signB, lowB, Bool.or_eq_true, decide_eq_true_eq]
    exact h.sg d hd
theorem nameD_nm {n : Nm} : nameD (nmD n) = true ↔ NameOk n := by
  show nameB (SX.S n).cps.toList = true ↔ _
  exact nameB_ok
theorem nameD_inv {d : PyData} (h : nameD d = true) : ∃ n, d = nmD n ∧ NameOk n := by
  match d, h with
  | .str x, h => exact ⟨x.cps.toList, by unfold nmD; rw [SX.S_tl], nameB_ok.mp h⟩
/-! ### recipes -/
def btwD (lo hi : Int) : PyData → Bool
  | .int i => decide (lo ≤ i) && decide (i ≤ hi)
  | _ => false
def inD (ns : List Nm) (d : PyData) : Bool := (ns.map nmD).any fun z => PyData.eqv z d
theorem inD_inv {ns : List Nm} {d : PyData} (h : inD ns d = true) : ∃ n ∈ ns, d = nmD n := by
  obtain ⟨z, hz, e⟩ := List.any_eq_true.mp h
  obtain ⟨n, hn, rfl⟩ := List.mem_map.mp hz
  refine ⟨n, hn, ?_⟩
  match d, e with
  | .str x, e =>
    have e : (SX.S n == x) = true := e
    rw [← eq_of_beq e]
    rfl
theorem inD_nm {ns : List Nm} {n : Nm} : inD ns (nmD n) = decide (n ∈ ns) := by
  unfold inD
  rw [any_nm]
def recD (ns : List Nm) : PyData → Bool
  | .tuple [a, b, .tuple ps] => inD ns a && btwD 1 9 b && decide (ps.length ≤ 3) && ps.all (inD ns)
  | _ => false
theorem ins_inv {ns : List Nm} : ∀ {ps : List PyData}, ps.all (inD ns) = true → ∃ l : List Nm, ps = l.map nmD ∧ ∀ p ∈ l, p ∈ ns
  | [], _ => ⟨[], rfl, fun _ h => nomatch h⟩
  | p :: ps, h => by
    simp only [List.all_cons, Bool.and_eq_true] at h
    obtain ⟨n, hn, rfl⟩ := inD_inv h.1
    obtain ⟨l, rfl, hl⟩ := ins_inv h.2
    exact ⟨n :: l, rfl, fun q hq => (List.mem_cons.mp hq).elim (fun e => e ▸ hn) (hl q)⟩
theorem recD_inv {ns : List Nm} {d : PyData} (h : recD ns d = true) : ∃ r, d = rulD r ∧ RulOk ns r := by
  unfold recD at h
  split at h
  · rename_i a b ps
    simp only [Bool.and_eq_true, decide_eq_true_eq] at h
    obtain ⟨⟨⟨h1, h2⟩, h3⟩, h4⟩ := h
    obtain ⟨n, hn, rfl⟩ := inD_inv h1
    obtain ⟨l, rfl, hl⟩ := ins_inv h4
    match b, h2 with
    | .int i, h2 =>
      simp only [btwD, Bool.and_eq_true, decide_eq_true_eq] at h2
      refine ⟨(n, i.toNat, l), ?_, ⟨hn, by show 1 ≤ i.toNat; omega, by show i.toNat ≤ 9; omega, by simpa using h3, hl⟩⟩
      unfold rulD nmsD
      rw [show ((i.toNat : Nat) : Int) = i by omega]
  · cases h
theorem recD_rul {ns : List Nm} {r : Rul} (h : RulOk ns r) : recD ns (rulD r) = true := by
  have e : ∀ l : List Nm, (∀ p ∈ l, p ∈ ns) → (l.map nmD).all (inD ns) = true := fun l hl => by
    rw [List.all_eq_true]
    intro d hd
    obtain ⟨n, hn, rfl⟩ := List.mem_map.mp hd
    rw [inD_nm]
    exact decide_eq_true (hl n hn)
  show (inD ns (nmD r.1) && btwD 1 9 (.int (r.2.1 : Nat)) && decide ((r.2.2.map nmD).length ≤ 3) && (r.2.2.map nmD).all (inD ns)) = true
  rw [e _ h.pt, inD_nm, decide_eq_true h.wd, List.length_map, decide_eq_true h.len]
  have := h.lo
  have := h.hi
  simp [btwD]
  omega
/-! ### the first bad place -/
def firstB (n : Nat) (bad : Nat → Bool) : Option Nat := (List.range n).find? bad
theorem firstB_none {n : Nat} {bad : Nat → Bool} (h : ∀ i, i < n → bad i = false) : firstB n bad = none := by
  unfold firstB
  rw [List.find?_eq_none]
  intro i hi
  rw [h i (List.mem_range.mp hi)]
  simp
theorem firstB_some {n i : Nat} {bad : Nat → Bool} (hi : i < n) (h : ∀ j, j < i → bad j = false) (hb : bad i = true) : firstB n bad = some i := by
  unfold firstB
  rw [List.find?_eq_some_iff_getElem]
  refine ⟨hb, i, by simpa using hi, by simp, fun j hj => ?_⟩
  rw [List.getElem_range, h j hj]
  rfl
def at' (ds : List PyData) (i : Nat) : PyData := ds.getD i .none
def badK (ds : List PyData) (i : Nat) : Bool := i == 4 || !nameD (at' ds i) || (ds.take i).any fun z => PyData.eqv z (at' ds i)
def badR (ns : List Nm) (ds : List PyData) (i : Nat) : Bool := i == 10 || !recD ns (at' ds i) || (ds.take i).any fun z => PyData.eqv z (at' ds i)
def chkK : PyData → Option (Option Nat)
  | .tuple [] => some none
  | .tuple ds => (firstB ds.length (badK ds)).map some
  | _ => some none
def chkR (ns : List Nm) : PyData → Option (Option Nat)
  | .tuple ds => (firstB ds.length (badR ns ds)).map some
  | _ => some none
theorem at_get {ds : List PyData} {i : Nat} {d : PyData} (h : ds[i]? = some d) : at' ds i = d := by
  unfold at'
  rw [List.getD_eq_getElem?_getD, h]
  rfl
/-- names told one by one are names -/
theorem nms_inv : ∀ {ds : List PyData}, (∀ (i : Nat) d, ds[i]? = some d → nameD d = true) → ∃ ns : List Nm, ds = ns.map nmD ∧ ∀ n ∈ ns, NameOk n
  | [], _ => ⟨[], rfl, fun _ h => nomatch h⟩
  | d :: ds, h => by
    obtain ⟨n, rfl, hn⟩ := nameD_inv (h 0 d rfl)
    obtain ⟨ns, rfl, hns⟩ := nms_inv (ds := ds) fun i d' e => h (i + 1) d' (by simpa using e)
    exact ⟨n :: ns, rfl, fun m hm => (List.mem_cons.mp hm).elim (fun e => e ▸ hn) (hns m)⟩
theorem ruls_inv {ns : List Nm} : ∀ {ds : List PyData}, (∀ (i : Nat) d, ds[i]? = some d → recD ns d = true) → ∃ rs : List Rul, ds = rs.map rulD ∧ ∀ r ∈ rs, RulOk ns r
  | [], _ => ⟨[], rfl, fun _ h => nomatch h⟩
  | d :: ds, h => by
    obtain ⟨r, rfl, hr⟩ := recD_inv (h 0 d rfl)
    obtain ⟨rs, rfl, hrs⟩ := ruls_inv (ns := ns) (ds := ds) fun i d' e => h (i + 1) d' (by simpa using e)
    exact ⟨r :: rs, rfl, fun m hm => (List.mem_cons.mp hm).elim (fun e => e ▸ hr) (hrs m)⟩
theorem nodup_of {α : Type} {l : List α} (h : ∀ (i : Nat) (x : α), l[i]? = some x → x ∉ l.take i) : l.Nodup := by
  rw [List.nodup_iff_pairwise_ne, List.pairwise_iff_getElem]
  intro i j hi hj lt e
  refine h j l[j] (by simp [hj]) ?_
  rw [List.mem_take_iff_getElem]
  exact ⟨i, by omega, e⟩
theorem find_all {n : Nat} {bad : Nat → Bool} (h : firstB n bad = none) : ∀ i, i < n → bad i = false := fun i hi => by
  have z := List.find?_eq_none.mp h i (List.mem_range.mpr hi)
  simpa using z
theorem chkK_none {d : PyData} (h : chkK d = none) : ∃ ns, d = nmsD ns ∧ NamesOk ns := by
  unfold chkK at h
  split at h
  · cases h
  · rename_i ds ne
    have all := find_all (Option.map_eq_none_iff.mp h)
    have lt : ∀ {i : Nat} {d : PyData}, ds[i]? = some d → i < ds.length := fun e => (List.getElem?_eq_some_iff.mp e).1
    obtain ⟨ns, rfl, hns⟩ := nms_inv (ds := ds) fun i d e => by
      have z := all i (lt e)
      simp only [badK, Bool.or_eq_false_iff, at_get e, Bool.not_eq_false'] at z
      exact z.1.2
    rw [List.length_map] at all
    refine ⟨ns, rfl, ⟨fun e => ne (by rw [e]; rfl), ?_, nodup_of fun i n e => ?_, hns⟩⟩
    · refine Nat.le_of_not_lt fun l => ?_
      have z := all 4 l
      simp [badK] at z
    · have z := all i (List.getElem?_eq_some_iff.mp e).1
      have e' : (ns.map nmD)[i]? = some (nmD n) := by rw [List.getElem?_map, e]; rfl
      simp only [badK, Bool.or_eq_false_iff, at_get e', ← List.map_take, any_nm] at z
      exact of_decide_eq_false z.2
  · cases h
theorem chkR_none {ns : List Nm} {d : PyData} (h : chkR ns d = none) : ∃ rs, d = rulsD rs ∧ RulesOk ns rs := by
  unfold chkR at h
  split at h
  · rename_i ds
    have all := find_all (Option.map_eq_none_iff.mp h)
    have lt : ∀ {i : Nat} {d : PyData}, ds[i]? = some d → i < ds.length := fun e => (List.getElem?_eq_some_iff.mp e).1
    obtain ⟨rs, rfl, hrs⟩ := ruls_inv (ns := ns) (ds := ds) fun i d e => by
      have z := all i (lt e)
      simp only [badR, Bool.or_eq_false_iff, at_get e, Bool.not_eq_false'] at z
      exact z.1.2
    rw [List.length_map] at all
    refine ⟨rs, rfl, ⟨?_, nodup_of fun i r e => ?_, hrs⟩⟩
    · refine Nat.le_of_not_lt fun l => ?_
      have z := all 10 l
      simp [badR] at z
    · have z := all i (List.getElem?_eq_some_iff.mp e).1
      have e' : (rs.map rulD)[i]? = some (rulD r) := by rw [List.getElem?_map, e]; rfl
      simp only [badR, Bool.or_eq_false_iff, at_get e', ← List.map_take, any_rul] at z
      exact of_decide_eq_false z.2
  · cases h
end SwX
set_option Elab.async false
set_option linter.all false
set_option maxRecDepth 100000
set_option maxHeartbeats 4000000
/-! reading tests of data of any kind -/
namespace SwX
open PySem PySem.Spec PyProof.Rows L2 Evl
/-- what may be sought among names -/
def ItM (d : PyData) : Prop := (∃ kvs, d = .dict kvs) ∨ Pl d
/-- texts short enough -/
def Short (d : PyData) : Prop := ∀ x, d = .str x → x.cps.toList.length ≤ 1000
section
variable {X : Cx} {k : Nat} {K : PySem.W.Frag}
def rInY (K : PySem.W.Frag) : R2 := fun x y H Q => ((∃ (c : Nat) (z : Str), x = .str ⟨#[c]⟩ ∧ y = .str z ∧ Q (.bl (decide (c ∈ z.cps.toList))) H) ∨ rInDat K false x y H Q) ∨ rInDic K false x y H Q
def rNiY (K : PySem.W.Frag) : R2 := fun x y H Q => ((∃ (c : Nat) (z : Str), x = .str ⟨#[c]⟩ ∧ y = .str z ∧ Q (.bl (!decide (c ∈ z.cps.toList))) H) ∨ rInDat K true x y H Q) ∨ rInDic K true x y H Q
theorem inY (hr : Room k X.A) (h : X.K = K := by rfl) : OpR X (compareOp .In) (rInY K) := h ▸ op_join (op_inX hr) (op_inDic hr)
theorem niY (hr : Room k X.A) (h : X.K = K := by rfl) : OpR X (compareOp .NotIn) (rNiY K) := h ▸ op_join (op_niX hr) (op_niDic hr)
def rEqY (K : PySem.W.Frag) : R2 := fun x y H Q => (rEq x y H Q ∨ rEqDat K id x y H Q) ∨ rEqNil K x y H Q
theorem eqY (hr : Room k X.A) (h : X.K = K := by rfl) : OpR X (compareOp .Eq) (rEqY K) := h ▸ op_join (op_eqX hr) (op_eqNil hr)
end
section
variable {K : PySem.W.Frag} {σ : L2.St} {H : Hp} {te ta tb : TE} {x y v : V} {D : PyData}
theorem ev_isD {n : String} {b : Bool} (h : Ev te σ H x) (da : ∀ H', Ex H H' → Da K H' x D) (k : kitB (tyn D) n = some b) : Ev (tCB (rIsi K) (tCons te (tCons (tC (.ty n)) tNil))) σ H (.bl b) := ev_isi h (fun H' e => da_ty (da H' e)) k
theorem inD_dict (ns : List Nm) (kvs : List (PyData × PyData)) : inD ns (.dict kvs) = false := by
  unfold inD
  rw [List.any_eq_false]
  intro z hz
  obtain ⟨n, _, rfl⟩ := List.mem_map.mp hz
  show ¬ (PyData.eqv (.str _) (.dict _) = true)
  simp [PyData.eqv]
theorem nmV_str (ns : List Nm) : ns.map nmV = (ns.map SX.S).map V.str := by
  rw [List.map_map] <;> rfl
/-- x in a tuple of names, whatever x is -/
theorem rv_inM {ns : List Nm} {p : Addr} (da : Da K H x D) (hp : SqT K H p (ns.map nmV)) (ok : ∀ n ∈ ns, NameOk n) (m : ItM D) : RV (rInY K) x (.ref p) H (.bl (inD ns D)) := fun H1 e1 Q q => by
  rcases m with ⟨kvs, rfl⟩ | pl
  · rw [inD_dict] at q
    cases da with
    | dic h _ _ => exact .inr ⟨_, p, _, ns.map SX.S, rfl, rfl, e1 _ _ h, by rw [← nmV_str]; exact ex_t e1 hp, q H1 (Ex.refl H1)⟩
  · exact .inl (rv_inDat (d := D) (c := nmsD ns) (.inr rfl) da (da_nms hp) pl (pl_nms ok) rfl H1 e1 Q q)
theorem rv_niM {ns : List Nm} {p : Addr} (da : Da K H x D) (hp : SqT K H p (ns.map nmV)) (ok : ∀ n ∈ ns, NameOk n) (m : ItM D) : RV (rNiY K) x (.ref p) H (.bl (!inD ns D)) := fun H1 e1 Q q => by
  rcases m with ⟨kvs, rfl⟩ | pl
  · rw [inD_dict] at q
    cases da with
    | dic h _ _ => exact .inr ⟨_, p, _, ns.map SX.S, rfl, rfl, e1 _ _ h, by rw [← nmV_str]; exact ex_t e1 hp, q H1 (Ex.refl H1)⟩
  · exact .inl (rv_niDat (d := D) (c := nmsD ns) (.inr rfl) da (da_nms hp) pl (pl_nms ok) rfl H1 e1 Q q)
theorem rv_inl {r r' : R2} {z : V} (h : RV r x y H z) : RV (fun x y H Q => r x y H Q ∨ r' x y H Q) x y H z := fun H1 e1 Q q => .inl (h H1 e1 Q q)
/-- a tuple's items -/
theorem da_items {ds : List PyData} (h : Da K H v (.tuple ds)) : ∃ p xs, v = .ref p ∧ SqT K H p xs ∧ Paired (fun d x => Da K H x d) ds xs := by
  obtain ⟨p, xs, e, s, q⟩ := da_tupI h
  exact ⟨p, xs, e, s, q⟩
theorem given_eq {n : Nat} {f : Nat → V} {vs : List V} (l : vs.length = n) (h : ∀ i (hi : i < vs.length), f i = vs[i]) : given n (fun _ => true) f = vs := by
  unfold given
  rw [List.filter_eq_self.mpr (fun _ _ => rfl)]
  apply List.ext_getElem
  · simp [l]
  · intro i h1 h2
    simp only [List.getElem_map, List.getElem_range]
    exact h i h2
theorem paired_take {α β : Type} {F : α → β → Prop} : ∀ {is : List α} {vs : List β} (n : Nat), Paired F is vs → Paired F (is.take n) (vs.take n)
  | _, _, 0, _ => by
    rw [List.take_zero, List.take_zero]
    exact .nil
  | _, _, _ + 1, .nil => .nil
  | _, _, n + 1, .cons h t => .cons h (paired_take n t)
end
end SwX
set_option Elab.async false
set_option linter.all false
set_option maxRecDepth 100000
set_option maxHeartbeats 4000000
/-! odd things: what a law bends names and rules into; menus, tuples put together beside the purse -/
namespace SwX
open PySem PySem.Spec PyProof.Rows L2 Evl
/-! ### kinds of odd things -/
/-- none, a truth, an integer, a short plain text -/
inductive At : PyData → Prop
  | non : At .none
  | bl (b : Bool) : At (.bool b)
  | int (i : Int) : At (.int i)
  | str (l : List Nat) (h : l.length ≤ 100) (c : ∀ d ∈ l, d < 128) : At (.str (SX.S l))
inductive El : PyData → Prop
  | at_ {d : PyData} (h : At d) : El d
  | dic : El (.dict [])
  | tup {d : PyData} (h : At d) : El (.tuple [d])
  | lst {d : PyData} (h : At d) : El (.list [d])
inductive Pt : PyData → Prop
  | el {d : PyData} (h : El d) : Pt d
  | tup {ds : List PyData} (l : ds.length ≤ 10) (h : ∀ d ∈ ds, El d) : Pt (.tuple ds)
  | lst (ds : List PyData) : Pt (.list ds)
inductive Ru : PyData → Prop
  | pt {d : PyData} (h : Pt d) : Ru d
  | tup {a : PyData} {r : List PyData} (l : r.length ≤ 10) (ha : El a) (h : ∀ d ∈ r, Pt d) : Ru (.tuple (a :: r))
  | lst (ds : List PyData) : Ru (.list ds)
theorem at_pl {d : PyData} (h : At d) : Pl d := by
  cases h with
  | non => exact ⟨rfl, shaped_of rfl (Nat.zero_le _)⟩
  | bl b => exact ⟨rfl, shaped_of rfl (Nat.zero_le _)⟩
  | int i => exact ⟨rfl, shaped_of rfl (Nat.zero_le _)⟩
  | str l h c =>
    refine ⟨rfl, shaped_of ?_ (Nat.zero_le _)⟩
    show PyData.strOk (SX.S l) = true
    unfold PyData.strOk
    rw [← Array.all_toList]
    show l.all _ = true
    rw [List.all_eq_true]
    intro d hd
    have := c d hd
    exact decide_eq_true (by omega)
theorem at_depth {d : PyData} (h : At d) : d.depth = 0 := by cases h <;> rfl
theorem el_itm {d : PyData} (h : El d) : ItM d := by
  cases h with
  | at_ h => exact .inr (at_pl h)
  | dic => exact .inl ⟨_, rfl⟩
  | tup h =>
    refine .inr ⟨?_, shaped_of ?_ ?_⟩
    · simp only [PyData.hasDict, PyData.hasDictAll, (at_pl h).nd, Bool.or_false]
    · simp only [PyData.canLay0, PyData.canLayAll0, SeqAt.canLay_of_shaped (at_pl h).sh, Bool.and_true]
    · rw [dep_t]
      simp [PyData.depthAll, at_depth h]
  | lst h =>
    refine .inr ⟨?_, shaped_of ?_ ?_⟩
    · simp only [PyData.hasDict, PyData.hasDictAll, (at_pl h).nd, Bool.or_false]
    · simp only [PyData.canLay0, PyData.canLayAll0, SeqAt.canLay_of_shaped (at_pl h).sh, Bool.and_true]
    · rw [dep_l]
      simp [PyData.depthAll, at_depth h]
theorem at_short {d : PyData} (h : At d) : Short d := by
  intro x e
  cases h with
  | str l h c =>
    cases e
    show l.length ≤ 1000
    omega
  | _ => cases e
theorem el_short {d : PyData} (h : El d) : Short d := by
  cases h with
  | at_ h => exact at_short h
  | _ => intro x e; cases e
theorem at_notup {d : PyData} (h : At d) {ds : List PyData} : d ≠ .tuple ds := by
  intro e
  cases h <;> cases e
/-- a tuple that is such an element has but one item -/
theorem el_tup {ds : List PyData} (h : El (.tuple ds)) : ∃ d, ds = [d] ∧ At d := by
  cases h with
  | at_ h => exact absurd rfl (at_notup h)
  | tup h => exact ⟨_, rfl, h⟩
theorem el_parts {ps : List PyData} (h : El (.tuple ps)) : ps.length ≤ 1000 ∧ ∀ p ∈ ps, ItM p := by
  obtain ⟨d, rfl, ha⟩ := el_tup h
  exact ⟨by simp, fun p hp => by rw [List.mem_singleton.mp hp]; exact .inr (at_pl ha)⟩
theorem pt_parts {ps : List PyData} (h : Pt (.tuple ps)) : ps.length ≤ 1000 ∧ ∀ p ∈ ps, ItM p := by
  cases h with
  | el h => exact el_parts h
  | tup l h => exact ⟨by omega, fun p hp => el_itm (h p hp)⟩
def RitX (D : PyData) : Prop := ∀ a b c, D = .tuple [a, b, c] → ItM a ∧ ∀ ps, c = .tuple ps → ps.length ≤ 1000 ∧ ∀ p ∈ ps, ItM p
theorem pt_rit {d : PyData} (h : Pt d) : RitX d := by
  intro a b c e
  subst e
  cases h with
  | el h =>
    obtain ⟨d, e, _⟩ := el_tup h
    cases e
  | tup l h =>
    refine ⟨el_itm (h a (by simp)), fun ps e => ?_⟩
    have z := h c (by simp)
    rw [e] at z
    exact el_parts z
theorem ru_rit {d : PyData} (h : Ru d) : RitX d := by
  cases h with
  | pt h => exact pt_rit h
  | tup l ha h =>
    intro a b c e
    cases e
    refine ⟨el_itm ha, fun ps e => ?_⟩
    have z := h c (by simp)
    rw [e] at z
    exact pt_parts z
  | lst ds => intro a b c e; cases e
theorem el_pt_items {ds : List PyData} (h : Pt (.tuple ds)) : ds.length ≤ 10 ∧ ∀ d ∈ ds, El d := by
  cases h with
  | el h =>
    obtain ⟨d, rfl, ha⟩ := el_tup h
    exact ⟨by simp, fun p hp => by rw [List.mem_singleton.mp hp]; exact .at_ ha⟩
  | tup l h => exact ⟨l, h⟩
theorem ru_items {ds : List PyData} (h : Ru (.tuple ds)) : ds.length ≤ 11 ∧ ∀ d ∈ ds, RitX d := by
  cases h with
  | pt h =>
    obtain ⟨l, z⟩ := el_pt_items h
    exact ⟨by omega, fun d hd => pt_rit (.el (z d hd))⟩
  | tup l ha h => exact ⟨by simp; omega, fun d hd => (List.mem_cons.mp hd).elim (fun e => e ▸ pt_rit (.el ha)) fun hd => pt_rit (h d hd)⟩
theorem name_at {n : Nm} (h : NameOk n) : At (nmD n) := .str n (by have := h.len; omega) fun d hd => by
  rcases h.sg d hd with z | z <;> omega
theorem rul_ru {ns : List Nm} {r : Rul} (h : RulOk ns r) (ok : ∀ n ∈ ns, NameOk n) : Ru (rulD r) := .tup (by simp) (.at_ (name_at (ok _ h.wd))) fun d hd => by
  simp only [List.mem_cons, List.not_mem_nil, or_false] at hd
  rcases hd with rfl | rfl
  · exact .el (.at_ (.int _))
  · refine .tup (by rw [List.length_map]; have := h.len; omega) fun e he => ?_
    obtain ⟨m, hm, rfl⟩ := List.mem_map.mp he
    exact .at_ (name_at (ok _ (h.pt m hm)))
/-! ### evaluation -/
section
variable {K : PySem.W.Frag} {σ : L2.St} {H H' : Hp} {a : Addr} {te ta tb : TE} {v x : V} {d : PyData} {ds es : List PyData} {D : Ends} {tz : TS}
theorem less_step (e : Ex (less a H) H') : Ex (less a H) (less a H') := ex_less less_at e
theorem Pur.is (p : Pur H a) : ∃ o, H a = some o := let ⟨_, _, _, z, _⟩ := p; ⟨_, z⟩
theorem daA_from (h : Da K (less a H) v d) (e : Ex (less a H) H') : DaA K a d v H' := Da.mono (less_step e) h
theorem yi_daA (h : Ev te σ H v) (q : DaA K a d v H) : Yi te σ H (DaA K a d) := (yi_ev h).imp fun x H' e z => by
  subst z
  exact daA_mono _ _ _ _ e q
/-- a tuple apart of the purse -/
theorem sqt_less {q : Addr} {xs : List V} (h : SqT K H q xs) (p : Pur H a) : SqT K (less a H) q xs := by
  obtain ⟨_, _, _, z, _⟩ := p
  rcases h with (h | ⟨o, h⟩) | h
  · exact .inl (.inl (by rw [less_ne (fun w => by rw [w, z] at h; cases h)]; exact h))
  · exact .inl (.inr ⟨o, by rw [less_ne (fun w => by rw [w, z] at h; cases h)]; exact h⟩)
  · exact .inr h
theorem sqt_more {q : Addr} {xs : List V} (h : SqT K (less a H) q xs) : SqT K H q xs := ex_t less_ex h
theorem daA_items (h : DaA K a (.tuple ds) v H) : ∃ p xs, v = .ref p ∧ SqT K (less a H) p xs ∧ Paired (fun d x => DaA K a d x H) ds xs := da_items h
theorem yi_dadd (pu : Pur H a) (ha : Yi ta σ H (DaA K a (.tuple ds))) (hb : Yi tb σ H (DaA K a (.tuple es))) (l : ds.length + es.length ≤ 100000) : Yi (tOp (rAddX K) ta tb) σ H (DaA K a (.tuple (ds ++ es))) := fun H1 e1 Q q =>
  ha H1 e1 _ fun x H2 e2 hx => hb H2 (e1.trans e2) _ fun y H3 e3 hy => by
    obtain ⟨p, xs, rfl, hp, pr⟩ := daA_items (daA_mono _ _ _ _ e3 hx)
    obtain ⟨r, ys, rfl, hr, pq⟩ := daA_items hy
    have l1 := paired_len pr
    have l2 := paired_len pq
    have e13 := e2.trans e3
    have pu3 : Pur H3 a := pu.keep ((e1.trans e2).trans e3)
    refine .inr (.inr (.inr ⟨p, r, xs, ys, rfl, rfl, sqt_more hp, sqt_more hr, sz_of (by omega), fun ex => ?_, fun nx ey => ?_, fun nx ny c hc => ?_⟩))
    · have z : ds = [] := List.eq_nil_of_length_eq_zero (by rw [l1, ex]; rfl)
      subst z
      exact q _ _ e13 hy
    · have z : es = [] := List.eq_nil_of_length_eq_zero (by rw [l2, ey]; rfl)
      subst z
      rw [List.append_nil] at q
      exact q _ _ e13 (daA_mono _ _ _ _ e3 hx)
    · have ne : c ≠ a := pu3.ne hc
      refine q (.ref c) _ (e13.trans (Ex.new hc)) (da_tuple (.inl (.inl (by rw [less_ne ne, upd_same]))) ?_)
      exact paired_mono (F := fun d v H => DaA K a d v H) (Ex.new hc) (fun d v H H' e h => daA_mono d v H H' e h) (paired_append pr pq)
theorem paired_drop {α β : Type} {F : α → β → Prop} : ∀ {is : List α} {vs : List β} (n : Nat), Paired F is vs → Paired F (is.drop n) (vs.drop n)
  | _, _, 0, h => h
  | _, _, _ + 1, .nil => .nil
  | _, _, n + 1, .cons _ t => paired_drop n t
theorem yi_dtake (pu : Pur H a) {n : Nat} {th : TO} (ha : Ev te σ H v) (hv : DaA K a (.tuple ds) v H) (hh : EvO th σ H (some (n : Int))) {tl : TO} (hl : EvO tl σ H none) : Yi (tSl (rSlY K) te tl th) σ H (DaA K a (.tuple (ds.take n))) := by
  obtain ⟨p, xs, rfl, hp, pr⟩ := daA_items hv
  refine (yi_slT ha (sqt_more hp) hl hh).imp fun y H2 e2 z => ?_
  obtain ⟨q1, rfl, h1⟩ := z
  rw [cut_take] at h1
  exact da_tuple (sqt_less h1 (pu.keep e2)) (paired_take n (paired_mono (F := fun d v H => DaA K a d v H) e2 (fun d v H H' e h => daA_mono d v H H' e h) pr))
theorem yi_ddrop (pu : Pur H a) {n : Nat} {th tl : TO} (ha : Ev te σ H v) (hv : DaA K a (.tuple ds) v H) (hl : EvO tl σ H (some (n : Int))) (hh : EvO th σ H none) : Yi (tSl (rSlY K) te tl th) σ H (DaA K a (.tuple (ds.drop n))) := by
  obtain ⟨p, xs, rfl, hp, pr⟩ := daA_items hv
  refine (yi_slT ha (sqt_more hp) hl hh).imp fun y H2 e2 z => ?_
  obtain ⟨q1, rfl, h1⟩ := z
  rw [cut_drop] at h1
  exact da_tuple (sqt_less h1 (pu.keep e2)) (paired_drop n (paired_mono (F := fun d v H => DaA K a d v H) e2 (fun d v H H' e h => daA_mono d v H H' e h) pr))
/-- list(a tuple that is data) -/
def rListOf (K : PySem.W.Frag) : List V → Hp → VK → Prop := fun xs H Q => ∃ p ys, xs = [.ref p] ∧ (SqL K H p ys ∨ SqT K H p ys) ∧ ∀ l, H l = none → Q (.ref l) (upd H l (.lst ys))
theorem listK {X : Cx} (K : PySem.W.Frag) (h : X.K = K := by rfl) : CallR X (.type "list") (rListOf K) := h ▸ call_list_of
theorem yi_dlist (pu : Pur H a) (ha : Ev te σ H v) (hv : DaA K a (.tuple ds) v H) : Yi (tCB (rListOf K) (tCons te tNil)) σ H (DaA K a (.list ds)) := fun H1 e1 Q q => ha H1 e1 _ fun H2 e2 => by
  obtain ⟨p, xs, rfl, hp, pr⟩ := daA_items (daA_mono _ _ _ _ (e1.trans e2) hv)
  refine ⟨p, xs, rfl, .inr (sqt_more hp), fun c hc => ?_⟩
  have ne : c ≠ a := (pu.keep (e1.trans e2)).ne hc
  exact q (.ref c) _ (e2.trans (Ex.new hc)) (da_list (by rw [less_ne ne, upd_same]) (paired_mono (F := fun d v H => DaA K a d v H) (Ex.new hc) (fun d v H H' e h => daA_mono d v H H' e h) pr))
theorem yi_catX {α : Type} {F : α → V → Hp → Prop} {is js : List α} (m : ∀ i v H H', Ex H H' → F i v H → F i v H') (ha : Yi ta σ H (LstOf F is)) (hb : Yi tb σ H (LstOf F js)) (l : is.length + js.length ≤ 100000) : Yi (tOp (rAddX K) ta tb) σ H (LstOf F (is ++ js)) := fun H1 e1 Q q =>
  ha H1 e1 _ fun x H2 e2 p => hb H2 (e1.trans e2) _ fun y H3 e3 p' => by
    obtain ⟨a, vs, rfl, ha, pa⟩ := p.mono m e3
    obtain ⟨b, ws, rfl, hb, pb⟩ := p'
    refine .inr (.inl ⟨a, b, vs, ws, rfl, rfl, ha, hb, sz_of (by rw [← paired_len pa, ← paired_len pb]; exact l), fun c hc => ?_⟩)
    exact q _ _ ((e2.trans e3).trans (Ex.new hc)) ⟨c, _, rfl, upd_same, paired_mono (Ex.new hc) m (paired_append pa pb)⟩
/-- an ascii text's upper -/
theorem ev_upperS {l : List Nat} (h : Ev te σ H (.str (SX.S l))) (c : ∀ d ∈ l, d < 128) (len : l.length ≤ 1000) : Ev (tM0 (fun x xs H Q => ∃ a, x = .str a ∧ xs = [] ∧ a.length ≤ 5592405 ∧ Q (.str (Txt.upper a)) H) te) σ H (.str (SX.S (l.map PyProof.Rows.up1))) := fun H1 e1 Q q => h H1 e1 _ fun H2 e2 =>
  ⟨⟨_, rfl⟩, SX.S l, rfl, rfl, by rw [SX.S_len]; omega, by rw [SX.upper_S (List.all_eq_true.mpr fun d hd => decide_eq_true (c d hd))]; exact q H2 e2⟩
/-- return menu[draw(purse, len(menu))] -/
theorem s_pick {i : Nat} {x : V} {E : XK} (hi : σ[i]? = some (some x)) (h0 : σ[0]? = some (some (.ref a))) (l : LstOf (DaA K a) ds x H) (n3 : ds.length ≠ 3) (pos : 0 < ds.length) (le : ds.length ≤ 1000) (pu : Pur H a)
    (k : ∀ d ∈ ds, ∀ y H', Ex (less a H) H' → Pur H' a → DaA K a d y H' → D.rt y H') : tRet (tOp (rIx K) (tVar i) (tCall spDraw [] E (tCons (tVar 0) (tCons (tCB (rLenY K) (tCons (tVar i) tNil)) tNil)))) D σ H := by
  obtain ⟨p, vs, rfl, hp, pr⟩ := l
  have ln := paired_len pr
  have ne : p ≠ a := fun z => by
    obtain ⟨_, _, _, z2, _⟩ := pu
    rw [z, z2] at hp
    cases hp
    exact n3 (by rw [ln]; rfl)
  have hp' : less a H p = some (.lst vs) := by rw [less_ne ne]; exact hp
  refine ⟨.ref p, hi, (dr_draw (m := (ds.length : Int)) less_at h0 (ev_is (ev_lenL (ev_var hi) (.inl (sq_of hp'))) (by rw [ln])) (by omega) (by omega) : Dr a _ σ (less a H) _) H less_ex pu _ fun y H3 py e3 p3 => ?_⟩
  obtain ⟨j, rfl, k0, k1⟩ := py
  obtain ⟨v, hv, hv2⟩ := atI_nat (xs := vs) k0 (by rw [← ln]; exact k1)
  have lt : j.toNat < ds.length := by omega
  obtain ⟨v', e4, dv⟩ := SwX.paired_get (n := j.toNat) (i := ds[j.toNat]'lt) pr (by simp [lt])
  rw [hv2] at e4
  cases e4
  exact .inl ⟨p, vs, j, v, rfl, rfl, sq_of (e3 _ _ hp'), hv, k _ (List.getElem_mem lt) v H3 e3 p3 (daA_from dv e3)⟩
theorem q_asg3 {i j l : Nat} (h : ta' σ H fun vs H1 => ∃ x y z, vs = [x, y, z] ∧ ∀ p, H1 p = none → tz D (((σ.set i (some x)).set j (some y)).set l (some z)) (upd H1 p (.tup [x, y, z]))) (mono : ∀ (P Q : List V → Hp → Prop), (∀ vs H, P vs H → Q vs H) → ta' σ H P → ta' σ H Q) :
    tSeq (tAsg (tTup ta') (gTup K 3 (gCons (gName i) (gCons (gName j) (gCons (gName l) gNil))))) tz D σ H := by
  refine mono _ _ (fun vs H1 z => ?_) h
  obtain ⟨x, y, z, rfl, k⟩ := z
  exact ⟨show 3 ≤ sizeLine by decide, fun p hp => ⟨p, _, rfl, .inl (.inl upd_same), rfl, x, [y, z], rfl, y, [z], rfl, z, [], rfl, rfl, k p hp⟩⟩
end
end SwX
set_option Elab.async false
set_option linter.all false
set_option maxRecDepth 100000
set_option maxHeartbeats 4000000
/-! defs that make lambdas: their code objects, their tables; heaps but for tables -/
namespace SwX
open PySem PySem.Spec PyProof.Rows L2
/-- the code object of the def at f -/
def codeAt (K : PySem.W.Frag) (f : Addr) : Addr := match K.lookup f with
  | some ⟨_, _, .func fd, _⟩ => (match fd.code with
    | .ref c => c
    | _ => 0)
  | _ => 0
theorem codeAt_eq {K : PySem.W.Frag} {f : Addr} {oc : Value} {od : Option Addr} {osl : Array (Option Value)} {fd : FuncData} {c : Addr} (lk : K.lookup f = some ⟨oc, od, .func fd, osl⟩) (e : fd.code = .ref c) : codeAt K f = c := by
  unfold codeAt
  rw [lk]
  simp only [e]
theorem code_ref {K : PySem.W.Frag} {cd : Value} {q : Str} (h : PySem.W.codeIn K cd q = true) : ∃ c, cd = .ref c := by
  cases cd with
  | ref c => exact ⟨c, rfl⟩
  | _ => cases h
section
variable {P : Program} {w : World} {K : PySem.W.Frag} {mg : Str → Option Value} {base : Heap} {CX : CXT} {k : Nat} {f : Addr} {fd : FuncData} {N ps : List Str} {sp : Sp} {x qual : Str} {params : Arguments} {body : List Stmt} {scope : Scope} {dvs : List V} {kws : List (Str × V)}
/-- the rule of such a def, its code object known -/
theorem FunD.okT (F : FunD K x qual params body scope dvs kws f fd) (S : FnScope N ps scope) (len : ∀ vs H Q E, sp vs H Q E → vs.length = ps.length)
    (hb : ∀ (A : Around) (outer : List Env) (s : Shared) (H : Hp) (vs : List V) (Q : VK) (E : XK), Room k (A.deeper (envOfC qual scope s.heap.objs.size f (.ref (codeAt K f)))) → Calm A → sp vs H Q E →
      ∃ t, PSs (cxOf CX P w K mg base N qual scope f (.ref (codeAt K f)) A outer s H E) body t ∧ t { nx := fun _ H' => Q .non H', rt := Q } (start N vs) H) : FnG P w K mg base CX (k + 1) f fd ps sp := by
  obtain ⟨oc, od, dV, kV, doc, pm, an, cdv, ct, osl, rfl, lk, hcd, _, _⟩ := F.ex
  obtain ⟨c, rfl⟩ := code_ref hcd
  obtain rfl : c = codeAt K f := (codeAt_eq lk rfl).symm
  refine ⟨len, fun A outer s H args us vs Q E hr calm e0 bind r hsp => ?_⟩
  have base_in : ∀ b o, base.get? b = some o → s.heap.get? b = some o := fun b o z => (e0.bs b o z).1
  have KX : K.In s.heap := e0.mod.kin.keeps base_in
  have par : ∀ y ∈ ps.zip us, scope.names.lookup y.1 = some .local ∨ (scope.names.lookup y.1 = some .cell ∧ ((cellsFrom (s.heap.objs.size + 1) scope.names []).lookup y.1).isSome = true) := fun y hy => by
    cases S.par y.1 (List.of_mem_zip hy).1 with
    | inl q => exact Or.inl q
    | inr q => exact Or.inr ⟨q, PySem.W.cellsFrom_some _ _ _ (Or.inl q)⟩
  refine codeAny_call_function hr.depth (KX _ _ lk) rfl S.co S.gen rfl (PySem.W.codeRec_of KX hcd) (bind _ _ _ _ (wpAny_newFunctionEnv_cells S.kind par fun env he s1 made => ?_))
  subst he
  refine And.intro ((e0.mod.nolimit.keeps base_in).keeps made.toInCall.keep) (codeAny_func ?_)
  obtain ⟨t, ht, hq⟩ := hb A outer s H vs Q E (hr.deeper _) calm hsp
  refine wpAny_mono (ht.run [] s1 (start N vs) H _ (inv_start S hr.hd e0 (len _ _ _ _ hsp) r made) hq) (fun fl s' z => ?_) fun _ _ z => z
  cases fl with
  | ret u =>
    obtain ⟨v, σ', H', J, rv, q⟩ := z
    exact ⟨v, H', J.os, J.bare, J.base, J.hok, rv, q⟩
  | next =>
    obtain ⟨σ', H', J, q⟩ := z
    exact ⟨V.non, H', J.os, J.bare, J.base, J.hok, rfl, q⟩
  | brk =>
    obtain ⟨_, _, _, q⟩ := z
    exact q.elim
  | cont =>
    obtain ⟨_, _, _, q⟩ := z
    exact q.elim
end
/-! ### heaps but for tables -/
def bare (H : Hp) : Hp := fun b => match H b with
  | some (.tbl _) => none
  | o => o
open Evl (Ex)
section
variable {H H' H1 H2 : Hp} {a b : Addr} {o : HO} {K : PySem.W.Frag}
theorem bare_some (h : bare H b = some o) : H b = some o ∧ ∀ ps, o ≠ .tbl ps := by
  unfold bare at h
  split at h
  · cases h
  · rename_i n
    exact ⟨h, fun ps e => n ps (by rw [h, e])⟩
theorem bare_of (h : H b = some o) (n : ∀ ps, o ≠ .tbl ps) : bare H b = some o := by
  unfold bare
  split
  · rename_i ps e
    rw [h] at e
    exact absurd (Option.some.inj e) (n ps)
  · exact h
theorem bare_ex : Ex (bare H) H := fun b o h => (bare_some h).1
theorem bare_ext (e : LamX.ExtN H H') : Ex (bare H) H' := fun b o h => e b o (bare_some h).1 (bare_some h).2
theorem ext_bare (e : Ex (bare H) H') : LamX.ExtN H H' := fun b o h n => e b o (bare_of h n)
/-- all but the purse at a and the tables stays -/
def ExL (a : Addr) (H H' : Hp) : Prop := Ex (bare (less a H)) H'
theorem exl_of (e : Ex (less a H) H') : ExL a H H' := bare_ex.trans e
theorem exl_ext (e : LamX.ExtN H H') : ExL a H H' := fun b o h => by
  obtain ⟨h1, n⟩ := bare_some h
  exact e b o (less_ex _ _ h1) n
theorem less_some (h : less a H b = some o) : H b = some o ∧ b ≠ a := by
  refine ⟨less_ex _ _ h, fun z => ?_⟩
  rw [z, less_at] at h
  cases h
theorem exl_step (e : ExL a H H') : Ex (bare (less a H)) (bare (less a H')) := fun b o h => by
  have h1 := e b o h
  obtain ⟨h2, n⟩ := bare_some h
  exact bare_of (by rw [less_ne (less_some h2).2]; exact h1) n
theorem ExL.trans (e : ExL a H H1) (e' : ExL a H1 H2) : ExL a H H2 := (exl_step e).trans e'
theorem ExL.refl (H : Hp) : ExL a H H := exl_of less_ex
theorem sqt_bare {q : Addr} {xs : List V} (h : SqT K H q xs) : SqT K (bare H) q xs := by
  rcases h with (h | ⟨o, h⟩) | h
  · exact .inl (.inl (bare_of h fun _ z => nomatch z))
  · exact .inl (.inr ⟨o, bare_of h fun _ z => nomatch z⟩)
  · exact .inr h
theorem Da.bare {v : V} {d : PyData} (h : Da K H v d) : Da K (bare H) v d := by
  induction h with
  | non => exact .non
  | bl b => exact .bl b
  | int i => exact .int i
  | str x => exact .str x
  | lst h l _ ih => exact .lst (bare_of h fun _ z => nomatch z) l ih
  | tup h l _ ih => exact .tup (sqt_bare h) l ih
  | dic h l _ ih => exact .dic (bare_of h fun _ z => nomatch z) l ih
/-- data aside of the purse and of the tables -/
def DaB (K : PySem.W.Frag) (a : Addr) (d : PyData) (v : V) (H : Hp) : Prop := Da K (bare (less a H)) v d
theorem daB_of {d : PyData} {v : V} (h : DaA K a d v H) : DaB K a d v H := Da.bare h
theorem DaB.step {d : PyData} {v : V} (e : ExL a H H') (h : DaB K a d v H) : DaB K a d v H' := Da.mono (exl_step e) h
theorem DaB.da {d : PyData} {v : V} (h : DaB K a d v H) : Da K H v d := Da.mono (bare_ex.trans less_ex) h
theorem DaB.daA {d : PyData} {v : V} (h : DaB K a d v H) : DaA K a d v H := Da.mono bare_ex h
theorem Pur.ext (p : Pur H a) (e : LamX.ExtN H H') : Pur H' a := by
  obtain ⟨x, y, z, h, r⟩ := p
  exact ⟨x, y, z, e _ _ h (fun _ z => nomatch z), r⟩
theorem tabs_less {T : List (Addr × Str)} (t : LamX.Tabs T H) (p : Pur H a) (e : Ex (less a H) H') : LamX.Tabs T H' := fun q hq => by
  obtain ⟨ps, h1, h2, h3⟩ := t q hq
  obtain ⟨_, _, _, z, _⟩ := p
  refine ⟨ps, e _ _ (by rw [less_ne (fun w => by rw [w, z] at h1; cases h1)]; exact h1), h2, fun pos cv hc => ?_⟩
  obtain ⟨c, e1, e2⟩ := h3 pos cv hc
  exact ⟨c, e1, e _ _ (by rw [less_ne (fun w => by rw [w, z] at e2; cases e2)]; exact e2)⟩
end
/-! ### the law's call, with tables -/
/-- the abstract heap ahead of the law: the script, the empty tables -/
def scriptT (K : PySem.W.Frag) (a : Addr) (o : Obj) (ns : List Int) (ts : List Addr) : Hp := fun b => if b = a ∧ K.lookup a = none then some (.frz o (.lst (ns.map V.int))) else if b ∈ ts then some (.tbl #[]) else none
theorem scriptT_some {K : PySem.W.Frag} {a b : Addr} {o : Obj} {ns : List Int} {ts : List Addr} {u : HO} (h : scriptT K a o ns ts b = some u) : (b = a ∧ K.lookup a = none ∧ u = .frz o (.lst (ns.map V.int))) ∨ (b ∈ ts ∧ u = .tbl #[]) := by
  unfold scriptT at h
  split at h
  · rename_i c
    exact .inl ⟨c.1, c.2, (Option.some.inj h).symm⟩
  · split at h
    · rename_i c
      exact .inr ⟨c, (Option.some.inj h).symm⟩
    · cases h
abbrev tab0 : Obj := { cls := .none, data := .fields #[] }
theorem law_runT {P : Program} {w : World} {K : PySem.W.Frag} {mg mb : Str → Option Value} {CX : CXT} {k : Nat} {fa a : Addr} {cs : List (Addr × Addr)} {fd : FuncData} {x : Str} {sp : Sp} {s1 : Shared} {vs : List Value} {ns : List Int}
    (KX : K.In s1.heap) (gl : s1.heap.Ns mainGlobals mg) (bl : s1.heap.Ns builtinsNs mb) (bb : ∀ x : Str, x ≠ "__name__" → mb x = bootBuiltins x) (lim : s1.heap.NoLimit) (gens : s1.gens = #[])
    (hT : ∀ p ∈ cs, s1.heap.get? p.2 = some tab0) (nT : ∀ p ∈ cs, K.lookup p.2 = none) (cd : ∀ p ∈ cs, PySem.W.CodeHd s1.heap p.1 p.2)
    (hbm : ∃ (bm : Addr) (ob : Obj), mg "__builtins__" = some (.ref bm) ∧ bm ≠ builtinsNs ∧ s1.heap.get? bm = some ob ∧ ob.cls = .type "module" ∧ ob.dict = some builtinsNs ∧ ob.data = .plain)
    (ha : s1.heap.get? a = some { cls := .type "list", data := .seq vs.toArray }) (hi : IntsAre vs ns) (hl : ns.length ≤ sizeLine) (room : Room k callerA)
    (F : ∀ base : Heap, K.In base → base.Ns mainGlobals mg → (∀ p ∈ cs, LamX.TabB base mg p.1 p.2) → FnG P w K mg base CX k fa fd [x] sp) (bind : ∀ (s : Shared) (u : Value), BindsTo s fd ⟨[u], []⟩ [(x, u)])
    (hsp : ∀ H : Hp, (∀ p ∈ cs, H p.2 = some (.tbl #[])) → SqL K H a (ns.map V.int) → sp [.ref a] H (fun v _ => v = .bl true) fun _ _ _ => False) (out : ∀ H e s', CX [] H s1 (fun _ _ _ => False) e s' → False) :
    codeAny (model P w) callerA (.call (.ref fa) ⟨[.ref a], []⟩) (fun r s' => r = .ok (.ret (.bool true)) ∧ OldK s1.heap s'.heap ∧ s'.os = s1.os ∧ AllBare s'.gens) s1 := by
  let o : Obj := { cls := .type "list", data := .seq vs.toArray }
  let ts : List Addr := cs.map (·.2)
  let H : Hp := scriptT K a o ns ts
  have rv := vals_ints hi
  have short : (ns.map V.int).length ≤ sizeLine := by rw [List.length_map]; exact hl
  have isT : ∀ b, b ∈ ts → s1.heap.get? b = some tab0 := fun b hb => by
    obtain ⟨p, hp, e⟩ := List.mem_map.mp hb
    exact e ▸ hT p hp
  have notT : ∀ b, b ∈ ts → K.lookup b = none := fun b hb => by
    obtain ⟨p, hp, e⟩ := List.mem_map.mp hb
    exact e ▸ nT p hp
  have aT : a ∉ ts := fun z => by
    have q := isT a z
    rw [ha] at q
    exact nomatch (show Data.seq vs.toArray _ = Data.fields #[] from congrArg Obj.data (Option.some.inj q))
  have tabH : ∀ p ∈ cs, H p.2 = some (.tbl #[]) := fun p hp => by
    have m : p.2 ∈ ts := List.mem_map.mpr ⟨p, hp, rfl⟩
    show scriptT K a o ns ts p.2 = _
    unfold scriptT
    rw [if_neg (show ¬ (p.2 = a ∧ K.lookup a = none) from fun z => aT (z.1 ▸ m)), if_pos m]
  have seen : SqL K H a (ns.map V.int) := by
    cases q : K.lookup a with
    | none => exact Or.inl (Or.inr ⟨o, if_pos ⟨rfl, q⟩⟩)
    | some u =>
      have z := KX a u q
      rw [ha] at z
      cases z
      exact Or.inr ⟨_, vs.toArray, _, q, rfl, rfl, rfl, by rw [List.size_toArray, hi.length]; exact hl, by simpa using rv⟩
  have held : HOk P w H s1.heap := fun b u z => by
    rcases scriptT_some z with ⟨rfl, _, rfl⟩ | ⟨m, rfl⟩
    · exact ⟨ha, short, vs, _, rv, ha⟩
    · exact isT b m
  have part : ∀ b u, K.lookup b = some u → H b = none := fun b u z => by
    cases q : H b with
    | none => rfl
    | some c =>
      rcases scriptT_some q with ⟨rfl, n, _⟩ | ⟨m, _⟩
      · rw [n] at z
        cases z
      · rw [notT b m] at z
        cases z
  have other : ∀ {b : Addr} {ob : Obj}, s1.heap.get? b = some ob → (∀ vs n, ob.data ≠ .seq vs n) → ob.data ≠ .fields #[] → H b = none := fun {b ob} e n1 n2 => by
    cases q : H b with
    | none => rfl
    | some c =>
      rcases scriptT_some q with ⟨rfl, _, _⟩ | ⟨m, _⟩
      · rw [ha] at e
        cases e
        exact absurd rfl (n1 _ _)
      · rw [isT b m] at e
        cases e
        exact absurd rfl n2
  have table : ∀ {b : Addr} {m : Str → Option Value}, s1.heap.Ns b m → (hidT s1.heap H).Ns b m := fun {b m} z => by
    obtain ⟨ob, es, ep, e1, e2, rest⟩ := z
    exact ⟨ob, es, ep, hidT_get e1 (other e1 (fun _ _ z => by rw [e2] at z; cases z) fun z => by rw [e2] at z; cases z), e2, rest⟩
  have kin : K.In (hidT s1.heap H) := fun b u z => hidT_get (KX b u z) (part b u z)
  have TB : ∀ p ∈ cs, LamX.TabB (hidT s1.heap H) mg p.1 p.2 := fun p hp => by
    refine ⟨?_, ?_, fun z => ?_⟩
    · obtain ⟨oc, us, file, tf, flags, tg, inF, text, tt, e1, r1, r2, r3, rest⟩ := cd p hp
      refine ⟨oc, us, file, tf, flags, tg, inF, text, tt, hidT_get e1 (other e1 (fun _ _ z => ?_) fun z => ?_), r1, r2, r3, rest⟩
      · rw [r2] at z
        cases z
      · rw [r2] at z
        cases z
        simp at r3
    · obtain ⟨bm, ob, b1, b2, b3, b4, b5, b6⟩ := hbm
      refine ⟨bm, ob, b1, b2, fun q => ?_, fun q => ?_, hidT_get b3 (other b3 (fun _ _ z => ?_) fun z => ?_), b4, b5, b6⟩
      · obtain ⟨og, es, ep, e, hd, _⟩ := gl
        rw [q, e] at b3
        cases b3
        rw [hd] at b6
        cases b6
      · rw [q, hT p hp] at b3
        cases b3
        cases b6
      · rw [b6] at z
        cases z
      · rw [b6] at z
        cases z
    · obtain ⟨og, es, ep, e, hd, _⟩ := gl
      rw [z, hT p hp] at e
      cases e
      cases hd
  have env : Env0 P w K mg (hidT s1.heap H) callerA [] s1 H := by
    refine ⟨rfl, ⟨kin, table gl, ⟨mb, table bl, bb⟩, ?_⟩, fun b u z => of_hidT z, Nat.le_of_eq (hidT_size _ _), trivial, fun b z => ?_, held, .of_eq gens⟩
    · obtain ⟨mc, h1, h2⟩ := lim
      exact ⟨mc, table h1, h2⟩
    · exact absurd (show b ∈ ([] : List Addr) from z) List.not_mem_nil
  refine codeAny_mono ((F _ kin (table gl) TB).run callerA [] s1 H ⟨[.ref a], []⟩ [.ref a] [.ref a] _ _ room rfl env (bind s1 (.ref a)) (.cons rfl .nil) (hsp H tabH seen)) fun r s' z => ?_
  cases r with
  | error e => exact (out H e s' z).elim
  | ok fl =>
    cases fl with
    | next => exact z.elim
    | brk => exact z.elim
    | cont => exact z.elim
    | ret u =>
      obtain ⟨v, H', os, bare', un, held', r', rfl⟩ := z
      obtain rfl : u = Value.bool true := r'
      have key : ∀ b ob, b ∉ ts → s1.heap.get? b = some ob → s'.heap.get? b = some ob := fun b ob nb e => by
        cases q : H b with
        | none => exact un.keep b ob e q (fun z => absurd (show b ∈ ([] : List Addr) from z) List.not_mem_nil) (fun z => absurd z List.not_mem_nil)
        | some c =>
          rcases scriptT_some q with ⟨rfl, _, rfl⟩ | ⟨m, _⟩
          · have z1 := (held b _ q).1
            have z2 := (held' b _ (un.frzs b _ _ q)).1
            rw [e] at z1
            cases z1
            exact z2
          · exact absurd m nb
      have grown : ∀ p ∈ cs, ∃ more : Array Value, s'.heap.get? p.2 = some { cls := .none, data := .fields more } := fun p hp => by
        obtain ⟨more, z⟩ := un.tbls p.2 #[] (tabH p hp)
        exact ⟨_, held' p.2 _ z⟩
      refine ⟨rfl, ⟨fun b ob e => ?_, fun b ob e => ?_⟩, os, bare'⟩
      · by_cases hb : b ∈ ts
        · obtain ⟨p, hp, rfl⟩ := List.mem_map.mp hb
          obtain ⟨more, hm⟩ := grown p hp
          rw [hT p hp] at e
          cases e
          exact .inr (.inl ⟨((cd p hp).tab (hT p hp)).isCodeTable, rfl, #[], more, rfl, by rw [Array.empty_append]; exact hm⟩)
        · exact .inl (key b ob hb e)
      · by_cases hb : b ∈ ts
        · obtain ⟨p, hp, rfl⟩ := List.mem_map.mp hb
          obtain ⟨more, hm⟩ := grown p hp
          exact ⟨_, hm⟩
        · exact ⟨ob, key b ob hb e⟩
/-- the end of a law's row, with tables -/
theorem walk_ofT {l : PySem.W.OpenLaw} {n k : Nat} {q : Program} {loose : List Str} {XP : (Str → Option Value) → Heap → Prop} {YP : World → Heap → Prop} {d : DefRec} {CX : CXT} {x : Str}
    (hn : l.most = some n) (hn2 : n ≤ sizeLine) (hdf : d.params.defaults = []) (room : Room k callerA)
    (F : ∀ (w : World) (mg : Str → Option Value) (fa : Addr) (h : Heap), YP w h → h.Ns mainGlobals mg → mg d.name = some (.ref fa) →
      ∃ (K : PySem.W.Frag) (fd : FuncData) (sp : Sp) (cs : List (Addr × Addr)), K.In h ∧ (∀ p ∈ cs, h.get? p.2 = some tab0) ∧ (∀ p ∈ cs, K.lookup p.2 = none) ∧ (∀ p ∈ cs, PySem.W.CodeHd h p.1 p.2) ∧ (∀ (s : Shared) (u : Value), BindsTo s fd ⟨[u], []⟩ [(x, u)]) ∧
        (∀ (H : Hp) (a : Addr) (ns : List Int), ns.length ≤ n → (∀ p ∈ cs, H p.2 = some (.tbl #[])) → SqL K H a (ns.map V.int) → sp [.ref a] H (fun v _ => v = .bl true) fun _ _ _ => False) ∧
        ∀ base : Heap, K.In base → base.Ns mainGlobals mg → (∀ p ∈ cs, LamX.TabB base mg p.1 p.2) → FnG l.prog w K mg base CX k fa fd [x] sp)
    (out : ∀ (H : Hp) (s : Shared) (e : Value) (s' : Shared), CX [] H s (fun _ _ _ => False) e s' → False) : PySem.W.WalkO q loose XP YP l.row.toRowW d [] (fun f vs => PySem.call f vs) := by
  refine Att.attach_call hn hdf fun w s0 s1 mg mb fa o pm cd doc a vs ns G Y _ _ _ hm hobj hints hlen hg => ?_
  obtain ⟨K, fd, sp, cs, KX, hT, nT, C, bind, hsp, hF⟩ := F w mg fa _ Y G.T.g hm
  exact law_runT KX G.T.g G.T.b G.T.builtins G.T.nolimit hg hT nT C G.T.bmain hobj hints (Nat.le_trans hlen hn2) room hF bind (fun H t z => hsp H a ns hlen t z) fun H e s' => out H s1 e s'
end SwX
set_option Elab.async false
set_option linter.all false
set_option maxRecDepth 100000
set_option maxHeartbeats 2000000
/-! a hook: facts, defs at any address, a further look, the tables of some defs; the own exceptions' facts -/
namespace SwX
open PySem PySem.Spec PyProof.Rows L2
/-- the code object of the module's def x, its table -/
def ctZ (K : PySem.W.Frag) (f : Addr) : Addr × Addr := (codeAt K f, He.tabOf K (codeAt K f))
abbrev TfZ : Type := List (PySem.W.Frag → Addr)
structure SaysZ (fa : List He.Fa) (fn : List He5.DefA) (tf : TfZ) (ex : PySem.W.Frag → Bool) (h : Heap) (K : PySem.W.Frag) : Prop where
  sys : SysIn K
  more : ex K = true
  sd : He5.SaysA fa fn K
  hd : ∀ p ∈ tf, PySem.W.codeHdIn K (ctZ K (p K)).1 (ctZ K (p K)).2 = true
  out : ∀ p ∈ tf, K.lookup (ctZ K (p K)).2 = none
  empty : ∀ p ∈ tf, h.get? (ctZ K (p K)).2 = some tab0
def tabsZ (g : Addr → Option Obj) (tf : TfZ) (K : PySem.W.Frag) : Bool := tf.all fun p => PySem.W.codeHdIn K (ctZ K (p K)).1 (ctZ K (p K)).2 && (match g (ctZ K (p K)).2 with
  | some o => He.emptyTab o
  | none => false)
abbrev AlZ : Type := Bool × He.AlD
def obsZK (fa : List He.Fa) (fn : List He5.DefA) (tf : TfZ) (ex : PySem.W.Frag → Bool) (g : Addr → Option Obj) (K : PySem.W.Frag) : AlZ := ((K.lookup sysModules).isSome && (ex K && tabsZ g tf K), He5.obsA fa fn K)
def asZ (g : Addr → Option Obj) (n : Nat) : List Addr := sysModules :: He5.asA g n
def obsZ (n : Nat) (fa : List He.Fa) (fn : List He5.DefA) (tf : TfZ) (ex : PySem.W.Frag → Bool) (g : Addr → Option Obj) : AlZ := obsZK fa fn tf ex g (He.frT g (asZ g n))
theorem saysZ_of {n : Nat} {fa : List He.Fa} {fn : List He5.DefA} {tf : TfZ} {ex : PySem.W.Frag → Bool} {h : Heap} (e : obsZ n fa fn tf ex h.get? = (true, He5.valA fn)) : SaysZ fa fn tf ex h (He.frT h.get? (asZ h.get? n)) := by
  have e1 : He5.obsA fa fn (He.frT h.get? (asZ h.get? n)) = He5.valA fn := congrArg (fun z : AlZ => z.2) e
  have e2 : (((He.frT h.get? (asZ h.get? n)).lookup sysModules).isSome && (ex (He.frT h.get? (asZ h.get? n)) && tabsZ h.get? tf (He.frT h.get? (asZ h.get? n)))) = true := congrArg (fun z : AlZ => z.1) e
  obtain ⟨h0, h12⟩ := Bool.and_eq_true_iff.mp e2
  obtain ⟨h1, h2⟩ := Bool.and_eq_true_iff.mp h12
  generalize hK : He.frT h.get? (asZ h.get? n) = K at e1 h0 h1 h2 ⊢
  have key : ∀ p ∈ tf, PySem.W.codeHdIn K (ctZ K (p K)).1 (ctZ K (p K)).2 = true ∧ ∃ o, h.get? (ctZ K (p K)).2 = some o ∧ He.emptyTab o = true := fun p hp => by
    obtain ⟨h3, h4⟩ := Bool.and_eq_true_iff.mp (List.all_eq_true.mp h2 p hp)
    refine ⟨h3, ?_⟩
    cases q : h.get? (ctZ K (p K)).2 with
    | none =>
      rw [q] at h4
      cases h4
    | some o =>
      rw [q] at h4
      exact ⟨o, rfl, h4⟩
  exact ⟨Option.isSome_iff_exists.mp h0, h1, e1, fun p hp => (key p hp).1, fun p hp => by
    obtain ⟨_, o, q, z⟩ := key p hp
    rw [← hK]
    rw [← hK] at q
    exact He.frT_none q z, fun p hp => by
    obtain ⟨_, o, q, z⟩ := key p hp
    rw [q, He.emptyTab_eq z]⟩
def hookZ (n : Nat) (fa : List He.Fa) (fn : List He5.DefA) (tf : TfZ) (ex : PySem.W.Frag → Bool) : PySem.W.Hook where
  α := AlZ
  obs := fun s => obsZ n fa fn tf ex s.heap.get?
  val := fun _ => (true, He5.valA fn)
  says := fun _ h => ∃ K : PySem.W.Frag, K.In h ∧ SaysZ fa fn tf ex h K
  of := fun _ _ e => ⟨_, He.frT_in, saysZ_of e⟩
  keeps := fun _ _ _ ⟨K, hK, c⟩ k => ⟨K, PySem.W.Frag.In.keeps hK k, ⟨c.sys, c.more, c.sd, c.hd, c.out, fun p hp => k _ _ (c.empty p hp)⟩⟩
theorem obsZ_eq {n : Nat} {fa : List He.Fa} {fn : List He5.DefA} {tf : TfZ} {ex : PySem.W.Frag → Bool} {g : Addr → Option Obj} {s : Shared} (h : ∀ a, g a = s.heap.get? a) : obsZ n fa fn tf ex g = (hookZ n fa fn tf ex).obs s := by
  have e : g = s.heap.get? := funext h
  rw [e] <;> rfl
theorem SaysZ.code {fa : List He.Fa} {fn : List He5.DefA} {tf : TfZ} {ex : PySem.W.Frag → Bool} {h : Heap} {K : PySem.W.Frag} (c : SaysZ fa fn tf ex h K) (X : K.In h) : ∀ p ∈ tf, PySem.W.CodeHd h (ctZ K (p K)).1 (ctZ K (p K)).2 := fun p hp => PySem.W.codeHd_of_K X (c.hd p hp)
/-! ### an empty tuple in K -/
def tupE (K : PySem.W.Frag) (a : Addr) : Bool := match K.lookup a with
  | some ⟨c, _, .seq its _, _⟩ => decide (c = .type "tuple") && decide (its.toList = [])
  | _ => false
theorem tupE_ok {K : PySem.W.Frag} {a : Addr} (h : tupE K a = true) : SqT K (fun _ => none) a [] := by
  unfold tupE at h
  split at h
  · rename_i c d its n sl e
    rw [Bool.and_eq_true] at h
    have e2 : its.toList = [] := of_decide_eq_true h.2
    refine .inr ⟨_, its, n, e, of_decide_eq_true h.1, rfl, ?_, by rw [e2]; exact .nil⟩
    rw [← Array.length_toList, e2]
    decide
  · cases h
/-! ### the own exceptions that are raised -/
def CxZ (K : PySem.W.Frag) (i : Nat) : Addr := He.ga K (exNm i)
def bsZ (i : Nat) : Nat := if i < 12 then 0 else if i < 14 then 1 else 2
def kitZ (K : PySem.W.Frag) (i : Nat) (v : Value) (b : Bool) : Bool := oB (PySem.W.kitOne K (.ref (CxZ K i)) v) (some b)
theorem kitZ_ok {K : PySem.W.Frag} {i : Nat} {v : Value} {b : Bool} (h : kitZ K i v b = true) : PySem.W.kitOne K (.ref (CxZ K i)) v = some b := of_decide_eq_true h
def clZ (K : PySem.W.Frag) (i : Nat) : Bool := decide (i < 15) && (oexB K (bsZ i) (CxZ K i) && (decide (PySem.W.typeIn K (.ref (CxZ K i)) = some (.type "type")) && (oB (PySem.W.exmAny K (.ref (CxZ K i)) [.ref (He.ga K "WrongValue"), .ref (He.ga K "WrongName"), .ref (He.ga K "NoAnswer")]) (some true) &&
  (((List.range 17).all fun j => kitZ K i (.ref (CxZ K j)) (decide (i = j))) && (kitZ K i (.ref (He.ga K "WrongValue")) (decide ((i : Int) < 12)) && (kitZ K i (.ref (He.ga K "WrongName")) (decide ((11 : Int) < i) && decide ((i : Int) < 14)) && (kitZ K i (.ref (He.ga K "NoAnswer")) (decide ((13 : Int) < i)) &&
  (kitZ K i (.type "ValueError") (decide ((i : Int) < 12)) && (kitZ K i (.type "LookupError") (decide ((11 : Int) < i) && decide ((i : Int) < 14)) && (kitZ K i (.type "ArithmeticError") (decide ((13 : Int) < i)) && (He.eqO (PySem.W.findIn K (.ref (CxZ K i)) (exFld i)) (some none) && iniB K (CxZ K i))))))))))))
def clsZ (K : PySem.W.Frag) (rs : List Nat) : Bool := rs.all (clZ K)
theorem clsZ_ok {P : Program} {w : World} {K : PySem.W.Frag} {mg : Str → Option Value} {base : Heap} {rs : List Nat} (h : clsZ K rs = true) (g : ∀ i, i < 17 → mg (exNm i) = some (.ref (CxZ K i))) (gWV : mg "WrongValue" = some (.ref (He.ga K "WrongValue"))) (gWN : mg "WrongName" = some (.ref (He.ga K "WrongName"))) (gNA : mg "NoAnswer" = some (.ref (He.ga K "NoAnswer")))
    (D : ∀ i ∈ rs, Oex K (CxZ K i) → Free K (CxZ K i) (exFld i) → Ini K (CxZ K i) (He.ma K (CxZ K i) "__init__") → mg (exNm i) = some (.ref (CxZ K i)) → HasX P w K mg base (exNm i) 1 (CxZ K i) 1 [exFld i] (fun us ws => us ++ ws.reverse) (spIni1 (CxZ K i) (exFld i))) :
    Cl P w K mg base rs (CxZ K) (He.ga K "WrongValue") (He.ga K "WrongName") (He.ga K "NoAnswer") := by
  have key : ∀ i ∈ rs, _ := fun i hi => List.all_eq_true.mp h i hi
  unfold clZ at key
  simp only [Bool.and_eq_true] at key
  have fr : ∀ i ∈ rs, Free K (CxZ K i) (exFld i) := fun i hi => free_of (He.eqO_ok (key i hi).2.2.2.2.2.2.2.2.2.2.2.1)
  have ox : ∀ i ∈ rs, Oex K (CxZ K i) := fun i hi => oex_of (key i hi).2.1
  have lt : ∀ i ∈ rs, i < 15 := fun i hi => of_decide_eq_true (key i hi).1
  exact ⟨lt, ox, fun i hi => of_decide_eq_true (key i hi).2.2.1, fun i hi => of_decide_eq_true (key i hi).2.2.2.1, fun i hi j hj => kitZ_ok (List.all_eq_true.mp (key i hi).2.2.2.2.1 j (List.mem_range.mpr hj)), fun i hi => kitZ_ok (key i hi).2.2.2.2.2.1, fun i hi => kitZ_ok (key i hi).2.2.2.2.2.2.1, fun i hi => kitZ_ok (key i hi).2.2.2.2.2.2.2.1, fun i hi => kitZ_ok (key i hi).2.2.2.2.2.2.2.2.1, fun i hi => kitZ_ok (key i hi).2.2.2.2.2.2.2.2.2.1, fun i hi => kitZ_ok (key i hi).2.2.2.2.2.2.2.2.2.2.1, fr, g, gWV, gWN, gNA,
    fun i hi => D i hi (ox i hi) (fr i hi) (ini_of (key i hi).2.2.2.2.2.2.2.2.2.2.2.2) (g i (by have := lt i hi; omega))⟩
end SwX
set_option Elab.async false
set_option linter.all false
set_option maxRecDepth 100000
set_option maxHeartbeats 4000000
/-! the set of a list of ints -/
namespace SwX
open PySem PySem.Spec PyProof.Rows L2
section
variable {P : Program} {w : World} {A : Around} {s : Shared} {E : Value → Shared → Prop}
/-- the set that is made first -/
abbrev set0 (w : World) : Obj := { cls := .type "set", dict := none, data := .set #[] 0 (.fresh 0 0 (!w.params.followText "set-order")) }
/-- .. with an iterator over the list behind it -/
abbrev heap2 (w : World) (h : Heap) (l : Addr) : Heap := (h.push (set0 w)).push { cls := .type "list_iterator", data := .fields #[.ref l, .int 0 0] }
theorem old2 {h : Heap} {l b : Addr} {o : Obj} (e : h.get? b = some o) : (heap2 w h l).get? b = some o := Heap.get?_push_of_some _ (Heap.get?_push_of_some _ e)
/-- the list is walked into the new set -/
theorem set_filled {l : Addr} {items : Array Value} {ns : List Int} {R : Result → Shared → Prop} (hh : A.in1.in1.in1.handled = none) (size : items.size = ns.length) (few : ns.length + 1 < scanBound) (hl : s.heap.IsList l items) (hi : IntsAre items.toList ns)
    (k : ∀ (h' : Heap) (tk c : Nat), SetR w h' s.heap.objs.size (fun j => decide (j ∈ ns)) c → c ≤ ns.length → (∀ b o, s.heap.get? b = some o → h'.get? b = some o) → R (.ok (.ret .none)) { s with heap := h', toks := tk }) :
    codeAny (model P w) A.in1.in1 (.builtin "set.update.loop" ⟨[.ref s.heap.objs.size, .ref (s.heap.objs.size + 1)], []⟩) R { s with heap := heap2 w s.heap l } := by
  obtain ⟨ol, atl, cl, nl, dl⟩ := hl
  have lt : l < s.heap.objs.size := Heap.lt_size atl
  have ne1 : l ≠ s.heap.objs.size + 1 := Nat.ne_of_lt (Nat.lt_succ_of_lt lt)
  have out : s.heap.objs.size ∉ [s.heap.objs.size + 1, l] := fun z => by
    rcases List.mem_cons.mp z with e | e
    · exact absurd e (Nat.ne_of_lt (Nat.lt_succ_self _))
    · exact absurd (List.mem_singleton.mp e) (Nat.ne_of_gt lt)
  have vals : ∀ (i : Nat) (v : Value), items[i]? = some v → ∃ k t, ns[i]? = some k ∧ v = .int k t := fun i v hv => by
    have b : i < ns.length := size ▸ (Array.getElem?_eq_some_iff.mp hv).1
    obtain ⟨t, rfl⟩ := IntsAre.int_at hi i v (by rw [Array.getElem?_toList, hv])
    exact ⟨_, t, by rw [List.getD_eq_getElem?_getD, List.getElem?_eq_getElem b, Option.getD_some], rfl⟩
  have size1 : (s.heap.push (set0 w)).objs.size = s.heap.objs.size + 1 := Heap.size_push ..
  have atS : (heap2 w s.heap l).get? s.heap.objs.size = some (set0 w) := Heap.get?_push_of_some _ (Heap.get?_push_size _ rfl)
  refine set_update_ints (A := A.in1.in1) (Walks.list hh (s.heap.objs.size + 1) l ne1 items).toS s.heap.objs.size out ns size few vals (items.size - 0) 0 { s with heap := heap2 w s.heap l } rfl (Nat.zero_le _)
    ⟨⟨_, size1 ▸ Heap.get?_push_size _ rfl, rfl, rfl⟩, ⟨ol, old2 atl, cl, nl, dl⟩⟩ ⟨0, Nat.le_refl 0, setR_new_at atS⟩ fun s' c mv cl2 hs => ?_
  have e1 : s'.gens = s.gens := mv.gens
  have e2 : s'.drawn = s.drawn := mv.drawn
  have e3 : s'.os = s.os := mv.os
  have e : s' = { s with heap := s'.heap, toks := s'.toks } := by
    rw [← e1, ← e2, ← e3]
  rw [e]
  refine k _ _ c hs (size ▸ cl2) fun b o hb => mv.heap b o (fun z => ?_) (old2 hb)
  have lb := Heap.lt_size hb
  rcases List.mem_cons.mp z with q | q
  · exact absurd q (Nat.ne_of_lt lb)
  · exact absurd (List.mem_singleton.mp q) (Nat.ne_of_lt (Nat.lt_succ_of_lt lb))
theorem set_of_list {l : Addr} {items : Array Value} {ns : List Int} {Q : Value → Shared → Prop} (hh : A.handled = none) (hl : s.heap.IsList l items) (hi : IntsAre items.toList ns) (few : ns.length + 1 < scanBound)
    (k : ∀ (h' : Heap) (tk c : Nat), SetR w h' s.heap.objs.size (fun j => decide (j ∈ ns)) c → c ≤ ns.length → (∀ b o, s.heap.get? b = some o → h'.get? b = some o) → Q (.ref s.heap.objs.size) { s with heap := h', toks := tk }) :
    wpAny (model P w) A (call (.type "set") [.ref l]) Q E s := by
  have size : items.size = ns.length := by rw [← Array.length_toList]; exact IntsAre.length hi
  obtain ⟨c, tl, mro⟩ := F.called_set.mro
  have q1 := F.called_set.made
  have q2 := F.called_set.sub
  have q3 := F.called_set.notType
  have q4 := F.called_set.canCreate
  have q5 := F.typeCall_set_1 (.ref l)
  refine wpAny_call (codeAny_of_tree (?_ : wpAny _ _ (callAny (.type "set") _) _ _ _))
  refine wpAny_pure ⟨Code.quiet_builtin _ (by decide +kernel), codeAny_builtin F.entry_type_call ?_⟩
  rw [Around.under_plain (weight_type_call_type "set" [.ref l] []) rfl]
  repeat (any_goals (first | assumption | wp_step))
  refine codeAny_mono (code_set_led1 (.ref l) (E := E) (Q₁ := fun v s1 => v = .ref s.heap.objs.size ∧ s1 = { s with heap := s.heap.push (set0 w) }) ⟨rfl, rfl⟩) fun r s1 z => ?_
  cases r with
  | error e => exact z
  | ok fl =>
    cases fl with
    | next => exact z.elim
    | brk => exact z.elim
    | cont => exact z.elim
    | ret v =>
      obtain ⟨rfl, rfl⟩ := z
      have at0 : (s.heap.push (set0 w)).get? s.heap.objs.size = some (set0 w) := Heap.get?_push_size _ rfl
      have ty : Shared.TypeIs { s with heap := s.heap.push (set0 w) } (.ref s.heap.objs.size) "set" := ⟨_, at0, rfl⟩
      have q6 := F.called_set.init.lookup
      have q7 := F.called_set.init.bind (.ref s.heap.objs.size)
      repeat (any_goals (first | assumption | wp_step))
      refine codeAny_mono (codeAny_call_builtin (R := wants (fun r s2 => r = .none ∧ ∃ h' tk c, s2 = { s with heap := h', toks := tk } ∧ SetR w h' s.heap.objs.size (fun j => decide (j ∈ ns)) c ∧ c ≤ ns.length ∧ ∀ b o, s.heap.get? b = some o → h'.get? b = some o) E)
        F.called_set.init.plain F.entry_set_init (check_set_init_1 ty ?_)) fun r2 s2 z2 => ?_
      · obtain ⟨⟨oc, od, dt, sl⟩, atl, cl, nl, dl⟩ := hl
        obtain rfl : oc = .type "list" := cl
        obtain rfl : dt = .seq items nl := dl
        have atl2 : (s.heap.push (set0 w)).get? l = some { cls := .type "list", dict := od, data := .seq items nl, slots := sl } := Heap.get?_push_of_some _ atl
        have q8 := F.sub_list_set
        have q9 := F.sub_list_frozenset
        have q10 : (Value.type "list" == Value.type "dict") = false := by decide
        unfold Builtin.«set.__init__» noKeywords Builtin.Frozenset.updateFrom
        generalize hIt : pyIter = IT
        wp_walk
        subst hIt
        refine wpAny_pyIter_list (⟨_, atl2, rfl, nl, rfl⟩ : (s.heap.push (set0 w)).IsList l items) ?_
        refine wpAny_bind (wpAny_runValue ?_)
        have size1 : (s.heap.push (set0 w)).objs.size = s.heap.objs.size + 1 := Heap.size_push ..
        rw [size1]
        refine set_filled (A := A) (by simp [hh]) size few ⟨_, atl, rfl, nl, rfl⟩ hi fun h' tk c hs cn kp => ?_
        exact wpAny_pure (wpAny_pure ⟨rfl, h', tk, c, rfl, hs, cn, kp⟩)
      · cases r2 with
        | error e => exact z2
        | ok fl =>
          cases fl with
          | next => exact z2.elim
          | brk => exact z2.elim
          | cont => exact z2.elim
          | ret v =>
            obtain ⟨rfl, h', tk, c, rfl, hs, cn, kp⟩ := z2
            repeat (any_goals (first | assumption | wp_step))
            exact k _ _ _ hs cn kp
end
/-- set(a list of ints) -/
def rSetOfL (K : PySem.W.Frag) (w : World) : List V → Hp → VK → Prop := fun vs H Q => ∃ (a : Addr) (ns : List Int), vs = [.ref a] ∧ SqL K H a (ns.map V.int) ∧ ns.length ≤ 1000 ∧ ∀ p n, H p = none → n ≤ ns.length → Q (.ref p) (upd H p (SetO w p (fun j => decide (j ∈ ns)) n))
theorem cr_setL {X : Cx} (hc : X.calm = true) : CallR X (.type "set") (rSetOfL X.K X.w) := by
  intro pins s σ H xs us Q I r h
  obtain ⟨a, ns, rfl, hq, few, q⟩ := h
  rw [Vals.ref1 r]
  obtain ⟨its, rv, pl, hz⟩ := I.list hq
  refine set_of_list (I.ok.hd hc) pl.isList (ns := ns) (by simpa using rv.ints) (by unfold scanBound; omega) fun h' tk c hs cn kp => ?_
  have e2 : ({ s with heap := h', toks := tk } : Shared) = { s with heap := h', toks := tk } := rfl
  have hn : H s.heap.objs.size = none := I.hok.fresh (Nat.le_refl _)
  exact ⟨.ref _, upd H s.heap.objs.size (SetO X.w s.heap.objs.size (fun j => decide (j ∈ ns)) c), I.laid (t' := tk) kp (Nat.le_refl _) (setO_new hs), rfl, q _ c hn cn⟩
end SwX
set_option Elab.async false
set_option linter.all false
set_option maxRecDepth 100000
set_option maxHeartbeats 4000000
/-! methods, properties, in of own instances; own instances made -/
namespace SwX
open PySem PySem.Spec PyProof.Rows L2 Evl
section
variable {X : Cx} {CX : CXT} {n : Nat} {f C : Addr} {fd : FuncData} {ps : List Str} {sp : Sp} {E : XK}
/-- v in a, a of the class at C -/
def rInOwn (C : Addr) (sp : Sp) (E : XK) : R2 := fun x y H Q => ∃ a, y = .ref a ∧ IsI H a C ∧ sp [.ref a, x] H (fun v H' => ∃ k, v = .bl k ∧ Q (.bl k) H') E
theorem op_inOwn (F : FnOk X.prog X.w X.K X.mg X.base CX n f fd ps sp) (S : Spc X.K C "__contains__" f) (b : Binds X.K fd ps []) (out : Passes CX X E) (room : Room n X.A) : OpR X (compareOp .In) (rInOwn C sp E) := by
  intro pins s σ H x y v u Q I rx ry h
  obtain ⟨a, rfl, ia, q⟩ := h
  cases ry
  obtain ⟨ox, od, J⟩ := ia.look I
  obtain ⟨m, fr⟩ := I.fr
  refine PySem.W.in_K fr I.ok.mod.kin J S.at_ S.fn (wpAny_mono (by_machine F room rfl b out I (.cons (rel_ref _) (.cons rx .nil)) q) (fun r s' z => ?_) fun _ _ z => z)
  obtain ⟨v, H', K', rv, k, rfl, q'⟩ := z
  cases rv
  exact wpAny_pure ⟨_, H', K', rel_bl _, q'⟩
end
/-! ### methods -/
/-- the class at C has the method m, which keeps sp -/
structure HasM (P : Program) (w : World) (K : PySem.W.Frag) (mg : Str → Option Value) (base : Heap) (C : Addr) (m : Str) (k : Nat) (ps : List Str) (sp : Sp) : Prop where
  cls : Cls K C
  ex : ∃ f fd, Meth K C m f ∧ FnOk P w K mg base CX0 k f fd ps sp ∧ Binds K fd ps []
/-- .. the property m -/
structure HasP (P : Program) (w : World) (K : PySem.W.Frag) (mg : Str → Option Value) (base : Heap) (C : Addr) (m : Str) (k : Nat) (ps : List Str) (sp : Sp) : Prop where
  cls : Cls K C
  ex : ∃ p g fd, PropOf K C m p g ∧ FnOk P w K mg base CX0 k g fd ps sp ∧ Binds K fd ps []
/-- the class is made with all its arguments -/
structure HasN (P : Program) (w : World) (K : PySem.W.Frag) (mg : Str → Option Value) (base : Heap) (x : Str) (C : Addr) (k : Nat) (ps : List Str) (sp : Sp) : Prop where
  g : mg x = some (.ref C)
  ex : ∃ f fd, Mk K C f ∧ FnOk P w K mg base CX0 k f fd ps sp ∧ Binds K fd ps []
section
variable {X : Cx} {k : Nat} {C : Addr} {m x : Str} {ps : List Str} {sp : Sp} {o e : Expr} {es : List Expr} {ta : TE} {t : TA} {p apos pos : Pos} {pl : Sem Bool}
theorem pe_hm (D : HasM X.prog X.w X.K X.mg X.base C m k ps sp) (hr : Room k X.A) (he : PE X o ta) (ha : PA X (e :: es) t)
    (hst : starEach (e :: es) X.env = (false, eval e X.env) :: starEach es X.env := by rfl) (hpl : (backTo pos (starEach es X.env)).any (·.1) = false := by rfl)
    (ht : eval (.Call (.Attribute o m apos) (e :: es) [] pos) X.env = (do
      let ov ← eval o X.env
      standAt apos.atName
      let (f, first) ← holding [ov] (getMethod ov m pl)
      callWith pos f first (backTo pos (starEach (e :: es) X.env)) (backToKw pos (keywordEach [] X.env))) := by rfl) : PE X (.Call (.Attribute o m apos) (e :: es) [] pos) (tMeth C m sp [] E0 ta t) := by
  obtain ⟨f, fd, M, F, b⟩ := D.ex
  exact pe_meth (pl := pl) he D.cls M F hr b .nil pass0 ha hst hpl ht
theorem pe_hm0 (D : HasM X.prog X.w X.K X.mg X.base C m k ps sp) (hr : Room k X.A) (he : PE X o ta)
    (ht : eval (.Call (.Attribute o m apos) [] [] pos) X.env = (do
      let ov ← eval o X.env
      standAt apos.atName
      let (f, first) ← holding [ov] (getMethod ov m pl)
      callWith pos f first (backTo pos (starEach [] X.env)) (backToKw pos (keywordEach [] X.env))) := by rfl) : PE X (.Call (.Attribute o m apos) [] [] pos) (tMeth C m sp [] E0 ta tNil) := by
  obtain ⟨f, fd, M, F, b⟩ := D.ex
  exact pe_meth0 (pl := pl) he D.cls M F hr b .nil pass0 ht
theorem pe_hp (D : HasP X.prog X.w X.K X.mg X.base C m k ps sp) (hr : Room (k + 1) X.A) (he : PE X o ta) (hab : attributeBase o m X.env (eval o X.env) = eval o X.env := by rfl) : PE X (.Attribute o m pos) (tProp C sp [] E0 ta) := by
  obtain ⟨q, g, fd, M, F, b⟩ := D.ex
  exact pe_prop he D.cls M F hr b .nil pass0 hab
theorem pe_hn (D : HasN X.prog X.w X.K X.mg X.base x C k ps sp) (hr : Room (k + 1) X.A) (ha : PA X (e :: es) t) (hg : Gl X x := by rfl) (hdb : (x == ("__debug__" : Str)) = false := by decide)
    (he : starEach (e :: es) X.env = (false, eval e X.env) :: starEach es X.env := by rfl) (hpl : (backTo pos (starEach es X.env)).any (·.1) = false := by rfl) : PE X (.Call (.Name x p) (e :: es) [] pos) (tMake C sp [] E0 t) := by
  obtain ⟨f, fd, M, F, b⟩ := D.ex
  exact pe_make M F hr hg D.g b .nil pass0 ha hdb he hpl
end
/-! ### their evaluation -/
section
variable {σ : L2.St} {H : Hp} {ta tb : TE} {tas : TA} {sp : Sp} {C : Addr} {m : Str} {v : V} {a dx : Addr} {fs : List (Str × V)} {vs : List V}
/-- the method's promise is a value -/
theorem ev_hm (h : Ev ta σ H (.ref a)) (e : H a = some (.ins C dx fs)) (l : fs.lookup m = none) (ha : EvA tas σ H vs) (q : ∀ H1 (Q : VK), Ex H H1 → (∀ H2, Ex H1 H2 → Q v H2) → sp (.ref a :: vs) H1 Q E0) : Ev (tMeth C m sp [] E0 ta tas) σ H v := fun H1 e1 Q k =>
  h H1 e1 _ fun H2 e2 => ⟨a, dx, fs, rfl, e2 _ _ (e1 _ _ e), l, ha H2 (e1.trans e2) _ fun H3 e3 => by
    rw [List.append_nil]
    exact q H3 Q (e1.trans (e2.trans e3)) fun H4 e4 => k H4 (e2.trans (e3.trans e4))⟩
theorem ev_hp (h : Ev ta σ H (.ref a)) (e : H a = some (.ins C dx fs)) (q : ∀ H1 (Q : VK), Ex H H1 → (∀ H2, Ex H1 H2 → Q v H2) → sp [.ref a] H1 Q E0) : Ev (tProp C sp [] E0 ta) σ H v := fun H1 e1 Q k =>
  h H1 e1 _ fun H2 e2 => ⟨a, dx, fs, rfl, e2 _ _ (e1 _ _ e), q H2 Q (e1.trans e2) fun H4 e4 => k H4 (e2.trans e4)⟩
/-- a def's promise is a value -/
theorem ev_hc (ha : EvA tas σ H vs) (q : ∀ H1 (Q : VK), Ex H H1 → (∀ H2, Ex H1 H2 → Q v H2) → sp vs H1 Q E0) : Ev (tCall sp [] E0 tas) σ H v := fun H1 e1 Q k =>
  ha H1 e1 _ fun H3 e3 => by
    rw [List.append_nil]
    exact q H3 Q (e1.trans e3) fun H4 e4 => k H4 (e3.trans e4)
end
end SwX
set_option Elab.async false
set_option linter.all false
set_option maxRecDepth 100000
set_option maxHeartbeats 4000000
/-! rows: plain, and in the abstract heap -/
namespace SwX
open PySem PySem.Spec PyProof.Rows L2 Evl
/-! ### plain -/
structure Rw where
  head : List (Option Int)
  cycle : List (Option Int)
  steps : List (Option Int)
deriving DecidableEq
abbrev Ol : Type := List (Option Int)
def Ol.g (l : Ol) (i : Nat) : Option Int := l.getD i none
def Rw.h (r : Rw) : Nat := r.head.length
def Rw.c (r : Rw) : Nat := r.cycle.length
/-- t periods later -/
def farV (t : Nat) : Option Int → Option Int → Option Int
  | none, _ => none
  | some v, s => some (v + t * s.getD 0)
def Rw.at (r : Rw) (w : Nat) : Option Int := if w < r.h then Ol.g r.head w else farV ((w - r.h) / r.c) (Ol.g r.cycle ((w - r.h) % r.c)) (Ol.g r.steps ((w - r.h) % r.c))
def Rw.rise (r : Rw) (w : Nat) : Option Int := Ol.g r.steps ((w - r.h) % r.c)
/-- the step from w to p later: none for "none" -/
def Rw.stp (r : Rw) (w p : Nat) : Option (Option Int) := match r.at w, r.at (w + p) with
  | none, none => some none
  | some a, some b => some (some (b - a))
  | _, _ => none
structure RwOk (B : Int) (r : Rw) : Prop where
  pos : 0 < r.c
  len : r.steps.length = r.c
  hs : r.h ≤ 20000
  cs : r.c ≤ 10000
  both : ∀ i, i < r.c → (Ol.g r.cycle i = none ↔ Ol.g r.steps i = none)
  big : B ≤ 1000000
  small : ∀ i x, Ol.g r.steps i = some x → -B ≤ x ∧ x ≤ B
def ov : Option Int → V
  | none => .non
  | some i => .int i
def sv : Option (Option Int) → V
  | none => .str "none"
  | some o => ov o
theorem g_get {l : Ol} {i : Nat} (h : i < l.length) : (l.map ov)[i]? = some (ov (Ol.g l i)) := by
  rw [List.getElem?_map, List.getElem?_eq_getElem h]
  unfold Ol.g
  rw [List.getD_eq_getElem?_getD, List.getElem?_eq_getElem h]
  rfl
/-! ### in the heap -/
structure RowC (K : PySem.W.Frag) (C : Addr) : Prop where
  cls : Cls K C
  n1 : NoAttr K C "head"
  n2 : NoAttr K C "cycle"
  n3 : NoAttr K C "steps"
section
variable {K : PySem.W.Frag} {C : Addr} {H H' : Hp} {σ : L2.St} {te ta tb : TE} {v : V} {r : Rw}
/-- the row r at v -/
def RowAt (K : PySem.W.Frag) (C : Addr) (r : Rw) (v : V) (H : Hp) : Prop := ∃ a dx p q s : Addr, v = .ref a ∧ H a = some (.ins C dx [("head", .ref p), ("cycle", .ref q), ("steps", .ref s)]) ∧ SqT K H p (r.head.map ov) ∧ SqT K H q (r.cycle.map ov) ∧ SqT K H s (r.steps.map ov)
theorem RowAt.mono (e : Ex H H') (h : RowAt K C r v H) : RowAt K C r v H' := by
  obtain ⟨a, dx, p, q, s, rfl, h1, h2, h3, h4⟩ := h
  exact ⟨a, dx, p, q, s, rfl, e _ _ h1, ex_t e h2, ex_t e h3, ex_t e h4⟩
theorem ev_fld {f : Str} {u : V} {a dx : Addr} {fs : List (Str × V)} (c : Cls K C) (n : NoAttr K C f) (h : Ev te σ H (.ref a)) (e : H a = some (.ins C dx fs)) (l : fs.lookup f = some u) : Ev (tFld K te f) σ H u := fun H1 e1 Q q =>
  h H1 e1 _ fun H2 e2 => ⟨a, C, dx, fs, u, rfl, e2 _ _ (e1 _ _ e), c, n, l, q H2 e2⟩
theorem ev_ixO {p : Addr} {l : Ol} {i : Nat} (ha : Ev ta σ H (.ref p)) (hb : Ev tb σ H (.int (i : Nat))) (hp : SqT K H p (l.map ov)) (hi : i < l.length) : Ev (tOp (rIx K) ta tb) σ H (ov (Ol.g l i)) := ev_op ha hb (rv_ixTn hp (g_get hi))
theorem ov_none {o : Option Int} : ov o = .non ↔ o = none := by
  cases o with
  | none => exact ⟨fun _ => rfl, fun _ => rfl⟩
  | some i => exact ⟨fun z => (nomatch z), fun z => (nomatch z)⟩
theorem Rw.at_lt {r : Rw} {w : Nat} (h : w < r.h) : r.at w = Ol.g r.head w := if_pos h
theorem Rw.at_ge {r : Rw} {w : Nat} (h : ¬ w < r.h) : r.at w = farV ((w - r.h) / r.c) (Ol.g r.cycle ((w - r.h) % r.c)) (Ol.g r.steps ((w - r.h) % r.c)) := if_neg h
theorem putF_size (f : Str) (v : V) : ∀ fs : List (Str × V), (putF f v fs).length ≤ fs.length + 1
  | [] => Nat.le_refl _
  | (g, x) :: r => by
    unfold putF
    split
    · exact Nat.le_succ _
    · exact Nat.succ_le_succ (putF_size f v r)
/-- a tuple or a list of these -/
def SqE (K : PySem.W.Frag) (H : Hp) (v : V) (xs : List V) : Prop := ∃ a, v = .ref a ∧ (SqT K H a xs ∨ SqL K H a xs)
theorem SqE.mono {xs : List V} (h : SqE K H v xs) (e : Ex H H') : SqE K H' v xs := by
  obtain ⟨a, rfl, h | h⟩ := h
  · exact ⟨a, rfl, .inl (ex_t e h)⟩
  · exact ⟨a, rfl, .inr (ex_l e h)⟩
theorem ys_nilP : Ys tNil σ H fun vs _ => vs = [] := fun H1 e1 Q q => q [] H1 (Ex.refl H1) rfl
theorem ys_consP {t : TA} {P1 : V → Hp → Prop} {R : List V → Hp → Prop} (h : Yi te σ H P1) (m : ∀ v H H', Ex H H' → P1 v H → P1 v H') (hs : Ys t σ H R) : Ys (tCons te t) σ H fun vs H' => ∃ v l, vs = v :: l ∧ P1 v H' ∧ R l H' := fun H1 e1 Q q =>
  h H1 e1 _ fun v H2 e2 p => hs H2 (e1.trans e2) _ fun l H3 e3 z => q (v :: l) H3 (e2.trans e3) ⟨v, l, rfl, m v H2 H3 e3 p, z⟩
theorem yi_tupE {xs : List V} (h : Ev te σ H v) (s : SqE K H v xs) : Yi (tCB (rTupOf K) (tCons te tNil)) σ H fun v H' => ∃ p, v = .ref p ∧ SqT K H' p xs := fun H1 e1 Q q => h H1 e1 _ fun H2 e2 => by
  obtain ⟨a, rfl, z | z⟩ := s
  · exact ⟨a, xs, rfl, .inr ⟨ex_t (e1.trans e2) z, q _ _ e2 ⟨a, rfl, ex_t (e1.trans e2) z⟩⟩⟩
  · exact ⟨a, xs, rfl, .inl ⟨ex_l (e1.trans e2) z, fun l hl => q _ _ (e2.trans (Ex.new hl)) ⟨l, rfl, .inl (.inl upd_same)⟩⟩⟩
theorem tq_mono {xs : List V} (v : V) (H H' : Hp) (e : Ex H H') (h : ∃ p, v = .ref p ∧ SqT K H p xs) : ∃ p, v = .ref p ∧ SqT K H' p xs := by
  obtain ⟨p, rfl, h⟩ := h
  exact ⟨p, rfl, ex_t e h⟩
theorem s_asgTupY {t : TA} {g : TG} {D : Ends} {R : List V → Hp → Prop} (h : Ys t σ H R) (m : ∀ l H H', Ex H H' → R l H → R l H') (n : ∀ l H, R l H → l.length ≤ 1000) (k : ∀ l u H1, Ex H H1 → R l H1 → H1 u = some (.tup l) → g (.ref u) σ H1 D.nx) : tAsg (tTup t) g D σ H :=
  h H (Ex.refl H) _ fun l H1 e1 z => ⟨sz_of (Nat.le_trans (n l H1 z) (by decide)), fun u hu => k l u _ (e1.trans (Ex.new hu)) (m l _ _ (Ex.new hu) z) upd_same⟩
theorem sqt_upd {a dx : Addr} {fs : List (Str × V)} {p : Addr} {xs : List V} {o : HO} (h : H a = some (.ins C dx fs)) (t : SqT K H p xs) : SqT K (upd H a o) p xs := by
  rcases t with (t | ⟨u, t⟩) | t
  · exact .inl (.inl (by rw [upd_ne (fun z => by rw [z, h] at t; cases t)]; exact t))
  · exact .inl (.inr ⟨u, by rw [upd_ne (fun z => by rw [z, h] at t; cases t)]; exact t⟩)
  · exact .inr t
theorem q_asgNN {x y : V} {i j : Nat} {tz : TS} {D : Ends} (h : EvU te σ H [x, y]) (k : ∀ H1, Ex H H1 → tz D ((σ.set i (some x)).set j (some y)) H1) : tSeq (tAsg te (gTup K 2 (gCons (gName i) (gCons (gName j) gNil)))) tz D σ H :=
  h H (Ex.refl H) _ fun u H1 n1 e1 h1 => ⟨u, _, rfl, .inl (.inl h1), rfl, x, [y], rfl, y, [], rfl, rfl, k H1 e1⟩
theorem eu_is {xs ys : List V} (h : EvU te σ H xs) (e : xs = ys) : EvU te σ H ys := e ▸ h
theorem rv_isN {x : V} : RV (fun x y H Q => y = .non ∧ Q (.bl (decide (x = .non))) H) x .non H (.bl (decide (x = .non))) := fun H1 _ _ q => ⟨rfl, q H1 (Ex.refl H1)⟩
theorem rv_notN {x : V} : RV (fun x y H Q => y = .non ∧ Q (.bl (!decide (x = .non))) H) x .non H (.bl (!decide (x = .non))) := fun H1 _ _ q => ⟨rfl, q H1 (Ex.refl H1)⟩
theorem ov_isN {o : Option Int} : decide (ov o = .non) = o.isNone := by
  cases o with
  | none => rfl
  | some i => rfl
def rDivmod : List V → Hp → VK → Prop := fun xs H Q => ∃ i j, xs = [.int i, .int j] ∧ CDivP i j ∧ ∀ p, H p = none → Q (.ref p) (upd H p (.tup [.int (i / j), .int (i % j)]))
theorem eu_divmod {i j : Int} (ha : Ev ta σ H (.int i)) (hb : Ev tb σ H (.int j)) (h : CDivP i j) : EvU (tCB rDivmod (tCons ta (tCons tb tNil))) σ H [.int (i / j), .int (i % j)] := fun H1 e1 Q q =>
  ha H1 e1 _ fun H2 e2 => hb H2 (e1.trans e2) _ fun H3 e3 => ⟨i, j, rfl, h, fun p hp => q p _ (fresh_back (e2.trans e3) hp) ((e2.trans e3).trans (Ex.new hp)) upd_same⟩
def spRowInit (K : PySem.W.Frag) (C : Addr) : Sp := fun vs H Q _ => ∃ (a dx : Addr) (v1 v2 v3 : V) (r : Rw), vs = [.ref a, v1, v2, v3] ∧ H a = some (.ins C dx []) ∧ SqE K H v1 (r.head.map ov) ∧ SqE K H v2 (r.cycle.map ov) ∧ SqE K H v3 (r.steps.map ov) ∧ ∀ H', Ex (less a H) H' → RowAt K C r (.ref a) H' → Q .non H'
def spAt (K : PySem.W.Frag) (C : Addr) : Sp := fun vs H Q _ => ∃ (v : V) (r : Rw) (w : Nat) (B : Int), vs = [v, .int (w : Nat)] ∧ RowAt K C r v H ∧ RwOk B r ∧ ∀ H', Ex H H' → Q (ov (r.at w)) H'
def spRise (K : PySem.W.Frag) (C : Addr) : Sp := fun vs H Q _ => ∃ (v : V) (r : Rw) (w : Nat) (B : Int), vs = [v, .int (w : Nat)] ∧ RowAt K C r v H ∧ RwOk B r ∧ r.h ≤ w ∧ ∀ H', Ex H H' → Q (ov (r.rise w)) H'
def spLen (K : PySem.W.Frag) (C : Addr) : Sp := fun vs H Q _ => ∃ (v : V) (r : Rw), vs = [v] ∧ RowAt K C r v H ∧ ∀ H', Ex H H' → Q (.int ((r.h + r.c : Nat) : Int)) H'
/-! ### as data -/
def od : Option Int → PyData
  | none => .none
  | some i => .int i
def rwD (r : Rw) : PyData := .tuple [.tuple (r.head.map od), .tuple (r.cycle.map od), .tuple (r.steps.map od)]
def spKey (K : PySem.W.Frag) (C : Addr) : Sp := fun vs H Q _ => ∃ (v : V) (r : Rw), vs = [v] ∧ RowAt K C r v H ∧ (r.head.length ≤ 100000 ∧ r.cycle.length ≤ 100000 ∧ r.steps.length ≤ 100000) ∧ ∀ u H', Ex H H' → Da K H' (.ref u) (rwD r) → Q (.ref u) H'
theorem da_ov (o : Option Int) : Da K H (ov o) (od o) := by
  cases o with
  | none => exact .non
  | some i => exact .int i
theorem da_ol : ∀ l : Ol, Paired (fun d v => Da K H v d) (l.map od) (l.map ov)
  | [] => .nil
  | o :: r => .cons (da_ov o) (da_ol r)
theorem eqv_od (a b : Option Int) : PyData.eqv (od a) (od b) = decide (a = b) := by
  cases a with
  | none =>
    cases b with
    | none => rfl
    | some j => simp [od, PyData.eqv]
  | some i =>
    cases b with
    | none => simp [od, PyData.eqv]
    | some j =>
      show (i == j) = decide (some i = some j)
      by_cases e : i = j <;> simp [e]
theorem pl_od (o : Option Int) : Pl (od o) := by
  cases o with
  | none => exact ⟨rfl, by decide⟩
  | some i => exact ⟨rfl, by rfl⟩
/-! ### what the methods tell, evaluated -/
theorem ev_at {B : Int} {w : Nat} (h : Ev ta σ H v) (hv : RowAt K C r v H) (ok : RwOk B r) (hb : Ev tb σ H (.int (w : Nat))) : Ev (tMeth C "at" (spAt K C) [] E0 ta (tCons tb tNil)) σ H (ov (r.at w)) := by
  have hv' := hv
  obtain ⟨a, dx, p, q, s, rfl, h1, _⟩ := hv
  exact ev_hm h h1 (by rfl) (ea_cons hb ea_nil) fun H1 Q e k => ⟨.ref a, r, w, B, rfl, hv'.mono e, ok, fun H' e' => k H' e'⟩
theorem ev_rise {B : Int} {w : Nat} (h : Ev ta σ H v) (hv : RowAt K C r v H) (ok : RwOk B r) (le : r.h ≤ w) (hb : Ev tb σ H (.int (w : Nat))) : Ev (tMeth C "rise_at" (spRise K C) [] E0 ta (tCons tb tNil)) σ H (ov (r.rise w)) := by
  have hv' := hv
  obtain ⟨a, dx, p, q, s, rfl, h1, _⟩ := hv
  exact ev_hm h h1 (by rfl) (ea_cons hb ea_nil) fun H1 Q e k => ⟨.ref a, r, w, B, rfl, hv'.mono e, ok, le, fun H' e' => k H' e'⟩
theorem ev_rlen (h : Ev ta σ H v) (hv : RowAt K C r v H) : Ev (tMeth C "length" (spLen K C) [] E0 ta tNil) σ H (.int ((r.h + r.c : Nat) : Int)) := by
  have hv' := hv
  obtain ⟨a, dx, p, q, s, rfl, h1, _⟩ := hv
  exact ev_hm h h1 (by rfl) ea_nil fun H1 Q e k => ⟨.ref a, r, rfl, hv'.mono e, fun H' e' => k H' e'⟩
theorem ev_headLen (c : RowC K C) (h : Ev te σ H v) (hv : RowAt K C r v H) : Ev (tCB (rLenY K) (tCons (tFld K te "head") tNil)) σ H (.int (r.h : Nat)) := by
  obtain ⟨a, dx, p, q, s, rfl, h1, h2, _⟩ := hv
  exact ev_is (ev_lenL (ev_fld c.cls c.n1 h h1 rfl) (.inr h2)) (by rw [List.length_map] <;> rfl)
theorem ev_cycLen (c : RowC K C) (h : Ev te σ H v) (hv : RowAt K C r v H) : Ev (tCB (rLenY K) (tCons (tFld K te "cycle") tNil)) σ H (.int (r.c : Nat)) := by
  obtain ⟨a, dx, p, q, s, rfl, h1, _, h2, _⟩ := hv
  exact ev_is (ev_lenL (ev_fld c.cls c.n2 h h1 rfl) (.inr h2)) (by rw [List.length_map] <;> rfl)
end
end SwX
set_option Elab.async false
set_option linter.all false
set_option maxRecDepth 100000
set_option maxHeartbeats 4000000
/-! rows, plain: periods, the least form -/
namespace SwX
open PySem PySem.Spec PyProof.Rows L2 Evl
/-! ### what the code computes -/
def hasP (r : Rw) (p : Nat) : Bool := (List.range (2 * r.c)).all (fun i => (r.stp (r.h + i) p).isSome) && (List.range (2 * r.c)).all fun i => decide (r.stp (r.h + i) p = r.stp (r.h + i % p) p)
def withP (r : Rw) (p : Nat) : Rw := ⟨r.head, (List.range p).map fun i => r.at (r.h + i), (List.range p).map fun i => (r.stp (r.h + i) p).getD none⟩
def strB (r : Rw) (w : Nat) : Bool := decide (r.stp w r.c = some (r.rise (w + r.c * (1 + r.h / r.c))))
def downS (r : Rw) : Nat → Nat
  | 0 => 0
  | n + 1 => if strB r n then downS r n else n + 1
def perB (r : Rw) (s : Nat) : Bool := decide (r.c % s = 0) && hasP r s
def pers (r : Rw) : List Nat := ((List.range r.c).map (· + 1)).filter (perB r)
def perOf (r : Rw) : Nat := (pers r).headD 0
def cutF (r : Rw) (f : Nat) : Rw := ⟨r.head.take f, (List.range r.c).map fun i => r.at (f + i), (List.range r.c).map fun i => (r.stp (f + i) r.c).getD none⟩
def lf (r : Rw) : Rw := cutF (withP r (perOf r)) (downS (withP r (perOf r)) r.h)
/-! ### facts -/
section
variable {B : Int} {r : Rw} {p w i : Nat}
theorem at_cyc (ok : RwOk B r) (hi : i < r.c) : r.at (r.h + i) = Ol.g r.cycle i := by
  rw [Rw.at_ge (by omega), show r.h + i - r.h = i by omega, Nat.mod_eq_of_lt hi, Nat.div_eq_of_lt hi]
  cases Ol.g r.cycle i with
  | none => rfl
  | some v => simp [farV]
theorem stp_none {a b : Nat} (e : r.stp a b = some none) : r.at a = none ∧ r.at (a + b) = none := by
  unfold Rw.stp at e
  split at e
  · exact ⟨by assumption, by assumption⟩
  · cases e
  · cases e
theorem stp_some {a b : Nat} {d : Int} (e : r.stp a b = some (some d)) : ∃ x, r.at a = some x ∧ r.at (a + b) = some (x + d) := by
  unfold Rw.stp at e
  split at e
  · cases e
  · rename_i x y h1 h2
    cases e
    exact ⟨x, h1, by rw [h2]; congr 1; omega⟩
  · cases e
theorem stp_ge (ok : RwOk B r) (hw : r.h ≤ w) : r.stp w r.c = some (r.rise w) := by
  have cp := ok.pos
  have e1 : (w + r.c - r.h) % r.c = (w - r.h) % r.c := by rw [show w + r.c - r.h = (w - r.h) + r.c by omega, Nat.add_mod_right]
  have e2 : (w + r.c - r.h) / r.c = (w - r.h) / r.c + 1 := by rw [show w + r.c - r.h = (w - r.h) + r.c by omega, Nat.add_div_right _ cp]
  have lt : (w - r.h) % r.c < r.c := Nat.mod_lt _ cp
  unfold Rw.stp Rw.rise
  rw [Rw.at_ge (by omega), Rw.at_ge (by omega), e1, e2]
  generalize (w - r.h) % r.c = j at lt
  generalize (w - r.h) / r.c = t
  have b := ok.both j lt
  cases cv : Ol.g r.cycle j with
  | none =>
    rw [b.mp cv]
    rfl
  | some v =>
    cases sv : Ol.g r.steps j with
    | none => rw [b.mpr sv] at cv; cases cv
    | some y =>
      simp only [farV, Option.getD_some]
      congr 2
      rw [Int.natCast_add, Int.add_mul]
      omega
theorem hasP_c (ok : RwOk B r) : hasP r r.c = true := by
  unfold hasP
  rw [Bool.and_eq_true, List.all_eq_true, List.all_eq_true]
  refine ⟨fun i _ => by rw [stp_ge ok (by omega)] <;> rfl, fun i _ => decide_eq_true ?_⟩
  rw [stp_ge ok (by omega), stp_ge ok (by omega)]
  unfold Rw.rise
  rw [show r.h + i - r.h = i by omega, show r.h + i % r.c - r.h = i % r.c by omega, Nat.mod_mod]
theorem hasP_some (h : hasP r p = true) (hi : i < 2 * r.c) : ∃ o, r.stp (r.h + i) p = some o := by
  unfold hasP at h
  rw [Bool.and_eq_true, List.all_eq_true] at h
  exact Option.isSome_iff_exists.mp (h.1 i (List.mem_range.mpr hi))
theorem hasP_mod (h : hasP r p = true) (hi : i < 2 * r.c) : r.stp (r.h + i) p = r.stp (r.h + i % p) p := by
  unfold hasP at h
  rw [Bool.and_eq_true, List.all_eq_true, List.all_eq_true] at h
  exact of_decide_eq_true (h.2 i (List.mem_range.mpr hi))
theorem g_map {n : Nat} {f : Nat → Option Int} (hi : i < n) : Ol.g ((List.range n).map f) i = f i := by
  unfold Ol.g
  rw [List.getD_eq_getElem?_getD, List.getElem?_map, List.getElem?_range hi]
  rfl
theorem g_out {l : Ol} (hi : l.length ≤ i) : Ol.g l i = none := by
  unfold Ol.g
  rw [List.getD_eq_getElem?_getD, List.getElem?_eq_none hi]
  rfl
/-- cut at f: a row again, if it steps on from f -/
theorem cut_ok (ok : RwOk B r) {f : Nat} (hf : f ≤ 20000) (hs : ∀ i, i < r.c → ∃ o, r.stp (f + i) r.c = some o ∧ ∀ x, o = some x → -B ≤ x ∧ x ≤ B) : RwOk B (cutF r f) := by
  have hc : (cutF r f).c = r.c := by unfold cutF Rw.c; simp
  refine ⟨by rw [hc]; exact ok.pos, by rw [hc]; unfold cutF; simp, by unfold cutF Rw.h; simp; omega, by rw [hc]; exact ok.cs, fun i hi => ?_, ok.big, fun i x e => ?_⟩
  · rw [hc] at hi
    obtain ⟨o, eo, _⟩ := hs i hi
    show Ol.g ((List.range r.c).map fun i => r.at (f + i)) i = none ↔ Ol.g ((List.range r.c).map fun i => (r.stp (f + i) r.c).getD none) i = none
    rw [g_map hi, g_map hi, eo]
    cases o with
    | none => exact ⟨fun _ => rfl, fun _ => (stp_none eo).1⟩
    | some d =>
      obtain ⟨x, h1, _⟩ := stp_some eo
      rw [h1]
      exact ⟨fun z => (nomatch z), fun z => (nomatch z)⟩
  · by_cases hi : i < r.c
    · obtain ⟨o, eo, b⟩ := hs i hi
      have e' : Ol.g ((List.range r.c).map fun i => (r.stp (f + i) r.c).getD none) i = some x := e
      rw [g_map hi, eo] at e'
      exact b x e'
    · have e' : Ol.g ((List.range r.c).map fun i => (r.stp (f + i) r.c).getD none) i = some x := e
      rw [g_out (by simp; omega)] at e'
      cases e'
theorem with_ok (ok : RwOk B r) (hp : 0 < p) (hc : p ≤ 10000) (hs : ∀ i, i < p → ∃ o, r.stp (r.h + i) p = some o ∧ ∀ x, o = some x → -B ≤ x ∧ x ≤ B) : RwOk B (withP r p) := by
  have ec : (withP r p).c = p := by unfold withP Rw.c; simp
  refine ⟨by rw [ec]; exact hp, by rw [ec]; unfold withP; simp, ok.hs, by rw [ec]; exact hc, fun i hi => ?_, ok.big, fun i x e => ?_⟩
  · rw [ec] at hi
    obtain ⟨o, eo, _⟩ := hs i hi
    show Ol.g ((List.range p).map fun i => r.at (r.h + i)) i = none ↔ Ol.g ((List.range p).map fun i => (r.stp (r.h + i) p).getD none) i = none
    rw [g_map hi, g_map hi, eo]
    cases o with
    | none => exact ⟨fun _ => rfl, fun _ => (stp_none eo).1⟩
    | some d =>
      obtain ⟨x, h1, _⟩ := stp_some eo
      rw [h1]
      exact ⟨fun z => (nomatch z), fun z => (nomatch z)⟩
  · by_cases hi : i < p
    · obtain ⟨o, eo, b⟩ := hs i hi
      have e' : Ol.g ((List.range p).map fun i => (r.stp (r.h + i) p).getD none) i = some x := e
      rw [g_map hi, eo] at e'
      exact b x e'
    · have e' : Ol.g ((List.range p).map fun i => (r.stp (r.h + i) p).getD none) i = some x := e
      rw [g_out (by simp; omega)] at e'
      cases e'
/-- the steps of a shorter period are no greater -/
theorem hasP_small (ok : RwOk B r) (hp : 0 < p) (hd : r.c % p = 0) (h : hasP r p = true) (hi : i < p) : ∃ o, r.stp (r.h + i) p = some o ∧ ∀ x, o = some x → -B ≤ x ∧ x ≤ B := by
  have cp := ok.pos
  obtain ⟨k, hk⟩ := Nat.dvd_of_mod_eq_zero hd
  have kp : 0 < k := Nat.pos_of_ne_zero fun z => by rw [z] at hk; omega
  have pc : p ≤ r.c := by rw [hk]; exact Nat.le_mul_of_pos_right _ kp
  obtain ⟨o, eo⟩ := hasP_some h (i := i) (by omega)
  refine ⟨o, eo, fun d e => ?_⟩
  subst e
  obtain ⟨a, ha, _⟩ := stp_some eo
  have run : ∀ m, m ≤ k → r.at (r.h + (i + m * p)) = some (a + m * d) := fun m => by
    induction m with
    | zero => intro _; rw [Nat.zero_mul, Nat.add_zero, ha]; simp
    | succ m ih =>
      intro hm
      have lt : i + m * p < r.c := by
        have : m * p + p ≤ k * p := by rw [← Nat.succ_mul]; exact Nat.mul_le_mul_right _ hm
        rw [hk, Nat.mul_comm p k]
        omega
      have e1 := hasP_mod h (i := i + m * p) (by omega)
      rw [Nat.add_mul_mod_self_right, Nat.mod_eq_of_lt hi, eo] at e1
      obtain ⟨x, h1, h2⟩ := stp_some e1
      rw [ih (by omega)] at h1
      cases h1
      rw [show r.h + (i + (m + 1) * p) = r.h + (i + m * p) + p by rw [Nat.succ_mul]; omega, h2]
      congr 1
      rw [Int.natCast_add, Int.add_mul]
      omega
  have e2 := stp_ge ok (w := r.h + i) (by omega)
  have e3 := run k (Nat.le_refl k)
  rw [Nat.mul_comm k p, ← hk] at e3
  have e4 : r.stp (r.h + i) r.c = some (some (k * d)) := by
    unfold Rw.stp
    rw [ha, show r.h + i + r.c = r.h + (i + r.c) by omega, e3]
    simp only
    congr 2
    omega
  rw [e4] at e2
  have e5 : Ol.g r.steps ((r.h + i - r.h) % r.c) = some (k * d) := (Option.some.inj e2).symm
  have s := ok.small _ _ e5
  have k1 : (0 : Int) ≤ (k : Int) - 1 := by omega
  have e6 : (k : Int) * d = d + ((k : Int) - 1) * d := by rw [Int.sub_mul]; omega
  rw [e6] at s
  by_cases d0 : 0 ≤ d
  · have := Int.mul_nonneg k1 d0
    omega
  · have := Int.mul_nonneg k1 (show 0 ≤ -d by omega)
    rw [Int.mul_neg] at this
    omega
theorem pers_ne (ok : RwOk B r) : ∃ p l, pers r = p :: l := by
  have m : r.c ∈ pers r := List.mem_filter.mpr ⟨List.mem_map.mpr ⟨r.c - 1, List.mem_range.mpr (by have := ok.pos; omega), by have := ok.pos; omega⟩, by unfold perB; rw [Nat.mod_self, hasP_c ok] <;> rfl⟩
  cases e : pers r with
  | nil => rw [e] at m; cases m
  | cons p l => exact ⟨p, l, rfl⟩
theorem perOf_mem (ok : RwOk B r) : perOf r ∈ pers r := by
  obtain ⟨p, l, e⟩ := pers_ne ok
  unfold perOf
  rw [e]
  exact List.mem_cons_self
theorem pers_of {p : Nat} (m : p ∈ pers r) : 0 < p ∧ p ≤ r.c ∧ r.c % p = 0 ∧ hasP r p = true := by
  obtain ⟨m1, m2⟩ := List.mem_filter.mp m
  obtain ⟨q, hq, rfl⟩ := List.mem_map.mp m1
  have := List.mem_range.mp hq
  unfold perB at m2
  rw [Bool.and_eq_true] at m2
  exact ⟨by omega, by omega, of_decide_eq_true m2.1, m2.2⟩
theorem withPer_ok (ok : RwOk B r) : RwOk B (withP r (perOf r)) := by
  obtain ⟨h1, h2, h3, h4⟩ := pers_of (perOf_mem ok)
  exact with_ok ok h1 (Nat.le_trans h2 ok.cs) fun i hi => hasP_small ok h1 h3 h4 hi
theorem down_le (r : Rw) : ∀ n, downS r n ≤ n
  | 0 => Nat.le_refl 0
  | n + 1 => by
    unfold downS
    split
    · exact Nat.le_succ_of_le (down_le r n)
    · exact Nat.le_refl _
theorem down_str (r : Rw) : ∀ n w, downS r n ≤ w → w < n → strB r w = true
  | 0, w, _, h => absurd h (Nat.not_lt_zero _)
  | n + 1, w, h1, h2 => by
    unfold downS at h1
    split at h1
    · rename_i s
      rcases Nat.lt_succ_iff_lt_or_eq.mp h2 with h | rfl
      · exact down_str r n w h1 h
      · exact s
    · omega
theorem str_stp (ok : RwOk B r) (s : strB r w = true) : ∃ o, r.stp w r.c = some o ∧ ∀ x, o = some x → -B ≤ x ∧ x ≤ B := by
  unfold strB at s
  exact ⟨_, of_decide_eq_true s, fun x e => ok.small _ _ e⟩
theorem ge_stp (ok : RwOk B r) (h : r.h ≤ w) : ∃ o, r.stp w r.c = some o ∧ ∀ x, o = some x → -B ≤ x ∧ x ≤ B := ⟨_, stp_ge ok h, fun x e => ok.small _ _ e⟩
theorem lf_ok (ok : RwOk B r) : RwOk B (lf r) := by
  have ok1 := withPer_ok ok
  have le := down_le (withP r (perOf r)) r.h
  refine cut_ok ok1 (by have := ok.hs; omega) fun i hi => ?_
  by_cases h : r.h ≤ downS (withP r (perOf r)) r.h + i
  · exact ge_stp ok1 h
  · exact str_stp ok1 (down_str _ r.h _ (Nat.le_add_right _ _) (by omega))
end
end SwX
set_option Elab.async false
set_option linter.all false
set_option maxRecDepth 100000
set_option maxHeartbeats 4000000
/-! rows: promises of the defs, evaluation -/
namespace SwX
open PySem PySem.Spec PyProof.Rows L2 Evl
section
variable {K : PySem.W.Frag} {C : Addr} {H H' : Hp} {σ : L2.St} {te ta tb tc : TE} {v x y : V} {r : Rw} {B : Int} {tt : TT}
theorem q_parE {i j : Nat} {tz : TS} {D : Ends} (h1 : Ev ta σ H x) (h2 : Ev tb σ H y) (k : ∀ H1, Ex H H1 → tz D ((σ.set i (some x)).set j (some y)) H1) : tSeq (tPar i j (tCons ta (tCons tb tNil))) tz D σ H :=
  h1 H (Ex.refl H) _ fun H1 e1 => h2 H1 e1 _ fun H2 e2 => ⟨x, y, rfl, k H2 (e1.trans e2)⟩
theorem ev_ite {b : Bool} {x y : V} (h : EvT tt σ H b) (h1 : b = true → Ev ta σ H x) (h2 : b = false → Ev tb σ H y) : Ev (tIf tt ta tb) σ H (if b then x else y) := ev_if h (fun e => by subst e; exact h1 rfl) fun e => by subst e; exact h2 rfl
def spStep (K : PySem.W.Frag) (C : Addr) : Sp := fun vs H Q _ => ∃ (v : V) (r : Rw) (a b : Nat) (B : Int), vs = [v, .int (a : Nat), .int (b : Nat)] ∧ RowAt K C r v H ∧ RwOk B r ∧ ∀ H', Ex H H' → Q (sv (r.stp a b)) H'
def spHasP (K : PySem.W.Frag) (C : Addr) : Sp := fun vs H Q _ => ∃ (v : V) (r : Rw) (p : Nat) (B : Int), vs = [v, .int (p : Nat)] ∧ RowAt K C r v H ∧ RwOk B r ∧ 0 < p ∧ ∀ H', Ex H H' → Q (.bl (hasP r p)) H'
def spWithP (K : PySem.W.Frag) (C : Addr) : Sp := fun vs H Q _ => ∃ (v : V) (r : Rw) (p : Nat) (B : Int), vs = [v, .int (p : Nat)] ∧ RowAt K C r v H ∧ RwOk B r ∧ p ≤ 20000 ∧ (∀ i, i < p → ∃ o, r.stp (r.h + i) p = some o) ∧ ∀ v' H', Ex H H' → RowAt K C (withP r p) v' H' → Q v' H'
def spStr (K : PySem.W.Frag) (C : Addr) : Sp := fun vs H Q _ => ∃ (v : V) (r : Rw) (a : Nat) (B : Int), vs = [v, .int (a : Nat)] ∧ RowAt K C r v H ∧ RwOk B r ∧ ∀ H', Ex H H' → Q (.bl (strB r a)) H'
def spLf (K : PySem.W.Frag) (C : Addr) : Sp := fun vs H Q _ => ∃ (v : V) (r : Rw) (B : Int), vs = [v] ∧ RowAt K C r v H ∧ RwOk B r ∧ ∀ v' H', Ex H H' → RowAt K C (lf r) v' H' → Q v' H'
def flatR (l m : Ol) : Rw := ⟨l, m, m.map fun o => o.map fun _ => 0⟩
def spFlat (K : PySem.W.Frag) (C : Addr) : Sp := fun vs H Q _ => ∃ (v : V) (b : Addr) (l m : Ol), vs = [v, .ref b] ∧ SqE K H v (l.map ov) ∧ SqL K H b (m.map ov) ∧ 0 < m.length ∧ l.length ≤ 20000 ∧ m.length ≤ 10000 ∧ ∀ v' H', Ex H H' → RowAt K C (lf (flatR l m)) v' H' → Q v' H'
theorem ev_step {a b : Nat} (hv : RowAt K C r v H) (ok : RwOk B r) (h1 : Ev ta σ H v) (h2 : Ev tb σ H (.int (a : Nat))) (h3 : Ev tc σ H (.int (b : Nat))) : Ev (tCall (spStep K C) [] E0 (tCons ta (tCons tb (tCons tc tNil)))) σ H (sv (r.stp a b)) :=
  ev_hc (ea_cons h1 (ea_cons h2 (ea_cons h3 ea_nil))) fun H1 Q e k => ⟨v, r, a, b, B, rfl, hv.mono e, ok, k⟩
/-! ### steps as data -/
def sd : Option (Option Int) → PyData
  | none => .str "none"
  | some o => od o
theorem da_sv (o : Option (Option Int)) : Da K H (sv o) (sd o) := by
  cases o with
  | none => exact .str _
  | some o => exact da_ov o
theorem da_svs {α : Type} (f : α → Option (Option Int)) : ∀ l : List α, Paired (fun d v => Da K H v d) (l.map fun i => sd (f i)) (l.map fun i => sv (f i))
  | [] => .nil
  | o :: r => .cons (da_sv (f o)) (da_svs f r)
/-- an atom: no list, no dict within -/
structure Atm (x : PyData) : Prop where
  l : x.canLay0 = true
  d : x.depth ≤ 0
  n : x.hasDict = false
theorem atm_od (o : Option Int) : Atm (od o) := by
  cases o with
  | none => exact ⟨rfl, Nat.le_refl _, rfl⟩
  | some i => exact ⟨rfl, Nat.le_refl _, rfl⟩
theorem atm_sd (o : Option (Option Int)) : Atm (sd o) := by
  cases o with
  | none => exact ⟨by decide +kernel, Nat.le_refl _, rfl⟩
  | some o => exact atm_od o
theorem Atm.pl {d : PyData} (h : Atm d) : Pl d := ⟨h.n, shaped_of h.l (Nat.le_trans h.d (by decide))⟩
theorem pl_atmL {α : Type} {f : α → PyData} {l : List α} (h : ∀ a ∈ l, Atm (f a)) : Pl (.list (l.map f)) := ⟨by simp only [PyData.hasDict]; exact nodict_all fun a ha => (h a ha).n, shaped_of (by simp only [PyData.canLay0]; exact lay_all fun a ha => (h a ha).l) (by rw [dep_l]; have := depth_all (n := 0) fun a ha => (h a ha).d; omega)⟩
theorem pl_atmT {α : Type} {f : α → PyData} {l : List α} (h : ∀ a ∈ l, Atm (f a)) : Pl (.tuple (l.map f)) := ⟨by simp only [PyData.hasDict]; exact nodict_all fun a ha => (h a ha).n, shaped_of (by simp only [PyData.canLay0]; exact lay_all fun a ha => (h a ha).l) (by rw [dep_t]; have := depth_all (n := 0) fun a ha => (h a ha).d; omega)⟩
theorem eqv_sdn (o : Option (Option Int)) : PyData.eqv (sd o) (.str "none") = o.isNone := by
  cases o with
  | none => simp [sd, PyData.eqv]
  | some o =>
    cases o with
    | none => simp [sd, od, PyData.eqv]
    | some i => simp [sd, od, PyData.eqv]
theorem eqv_sd (a b : Option Int) : PyData.eqv (sd (some a)) (sd (some b)) = decide (a = b) := eqv_od a b
theorem et_yes : EvT tYes σ H true := fun H1 e1 Q q => q H1 (Ex.refl H1)
theorem given_all {n : Nat} {u : Nat → V} : given n (fun _ => true) u = (List.range n).map u := by
  unfold given
  rw [List.filter_eq_self.mpr fun _ _ => rfl]
/-- [e for i in range(n)], a value for each -/
theorem el_lcN {ta : TA} {te : TE} {j n : Nat} {vs : List Nat} (u : Nat → V) (h : EvA ta σ H [.int (n : Nat)]) (hn : n ≤ 40000) (hw : ∀ x, wipe ((wipe σ vs).set j (some x)) vs = wipe σ vs) (he : ∀ (i : Nat) H1, Ex H H1 → i < n → Ev te ((wipe σ vs).set j (some (.int (i : Nat)))) H1 (u i)) :
    EvL (tLc (iRng1 ta) (gName j) tYes te vs) σ H ((List.range n).map u) := fun H0 e0 Q q => by
  have z := el_lcR1 (j := j) (vs := vs) (te := te) (t := tYes) (n := (n : Nat)) (fun _ => true) u h (by omega) hw (fun i H1 _ _ => et_yes) fun i H1 e lt _ => he i H1 e (by omega)
  rw [given_all, Int.toNat_natCast] at z
  exact z H0 e0 Q q
/-! ### rows made, walked -/
theorem made_ex {x dx : Addr} (h1 : H x = none) (h2 : H dx = none) : Ex H (less x (upd (upd H dx (.own x)) x (.ins C dx []))) := ex_less h1 (((Ex.refl H).mut h2).mut h1)
theorem yi_row {t : TA} (h : Ys t σ H fun vs H' => ∃ v1 v2 v3, vs = [v1, v2, v3] ∧ SqE K H' v1 (r.head.map ov) ∧ SqE K H' v2 (r.cycle.map ov) ∧ SqE K H' v3 (r.steps.map ov)) : Yi (tMake C (spRowInit K C) [] E0 t) σ H (RowAt K C r) := fun H1 e1 Q q =>
  h H1 e1 _ fun vs H2 e2 z x dx hx hdx ne => by
    obtain ⟨v1, v2, v3, rfl, s1, s2, s3⟩ := z
    have b := made_ex (C := C) hx hdx
    have b' : Ex H2 (upd (upd H2 dx (.own x)) x (.ins C dx [])) := ((Ex.refl H2).mut hdx).mut hx
    exact ⟨x, dx, v1, v2, v3, r, rfl, upd_same, s1.mono b', s2.mono b', s3.mono b', fun H' e' ra => ⟨rfl, q (.ref x) H' (e2.trans (b.trans e')) ra⟩⟩
theorem ev_ixNew {xs : List V} {i : Nat} (h : EvL ta σ H xs) (hb : Ev tb σ H (.int (i : Nat))) (hi : xs[i]? = some v) : Ev (tOp (rIx K) ta tb) σ H v := fun H1 e1 Q q =>
  h H1 e1 _ fun p H2 _ e2 hp => hb H2 (e1.trans e2) _ fun H3 e3 => rv_ixLn (sq_of (e3 _ _ hp)) hi H3 (Ex.refl H3) Q fun H4 e4 => q H4 (e2.trans (e3.trans e4))
/-- [e for i in range(lo, hi) if ..] -/
theorem el_lcN2 {ti : TA} {te : TE} {j n : Nat} {lo : Int} {vs : List Nat} (f : Nat → Bool) (u : Nat → V) (h : EvA ti σ H [.int lo, .int (lo + (n : Nat))]) (hlo : -1000000 ≤ lo ∧ lo ≤ 1000000) (hn : n ≤ 40000) (hw : ∀ x, wipe ((wipe σ vs).set j (some x)) vs = wipe σ vs)
    (ht : ∀ (i : Nat) H1, Ex H H1 → i < n → EvT tt ((wipe σ vs).set j (some (.int (lo + (i : Nat))))) H1 (f i)) (he : ∀ (i : Nat) H1, Ex H H1 → i < n → f i = true → Ev te ((wipe σ vs).set j (some (.int (lo + (i : Nat))))) H1 (u i)) : EvL (tLc (iRng2 ti) (gName j) tt te vs) σ H (given n f u) := fun H0 e Q q => h H0 e _ fun H1 e1 => ⟨lo, lo + (n : Nat), rfl, ⟨by omega, by omega, by omega, by omega⟩, fun Dl hD => by
  have en : (lo + (n : Nat) - lo).toNat = n := by omega
  rw [en]
  exact lc_range (lo := lo) (n := n) (Cw H1 f u Dl) ⟨hD, Ex.new hD, upd_same⟩ (fun i H' hi p => ⟨hw _, cw_turn p (by omega) (ht i H1 (e.trans e1) hi) (fun hf => he i H1 (e.trans e1) hi hf)⟩) (fun H' p => q Dl H' (fresh_back e1 p.1) (e1.trans p.2.1) p.2.2)⟩
theorem ev_hasP {p : Nat} (hv : RowAt K C r v H) (ok : RwOk B r) (hp : 0 < p) (h1 : Ev ta σ H v) (h2 : Ev tb σ H (.int (p : Nat))) : Ev (tCall (spHasP K C) [] E0 (tCons ta (tCons tb tNil))) σ H (.bl (hasP r p)) :=
  ev_hc (ea_cons h1 (ea_cons h2 ea_nil)) fun H1 Q e k => ⟨v, r, p, B, rfl, hv.mono e, ok, hp, k⟩
theorem ev_str {a : Nat} (hv : RowAt K C r v H) (ok : RwOk B r) (h1 : Ev ta σ H v) (h2 : Ev tb σ H (.int (a : Nat))) : Ev (tCall (spStr K C) [] E0 (tCons ta (tCons tb tNil))) σ H (.bl (strB r a)) :=
  ev_hc (ea_cons h1 (ea_cons h2 ea_nil)) fun H1 Q e k => ⟨v, r, a, B, rfl, hv.mono e, ok, k⟩
theorem yi_withP {p : Nat} (hv : RowAt K C r v H) (ok : RwOk B r) (hp : p ≤ 20000) (st : ∀ i, i < p → ∃ o, r.stp (r.h + i) p = some o) (h1 : Ev ta σ H v) (h2 : Ev tb σ H (.int (p : Nat))) : Yi (tCall (spWithP K C) [] E0 (tCons ta (tCons tb tNil))) σ H (RowAt K C (withP r p)) := fun H1 e1 Q q =>
  (ea_cons h1 (ea_cons h2 ea_nil) : EvA _ σ H [v, .int (p : Nat)]) H1 e1 _ fun H2 e2 => ⟨v, r, p, B, rfl, hv.mono (e1.trans e2), ok, hp, st, fun v' H' e' ra => q v' H' (e2.trans e') ra⟩
theorem yi_lf (ok : RwOk B r) (h : Yi ta σ H (RowAt K C r)) : Yi (tCall (spLf K C) [] E0 (tCons ta tNil)) σ H (RowAt K C (lf r)) := fun H1 e1 Q q =>
  h H1 e1 _ fun v H2 e2 ra => ⟨v, r, B, rfl, ra, ok, fun v' H' e' rb => q v' H' (e2.trans e') rb⟩
theorem rowAt_mono (v : V) (H H' : Hp) (e : Ex H H') (h : RowAt K C r v H) : RowAt K C r v H' := h.mono e
theorem sqe_mono {xs : List V} (v : V) (H H' : Hp) (e : Ex H H') (h : SqE K H v xs) : SqE K H' v xs := h.mono e
/-- three things in a row, for yi_row -/
theorem ys_row3 {t1 t2 t3 : TE} {xs ys zs : List V} (h1 : Yi t1 σ H fun v H' => SqE K H' v xs) (h2 : Yi t2 σ H fun v H' => SqE K H' v ys) (h3 : Yi t3 σ H fun v H' => SqE K H' v zs) : Ys (tCons t1 (tCons t2 (tCons t3 tNil))) σ H fun vs H' => ∃ v1 v2 v3, vs = [v1, v2, v3] ∧ SqE K H' v1 xs ∧ SqE K H' v2 ys ∧ SqE K H' v3 zs := fun H1 e1 Q q =>
  h1 H1 e1 _ fun v1 H2 e2 s1 => h2 H2 (e1.trans e2) _ fun v2 H3 e3 s2 => h3 H3 ((e1.trans e2).trans e3) _ fun v3 H4 e4 s3 => q [v1, v2, v3] H4 ((e2.trans e3).trans e4) ⟨v1, v2, v3, rfl, s1.mono (e3.trans e4), s2.mono e4, s3⟩
theorem yi_sqL {xs : List V} (h : EvL te σ H xs) : Yi te σ H fun v H' => SqE K H' v xs := fun H1 e1 Q q => h H1 e1 _ fun p H2 _ e2 hp => q (.ref p) H2 e2 ⟨p, rfl, .inr (sq_of hp)⟩
theorem yi_sqE {xs : List V} (h : Ev te σ H v) (s : SqE K H v xs) : Yi te σ H fun v H' => SqE K H' v xs := fun H1 e1 Q q => h H1 e1 _ fun H2 e2 => q v H2 e2 (s.mono (e1.trans e2))
theorem yi_sqT {xs : List V} (h : Yi te σ H fun v H' => ∃ q, v = .ref q ∧ SqT K H' q xs) : Yi te σ H fun v H' => SqE K H' v xs := fun H1 e1 Q q => h H1 e1 _ fun v H2 e2 z => q v H2 e2 (by obtain ⟨p, rfl, z⟩ := z; exact ⟨p, rfl, .inl z⟩)
theorem ev_head (c : RowC K C) (h : Ev te σ H v) (hv : RowAt K C r v H) : ∃ p, Ev (tFld K te "head") σ H (.ref p) ∧ SqT K H p (r.head.map ov) := by
  obtain ⟨a, dx, p, q, s, rfl, h1, h2, _⟩ := hv
  exact ⟨p, ev_fld c.cls c.n1 h h1 rfl, h2⟩
theorem g_mapO {m : Ol} {i : Nat} {f : Option Int → Option Int} (h0 : f none = none) : Ol.g (m.map f) i = f (Ol.g m i) := by
  unfold Ol.g
  rw [List.getD_eq_getElem?_getD, List.getD_eq_getElem?_getD, List.getElem?_map]
  cases m[i]? with
  | none => exact h0.symm
  | some o => rfl
theorem flat_ok {l m : Ol} (h1 : 0 < m.length) (h2 : l.length ≤ 20000) (h3 : m.length ≤ 10000) : RwOk 0 (flatR l m) := by
  refine ⟨h1, by unfold flatR Rw.c; simp, h2, h3, fun i hi => ?_, by decide, fun i x e => ?_⟩
  · show Ol.g m i = none ↔ Ol.g (m.map fun o => o.map fun _ => 0) i = none
    rw [g_mapO rfl]
    cases Ol.g m i with
    | none => exact ⟨fun _ => rfl, fun _ => rfl⟩
    | some j => exact ⟨fun z => (nomatch z), fun z => (nomatch z)⟩
  · have e' : Ol.g (m.map fun o => o.map fun _ => 0) i = some x := e
    rw [g_mapO rfl] at e'
    cases z : Ol.g m i with
    | none => rw [z] at e'; cases e'
    | some j =>
      rw [z] at e'
      cases e'
      exact ⟨Int.le_refl 0, Int.le_refl 0⟩
end
end SwX
set_option Elab.async false
set_option linter.all false
set_option maxRecDepth 100000
set_option maxHeartbeats 4000000
/-! sets: what is refused; promises -/
namespace SwX
open PySem PySem.Spec PyProof.Rows L2 Evl
/-- an own exception that is raised -/
structure ExH (P : Program) (w : World) (K : PySem.W.Frag) (mg : Str → Option Value) (base : Heap) (i : Nat) (C : Addr) : Prop where
  D : HasX P w K mg base (exNm i) 1 C 1 [exFld i] (fun us ws => us ++ ws.reverse) (spIni1 C (exFld i))
  ty : PySem.W.typeIn K (.ref C) = some (.type "type")
/-- an exception of the class at C with this in its field f goes out -/
def Thr (E : XK) (C : Addr) (f : Str) (H : Hp) (v : V) : Prop := ∀ d H', Ex H H' → Flds H' (some d) [(f, v)] → E (.ref C) (some d) H'
theorem Thr.from {E : XK} {C : Addr} {f : Str} {H H1 : Hp} {v : V} (h : Thr E C f H v) (e : Ex H H1) : Thr E C f H1 v := fun d H' e' => h d H' (e.trans e')
theorem raise_1 {K : PySem.W.Frag} {E : XK} {C : Addr} {f : Str} {H : Hp} {σ : L2.St} {te : TE} {v : V} (t : Thr E C f H v) (h : Ev te σ H v) : tMkN C 1 (spIni1 C f) (tCons te tNil) σ H fun cls d H' => E cls d H' := mk_new1 h fun d H' e fl => t d H' e fl
def btwO (lo : Int) (hi : Option Int) : PyData → Bool
  | .int i => decide (lo ≤ i) && (match hi with
    | none => true
    | some h => decide (i ≤ h))
  | _ => false
def spIsIntD (K : PySem.W.Frag) : Sp := fun vs H Q _ => ∃ (v : V) (D : PyData), vs = [v] ∧ Da K H v D ∧ ∀ H', Ex H H' → Q (.bl (isInt D && !isBl D)) H'
def spBtwO (K : PySem.W.Frag) : Sp := fun vs H Q _ => ∃ (v : V) (D : PyData) (lo : Int) (hi : Option Int), vs = [v, .int lo, ov hi] ∧ Da K H v D ∧ ∀ H', Ex H H' → Q (.bl (btwO lo hi D)) H'
theorem int_ofO {D : PyData} (h : (isInt D && !isBl D) = true) : ∃ i, D = .int i := match D, h with
  | .int i, _ => ⟨i, rfl⟩
theorem btwO_no {D : PyData} {lo : Int} {hi : Option Int} (h : (isInt D && !isBl D) = false) : btwO lo hi D = false := by
  cases D <;> first | rfl | simp [isInt, isBl] at h
theorem btwO_inv {D : PyData} {lo h : Int} (z : btwO lo (some h) D = true) : ∃ i, D = .int i ∧ lo ≤ i ∧ i ≤ h := match D, z with
  | .int i, z => by
    simp only [btwO, Bool.and_eq_true, decide_eq_true_eq] at z
    exact ⟨i, rfl, z⟩
def spChkN (K : PySem.W.Frag) (C0 : Addr) : Sp := fun vs H Q E => ∃ (v : V) (D : PyData) (lo : Int) (hi : Option Int), vs = [v, .int lo, ov hi] ∧ Da K H v D ∧ (btwO lo hi D = true → ∀ H', Ex H H' → Q .non H') ∧ (btwO lo hi D = false → Thr E C0 "given" H v)
/-! ### members -/
def leD : PyData → PyData → Bool
  | .int a, .int b => decide (a ≤ b)
  | _, _ => false
def badM (ds : List PyData) (i : Nat) : Bool := !btwO 0 (some 999) (at' ds i) || (decide (0 < i) && leD (at' ds i) (at' ds (i - 1)))
def chkM : PyData → Option (Option Nat)
  | .tuple ds => (firstB ds.length (badM ds)).map some
  | _ => some none
theorem tup_ofD {D : PyData} (h : isTup D = true) : ∃ ds, D = .tuple ds := match D, h with
  | .tuple ds, _ => ⟨ds, rfl⟩
theorem chkM_notup {D : PyData} (h : isTup D = false) : chkM D = some none := by
  cases D <;> first | rfl | cases h
def natD (ns : List Nat) : PyData := .tuple (ns.map fun n => .int (n : Nat))
/-- ascending, below 1000 -/
structure MemOk (ns : List Nat) : Prop where
  asc : ns.Pairwise (· < ·)
  hi : ∀ n ∈ ns, n ≤ 999
theorem nats_of : ∀ {ds : List PyData}, (∀ i, i < ds.length → btwO 0 (some 999) (at' ds i) = true) → ∃ ns : List Nat, ds = ns.map fun n => PyData.int (n : Nat)
  | [], _ => ⟨[], rfl⟩
  | d :: ds, h => by
    obtain ⟨i, e, l, u⟩ := btwO_inv (h 0 (Nat.succ_pos _))
    obtain ⟨ns, e2⟩ := nats_of (ds := ds) fun i hi => h (i + 1) (Nat.succ_lt_succ hi)
    have e' : d = .int i := e
    refine ⟨i.toNat :: ns, ?_⟩
    rw [List.map_cons, ← e2, e', Int.toNat_of_nonneg l]
theorem at_natD {ns : List Nat} {i : Nat} (h : i < ns.length) : at' (ns.map fun n => PyData.int (n : Nat)) i = .int (ns[i] : Nat) := at_get (by rw [List.getElem?_map, List.getElem?_eq_getElem h] <;> rfl)
theorem asc_of : ∀ {ns : List Nat}, (∀ i (h : i + 1 < ns.length), ns[i] < ns[i + 1]) → ns.Pairwise (· < ·)
  | [], _ => .nil
  | [a], _ => List.pairwise_singleton _ _
  | a :: b :: l, h => by
    have ih : (b :: l).Pairwise (· < ·) := asc_of fun i hi => h (i + 1) (Nat.succ_lt_succ hi)
    have ab : a < b := h 0 (by simp)
    refine .cons (fun x hx => ?_) ih
    rcases List.mem_cons.mp hx with rfl | hx
    · exact ab
    · exact Nat.lt_trans ab ((List.pairwise_cons.mp ih).1 x hx)
theorem firstB_no {n : Nat} {bad : Nat → Bool} (h : firstB n bad = none) : ∀ i, i < n → bad i = false := fun i hi => by
  unfold firstB at h
  rw [List.find?_eq_none] at h
  simpa using h i (List.mem_range.mpr hi)
theorem chkM_none {D : PyData} (h : chkM D = none) : ∃ ns, D = natD ns ∧ MemOk ns := by
  cases D with
  | tuple ds =>
    have h' : (firstB ds.length (badM ds)).map some = none := h
    have no := firstB_no (Option.map_eq_none_iff.mp h')
    obtain ⟨ns, rfl⟩ := nats_of fun i hi => by
      have z := no i hi
      simp only [badM, Bool.or_eq_false_iff, Bool.not_eq_false'] at z
      exact z.1
    rw [List.length_map] at no
    refine ⟨ns, rfl, asc_of fun i hi => ?_, fun n hn => ?_⟩
    · have z := no (i + 1) hi
      simp only [badM, Bool.or_eq_false_iff, Nat.add_sub_cancel, at_natD hi, at_natD (show i < ns.length by omega), leD, Bool.and_eq_false_iff, decide_eq_false_iff_not] at z
      rcases z.2 with z | z <;> omega
    · obtain ⟨i, hi, rfl⟩ := List.getElem_of_mem hn
      have z := no i hi
      simp only [badM, Bool.or_eq_false_iff, at_natD hi, btwO, Bool.not_eq_false', Bool.and_eq_true, decide_eq_true_eq] at z
      omega
  | _ => cases h
theorem chkM_nat {ns : List Nat} (h : MemOk ns) : chkM (natD ns) = none := by
  show (firstB _ (badM _)).map some = none
  rw [firstB_none fun i hi => ?_] <;> try rfl
  rw [List.length_map] at hi
  have b := h.hi _ (List.getElem_mem hi)
  simp only [badM, Bool.or_eq_false_iff, at_natD hi, btwO, Bool.not_eq_false', Bool.and_eq_true, decide_eq_true_eq]
  refine ⟨⟨by omega, by omega⟩, ?_⟩
  by_cases i0 : 0 < i
  · rw [at_natD (show i - 1 < ns.length by omega)]
    have lt := List.pairwise_iff_getElem.mp h.asc (i - 1) i (by omega) hi (by omega)
    simp [leD]
    intro _
    omega
  · simp [i0]
def spChkM (K : PySem.W.Frag) (C10 : Addr) : Sp := fun vs H Q E => ∃ (v : V) (D : PyData), vs = [v] ∧ Da K H v D ∧ (chkM D = none → ∀ H', Ex H H' → Q .non H') ∧ ∀ r, chkM D = some r → Thr E C10 "index" H (ov (r.map fun n => ((n : Nat) : Int)))
def spChecked (K : PySem.W.Frag) (C C14 : Addr) : Sp := fun vs H Q E => ∃ (v : V) (r : Rw) (B : Int), vs = [v] ∧ RowAt K C r v H ∧ RwOk B r ∧ ((lf r).h + (lf r).c ≤ 1000 → ∀ v' H', Ex H H' → RowAt K C (lf r) v' H' → Q v' H') ∧ (1000 < (lf r).h + (lf r).c → Thr E C14 "limit" H (.int 1000))
end SwX
set_option Elab.async false
set_option linter.all false
set_option maxRecDepth 100000
set_option maxHeartbeats 4000000
/-! a dict comprehension bound to a local name -/
namespace SwX
open PySem PySem.Spec PyProof.Rows L2
section
variable {X : Cx}
theorem ps_setDc {i : Nat} {y : Str} {py : Pos} {kx vx tg iter : Expr} {ifs : List Expr} {scope : Scope} {own : List (Str × Nat)} {pos spos : Pos} {wi : TI} {g : TG} {tt : TT} {tk tv : TE} (calm : X.calm = true) (nd : X.N.Nodup) (at_ : X.N[i]? = some y) (loc : X.env.scope.names.lookup y = some .local)
    (sw : swapsWith (.DictComp kx vx [⟨tg, iter, ifs, 0⟩] scope pos) (some (.Name y py)) spos.line X.env = pure true) (walk : PI X tg iter wi) (ok : BlkOk X.N X.env.scope scope own)
    (a1 : ∀ (s : Shared) (H : Hp) (C : Addr) (cl : List (Str × Addr)) (fp : List Addr), PG (X.blk s H scope (compEnvC scope cl C X.env) fp) tg g)
    (a2 : ∀ (s : Shared) (H : Hp) (C : Addr) (cl : List (Str × Addr)) (fp : List Addr), PTs (X.blk s H scope (compEnvC scope cl C X.env) fp) ifs tt)
    (a3 : ∀ (s : Shared) (H : Hp) (C : Addr) (cl : List (Str × Addr)) (fp : List Addr), PE (X.blk s H scope (compEnvC scope cl C X.env) fp) kx tk)
    (a4 : ∀ (s : Shared) (H : Hp) (C : Addr) (cl : List (Str × Addr)) (fp : List Addr), PE (X.blk s H scope (compEnvC scope cl C X.env) fp) vx tv) (fold : ∀ x, foldedSetIterable iter X.env x = pure x := by intro _; rfl) :
    PS X (.Assign [.Name y py] (.DictComp kx vx [⟨tg, iter, ifs, 0⟩] scope pos) spos) (tAsg (tDc wi g tt tk tv (own.map (·.2))) (gName i)) := by
  refine ⟨fun pins s σ H D I z => ?_⟩
  rw [exec_Assign_Name_used _ _ _ _ sw]
  refine wpAny_bind (wpAny_standAt (wpAny_bind ?_))
  show wpAny _ X.A (comprehension (.DictComp kx vx [⟨tg, iter, ifs, 0⟩] scope pos) scope X.env (firstIterPos [⟨tg, iter, ifs, 0⟩] pos) newDict false (eval iter X.env) (some (assign (.Name y py) X.env)) >>= fun _ => pure ()) _ _ s
  have z' : tDc wi g tt tk tv (own.map (·.2)) σ H (fun x H1 => gName i x σ H1 D.nx) := z
  refine wpAny_bind (thn (dc_core (Qf := fun _ s' => SP X pins D .next s') calm nd I walk ok a1 a2 a3 a4 fold z' fun L C s' m H' I' q hn fp => ?_) fun _ s' q => wpAny_pure (wpAny_pure q))
  refine (wpAny_assign_Name (store_ok2 (v := V.ref L) I' nd at_ (.inl loc) rfl (fun s2 I2 w => ?_) (.inr loc)) : wpAny _ _ (assign (.Name y py) X.env (.ref L)) _ _ _)
  obtain ⟨b, sb, hb⟩ := w
  obtain ⟨f0, f1, f2, f3, f4, f5⟩ := fp
  have ne : C ≠ b := by
    rcases hb with e | e
    · rw [e]
      exact f1
    · exact fun e' => f4 y b e e'.symm
  exact ⟨m, hn.sameBut sb ne, fun h3 sb3 => ⟨_, H', I2.turned (t' := s2.toks) (fun c o hc e => (sb3.2 c hc).trans e) f0 f1 f3 f4 f5, q⟩⟩
theorem sw_trueD {kx vx : Expr} {gs : List Comprehension} {scope : Scope} {pos py : Pos} {y : Str} {l : Nat} {env : Env} (fn : env.scope.kind = .function) (loc : env.scope.names.lookup y = some .local) (line : (py.line == pos.line) = true)
    (own : (scope.names.any fun (n, k) => n == y && (k == .local || k == .cell)) = false) : swapsWith (.DictComp kx vx gs scope pos) (some (.Name y py)) l env = pure true := by
  have k1 : env.kindOf y = some .local := loc
  have k2 : env.blockKind = .function := by
    unfold Env.blockKind
    rw [fn] <;> rfl
  unfold swapsWith
  simp only [k2, k1, own, Expr.pos, line]
  rfl
end
end SwX
set_option Elab.async false
set_option linter.all false
set_option maxRecDepth 100000
set_option maxHeartbeats 4000000
/-! sets: the row of a set -/
namespace SwX
open PySem PySem.Spec PyProof.Rows L2 Evl
section
variable {K : PySem.W.Frag} {C : Addr} {H H' : Hp} {σ : L2.St} {te ta tb tk tv : TE} {tr : TA} {v x y : V} {r : Rw} {B : Int} {tt : TT} {xs vs : List V}
theorem ea_starS (h : Ev te σ H v) (s : SqE K H v xs) (hr : EvA tr σ H vs) : EvA (StX.tStar K te tr) σ H (xs ++ vs) := fun H1 e1 Q q => h H1 e1 _ fun H2 e2 => by
  obtain ⟨p, rfl, s⟩ := s
  exact ⟨p, xs, rfl, s.imp (ex_t (e1.trans e2)) (ex_l (e1.trans e2)), hr H2 (e1.trans e2) _ fun H3 e3 => q H3 (e2.trans e3)⟩
theorem ev_maxL {ns : List Int} {m : Int} (h : EvL te σ H (ns.map V.int)) (hm : m ∈ ns) (all : ∀ y, y ∈ ns → y ≤ m) : Ev (tCB (rMax K) (tCons te tNil)) σ H (.int m) := fun H1 e1 Q q => h H1 e1 _ fun p H2 _ e2 hp =>
  ⟨p, ns, rfl, sq_of hp, List.length_pos_of_mem hm, fun m' hm' all' => by
    obtain rfl : m' = m := Int.le_antisymm (all m' hm') (all' m hm)
    exact q H2 e2⟩
theorem eu_rev {p : Addr} (h : Ev te σ H (.ref p)) (hp : SqT K H p xs) : EvU (tRevT K te) σ H xs.reverse := fun H1 e1 Q q => h H1 e1 _ fun H2 e2 => ⟨p, xs, rfl, ex_t (e1.trans e2) hp, fun u hu => q u _ (fresh_back e2 hu) (e2.trans (Ex.new hu)) upd_same⟩
/-! ### dicts of integers -/
abbrev natV (n : Nat) : V := .int (n : Nat)
abbrev KVs : Type := List (L2.Key × V)
def puts (kf : Nat → Nat) (vf : Nat → V) (ns : List Nat) : KVs := ns.foldl (fun kvs n => putK kvs (.inl ((kf n : Nat) : Int)) (vf n)) []
theorem puts_snoc (kf : Nat → Nat) (vf : Nat → V) (ns : List Nat) (n : Nat) : puts kf vf (ns ++ [n]) = putK (puts kf vf ns) (.inl ((kf n : Nat) : Int)) (vf n) := by
  unfold puts
  rw [List.foldl_append] <;> rfl
theorem putK_len {κ : Type} [DecidableEq κ] (kvs : List (κ × V)) (k : κ) (y : V) : (putK kvs k y).length ≤ kvs.length + 1 := by
  unfold putK
  split
  · rw [List.length_map]
    exact Nat.le_succ _
  · simp
theorem snoc_ind {α : Type} {p : List α → Prop} (h0 : p []) (h1 : ∀ l a, p l → p (l ++ [a])) (l : List α) : p l := by
  rw [← List.reverse_reverse l]
  induction l.reverse with
  | nil => exact h0
  | cons a r ih =>
    rw [List.reverse_cons]
    exact h1 _ _ ih
theorem puts_len (kf : Nat → Nat) (vf : Nat → V) (ns : List Nat) : (puts kf vf ns).length ≤ ns.length := by
  induction ns using snoc_ind with
  | h0 => exact Nat.le_refl _
  | h1 l a ih =>
    rw [puts_snoc, List.length_append]
    exact Nat.le_trans (putK_len _ _ _) (Nat.succ_le_succ ih)
theorem val_near (ns : List Nat) (w : Nat) : (valV (puts id (fun _ => .bl true) ns) (.inl ((w : Nat) : Int))).isSome = decide (w ∈ ns) := by
  induction ns using snoc_ind with
  | h0 => simp [puts, valV]
  | h1 l a ih =>
    rw [puts_snoc, valV_put]
    by_cases e : (Sum.inl ((w : Nat) : Int) : L2.Key) = .inl ((id a : Nat) : Int)
    · rw [if_pos e]
      have e' : (w : Int) = (a : Int) := Sum.inl.inj e
      have : w = a := by omega
      simp [this]
    · rw [if_neg e, ih]
      have : w ≠ a := fun z => e (by rw [z] <;> rfl)
      simp [this]
theorem val_starts (n : Nat) (as : List Nat) (t : Nat) : valV (puts (· % n) natV as.reverse) (.inl ((t : Nat) : Int)) = (as.find? fun s => decide (s % n = t)).map natV := by
  induction as with
  | nil => rfl
  | cons a l ih =>
    rw [List.reverse_cons, puts_snoc, valV_put, List.find?_cons]
    by_cases e : a % n = t
    · rw [if_pos (by rw [e]), decide_eq_true e] <;> rfl
    · rw [if_neg (fun z => e (by have := Sum.inl.inj z; omega)), decide_eq_false e]
      exact ih
/-- {k: v for x in a tuple of integers} -/
theorem yi_dcN {ns : List Nat} {tl : TE} {j : Nat} {vs : List Nat} (kf : Nat → Nat) (vf : Nat → V) (h : Yi tl σ H fun v H' => ∃ p, v = .ref p ∧ SqT K H' p (ns.map natV)) (l : ns.length ≤ 40000) (hw : ∀ x, wipe ((wipe σ vs).set j (some x)) vs = wipe σ vs)
    (hk : ∀ n H1, Ex H H1 → n ∈ ns → Ev tk ((wipe σ vs).set j (some (natV n))) H1 (natV (kf n))) (hv : ∀ n H1, Ex H H1 → n ∈ ns → Ev tv ((wipe σ vs).set j (some (natV n))) H1 (vf n)) :
    Yi (tDc (iTup K tl) (gName j) tYes tk tv vs) σ H fun v H' => ∃ D, v = .ref D ∧ H' D = some (.dK (puts kf vf ns)) := fun H0 e0 Q q =>
  h H0 e0 _ fun w H1 e1 z => by
    obtain ⟨p, rfl, hp⟩ := z
    refine ⟨p, rfl, ⟨_, hp⟩, fun D hD => ?_⟩
    refine dc_tup (xs := ns.map natV) (fun i H' => H' D = some (.dK (puts kf vf (ns.take i))) ∧ Ex H1 H') ⟨by rw [upd_same] <;> rfl, Ex.new hD⟩ (fun i H' _ z => ex_t z.2 hp) (fun i x H' hx z => ⟨hw x, ?_⟩) fun H' z => ?_
    · obtain ⟨d, e⟩ := z
      have lt : i < ns.length := by
        have := (List.getElem?_eq_some_iff.mp hx).1
        rwa [List.length_map] at this
      have hn : ns[i]? = some ns[i] := List.getElem?_eq_getElem lt
      rw [List.getElem?_map, hn] at hx
      obtain rfl : natV ns[i] = x := Option.some.inj hx
      have E := (e0.trans e1).trans e
      show tk _ H' fun y H4 => _
      refine hk _ H' E (List.getElem_mem lt) H' (Ex.refl H') _ fun H4 e4 => ?_
      refine hv _ H4 (E.trans e4) (List.getElem_mem lt) H4 (Ex.refl H4) _ fun H5 e5 => ⟨puts kf vf (ns.take i), .inl ((kf ns[i] : Nat) : Int), rfl, e5 _ _ (e4 _ _ d), Nat.lt_of_le_of_lt (Nat.le_trans (puts_len _ _ _) (by rw [List.length_take]; omega)) (show 40000 < sizeLine by decide), ?_, ?_⟩
      · rw [upd_same, List.take_succ, hn]
        congr 2
        exact (puts_snoc kf vf (ns.take i) ns[i]).symm
      · intro b o hb
        have nb : b ≠ D := fun z => by rw [z, hD] at hb; cases hb
        rw [upd_ne nb]
        exact e5 _ _ (e4 _ _ (e _ _ hb))
    · rw [List.length_map, List.take_length] at z
      exact q _ H' (e1.trans z.2) ⟨D, rfl, z.1⟩
/-! ### the row of a set -/
def ups (l : List Nat) : Nat := l.foldr (fun n m => max (n + 1) m) 0
theorem ups_lt {l : List Nat} {n : Nat} (h : n ∈ l) : n < ups l := by
  induction l with
  | nil => cases h
  | cons a l ih =>
    unfold ups
    rw [List.foldr_cons]
    rcases List.mem_cons.mp h with rfl | h
    · exact Nat.lt_of_lt_of_le (Nat.lt_succ_self n) (Nat.le_max_left _ _)
    · exact Nat.lt_of_lt_of_le (ih h) (Nat.le_max_right _ _)
theorem ups_mem : ∀ {l : List Nat}, l ≠ [] → ups l - 1 ∈ l ∧ 0 < ups l
  | [a], _ => ⟨by unfold ups; simp, by unfold ups; simp⟩
  | a :: b :: l, _ => by
    obtain ⟨h1, h2⟩ := ups_mem (l := b :: l) (List.cons_ne_nil _ _)
    have e : ups (a :: b :: l) = max (a + 1) (ups (b :: l)) := rfl
    rw [e]
    rcases Nat.le_total (a + 1) (ups (b :: l)) with h | h
    · rw [Nat.max_eq_right h]
      exact ⟨List.mem_cons_of_mem _ h1, h2⟩
    · rw [Nat.max_eq_left h]
      exact ⟨by simp, Nat.succ_pos a⟩
theorem ups_le {l : List Nat} {b : Nat} (h : ∀ n ∈ l, n < b) : ups l ≤ b := by
  cases l with
  | nil => exact Nat.zero_le _
  | cons a l =>
    obtain ⟨h1, h2⟩ := ups_mem (l := a :: l) (List.cons_ne_nil _ _)
    have := h _ h1
    omega
def inSet (es as : List Nat) (n w : Nat) : Bool := decide (w ∈ es) || as.any fun s => decide (s ≤ w) && decide ((w - s) % n = 0)
def told (es as : List Nat) (n w : Nat) : Option Int := if inSet es as n w then some 0 else none
def rowR (es as : List Nat) (n : Nat) : Rw := flatR ((List.range (ups (es ++ as))).map (told es as n)) ((List.range n).map fun i => told es as n (ups (es ++ as) + i))
/-- the least start of a remainder tells all -/
theorem sub_mod0 {s w n : Nat} (le : s ≤ w) : (w - s) % n = 0 ↔ s % n = w % n := by
  constructor
  · intro h
    obtain ⟨k, hk⟩ := Nat.dvd_of_mod_eq_zero h
    rw [show w = s + n * k by omega, Nat.add_mul_mod_self_left]
  · intro h
    have e1 := Nat.div_add_mod w n
    have e2 := Nat.div_add_mod s n
    have e3 : w - s = n * (w / n - s / n) := by
      rw [Nat.mul_sub]
      omega
    rw [e3, Nat.mul_mod_right]
theorem find_any {as : List Nat} {n w L : Nat} (asc : as.Pairwise (· < ·)) (hL : w < L) : decide ((as.find? fun s => decide (s % n = w % n)).getD L ≤ w) = as.any fun s => decide (s ≤ w) && decide ((w - s) % n = 0) := by
  rw [Bool.eq_iff_iff, decide_eq_true_eq, List.any_eq_true]
  simp only [Bool.and_eq_true, decide_eq_true_eq]
  cases e : as.find? fun s => decide (s % n = w % n) with
  | none =>
    rw [List.find?_eq_none] at e
    simp only [Option.getD_none]
    constructor
    · intro h
      omega
    · rintro ⟨s, hs, le, z⟩
      have := e s hs
      simp only [decide_eq_true_eq] at this
      exact absurd ((sub_mod0 le).mp z) this
  | some s0 =>
    rw [List.find?_eq_some_iff_append] at e
    obtain ⟨p0, l1, l2, rfl, no⟩ := e
    simp only [decide_eq_true_eq] at p0
    simp only [Option.getD_some]
    constructor
    · intro le
      exact ⟨s0, by simp, le, (sub_mod0 le).mpr p0⟩
    · rintro ⟨s, hs, le, z⟩
      have ps := (sub_mod0 le).mp z
      rcases List.mem_append.mp hs with h | h
      · have := no s h
        simp [ps] at this
      · rcases List.mem_cons.mp h with rfl | h
        · exact le
        · have := (List.pairwise_cons.mp (List.pairwise_append.mp asc).2.1).1 s h
          omega
theorem yi_flat {l m : Ol} (h1 : Yi ta σ H fun v H' => SqE K H' v (l.map ov)) (h2 : EvL tb σ H (m.map ov)) (m0 : 0 < m.length) (l1 : l.length ≤ 20000) (m1 : m.length ≤ 10000) : Yi (tCall (spFlat K C) [] E0 (tCons ta (tCons tb tNil))) σ H (RowAt K C (lf (flatR l m))) := fun H1 e1 Q q =>
  h1 H1 e1 _ fun v H2 e2 s => h2 H2 (e1.trans e2) _ fun b H3 _ e3 hb => ⟨v, b, l, m, rfl, s.mono e3, sq_of hb, m0, l1, m1, fun v' H' e' ra => q v' H' ((e2.trans e3).trans e') ra⟩
theorem told_ov (es as : List Nat) (n w : Nat) : (if inSet es as n w then V.int 0 else .non) = ov (told es as n w) := by
  unfold told
  split <;> rfl
theorem natv_int (l : List Nat) : l.map natV = (l.map fun n => ((n : Nat) : Int)).map V.int := by
  rw [List.map_map] <;> rfl
theorem ups_max (l : List Nat) : (((ups l : Nat) : Int) - 1) ∈ ((-1 : Int) :: l.map fun n => ((n : Nat) : Int)) ∧ ∀ y ∈ ((-1 : Int) :: l.map fun n => ((n : Nat) : Int)), y ≤ ((ups l : Nat) : Int) - 1 := by
  refine ⟨?_, fun y hy => ?_⟩
  · cases l with
    | nil => exact List.mem_cons_self
    | cons a l =>
      obtain ⟨h1, h2⟩ := ups_mem (l := a :: l) (List.cons_ne_nil _ _)
      exact List.mem_cons_of_mem _ (List.mem_map.mpr ⟨_, h1, by omega⟩)
  · rcases List.mem_cons.mp hy with rfl | hy
    · omega
    · obtain ⟨n, hn, rfl⟩ := List.mem_map.mp hy
      have := ups_lt hn
      omega
theorem asc_few : ∀ {l : List Nat} {a b : Nat}, l.Pairwise (· < ·) → (∀ n ∈ l, a ≤ n ∧ n ≤ b) → l.length + a ≤ b + 1 ∨ l = []
  | [], _, _, _, _ => .inr rfl
  | x :: l, a, b, p, h => by
    obtain ⟨p1, p2⟩ := List.pairwise_cons.mp p
    have hx := h x List.mem_cons_self
    rcases asc_few (a := x + 1) (b := b) p2 fun n hn => ⟨p1 n hn, (h n (List.mem_cons_of_mem _ hn)).2⟩ with z | rfl
    · exact .inl (by rw [List.length_cons]; omega)
    · exact .inl (by simp; omega)
theorem MemOk.few {l : List Nat} (h : MemOk l) : l.length ≤ 1000 := by
  rcases asc_few (a := 0) (b := 999) h.asc fun n hn => ⟨Nat.zero_le _, h.hi n hn⟩ with z | rfl
  · omega
  · exact Nat.zero_le _
theorem drop_range {α : Type} (top n : Nat) (u : Nat → α) : ((List.range (top + n)).drop top).map u = (List.range n).map fun i => u (top + i) := by
  rw [List.range_add, List.drop_left' (by simp), List.map_map] <;> rfl
theorem top_le {es as : List Nat} (me : MemOk es) (ma : MemOk as) : ups (es ++ as) ≤ 1000 := ups_le fun x hx => by
  rcases List.mem_append.mp hx with h | h
  · have := me.hi x h; omega
  · have := ma.hi x h; omega
theorem rowR_ok {es as : List Nat} {n : Nat} (me : MemOk es) (ma : MemOk as) (h0 : 0 < n) (h1 : n ≤ 1000) : RwOk 0 (rowR es as n) := by
  have := top_le me ma
  exact flat_ok (by simp; omega) (by rw [List.length_map, List.length_range]; omega) (by simp; omega)
def spRowOf (K : PySem.W.Frag) (C : Addr) : Sp := fun vs H Q _ => ∃ (p q : Addr) (es as : List Nat) (n : Nat), vs = [.ref p, .ref q, natV n] ∧ SqT K H p (es.map natV) ∧ SqT K H q (as.map natV) ∧ MemOk es ∧ MemOk as ∧ 0 < n ∧ n ≤ 1000 ∧ ∀ v' H', Ex H H' → RowAt K C (lf (rowR es as n)) v' H' → Q v' H'
end
end SwX
set_option Elab.async false
set_option linter.all false
set_option maxRecDepth 100000
set_option maxHeartbeats 4000000
/-! sets: members, texts -/
namespace SwX
open PySem PySem.Spec PyProof.Rows L2 Evl
section
variable {K : PySem.W.Frag} {C : Addr} {H H' : Hp} {σ : L2.St} {te ta tb tc to : TE} {v x y : V} {r : Rw} {B : Int} {tt : TT}
def memL (r : Rw) (a b : Nat) : List Nat := ((List.range (b - a)).filter fun i => (r.at (a + i)).isSome).map fun i => a + i
def spMem (K : PySem.W.Frag) (C : Addr) : Sp := fun vs H Q _ => ∃ (v : V) (r : Rw) (a b : Nat) (B : Int), vs = [v, natV a, natV b] ∧ RowAt K C r v H ∧ RwOk B r ∧ a ≤ b ∧ b ≤ 40000 ∧ ∀ u H', H u = none → Ex H H' → H' u = some (.lst ((memL r a b).map natV)) → Q (.ref u) H'
theorem el_mem {a b : Nat} (hv : RowAt K C r v H) (ok : RwOk B r) (ha : a ≤ b) (hb : b ≤ 40000) (h1 : Ev ta σ H v) (h2 : Ev tb σ H (natV a)) (h3 : Ev tc σ H (natV b)) : EvL (tCall (spMem K C) [] E0 (tCons ta (tCons tb (tCons tc tNil)))) σ H ((memL r a b).map natV) := fun H1 e1 Q q =>
  (ea_cons h1 (ea_cons h2 (ea_cons h3 ea_nil)) : EvA _ σ H [v, natV a, natV b]) H1 e1 _ fun H2 e2 => ⟨v, r, a, b, B, rfl, hv.mono (e1.trans e2), ok, ha, hb, fun u H' hu e' h => q u H' (fresh_back e2 hu) (e2.trans e') h⟩
/-! texts -/
def thenL : List Nat := [116, 104, 101, 110]
def byL : List Nat := [98, 121]
def noneL : List Nat := [110, 111, 110, 101]
/-- the words of a set: early members, later members, the period -/
def wordsS (es as : List Nat) (p : Nat) : List (List Nat) := es.map TL.numL ++ (if as = [] then [] else [thenL] ++ as.map TL.numL ++ [byL, TL.numL p])
def textS (es as : List Nat) (p : Nat) : List Nat := if wordsS es as p = [] then noneL else TL.joinL [32] (wordsS es as p)
def textR (r : Rw) : List Nat := textS (memL r 0 r.h) (memL r r.h (r.h + r.c)) r.c
def spTextR (K : PySem.W.Frag) (C : Addr) : Sp := fun vs H Q _ => ∃ (v : V) (r : Rw) (B : Int), vs = [v] ∧ RowAt K C r v H ∧ RwOk B r ∧ r.h + r.c ≤ 1000 ∧ ∀ H', Ex H H' → Q (.str (SX.S (textR r))) H'
theorem ev_strN {o : Nat} (h : Ev te σ H (natV o)) (l : o ≤ 100000) : Ev (tCB rStrY (tCons te tNil)) σ H (.str (SX.S (TL.numL o))) := fun H1 e1 Q q => h H1 e1 _ fun H2 e2 => .inl ⟨o, rfl, by
  have : (o : Int).natAbs.log2 < 17 := by
    by_cases z : o = 0
    · subst z
      decide
    · exact (Nat.log2_lt (by omega)).mpr (by omega)
  omega, by rw [numS]; exact q H2 e2⟩
theorem ev_joinW {sep : List Nat} {l : List (List Nat)} {p : Addr} {B : Nat} (ho : Ev to σ H (.str (SX.S sep))) (he : Ev te σ H (.ref p)) (hp : SqL K H p ((l.map SX.S).map V.str) ∨ SqT K H p ((l.map SX.S).map V.str)) (hB : ∀ x ∈ l, x.length ≤ B) (small : B ≤ 100 ∧ l.length ≤ 20000 ∧ sep.length ≤ 10) :
    Ev (tM1 (rJoin K) to te) σ H (.str (SX.S (TL.joinL sep l))) := fun H1 e1 Q q => ho H1 e1 _ fun H2 e2 => ⟨⟨_, rfl⟩, he H2 (e1.trans e2) _ fun H3 e3 => by
  refine ⟨SX.S sep, p, _, rfl, rfl, hp.imp (ex_l ((e1.trans e2).trans e3)) (ex_t ((e1.trans e2).trans e3)), ?_, by rw [SX.join_S]; exact q H3 (e2.trans e3)⟩
  have z := sum_small hB
  obtain ⟨b, c, d⟩ := small
  have m1 : B * l.length ≤ 100 * 20000 := Nat.mul_le_mul b c
  have m2 : (l.map SX.S).length * (SX.S sep).length ≤ 20000 * 10 := Nat.mul_le_mul (by rw [List.length_map]; exact c) (by rw [SX.S_len]; exact d)
  omega⟩
theorem memL_len (r : Rw) (a b : Nat) : (memL r a b).length ≤ b - a := by
  unfold memL
  rw [List.length_map]
  exact Nat.le_trans (List.length_filter_le _ _) (by simp)
theorem memL_lt {r : Rw} {a b n : Nat} (h : n ∈ memL r a b) : a ≤ n ∧ n < b := by
  obtain ⟨i, hi, rfl⟩ := List.mem_map.mp h
  have := List.mem_range.mp (List.mem_filter.mp hi).1
  omega
theorem numL_small {n : Nat} (h : n ≤ 9999) : (TL.numL n).length ≤ 4 := TL.numL_len (by decide) (by omega)
theorem nat_get {l : List Nat} {i : Nat} {x : V} (h : (l.map natV)[i]? = some x) : ∃ n, l[i]? = some n ∧ x = natV n := by
  rw [List.getElem?_map] at h
  obtain ⟨n, h1, h2⟩ := Option.map_eq_some_iff.mp h
  exact ⟨n, h1, h2.symm⟩
theorem words_given (l : List Nat) : given (l.map natV).length (fun _ => true) (fun i => V.str (SX.S (TL.numL (l.getD i 0)))) = (l.map TL.numL).map fun x => .str (SX.S x) := by
  rw [given_all, List.length_map]
  refine List.ext_getElem? fun i => ?_
  rw [List.getElem?_map, List.getElem?_map, List.getElem?_map]
  by_cases h : i < l.length
  · rw [List.getElem?_range h, List.getElem?_eq_getElem h]
    show some (V.str (SX.S (TL.numL (l.getD i 0)))) = some (V.str (SX.S (TL.numL l[i])))
    rw [List.getD_eq_getElem?_getD, List.getElem?_eq_getElem h] <;> rfl
  · rw [List.getElem?_eq_none (by simp; omega), List.getElem?_eq_none (by omega)] <;> rfl
theorem da_nats : ∀ l : List Nat, Paired (fun d v => Da K H v d) (l.map fun n => PyData.int (n : Nat)) (l.map natV)
  | [] => .nil
  | n :: r => .cons (.int _) (da_nats r)
theorem da_strs : ∀ l : List (List Nat), Paired (fun d v => Da K H v d) (l.map fun x => PyData.str (SX.S x)) (l.map fun x => V.str (SX.S x))
  | [] => .nil
  | n :: r => .cons (.str _) (da_strs r)
/-- a word of texts: few signs, each below 1000 -/
def WordOk (x : List Nat) : Prop := x.length ≤ 10 ∧ ∀ c ∈ x, c < 1000
theorem word_num {n : Nat} (h : n ≤ 9999) : WordOk (TL.numL n) := ⟨Nat.le_trans (numL_small h) (by decide), fun c hc => by
  have := TL.numL_digits n c hc
  omega⟩
theorem word_lay {x : List Nat} (h : ∀ c ∈ x, c < 1000) : (PyData.str (SX.S x)).canLay0 = true := by
  show PyData.strOk (SX.S x) = true
  unfold PyData.strOk
  rw [← Array.all_toList]
  show x.all _ = true
  rw [List.all_eq_true]
  exact fun c hc => decide_eq_true (by have := h c hc; omega)
theorem atm_word {x : List Nat} (h : WordOk x) : Atm (.str (SX.S x)) := ⟨word_lay h.2, Nat.le_refl _, rfl⟩
theorem words_ok {es as : List Nat} {p : Nat} (h1 : ∀ n ∈ es, n ≤ 9999) (h2 : ∀ n ∈ as, n ≤ 9999) (hp : p ≤ 9999) : ∀ x ∈ wordsS es as p, WordOk x := fun x hx => by
  unfold wordsS at hx
  rcases List.mem_append.mp hx with h | h
  · obtain ⟨n, hn, rfl⟩ := List.mem_map.mp h
    exact word_num (h1 n hn)
  · split at h
    · cases h
    · rcases List.mem_append.mp h with h | h
      · rcases List.mem_append.mp h with h | h
        · rw [List.mem_singleton.mp h]
          exact ⟨by decide, by decide⟩
        · obtain ⟨n, hn, rfl⟩ := List.mem_map.mp h
          exact word_num (h2 n hn)
      · rcases List.mem_cons.mp h with rfl | h
        · exact ⟨by decide, by decide⟩
        · rw [List.mem_singleton.mp h]
          exact word_num hp
theorem words_len (es as : List Nat) (p : Nat) : (wordsS es as p).length ≤ es.length + as.length + 3 := by
  unfold wordsS
  split <;> simp <;> omega
theorem eqv_nilL (l : List PyData) : PyData.eqv (.list l) (.list []) = decide (l = []) := by
  cases l with
  | nil => rfl
  | cons a r => simp [PyData.eqv, PyData.eqvAll]
theorem ea_starL {tr : TA} {xs vs : List V} (h : EvL te σ H xs) (hr : EvA tr σ H vs) : EvA (StX.tStar K te tr) σ H (xs ++ vs) := fun H1 e1 Q q =>
  h H1 e1 _ fun p H2 _ e2 hp => ⟨p, xs, rfl, .inr (sq_of hp), hr H2 (e1.trans e2) _ fun H3 e3 => q H3 (e2.trans e3)⟩
end
end SwX
set_option Elab.async false
set_option linter.all false
set_option maxRecDepth 100000
set_option maxHeartbeats 4000000
/-! sets: the class -/
namespace SwX
open PySem PySem.Spec PyProof.Rows L2 Evl
theorem passE0 {X : Cx} : Passes (L2.CX X.prog X.w) X E0 := fun pins σ H s e s' I z => by
  obtain ⟨_, _, _, _, _, _, _, _, _, _, _, _, h⟩ := z
  exact h.elim
/-- what is looked up of an own class for isinstance -/
structure OwnC (K : PySem.W.Frag) (C : Addr) : Prop where
  cls : Cls K C
  ha : PySem.W.findIn K (.ref C) "__class__" = some (some (.builtin "object.__class__"))
  hn : PySem.W.specialIn K (.builtin "object.__class__") "__get__" = some (some (.builtin "getset_descriptor.__get__"))
  ht : PySem.W.takesIn K (.builtin "object.__class__") = some true
  hm : PySem.W.mroIn K C (.type "object") = some true
  kt : PySem.W.kitOne K (.ref C) (.ref C) = some true
/-- the class of sets, that of rows -/
structure SetC (K : PySem.W.Frag) (Cw Cr : Addr) : Prop where
  o : OwnC K Cw
  n1 : NoAttr K Cw "told"
  r : RowC K Cr
section
variable {K : PySem.W.Frag} {C Cw Cr : Addr} {H H' : Hp} {σ : L2.St} {te ta tb : TE} {v : V} {r : Rw} {B : Int}
/-- the set with the row r at v -/
def SetAt (K : PySem.W.Frag) (Cw Cr : Addr) (r : Rw) (v : V) (H : Hp) : Prop := ∃ (a dx : Addr) (x : V), v = .ref a ∧ H a = some (.ins Cw dx [("told", x)]) ∧ RowAt K Cr r x H
theorem SetAt.mono (e : Ex H H') (h : SetAt K Cw Cr r v H) : SetAt K Cw Cr r v H' := by
  obtain ⟨a, dx, x, rfl, h1, h2⟩ := h
  exact ⟨a, dx, x, rfl, e _ _ h1, h2.mono e⟩
theorem SetAt.is (h : SetAt K Cw Cr r v H) : ∃ a, v = .ref a ∧ IsI H a Cw := by
  obtain ⟨a, dx, x, rfl, h1, _⟩ := h
  exact ⟨a, rfl, dx, _, h1⟩
theorem ev_told (c : SetC K Cw Cr) (h : Ev te σ H v) (hv : SetAt K Cw Cr r v H) : ∃ x, Ev (tFld K te "told") σ H x ∧ RowAt K Cr r x H := by
  obtain ⟨a, dx, x, rfl, h1, h2⟩ := hv
  exact ⟨x, ev_fld c.o.cls c.n1 h h1 rfl, h2⟩
theorem ev_isOwn (c : OwnC K C) (h : Ev te σ H v) (i : ∃ a, v = .ref a ∧ IsI H a C) : Ev (tCB (rIsi K) (tCons te (tCons (tC (.ref C)) tNil))) σ H (.bl true) := fun H1 e1 Q q => h H1 e1 _ fun H2 e2 => by
  obtain ⟨a, rfl, dx, fs, h1⟩ := i
  exact ⟨.ref a, .ref C, .ref C, .ref C, true, rfl, .own C, .base (.ins (e2 _ _ (e1 _ _ h1)) c.cls c.ha c.hn c.ht c.hm), c.kt, q H2 e2⟩
end
/-- made of these -/
def setR (es as : List Nat) (n : Nat) : Rw := lf (lf (rowR es as n))
def spWInit (K : PySem.W.Frag) (Cw Cr C0 C10 C14 : Addr) : Sp := fun vs H Q E => ∃ (a dx : Addr) (v1 v2 v3 : V) (D1 D2 D3 : PyData), vs = [.ref a, v1, v2, v3] ∧ H a = some (.ins Cw dx []) ∧ Da K (less a H) v1 D1 ∧ Da K (less a H) v2 D2 ∧ Da K (less a H) v3 D3 ∧
  (∀ r, chkM D1 = some r → Thr E C10 "index" H (ov (r.map fun n => ((n : Nat) : Int)))) ∧
  (chkM D1 = none → ∀ r, chkM D2 = some r → Thr E C10 "index" H (ov (r.map fun n => ((n : Nat) : Int)))) ∧
  (chkM D1 = none → chkM D2 = none → btwO 1 (some 1000) D3 = false → Thr E C0 "given" H v3) ∧
  ∀ es as n, D1 = natD es → D2 = natD as → D3 = .int (n : Nat) → MemOk es → MemOk as → 0 < n → n ≤ 1000 →
    (1000 < (setR es as n).h + (setR es as n).c → Thr E C14 "limit" H (.int 1000)) ∧
    ((setR es as n).h + (setR es as n).c ≤ 1000 → ∀ H', Ex (less a H) H' → SetAt K Cw Cr (setR es as n) (.ref a) H' → Q .non H')
def spSetN (K : PySem.W.Frag) (Cw Cr : Addr) (g : Rw → V) : Sp := fun vs H Q _ => ∃ (v : V) (r : Rw) (B : Int), vs = [v] ∧ SetAt K Cw Cr r v H ∧ RwOk B r ∧ r.h + r.c ≤ 1000 ∧ ∀ H', Ex H H' → Q (g r) H'
def inW (r : Rw) : PyData → Bool
  | .int i => decide (0 ≤ i) && (r.at i.toNat).isSome
  | _ => false
def spSetIn (K : PySem.W.Frag) (Cw Cr : Addr) : Sp := fun vs H Q _ => ∃ (v x : V) (r : Rw) (D : PyData) (B : Int), vs = [v, x] ∧ SetAt K Cw Cr r v H ∧ RwOk B r ∧ Da K H x D ∧ ∀ H', Ex H H' → Q (.bl (inW r D)) H'
/-- the first member from w on -/
def onw (r : Rw) (w : Nat) : Option Nat := ((List.range (max w r.h + r.c - w)).map fun i => w + i).find? fun i => (r.at i).isSome
def onI (r : Rw) (w : Nat) : Option Int := (onw r w).map fun n => ((n : Nat) : Int)
def spOnw (K : PySem.W.Frag) (Cw Cr : Addr) : Sp := fun vs H Q _ => ∃ (v : V) (r : Rw) (w : Nat) (B : Int), vs = [v, natV w] ∧ SetAt K Cw Cr r v H ∧ RwOk B r ∧ r.h + r.c ≤ 1000 ∧ w ≤ 40000 ∧ ∀ H', Ex H H' → Q (ov (onI r w)) H'
def spSetEq (K : PySem.W.Frag) (Cw Cr : Addr) : Sp := fun vs H Q _ => ∃ (v u : V) (r s : Rw) (B : Int), vs = [v, u] ∧ SetAt K Cw Cr r v H ∧ SetAt K Cw Cr s u H ∧ RwOk B r ∧ RwOk B s ∧ ∀ H', Ex H H' → Q (.bl (decide (r = s))) H'
theorem da_natI {K : PySem.W.Frag} {H : Hp} {v : V} {ns : List Nat} (h : Da K H v (natD ns)) : ∃ p, v = .ref p ∧ SqT K H p (ns.map natV) := by
  obtain ⟨p, xs, rfl, hp, pr⟩ := da_items h
  have e : xs = ns.map natV := by
    clear hp h
    induction ns generalizing xs with
    | nil => cases pr; rfl
    | cons n l ih =>
      cases pr with
      | cons d r =>
        cases d
        rw [ih _ r] <;> rfl
  subst e
  exact ⟨p, rfl, hp⟩
theorem row_upd {K : PySem.W.Frag} {Cw Cr : Addr} {H : Hp} {r : Rw} {x : V} {a dx : Addr} {o : HO} (h : H a = some (.ins Cw dx [])) (ra : RowAt K Cr r x H) : RowAt K Cr r x (upd H a o) := by
  obtain ⟨b, dy, p, q, s, rfl, h1, h2, h3, h4⟩ := ra
  exact ⟨b, dy, p, q, s, rfl, by rw [upd_ne (fun z => by rw [z, h] at h1; cases h1)]; exact h1, sqt_upd h h2, sqt_upd h h3, sqt_upd h h4⟩
/-- what the class of sets gives, all promises together -/
theorem ev_spN {K : PySem.W.Frag} {Cw Cr : Addr} {H : Hp} {σ : L2.St} {ta : TE} {v : V} {r : Rw} {B : Int} {g : Rw → V} (h : Ev ta σ H v) (hv : SetAt K Cw Cr r v H) (ok : RwOk B r) (le : r.h + r.c ≤ 1000) : Ev (tProp Cw (spSetN K Cw Cr g) [] E0 ta) σ H (g r) := fun H1 e1 Q q => h H1 e1 _ fun H2 e2 => by
  have hv2 := hv.mono (e1.trans e2)
  have hv3 := hv2
  obtain ⟨a, dx, x, rfl, h1, _⟩ := hv2
  exact ⟨a, dx, _, rfl, h1, .ref a, r, B, rfl, hv3, ok, le, fun H3 e3 => q H3 (e2.trans e3)⟩
theorem ev_spM {K : PySem.W.Frag} {Cw Cr : Addr} {m : Str} {H : Hp} {σ : L2.St} {ta : TE} {v : V} {r : Rw} {B : Int} {g : Rw → V} (h : Ev ta σ H v) (hv : SetAt K Cw Cr r v H) (ok : RwOk B r) (le : r.h + r.c ≤ 1000) (nm : m ≠ "told") : Ev (tMeth Cw m (spSetN K Cw Cr g) [] E0 ta tNil) σ H (g r) := by
  have hv' := hv
  obtain ⟨a, dx, x, rfl, h1, _⟩ := hv
  exact ev_hm h h1 (by rw [List.lookup_cons, show (m == ("told" : Str)) = false from by simpa using nm] <;> rfl) ea_nil fun H1 Q e k => ⟨.ref a, r, B, rfl, hv'.mono e, ok, le, k⟩
/-- `in` of a set -/
structure SetIn (P : Program) (w : World) (K : PySem.W.Frag) (mg : Str → Option Value) (base : Heap) (Cw Cr : Addr) : Prop where
  ex : ∃ f fd, FnOk P w K mg base CX0 2 f fd ["self", "value"] (spSetIn K Cw Cr) ∧ Spc K Cw "__contains__" f ∧ Binds K fd ["self", "value"] []
theorem setIn {X : Cx} {Cw Cr : Addr} (K : PySem.W.Frag) (S : SetIn X.prog X.w X.K X.mg X.base Cw Cr) (hr : Room 2 X.A) (h : X.K = K := by rfl) : OpR X (compareOp .In) (rInOwn Cw (spSetIn K Cw Cr) E0) := by
  subst h
  obtain ⟨f, fd, F, s, b⟩ := S.ex
  exact op_inOwn F s b pass0 hr
theorem rv_setIn {K : PySem.W.Frag} {Cw Cr : Addr} {H : Hp} {x v : V} {r : Rw} {B : Int} {D : PyData} (hv : SetAt K Cw Cr r v H) (ok : RwOk B r) (hx : Da K H x D) : RV (rInOwn Cw (spSetIn K Cw Cr) E0) x v H (.bl (inW r D)) := fun H1 e1 Q q => by
  have hv1 := hv.mono e1
  obtain ⟨a, rfl, i⟩ := hv1.is
  exact ⟨a, rfl, i, .ref a, x, r, D, B, rfl, hv1, ok, hx.mono e1, fun H' e' => ⟨_, rfl, q H' e'⟩⟩
theorem ev_max2' {σ : L2.St} {H : Hp} {ta tb : TE} {a b : Nat} (ha : Ev ta σ H (natV a)) (hb : Ev tb σ H (natV b)) : Ev (tCB (fun xs H Q => ∃ i j, xs = [.int i, .int j] ∧ Q (.int (if j > i then j else i)) H) (tCons ta (tCons tb tNil))) σ H (natV (max a b)) := fun H1 e Q q =>
  ha H1 e _ fun H2 e2 => hb H2 (e.trans e2) _ fun H3 e3 => ⟨_, _, rfl, by
    have : (if ((b : Nat) : Int) > ((a : Nat) : Int) then ((b : Nat) : Int) else ((a : Nat) : Int)) = ((max a b : Nat) : Int) := by
      split <;> omega
    rw [this]
    exact q H3 (e2.trans e3)⟩
theorem onw_some {r : Rw} {w i : Nat} (hi : i < max w r.h + r.c - w) (h : (r.at (w + i)).isSome = true) (no : ∀ j, j < i → (r.at (w + j)).isSome = false) : onw r w = some (w + i) := by
  unfold onw
  have e : (List.range (max w r.h + r.c - w)).find? ((fun i => (r.at i).isSome) ∘ fun i => w + i) = some i := List.find?_eq_some_iff_getElem.mpr ⟨h, i, by simpa using hi, by simp, fun j hj => by simpa using no j hj⟩
  rw [List.find?_map, e] <;> rfl
theorem onw_none {r : Rw} {w : Nat} (no : ∀ j, j < max w r.h + r.c - w → (r.at (w + j)).isSome = false) : onw r w = none := by
  unfold onw
  rw [List.find?_map, List.find?_eq_none.mpr fun j hj => by simpa using no j (List.mem_range.mp hj)] <;> rfl
def isFin (r : Rw) : Bool := decide (memL r r.h (r.h + r.c) = [])
def reprS (r : Rw) : List Nat := [87, 101, 105, 103, 104, 116, 115, 32] ++ textR r
section
variable {K : PySem.W.Frag} {Cw Cr : Addr} {H : Hp} {σ : L2.St} {te ta tb : TE} {v x y : V} {r s : Rw} {B B' : Int}
theorem ol_len {r : Rw} {B : Int} (ok : RwOk B r) : r.head.length ≤ 100000 ∧ r.cycle.length ≤ 100000 ∧ r.steps.length ≤ 100000 := by
  have h1 : r.head.length ≤ 20000 := ok.hs
  have h2 : r.cycle.length ≤ 10000 := ok.cs
  have h3 : r.steps.length = r.cycle.length := ok.len
  omega
theorem yi_key (h : Ev te σ H x) (ra : RowAt K Cr r x H) (ok : RwOk B r) : Yi (tMeth Cr "key" (spKey K Cr) [] E0 te tNil) σ H fun v H' => Da K H' v (rwD r) := fun H1 e1 Q q => h H1 e1 _ fun H2 e2 => by
  have ra2 := ra.mono (e1.trans e2)
  have ra3 := ra2
  obtain ⟨a, dx, p, t, u, rfl, h1, _⟩ := ra2
  exact ⟨a, dx, _, rfl, h1, by rfl, .ref a, r, rfl, ra3, ol_len ok, fun u H' e' d => q (.ref u) H' (e2.trans e') d⟩
theorem eqvAll_od : ∀ l m : Ol, PyData.eqvAll (l.map od) (m.map od) = decide (l = m)
  | [], [] => by simp [PyData.eqvAll]
  | [], b :: m => by simp [PyData.eqvAll]
  | a :: l, [] => by simp [PyData.eqvAll]
  | a :: l, b :: m => by
    simp only [List.map_cons, PyData.eqvAll, eqv_od, eqvAll_od l m]
    rw [Bool.eq_iff_iff]
    simp
theorem eqv_ol (l m : Ol) : PyData.eqv (.tuple (l.map od)) (.tuple (m.map od)) = decide (l = m) := by
  simp only [PyData.eqv]
  exact eqvAll_od l m
theorem eqv_rw (r s : Rw) : PyData.eqv (rwD r) (rwD s) = decide (r = s) := by
  unfold rwD
  simp only [PyData.eqv, PyData.eqvAll, eqvAll_od]
  cases r
  cases s
  rw [Bool.eq_iff_iff]
  simp
theorem pl_rw (r : Rw) : Pl (rwD r) := by
  have a : ∀ l : Ol, ∀ o ∈ l, Atm (od o) := fun l o _ => atm_od o
  have d : ∀ l : Ol, PyData.depthAll (l.map od) ≤ 0 := fun l => depth_all fun o _ => (atm_od o).d
  have d1 := d r.head
  have d2 := d r.cycle
  have d3 := d r.steps
  unfold rwD
  refine ⟨?_, shaped_of ?_ ?_⟩
  · simp only [PyData.hasDict, PyData.hasDictAll, nodict_all fun o _ => (atm_od o).n, Bool.or_self]
  · simp only [PyData.canLay0, PyData.canLayAll0, lay_all fun o _ => (atm_od o).l, Bool.and_self]
  · simp only [PyData.depth, PyData.depthAll]
    omega
theorem ev_keyEq (h1 : Ev ta σ H x) (h2 : Ev tb σ H y) (ra : RowAt K Cr r x H) (rb : RowAt K Cr s y H) (ok : RwOk B r) (ok' : RwOk B s) : Ev (tOp (fun x y H Q => rEq x y H Q ∨ rEqDat K id x y H Q) (tMeth Cr "key" (spKey K Cr) [] E0 ta tNil) (tMeth Cr "key" (spKey K Cr) [] E0 tb tNil)) σ H (.bl (decide (r = s))) := fun H1 e1 Q q =>
  yi_key h1 ra ok H1 e1 _ fun v H2 e2 d => yi_key h2 rb ok' H2 (e1.trans e2) _ fun w H3 e3 d' => .inr ⟨_, _, d.mono e3, d', pl_rw r, pl_rw s, by rw [eqv_rw]; exact q H3 (e2.trans e3)⟩
theorem ev_textR (h : Ev te σ H x) (ra : RowAt K Cr r x H) (ok : RwOk B r) (le : r.h + r.c ≤ 1000) : Ev (tCall (spTextR K Cr) [] E0 (tCons te tNil)) σ H (.str (SX.S (textR r))) := ev_hc (ea_cons h ea_nil) fun H1 Q e k => ⟨x, r, B, rfl, ra.mono e, ok, le, k⟩
theorem ev_strS {z : Str} (h : Ev te σ H (.str z)) : Ev (tCB rStrY (tCons te tNil)) σ H (.str z) := fun H1 e1 Q q => h H1 e1 _ fun H2 e2 => .inr ⟨z, rfl, q H2 e2⟩
theorem joinL_small {B : Nat} {sep : List Nat} : ∀ {l : List (List Nat)}, (∀ x ∈ l, x.length ≤ B) → (TL.joinL sep l).length ≤ (B + sep.length) * l.length
  | [], _ => Nat.zero_le _
  | [x], h => by
    have := h x List.mem_cons_self
    show x.length ≤ _
    simp
    omega
  | x :: y :: l, h => by
    have z := joinL_small (sep := sep) (l := y :: l) fun u hu => h u (List.mem_cons_of_mem _ hu)
    have := h x List.mem_cons_self
    show (x ++ (sep ++ TL.joinL sep (y :: l))).length ≤ _
    rw [List.length_append, List.length_append, List.length_cons (a := x), Nat.mul_add, Nat.mul_one]
    omega
theorem textR_words (ok : RwOk B r) (le : r.h + r.c ≤ 1000) : (∀ x ∈ wordsS (memL r 0 r.h) (memL r r.h (r.h + r.c)) r.c, WordOk x) ∧ (wordsS (memL r 0 r.h) (memL r r.h (r.h + r.c)) r.c).length ≤ 1003 := by
  have la := memL_len r r.h (r.h + r.c)
  have l0 := memL_len r 0 r.h
  have := words_len (memL r 0 r.h) (memL r r.h (r.h + r.c)) r.c
  exact ⟨words_ok (fun n hn => by have := memL_lt hn; omega) (fun n hn => by have := memL_lt hn; omega) (by omega), by omega⟩
theorem textR_len (ok : RwOk B r) (le : r.h + r.c ≤ 1000) : (textR r).length ≤ 12000 := by
  obtain ⟨h1, h2⟩ := textR_words ok le
  unfold textR textS
  split
  · decide
  · have := joinL_small (B := 10) (sep := [32]) fun x hx => (h1 x hx).1
    have m : (10 + ([32] : List Nat).length) * (wordsS (memL r 0 r.h) (memL r r.h (r.h + r.c)) r.c).length ≤ (10 + 1) * 1003 := Nat.mul_le_mul_left _ h2
    omega
theorem js_wr (h : Ev te σ H x) (ra : RowAt K Cr r x H) (ok : RwOk B r) (le : r.h + r.c ≤ 1000) : Ev (fun σ H Q => tJs [tC (.str (SX.S [87, 101, 105, 103, 104, 116, 115, 32])), tFmt (tCall (spTextR K Cr) [] E0 (tCons te tNil))] Str.empty σ H fun out H1 => Q (.str out) H1) σ H (.str (SX.S (reprS r))) := fun H1 e1 Q q => by
  have e0 : Str.empty = SX.S [] := rfl
  have l1 := textR_len ok le
  rw [e0]
  refine ⟨_, rfl, by rw [SX.S_cat, SX.S_len]; exact sz_of (by simp), ?_⟩
  refine (ev_fmtS (ev_textR h ra ok le) (by omega) : Ev _ σ H _) H1 e1 _ fun H2 e2 => ⟨_, rfl, by rw [SX.S_cat, SX.S_cat, SX.S_len]; exact sz_of (by simp; omega), ?_⟩
  show Q (.str (SX.S [] ++ _ ++ SX.S (textR r))) H2
  rw [SX.S_cat, SX.S_cat, List.nil_append]
  exact q H2 e2
end
end SwX
set_option Elab.async false
set_option linter.all false
set_option maxRecDepth 100000
set_option maxHeartbeats 4000000
/-! sets, plain: the least form is told by the members alone -/
namespace SwX
open PySem PySem.Spec PyProof.Rows L2 Evl
/-! ### periods of a set of numbers -/
def EvP (f : Nat → Bool) (p h : Nat) : Prop := ∀ n, h ≤ n → f (n + p) = f n
theorem EvP.mul {f : Nat → Bool} {p h : Nat} (e : EvP f p h) : ∀ k n, h ≤ n → f (n + k * p) = f n
  | 0, n, _ => by rw [Nat.zero_mul, Nat.add_zero]
  | k + 1, n, hn => by
    rw [Nat.succ_mul, ← Nat.add_assoc, e _ (by omega)]
    exact e.mul k n hn
theorem EvP.mod {f : Nat → Bool} {p h : Nat} (e : EvP f p h) {n i : Nat} (hn : h ≤ n) : f (n + i % p) = f (n + i) := by
  have z := e.mul (i / p) (n + i % p) (by omega)
  rw [← z, Nat.add_assoc, Nat.mul_comm, Nat.mod_add_div]
theorem EvP.up {f : Nat → Bool} {p h h' : Nat} (e : EvP f p h) (le : h ≤ h') : EvP f p h' := fun n hn => e n (Nat.le_trans le hn)
structure Least (f : Nat → Bool) (h p : Nat) : Prop where
  pos : 0 < p
  per : EvP f p h
  minp : ∀ q h', 0 < q → EvP f q h' → p ≤ q
  minh : ∀ h', EvP f p h' → h ≤ h'
theorem Least.uniq {f : Nat → Bool} {h p h' p' : Nat} (a : Least f h p) (b : Least f h' p') : h = h' ∧ p = p' := by
  have e : p = p' := Nat.le_antisymm (a.minp _ _ b.pos b.per) (b.minp _ _ a.pos a.per)
  subst e
  exact ⟨Nat.le_antisymm (a.minh _ b.per) (b.minh _ a.per), rfl⟩
theorem least_ex {P : Nat → Prop} : ∀ n, P n → ∃ m, P m ∧ ∀ q, P q → m ≤ q := fun n => by
  induction n using Nat.strongRecOn with
  | _ n ih =>
    intro hn
    by_cases h : ∃ q, q < n ∧ P q
    · obtain ⟨q, lt, hq⟩ := h
      exact ih q lt hq
    · exact ⟨n, hn, fun q hq => Nat.le_of_not_lt fun lt => h ⟨q, lt, hq⟩⟩
/-- a set with the period c from h on: its least period divides c and holds from h on -/
theorem least_div {f : Nat → Bool} {c h : Nat} (c0 : 0 < c) (e : EvP f c h) : ∃ p, 0 < p ∧ c % p = 0 ∧ p ≤ c ∧ EvP f p h ∧ ∀ q h', 0 < q → EvP f q h' → p ≤ q := by
  obtain ⟨p, ⟨p0, h1, e1⟩, min⟩ := least_ex (P := fun q => 0 < q ∧ ∃ h', EvP f q h') c ⟨c0, h, e⟩
  have lt := Nat.mod_lt c p0
  have z : c % p = 0 := by
    refine Nat.eq_zero_of_not_pos fun pos => ?_
    have := min (c % p) ⟨pos, max h h1, fun n hn => by
      have n1 : h ≤ n := Nat.le_trans (Nat.le_max_left _ _) hn
      have n2 : h1 ≤ n := Nat.le_trans (Nat.le_max_right _ _) hn
      rw [e1.mod n2]
      exact e n n1⟩
    omega
  refine ⟨p, p0, z, min c ⟨c0, h, e⟩, fun n hn => ?_, fun q h' q0 e' => min q ⟨q0, h', e'⟩⟩
  have k := e.mul h1 n hn
  have k2 := e.mul h1 (n + p) (by omega)
  have ge : h1 ≤ n + h1 * c := by
    have : h1 * 1 ≤ h1 * c := Nat.mul_le_mul_left _ c0
    omega
  have k3 := e1 (n + h1 * c) ge
  rw [← k, ← k2, ← k3]
  congr 1
  omega
/-! ### rows that tell 0 or nothing -/
def zo (f : Nat → Bool) (w : Nat) : Option Int := if f w then some 0 else none
structure Flat (f : Nat → Bool) (r : Rw) : Prop where
  ok : RwOk 0 r
  at_ : ∀ w, r.at w = zo f w
theorem zo_inj {f : Nat → Bool} {a b : Nat} (h : zo f a = zo f b) : f a = f b := by
  unfold zo at h
  cases ha : f a <;> cases hb : f b <;> simp [ha, hb] at h <;> rfl
section
variable {f : Nat → Bool} {r : Rw} {p w : Nat}
theorem Flat.per (F : Flat f r) : EvP f r.c r.h := fun n hn => by
  have e := stp_ge F.ok hn
  have s := F.ok.small
  cases o : r.rise n with
  | none =>
    rw [o] at e
    obtain ⟨h1, h2⟩ := stp_none e
    rw [F.at_] at h1 h2
    exact (zo_inj (h1.trans h2.symm)).symm
  | some d =>
    rw [o] at e
    obtain ⟨x, h1, h2⟩ := stp_some e
    have z := s _ _ o
    have d0 : d = 0 := by omega
    rw [d0, Int.add_zero] at h2
    rw [F.at_] at h1 h2
    exact (zo_inj (h1.trans h2.symm)).symm
theorem Flat.stp (F : Flat f r) (a b : Nat) : r.stp a b = if f a = f (a + b) then some (zo f a) else none := by
  unfold Rw.stp
  rw [F.at_, F.at_]
  unfold zo
  cases ha : f a <;> cases hb : f (a + b) <;> simp
theorem Flat.hasP (F : Flat f r) (p0 : 0 < p) : hasP r p = true ↔ EvP f p r.h := by
  have cp := F.ok.pos
  constructor
  · intro h n hn
    obtain ⟨i, rfl⟩ := Nat.exists_eq_add_of_le hn
    have lt := Nat.mod_lt i cp
    obtain ⟨o, eo⟩ := hasP_some h (i := i % r.c) (by omega)
    rw [F.stp] at eo
    have e1 : f (r.h + i % r.c) = f (r.h + i % r.c + p) := by
      by_cases z : f (r.h + i % r.c) = f (r.h + i % r.c + p)
      · exact z
      · rw [if_neg z] at eo
        cases eo
    have e2 := F.per.mod (i := i) (Nat.le_refl r.h)
    have e3 := F.per.mod (n := r.h + p) (i := i) (by omega)
    rw [show r.h + i + p = r.h + p + i by omega, ← e3, show r.h + p + i % r.c = r.h + i % r.c + p by omega, ← e1, e2]
  · intro e
    unfold SwX.hasP
    rw [Bool.and_eq_true, List.all_eq_true, List.all_eq_true]
    have st : ∀ i, r.stp (r.h + i) p = some (zo f (r.h + i)) := fun i => by rw [F.stp, if_pos (e _ (by omega)).symm]
    refine ⟨fun i _ => by rw [st] <;> rfl, fun i _ => decide_eq_true ?_⟩
    rw [st, st]
    unfold zo
    rw [e.mod (Nat.le_refl r.h)]
theorem pers_asc (r : Rw) : (pers r).Pairwise (· < ·) := by
  unfold pers
  refine List.Pairwise.filter _ (List.pairwise_map.mpr ?_)
  exact (List.pairwise_lt_range).imp fun h => by omega
theorem Flat.perOf (F : Flat f r) : 0 < perOf r ∧ EvP f (perOf r) r.h ∧ ∀ q h', 0 < q → EvP f q h' → perOf r ≤ q := by
  obtain ⟨h1, h2, h3, h4⟩ := pers_of (perOf_mem F.ok)
  refine ⟨h1, (F.hasP h1).mp h4, ?_⟩
  obtain ⟨p, p0, pd, pc, pe, min⟩ := least_div F.ok.pos F.per
  have m : p ∈ pers r := List.mem_filter.mpr ⟨List.mem_map.mpr ⟨p - 1, List.mem_range.mpr (by omega), by omega⟩, by unfold perB; rw [pd, (F.hasP p0).mpr pe] <;> rfl⟩
  have le : SwX.perOf r ≤ p := by
    obtain ⟨a, l, e⟩ := pers_ne F.ok
    have asc := pers_asc r
    unfold SwX.perOf
    rw [e] at m asc ⊢
    show a ≤ p
    rcases List.mem_cons.mp m with rfl | m
    · exact Nat.le_refl _
    · exact Nat.le_of_lt ((List.pairwise_cons.mp asc).1 p m)
  exact fun q h' q0 e => Nat.le_trans le (min q h' q0 e)
theorem zo_per {h n : Nat} (e : EvP f p h) (hn : h ≤ n) (i : Nat) : zo f (n + i % p) = zo f (n + i) := by
  unfold zo
  rw [e.mod hn]
/-- a row whose parts are told by f -/
theorem flat_mk {h : Nat} (ok : RwOk 0 r) (rh : r.h = h) (rc : r.c = p) (h1 : ∀ i, i < h → Ol.g r.head i = zo f i) (h2 : ∀ i, i < p → Ol.g r.cycle i = zo f (h + i)) (e : EvP f p h) : Flat f r := ⟨ok, fun w => by
  have cp := ok.pos
  by_cases lt : w < r.h
  · rw [Rw.at_lt lt]
    exact h1 w (by omega)
  · rw [Rw.at_ge lt]
    have b := ok.both ((w - r.h) % r.c) (Nat.mod_lt _ cp)
    have c1 := h2 ((w - h) % p) (by rw [← rc]; exact Nat.mod_lt _ cp)
    rw [zo_per e (Nat.le_refl h), show h + (w - h) = w by omega] at c1
    rw [rh, rc] at b ⊢
    rw [c1] at b ⊢
    cases z : zo f w with
    | none => rfl
    | some x =>
      have x0 : x = 0 := by
        unfold zo at z
        split at z
        · exact (Option.some.inj z).symm
        · cases z
      rw [z] at b
      cases s : Ol.g r.steps ((w - h) % p) with
      | none => cases b.mpr s
      | some y =>
        have sm := ok.small _ _ s
        have y0 : y = 0 := by omega
        rw [x0, y0]
        simp [farV]⟩
theorem Flat.withP (F : Flat f r) (p0 : 0 < p) (e : EvP f p r.h) (p1 : p ≤ 10000) : Flat f (withP r p) ∧ (SwX.withP r p).c = p := by
  have ec : (SwX.withP r p).c = p := by unfold SwX.withP Rw.c; simp
  have ok : RwOk 0 (SwX.withP r p) := with_ok F.ok p0 p1 fun i _ => by
    rw [F.stp, if_pos (e _ (by omega)).symm]
    refine ⟨_, rfl, fun x hx => ?_⟩
    unfold zo at hx
    split at hx
    · have := Option.some.inj hx
      omega
    · cases hx
  refine ⟨flat_mk (h := r.h) ok rfl ec (fun i hi => ?_) (fun i hi => ?_) e, ec⟩
  · have := F.at_ i
    rw [Rw.at_lt hi] at this
    exact this
  · show Ol.g ((List.range p).map fun i => r.at (r.h + i)) i = _
    rw [g_map hi, F.at_]
theorem strB_iff (F : Flat f r) {w : Nat} (e : EvP f r.c (w + 1)) : strB r w = true ↔ f w = f (w + r.c) := by
  have cp := F.ok.pos
  have far : r.h ≤ w + r.c * (1 + r.h / r.c) := by
    have := Nat.div_add_mod r.h r.c
    have := Nat.mod_lt r.h cp
    rw [Nat.mul_add, Nat.mul_one]
    omega
  have rs : r.rise (w + r.c * (1 + r.h / r.c)) = zo f (w + r.c) := by
    have z := stp_ge F.ok far
    rw [F.stp, if_pos (F.per _ far).symm] at z
    rw [← Option.some.inj z]
    unfold zo
    have := e.mul (r.h / r.c) (w + r.c) (by omega)
    rw [← this]
    congr 3
    rw [Nat.mul_add, Nat.mul_one, Nat.mul_comm (r.h / r.c)]
    omega
  unfold strB
  rw [decide_eq_true_eq, rs, F.stp]
  constructor
  · intro h
    by_cases z : f w = f (w + r.c)
    · exact z
    · rw [if_neg z] at h
      cases h
  · intro z
    rw [if_pos z]
    unfold zo
    rw [z]
theorem down_least (F : Flat f r) : ∀ n, EvP f r.c n → EvP f r.c (downS r n) ∧ ∀ h', EvP f r.c h' → downS r n ≤ h'
  | 0, e => ⟨e, fun h' _ => Nat.zero_le _⟩
  | n + 1, e => by
    have s := strB_iff F e
    unfold downS
    by_cases z : strB r n = true
    · rw [if_pos z]
      refine down_least F n fun m hm => ?_
      rcases Nat.lt_or_eq_of_le hm with h | rfl
      · exact e m h
      · exact (s.mp z).symm
    · rw [if_neg z]
      refine ⟨e, fun h' e' => Nat.le_of_not_lt fun lt => z (s.mpr ?_)⟩
      exact (e' n (by omega)).symm
/-- the least form of a row of a set -/
theorem Flat.lf (F : Flat f r) : Flat f (lf r) ∧ Least f (SwX.lf r).h (SwX.lf r).c := by
  obtain ⟨p0, pe, pm⟩ := F.perOf
  obtain ⟨q1, q2, _, _⟩ := pers_of (perOf_mem F.ok)
  obtain ⟨F1, c1⟩ := F.withP p0 pe (Nat.le_trans q2 F.ok.cs)
  have h1 : (SwX.withP r (SwX.perOf r)).h = r.h := rfl
  have pe1 : EvP f (SwX.withP r (SwX.perOf r)).c r.h := by rw [c1]; exact pe
  obtain ⟨d1, d2⟩ := down_least F1 r.h pe1
  have dl := down_le (SwX.withP r (SwX.perOf r)) r.h
  rw [c1] at d1 d2
  have ok := lf_ok F.ok
  have eh : (SwX.lf r).h = downS (SwX.withP r (SwX.perOf r)) r.h := by
    show ((SwX.withP r (SwX.perOf r)).head.take _).length = _
    rw [List.length_take]
    exact Nat.min_eq_left dl
  have ec : (SwX.lf r).c = SwX.perOf r := by
    show ((List.range (SwX.withP r (SwX.perOf r)).c).map _).length = _
    rw [List.length_map, List.length_range, c1]
  refine ⟨flat_mk ok eh ec (fun i hi => ?_) (fun i hi => ?_) d1, by rw [eh, ec]; exact ⟨p0, d1, pm, d2⟩⟩
  · show Ol.g (r.head.take _) i = _
    have z := F.at_ i
    rw [Rw.at_lt (Nat.lt_of_lt_of_le hi dl)] at z
    rw [← z]
    unfold Ol.g
    rw [List.getD_eq_getElem?_getD, List.getD_eq_getElem?_getD, List.getElem?_take_of_lt hi]
  · show Ol.g ((List.range (SwX.withP r (SwX.perOf r)).c).map fun i => (SwX.withP r (SwX.perOf r)).at (downS (SwX.withP r (SwX.perOf r)) r.h + i)) i = _
    rw [c1, g_map hi, F1.at_]
/-- rows of the same set, both least, are the same -/
theorem row_ext {r s : Rw} (F : Flat f r) (G : Flat f s) (a : Least f r.h r.c) (b : Least f s.h s.c) : r = s := by
  obtain ⟨eh, ec⟩ := a.uniq b
  have hl : ∀ {t : Rw}, Flat f t → t.head = (List.range t.h).map (zo f) := fun {t} T => by
    refine List.ext_getElem? fun i => ?_
    by_cases h : i < t.h
    · have z := T.at_ i
      rw [Rw.at_lt h] at z
      rw [List.getElem?_map, List.getElem?_range h, List.getElem?_eq_getElem h]
      unfold Ol.g at z
      rw [List.getD_eq_getElem?_getD, List.getElem?_eq_getElem h] at z
      exact congrArg some z
    · rw [List.getElem?_eq_none (Nat.le_of_not_lt h), List.getElem?_eq_none (by simp; omega)]
  have hc : ∀ {t : Rw}, Flat f t → t.cycle = (List.range t.c).map fun i => zo f (t.h + i) := fun {t} T => by
    refine List.ext_getElem? fun i => ?_
    by_cases h : i < t.c
    · have z := at_cyc T.ok h
      rw [T.at_] at z
      rw [List.getElem?_map, List.getElem?_range h, List.getElem?_eq_getElem h]
      unfold Ol.g at z
      rw [List.getD_eq_getElem?_getD, List.getElem?_eq_getElem h] at z
      exact congrArg some z.symm
    · rw [List.getElem?_eq_none (Nat.le_of_not_lt h), List.getElem?_eq_none (by simp; omega)]
  have hs : ∀ {t : Rw}, Flat f t → t.steps = (List.range t.c).map fun i => zo f (t.h + i) := fun {t} T => by
    refine List.ext_getElem? fun i => ?_
    by_cases h : i < t.c
    · have h' : i < t.steps.length := by rw [T.ok.len]; exact h
      have z := stp_ge T.ok (w := t.h + i) (by omega)
      rw [T.stp, if_pos (T.per _ (by omega)).symm] at z
      have z := Option.some.inj z
      unfold Rw.rise Ol.g at z
      rw [show t.h + i - t.h = i by omega, Nat.mod_eq_of_lt h, List.getD_eq_getElem?_getD, List.getElem?_eq_getElem h'] at z
      rw [List.getElem?_map, List.getElem?_range h, List.getElem?_eq_getElem h']
      exact congrArg some z.symm
    · rw [List.getElem?_eq_none (by rw [T.ok.len]; omega), List.getElem?_eq_none (by simp; omega)]
  have e1 : r.head = s.head := by rw [hl F, hl G, eh]
  have e2 : r.cycle = s.cycle := by rw [hc F, hc G, eh, ec]
  have e3 : r.steps = s.steps := by rw [hs F, hs G, eh, ec]
  cases r
  cases s
  simp only at e1 e2 e3
  rw [e1, e2, e3]
end
end SwX
set_option Elab.async false
set_option linter.all false
set_option maxRecDepth 100000
set_option maxHeartbeats 4000000
/-! sets: what laws draw, their models -/
namespace SwX
open PySem PySem.Spec PyProof.Rows L2 Evl
section
variable {K : PySem.W.Frag} {σ : L2.St} {G H : Hp} {a : Addr} {te ta tb : TE} {v : V} {m : Nat} {w : World} {D : Ends} {tz : TS}
/-- ascending numbers below a bound -/
structure Rise (high : Nat) (ns : List Nat) : Prop where
  asc : ns.Pairwise (· < ·)
  lt : ∀ n ∈ ns, n < high
theorem ints_nat : ∀ {ns : List Int}, (∀ n ∈ ns, 0 ≤ n) → ∃ ms : List Nat, ns = ms.map fun m => ((m : Nat) : Int)
  | [], _ => ⟨[], rfl⟩
  | n :: l, h => by
    obtain ⟨ms, e⟩ := ints_nat (ns := l) fun x hx => h x (List.mem_cons_of_mem _ hx)
    have := h n List.mem_cons_self
    exact ⟨n.toNat :: ms, by rw [List.map_cons, ← e, Int.toNat_of_nonneg this]⟩
theorem rising_of {high : Nat} (h : DrL a te σ G m fun v => ∃ k : Int, v = .int k ∧ 0 ≤ k ∧ k < (high : Nat)) (hm : m < 64) (e : Ex G H) (p : Pur H a) (Q : VK)
    (k : ∀ ns q H1, Rise high ns → ns.length ≤ m → H1 q = some (.tup (ns.map natV)) → q ≠ a → Ex G H1 → Pur H1 a → Q (.ref q) H1) :
    tCB (rTupOf K) (tCons (tCB (rSortedSet w) (tCons (tCB (rSetOfL K w) (tCons te tNil)) tNil)) tNil) σ H Q :=
  h H e p _ fun l xs H1 lx px hl nl e1 p1 => by
    obtain ⟨ns, en, hb⟩ : ∃ ns : List Int, xs = ns.map V.int ∧ ∀ n ∈ ns, 0 ≤ n ∧ n < (high : Nat) := by
      clear hl lx
      induction xs with
      | nil => exact ⟨[], rfl, fun n hn => nomatch hn⟩
      | cons x xs ih =>
        obtain ⟨ns, e, hb⟩ := ih fun y hy => px y (List.mem_cons_of_mem _ hy)
        obtain ⟨j, rfl, j0, j1⟩ := px x List.mem_cons_self
        refine ⟨j :: ns, by rw [e] <;> rfl, fun n hn => ?_⟩
        rcases List.mem_cons.mp hn with rfl | hn
        · exact ⟨j0, j1⟩
        · exact hb n hn
    subst en
    rw [List.length_map] at lx
    refine ⟨l, ns, rfl, sq_of hl, by omega, fun c n hc hn => ?_⟩
    have pc := pur_new p1 hc (o := SetO w c (fun j => decide (j ∈ ns)) n)
    refine ⟨c, _, n, rfl, upd_same, by omega, fun out q asc mem len hq => ?_⟩
    have pq := pur_new pc hq (o := .lst (out.map V.int))
    obtain ⟨ms, rfl⟩ := ints_nat (ns := out) fun n hn => (hb n (by have := (mem n).mp hn; simpa using this)).1
    refine ⟨q, _, rfl, .inl ⟨.inl (.inl upd_same), fun u hu => ?_⟩⟩
    refine k ms u _ ⟨?_, fun n hn => ?_⟩ ?_ (by rw [upd_same, List.map_map] <;> rfl) ((pq.ne hu)) (((e1.trans (Ex.new hc)).trans (Ex.new hq)).trans (Ex.new hu)) (pur_new pq hu)
    · exact (List.pairwise_map.mp asc).imp fun h => by omega
    · have := (hb n (by have := (mem n).mp (List.mem_map.mpr ⟨n, hn, rfl⟩); simpa using this)).2
      omega
    · rw [List.length_map] at len
      omega
def spRising : Sp := fun vs H Q _ => ∃ (a : Addr) (many high : Nat), vs = [.ref a, natV many, natV high] ∧ Pur H a ∧ many ≤ 50 ∧ 0 < high ∧ high ≤ 1000000 ∧ ∀ ns q H', Rise high ns → ns.length ≤ many → H' q = some (.tup (ns.map natV)) → q ≠ a → Ex (less a H) H' → Pur H' a → Q (.ref q) H'
theorem el_addX {xs ys : List V} (h1 : EvL ta σ H xs) (h2 : EvL tb σ H ys) (l : xs.length + ys.length ≤ 100000) : EvL (tOp (rAddX K) ta tb) σ H (xs ++ ys) := fun H1 e1 Q q =>
  h1 H1 e1 _ fun p H2 _ e2 hp => h2 H2 (e1.trans e2) _ fun p' H3 _ e3 hp' => .inr (.inl ⟨p, p', xs, ys, rfl, rfl, e3 _ _ hp, hp', sz_of l, fun c hc => q c _ (fresh_back (e2.trans e3) hc) ((e2.trans e3).trans (Ex.new hc)) upd_same⟩)
theorem el_listE {xs : List V} (h : Ev te σ H v) (s : SqE K H v xs) : EvL (tCB (fun vs H Q => ∃ p ys, vs = [.ref p] ∧ (SqL K H p ys ∨ SqT K H p ys) ∧ ∀ l, H l = none → Q (.ref l) (upd H l (.lst ys))) (tCons te tNil)) σ H xs := fun H1 e1 Q q => h H1 e1 _ fun H2 e2 => by
  obtain ⟨p, rfl, s | s⟩ := s
  · exact ⟨p, xs, rfl, .inr (ex_t (e1.trans e2) s), fun l hl => q l _ (fresh_back e2 hl) (e2.trans (Ex.new hl)) upd_same⟩
  · exact ⟨p, xs, rfl, .inl (ex_l (e1.trans e2) s), fun l hl => q l _ (fresh_back e2 hl) (e2.trans (Ex.new hl)) upd_same⟩
theorem rep_flat (x : V) : ∀ n : Nat, (List.replicate n [x]).flatten = List.replicate n x
  | 0 => rfl
  | n + 1 => by rw [List.replicate_succ, List.flatten_cons, rep_flat x n, List.replicate_succ] <;> rfl
theorem el_rep {x : V} {n : Nat} (h1 : EvL ta σ H [x]) (h2 : Ev tb σ H (natV n)) (hn : n ≤ 100000) : EvL (tOp rRep ta tb) σ H (List.replicate n x) := fun H1 e1 Q q =>
  h1 H1 e1 _ fun p H2 _ e2 hp => h2 H2 (e1.trans e2) _ fun H3 e3 => ⟨p, (n : Nat), [x], rfl, rfl, e3 _ _ hp, by omega, by omega, by rw [Int.toNat_natCast]; simp; exact sz_of hn, fun c hc => q c _ (fresh_back (e2.trans e3) hc) ((e2.trans e3).trans (Ex.new hc)) (by rw [upd_same, Int.toNat_natCast, rep_flat])⟩
/-- a range with a step -/
theorem rgc_up {i j c : Nat} (h : i < j) (c0 : 0 < c) (hj : j ≤ 1000000) (hc : c ≤ 1000000) : RgC (i : Nat) (j : Nat) (c : Nat) ((j - i - 1) / c + 1) := by
  have e : Builtin.Range.rangeSize (i : Nat) (j : Nat) (c : Nat) = (((j - i - 1) / c + 1 : Nat) : Int) := by
    unfold Builtin.Range.rangeSize
    rw [if_pos (by omega), if_pos (by omega), Int.natCast_add, Int.natCast_ediv, show ((j : Int) - (i : Int) - 1) = ((j - i - 1 : Nat) : Int) by omega] <;> rfl
  refine ⟨by omega, by omega, ?_, e⟩
  have d : (j - i - 1) / c ≤ 1000000 := Nat.le_trans (Nat.div_le_self _ _) (by omega)
  unfold Builtin.Range.small
  rw [e]
  generalize (j - i - 1) / c = n at d
  simp only [Builtin.Range.rangeFitsLong, Bool.and_eq_true, Bool.or_eq_true, decide_eq_true_eq, beq_iff_eq, show ((c : Nat) : Int) > 0 by omega, if_true]
  omega
theorem s_forR3 {ti : TA} {tu : TS} {j : Nat} {lo hi c : Int} {n : Nat} (h : EvA ti σ H [.int lo, .int hi, .int c]) (rg : RgC lo hi c n) (Pv : Nat → L2.St → Hp → Prop) (h0 : ∀ H1, Ex H H1 → Pv 0 σ H1)
    (hs : ∀ (i : Nat) σ' H', i < n → Pv i σ' H' → tu { D with nx := Pv (i + 1), ct := Pv (i + 1), bk := D.nx } (σ'.set j (some (.int (lo + (i : Nat) * c)))) H') (hd : ∀ σ' H', Pv n σ' H' → D.nx σ' H') : tFor (iRng3 ti) (gName j) tu D σ H :=
  h H (Ex.refl H) _ fun H1 e => ⟨lo, hi, c, n, rfl, rg, for_rangeC Pv (h0 H1 e) hs hd⟩
theorem s_retTupY {t : TA} {R : List V → Hp → Prop} (h : Ys t σ H R) (m : ∀ l H H', Ex H H' → R l H → R l H') (n : ∀ l H, R l H → l.length ≤ 1000) (k : ∀ l u H1, Ex H H1 → R l H1 → H1 u = some (.tup l) → D.rt (.ref u) H1) : tRet (tTup t) D σ H :=
  h H (Ex.refl H) _ fun l H1 e1 z => ⟨sz_of (Nat.le_trans (n l H1 z) (by decide)), fun u hu => k l u _ (e1.trans (Ex.new hu)) (m l _ _ (Ex.new hu) z) upd_same⟩
theorem ys_LL {t1 t2 : TE} {xs ys : List V} (h1 : EvL t1 σ H xs) (h2 : EvL t2 σ H ys) : Ys (tCons t1 (tCons t2 tNil)) σ H fun vs H' => ∃ d1 d2 : Addr, vs = [.ref d1, .ref d2] ∧ H' d1 = some (.lst xs) ∧ H' d2 = some (.lst ys) := fun H6 e6 Q' q' =>
  h1 H6 e6 _ fun d1 H7 _ e7 g1 => h2 H7 (e6.trans e7) _ fun d2 H8 _ e8 g2 => q' [.ref d1, .ref d2] H8 (e7.trans e8) ⟨d1, d2, rfl, e8 _ _ g1, g2⟩
def modB (es as : List Nat) : Nat := max 1 (ups (es ++ as))
/-- a set as two lists of truths -/
def ModAt (f : Nat → Bool) (b c : Nat) (v : V) (H : Hp) : Prop := ∃ t d1 d2 : Addr, v = .ref t ∧ H t = some (.tup [.ref d1, .ref d2]) ∧ H d1 = some (.lst ((List.range b).map fun i => .bl (f i))) ∧ H d2 = some (.lst ((List.range c).map fun i => .bl (f (b + i))))
theorem ModAt.mono {f : Nat → Bool} {b c : Nat} {H' : Hp} (e : Ex H H') (h : ModAt f b c v H) : ModAt f b c v H' := by
  obtain ⟨t, d1, d2, rfl, h1, h2, h3⟩ := h
  exact ⟨t, d1, d2, rfl, e _ _ h1, e _ _ h2, e _ _ h3⟩
def spModel (K : PySem.W.Frag) : Sp := fun vs H Q _ => ∃ (p q : Addr) (es as : List Nat) (n hi : Nat), vs = [.ref p, .ref q, natV n] ∧ SqT K H p (es.map natV) ∧ SqT K H q (as.map natV) ∧ Rise hi es ∧ Rise hi as ∧ hi ≤ 2000 ∧ 0 < n ∧ n ≤ 2000 ∧ ∀ v H', Ex H H' → ModAt (inSet es as n) (modB es as) n v H' → Q v H'
theorem set_marks {N j : Nat} (g : Nat → Bool) : ((List.range N).map fun i => V.bl (g i)).set j (.bl true) = (List.range N).map fun i => V.bl (g i || decide (i = j)) := by
  refine List.ext_getElem? fun i => ?_
  rw [List.getElem?_set, List.getElem?_map, List.getElem?_map, List.length_map, List.length_range]
  by_cases h : i < N
  · rw [List.getElem?_range h]
    by_cases e : j = i
    · subst e
      rw [if_pos rfl, if_pos h]
      simp
    · rw [if_neg e]
      have : i ≠ j := fun z => e z.symm
      simp [this]
  · rw [List.getElem?_eq_none (by simp; omega)]
    by_cases e : j = i
    · subst e
      rw [if_pos rfl, if_neg h] <;> rfl
    · rw [if_neg e] <;> rfl
theorem marks_congr {N : Nat} {g g' : Nat → Bool} (h : ∀ i, i < N → g i = g' i) : ((List.range N).map fun i => V.bl (g i)) = (List.range N).map fun i => V.bl (g' i) := List.map_congr_left fun i hi => by rw [h i (List.mem_range.mp hi)]
/-- the turns of a step range that hit -/
def hits (s n t w : Nat) : Bool := (List.range t).any fun i => decide (w = s + i * n)
theorem hits_succ (s n t w : Nat) : hits s n (t + 1) w = (hits s n t w || decide (w = s + t * n)) := by
  unfold hits
  rw [List.range_succ, List.any_append]
  simp
theorem hits_all {s n N w : Nat} (n0 : 0 < n) (hs : s < N) (hw : w < N) : hits s n ((N - s - 1) / n + 1) w = (decide (s ≤ w) && decide ((w - s) % n = 0)) := by
  unfold hits
  rw [Bool.eq_iff_iff]
  simp only [List.any_eq_true, List.mem_range, decide_eq_true_eq, Bool.and_eq_true]
  constructor
  · rintro ⟨i, hi, rfl⟩
    refine ⟨Nat.le_add_right _ _, ?_⟩
    rw [Nat.add_sub_cancel_left, Nat.mul_mod_left]
  · rintro ⟨le, z⟩
    obtain ⟨k, hk⟩ := Nat.dvd_of_mod_eq_zero z
    refine ⟨k, ?_, by rw [Nat.mul_comm]; omega⟩
    have : k ≤ (N - s - 1) / n := (Nat.le_div_iff_mul_le n0).mpr (by rw [Nat.mul_comm]; omega)
    omega
theorem Rise.few {hi : Nat} {l : List Nat} (h : Rise hi l) : l.length ≤ hi := by
  cases hi with
  | zero =>
    cases l with
    | nil => exact Nat.le_refl _
    | cons a l => exact absurd (h.lt a List.mem_cons_self) (Nat.not_lt_zero _)
  | succ b =>
    rcases asc_few (a := 0) (b := b) h.asc fun n hn => ⟨Nat.zero_le _, by have := h.lt n hn; omega⟩ with z | rfl
    · omega
    · exact Nat.zero_le _
theorem modB_max (es as : List Nat) : (((modB es as : Nat) : Int) - 1) ∈ ((0 : Int) :: (es ++ as).map fun n => ((n : Nat) : Int)) ∧ ∀ y ∈ ((0 : Int) :: (es ++ as).map fun n => ((n : Nat) : Int)), y ≤ ((modB es as : Nat) : Int) - 1 := by
  have z := ups_max (es ++ as)
  unfold modB
  refine ⟨?_, fun y hy => ?_⟩
  · by_cases h : ups (es ++ as) ≤ 1
    · rw [Nat.max_eq_left h]
      exact List.mem_cons_self
    · rw [Nat.max_eq_right (by omega)]
      rcases List.mem_cons.mp z.1 with e | e
      · omega
      · exact List.mem_cons_of_mem _ e
  · have le : ups (es ++ as) ≤ max 1 (ups (es ++ as)) := Nat.le_max_right _ _
    have le1 : 1 ≤ max 1 (ups (es ++ as)) := Nat.le_max_left _ _
    rcases List.mem_cons.mp hy with rfl | hy
    · omega
    · have := z.2 y (List.mem_cons_of_mem _ hy)
      omega
theorem modB_le {es as : List Nat} {hi : Nat} (he : Rise hi es) (ha : Rise hi as) (h : 0 < hi) : modB es as ≤ hi := Nat.max_le.mpr ⟨h, ups_le fun n hn => by
  rcases List.mem_append.mp hn with z | z
  · exact he.lt n z
  · exact ha.lt n z⟩
end
end SwX
set_option Elab.async false
set_option linter.all false
set_option maxRecDepth 100000
set_option maxHeartbeats 4000000
/-! sets, plain: a law's least form -/
namespace SwX
open PySem PySem.Spec PyProof.Rows L2 Evl
section
variable {f : Nat → Bool} {b c h p : Nat}
theorem per_cong {x y : Nat} (e : EvP f p h) (hx : h ≤ x) (hy : h ≤ y) (z : x % p = y % p) : f x = f y := by
  rcases Nat.le_total x y with le | le
  · obtain ⟨k, hk⟩ := Nat.dvd_of_mod_eq_zero ((sub_mod0 le).mpr z)
    have := e.mul k x hx
    rw [← this]
    congr 1
    rw [Nat.mul_comm]
    omega
  · obtain ⟨k, hk⟩ := Nat.dvd_of_mod_eq_zero ((sub_mod0 le).mpr z.symm)
    have := e.mul k y hy
    rw [← this]
    congr 1
    rw [Nat.mul_comm]
    omega
/-- an index counted from b, by remainders -/
theorem idx_cong {a : Int} {m : Nat} (p0 : 0 < p) (ha : a % (p : Nat) = (m : Nat) % (p : Nat)) : ((a - (b : Nat)) % (p : Nat)).toNat < p ∧ (b + ((a - (b : Nat)) % (p : Nat)).toNat) % p = m % p ∧ (((a - (b : Nat)) % (p : Nat)).toNat : Int) = (a - (b : Nat)) % (p : Nat) := by
  have n0 := Int.emod_nonneg (a - (b : Nat)) (show ((p : Nat) : Int) ≠ 0 by omega)
  have n1 := Int.emod_lt_of_pos (a - (b : Nat)) (show (0 : Int) < (p : Nat) by omega)
  have e := Int.toNat_of_nonneg n0
  refine ⟨by omega, ?_, e⟩
  have z : (((b + ((a - (b : Nat)) % (p : Nat)).toNat) % p : Nat) : Int) = ((m % p : Nat) : Int) := by
    rw [Int.natCast_emod, Int.natCast_emod, Int.natCast_add, e, ← ha, Int.add_comm, Int.emod_add_emod]
    congr 1
    omega
  exact_mod_cast z
def cycL (f : Nat → Bool) (b c : Nat) : List Bool := (List.range c).map fun i => f (b + i)
def sizeB (f : Nat → Bool) (b c s : Nat) : Bool := decide (c % s = 0) && decide ((cycL f b c).drop s = (cycL f b c).take (c - s))
def lsz (f : Nat → Bool) (b c : Nat) : List Nat := ((List.range c).map (· + 1)).filter (sizeB f b c)
theorem drop_take {s : Nat} (hs : s ≤ c) : (cycL f b c).drop s = (cycL f b c).take (c - s) ↔ ∀ i, i < c - s → f (b + (s + i)) = f (b + i) := by
  unfold cycL
  constructor
  · intro h i hi
    have e := congrArg (fun l => l[i]?) h
    simp only [List.getElem?_drop, List.getElem?_take_of_lt hi, List.getElem?_map, List.getElem?_range (show s + i < c by omega), List.getElem?_range (show i < c by omega), Option.map_some] at e
    exact Option.some.inj e
  · intro h
    refine List.ext_getElem? fun i => ?_
    by_cases hi : i < c - s
    · rw [List.getElem?_drop, List.getElem?_take_of_lt hi, List.getElem?_map, List.getElem?_map, List.getElem?_range (by omega), List.getElem?_range (by omega)]
      exact congrArg some (h i hi)
    · rw [List.getElem?_eq_none (by simp; omega), List.getElem?_eq_none (by simp; omega)]
theorem sizeB_iff {s : Nat} (c0 : 0 < c) (e : EvP f c b) (s0 : 0 < s) (hs : s ≤ c) : sizeB f b c s = true ↔ c % s = 0 ∧ EvP f s b := by
  unfold sizeB
  rw [Bool.and_eq_true, decide_eq_true_eq, decide_eq_true_eq, drop_take hs]
  constructor
  · rintro ⟨d, h⟩
    refine ⟨d, ?_⟩
    have chain : ∀ k i, i + k * s < c → f (b + (i + k * s)) = f (b + i) := fun k => by
      induction k with
      | zero => intro i _; simp
      | succ k ih =>
        intro i hi
        have hk : i + (k + 1) * s = s + (i + k * s) := by rw [Nat.succ_mul]; omega
        rw [hk] at hi ⊢
        rw [h (i + k * s) (by omega)]
        exact ih i (by omega)
    -- the remainder tells
    have base : ∀ j, j < c → f (b + j) = f (b + j % s) := fun j hj => by
      have z := chain (j / s) (j % s) (by rw [Nat.mul_comm, Nat.mod_add_div]; exact hj)
      rwa [Nat.mul_comm, Nat.mod_add_div] at z
    intro n hn
    obtain ⟨i, rfl⟩ := Nat.exists_eq_add_of_le hn
    have r1 := e.mod (i := i) (Nat.le_refl b)
    have r2 := e.mod (i := i + s) (Nat.le_refl b)
    rw [Nat.add_assoc, ← r2, ← r1, base _ (Nat.mod_lt _ c0), base (i % c) (Nat.mod_lt _ c0)]
    congr 2
    rw [Nat.mod_mod_of_dvd _ (Nat.dvd_of_mod_eq_zero d), Nat.mod_mod_of_dvd _ (Nat.dvd_of_mod_eq_zero d), Nat.add_mod_right]
  · rintro ⟨d, h⟩
    refine ⟨d, fun i _ => ?_⟩
    rw [show b + (s + i) = b + i + s by omega]
    exact h _ (by omega)
/-- what Least tells of a set with the period c from b on -/
theorem Least.at_ (L : Least f h p) (c0 : 0 < c) (e : EvP f c b) : c % p = 0 ∧ p ≤ c ∧ h ≤ b ∧ EvP f p b := by
  obtain ⟨q, q0, qd, qc, qe, qm⟩ := least_div c0 e
  have ep : p = q := Nat.le_antisymm (L.minp q b q0 qe) (qm p h L.pos L.per)
  subst ep
  exact ⟨qd, qc, L.minh b qe, qe⟩
theorem lsz_head (L : Least f h p) (c0 : 0 < c) (e : EvP f c b) : ∃ l, lsz f b c = p :: l := by
  obtain ⟨d, pc, hb, pe⟩ := L.at_ c0 e
  have m : p ∈ lsz f b c := List.mem_filter.mpr ⟨List.mem_map.mpr ⟨p - 1, List.mem_range.mpr (by have := L.pos; omega), by have := L.pos; omega⟩, (sizeB_iff c0 e L.pos pc).mpr ⟨d, pe⟩⟩
  have asc : (lsz f b c).Pairwise (· < ·) := List.Pairwise.filter _ (List.pairwise_map.mpr (List.pairwise_lt_range.imp fun h => by omega))
  have all : ∀ q ∈ lsz f b c, p ≤ q := fun q hq => by
    obtain ⟨m1, m2⟩ := List.mem_filter.mp hq
    obtain ⟨j, hj, rfl⟩ := List.mem_map.mp m1
    have := List.mem_range.mp hj
    exact L.minp _ b (Nat.succ_pos j) ((sizeB_iff c0 e (Nat.succ_pos j) (by omega)).mp m2).2
  cases z : lsz f b c with
  | nil => rw [z] at m; cases m
  | cons a l =>
    rw [z] at m asc all
    have le := all a List.mem_cons_self
    rcases List.mem_cons.mp m with rfl | hm
    · exact ⟨l, rfl⟩
    · have := (List.pairwise_cons.mp asc).1 p hm
      omega
end
section
variable {K : PySem.W.Frag} {H : Hp} {σ : L2.St} {te : TE} {D : Ends} {tz : TS}
theorem q_asgNT {t : Addr} {x y : V} {i j : Nat} (h : Ev te σ H (.ref t)) (ht : SqT K H t [x, y]) (k : ∀ H1, Ex H H1 → tz D ((σ.set i (some x)).set j (some y)) H1) : tSeq (tAsg te (gTup K 2 (gCons (gName i) (gCons (gName j) gNil)))) tz D σ H :=
  h H (Ex.refl H) _ fun H1 e1 => ⟨t, _, rfl, ex_t e1 ht, rfl, x, [y], rfl, y, [], rfl, rfl, k H1 e1⟩
theorem da_bools (f : Nat → Bool) : ∀ l : List Nat, Paired (fun d v => Da K H v d) (l.map fun i => PyData.bool (f i)) (l.map fun i => V.bl (f i))
  | [] => .nil
  | n :: r => .cons (.bl _) (da_bools f r)
theorem da_bl : ∀ l : List Bool, Paired (fun d v => Da K H v d) (l.map PyData.bool) (l.map V.bl)
  | [] => .nil
  | n :: r => .cons (.bl _) (da_bl r)
theorem atm_bl (b : Bool) : Atm (.bool b) := ⟨rfl, Nat.le_refl _, rfl⟩
theorem eqvAll_bl : ∀ l m : List Bool, PyData.eqvAll (l.map PyData.bool) (m.map PyData.bool) = decide (l = m)
  | [], [] => by simp [PyData.eqvAll]
  | [], b :: m => by simp [PyData.eqvAll]
  | a :: l, [] => by simp [PyData.eqvAll]
  | a :: l, b :: m => by
    have e : PyData.eqv (.bool a) (.bool b) = decide (a = b) := by cases a <;> cases b <;> simp [PyData.eqv]
    simp only [List.map_cons, PyData.eqvAll, e, eqvAll_bl l m]
    rw [Bool.eq_iff_iff]
    simp
theorem cycV (f : Nat → Bool) (b c : Nat) : ((List.range c).map fun i => V.bl (f (b + i))) = (cycL f b c).map V.bl := by
  unfold cycL
  rw [List.map_map] <;> rfl
theorem get_bl {f : Nat → Bool} {n i : Nat} (h : i < n) : ((List.range n).map fun i => V.bl (f i))[i]? = some (.bl (f i)) := by rw [List.getElem?_map, List.getElem?_range h] <;> rfl
end
def spLeast : Sp := fun vs H Q _ => ∃ (v : V) (f : Nat → Bool) (b c h p : Nat), vs = [v] ∧ ModAt f b c v H ∧ b ≤ 4000 ∧ 0 < c ∧ c ≤ 4000 ∧ EvP f c b ∧ Least f h p ∧ ∀ v' H', Ex H H' → ModAt f h p v' H' → Q v' H'
end SwX
set_option Elab.async false
set_option linter.all false
set_option maxRecDepth 100000
set_option maxHeartbeats 4000000
/-! sets: what is due, what is shown -/
namespace SwX
open PySem PySem.Spec PyProof.Rows L2 Evl
/-! ### plain -/
def eM (f : Nat → Bool) (h : Nat) : List Nat := (List.range h).filter f
def lM (f : Nat → Bool) (h p : Nat) : List Nat := ((List.range p).filter fun i => f (h + i)).map fun i => h + i
def textF (f : Nat → Bool) (h p : Nat) : List Nat := textS (eM f h) (lM f h p) p
def wWord : List Nat := [87, 101, 105, 103, 104, 116, 115, 32]
def firstF (f : Nat → Bool) (h p : Nat) : Option Nat := (eM f h ++ lM f h p).head?
def dueF (f : Nat → Bool) (h p : Nat) : List PyData := [.int (h : Nat), .int (p : Nat), .str (SX.S (textF f h p)), .str (SX.S (wWord ++ textF f h p)), .bool (decide (lM f h p = [])), od ((firstF f h p).map fun n => ((n : Nat) : Int)), .bool (firstF f h p).isSome]
section
variable {f : Nat → Bool} {r : Rw} {h p : Nat}
theorem Flat.some_ (F : Flat f r) (w : Nat) : (r.at w).isSome = f w := by
  rw [F.at_]
  unfold zo
  cases f w <;> rfl
theorem Flat.early (F : Flat f r) (h : Nat) : memL r 0 h = eM f h := by
  unfold memL eM
  have e : (fun i => (r.at (0 + i)).isSome) = f := funext fun i => by rw [F.some_, Nat.zero_add]
  rw [e]
  simp
theorem Flat.late (F : Flat f r) (h p : Nat) : memL r h (h + p) = lM f h p := by
  unfold memL lM
  have e : (fun i => (r.at (h + i)).isSome) = fun i => f (h + i) := funext fun i => F.some_ _
  rw [e, Nat.add_sub_cancel_left]
theorem Flat.text (F : Flat f r) : textR r = textF f r.h r.c := by
  unfold textR textF
  rw [F.early, F.late]
theorem members_all (f : Nat → Bool) (h p : Nat) : (List.range (h + p)).filter f = eM f h ++ lM f h p := by
  unfold eM lM
  rw [List.range_add, List.filter_append, List.filter_map] <;> rfl
theorem Flat.first (F : Flat f r) : onw r 0 = firstF f r.h r.c := by
  unfold onw firstF
  rw [← members_all, List.head?_filter]
  have e : (fun i => (r.at i).isSome) = f := funext fun i => F.some_ _
  have e2 : ((List.range (max 0 r.h + r.c - 0)).map fun i => 0 + i) = List.range (r.h + r.c) := by
    rw [Nat.zero_max, Nat.sub_zero]
    simp
  rw [e, e2]
def shownD (r : Rw) : List PyData := [.int (r.h : Nat), .int (r.c : Nat), .str (SX.S (textR r)), .str (SX.S (reprS r)), .bool (isFin r), od (onI r 0), .bool (onw r 0).isSome]
theorem Flat.shown (F : Flat f r) : shownD r = dueF f r.h r.c := by
  unfold shownD dueF reprS isFin onI
  rw [F.text, F.first, F.late] <;> rfl
theorem textF_ok (le : h + p ≤ 1000) : (textF f h p).length ≤ 12000 ∧ ∀ c ∈ textF f h p, c < 1000 := by
  have se : ∀ n ∈ eM f h, n ≤ 9999 := fun n hn => by have := List.mem_range.mp (List.mem_filter.mp hn).1; omega
  have sl : ∀ n ∈ lM f h p, n ≤ 9999 := fun n hn => by
    obtain ⟨i, hi, rfl⟩ := List.mem_map.mp hn
    have := List.mem_range.mp (List.mem_filter.mp hi).1
    omega
  have ok := words_ok (p := p) se sl (by omega)
  have l1 : (eM f h).length ≤ h := Nat.le_trans (List.length_filter_le _ _) (by simp)
  have l2 : (lM f h p).length ≤ p := by unfold lM; rw [List.length_map]; exact Nat.le_trans (List.length_filter_le _ _) (by simp)
  have wl := words_len (eM f h) (lM f h p) p
  unfold textF textS
  split
  · exact ⟨by decide, by decide⟩
  · constructor
    · have := joinL_small (B := 10) (sep := [32]) fun x hx => (ok x hx).1
      have m : (10 + ([32] : List Nat).length) * (wordsS (eM f h) (lM f h p) p).length ≤ (10 + 1) * 1003 := Nat.mul_le_mul_left _ (by omega)
      omega
    · have key : ∀ l : List (List Nat), (∀ x ∈ l, ∀ c ∈ x, c < 1000) → ∀ c ∈ TL.joinL [32] l, c < 1000 := fun l => by
        induction l with
        | nil => intro _ c hc; cases hc
        | cons x l ih =>
          intro hl c hc
          cases l with
          | nil => exact hl x List.mem_cons_self c hc
          | cons y l =>
            have hc' : c ∈ x ++ ([32] ++ TL.joinL [32] (y :: l)) := hc
            rcases List.mem_append.mp hc' with z | z
            · exact hl x List.mem_cons_self c z
            · rcases List.mem_append.mp z with z | z
              · rw [List.mem_singleton.mp z]
                decide
              · exact ih (fun x hx => hl x (List.mem_cons_of_mem _ hx)) c z
      exact key _ fun x hx => (ok x hx).2
theorem lv_str {x : List Nat} (h : ∀ c ∈ x, c < 1000) : (PyData.str (SX.S x)).leavesShort 100 = true := by
  show ((SX.S x).cps.toList.all fun c => decide (c < 16 ^ 8)) = true
  rw [List.all_eq_true]
  exact fun c hc => decide_eq_true (Nat.lt_of_lt_of_le (h c hc) (by decide))
theorem firstF_lt {n : Nat} (h' : firstF f h p = some n) : n < h + p := by
  unfold firstF at h'
  rw [← members_all, List.head?_filter] at h'
  exact List.mem_range.mp (List.mem_of_find?_eq_some h')
theorem good_nat {n : Nat} (l : n ≤ 100000) : Good (.int (n : Nat)) 0 137 := good_int (i := (n : Int)) (by rw [Int.natAbs_natCast]; exact Nat.lt_of_le_of_lt l (by decide))
theorem good_first (le : h + p ≤ 1000) : Good (od ((firstF f h p).map fun n => ((n : Nat) : Int))) 0 137 := by
  cases e : firstF f h p with
  | none => exact ⟨rfl, Nat.le_refl _, rfl, Nat.zero_le _⟩
  | some n =>
    have := firstF_lt e
    exact good_nat (by omega)
theorem good_due (le : h + p ≤ 1000) : Good (.list (dueF f h p)) 2 30000 := by
  obtain ⟨tl, tc⟩ := textF_ok (f := f) le
  have g1 := good_nat (n := h) (by omega)
  have g2 := good_nat (n := p) (by omega)
  have g3 := good_first (f := f) le
  have wc : ∀ c ∈ wWord ++ textF f h p, c < 1000 := fun c hc => by
    rcases List.mem_append.mp hc with z | z
    · have : ∀ c ∈ wWord, c < 1000 := by decide
      exact this c z
    · exact tc c z
  have s1 : (PyData.str (SX.S (textF f h p))).weight ≤ 12000 := by
    show (SX.S (textF f h p)).cps.size ≤ 12000
    have := SX.S_len (textF f h p)
    exact Nat.le_trans (Nat.le_of_eq this) tl
  have s2 : (PyData.str (SX.S (wWord ++ textF f h p))).weight ≤ 12008 := by
    show (SX.S (wWord ++ textF f h p)).cps.size ≤ 12008
    have := SX.S_len (wWord ++ textF f h p)
    refine Nat.le_trans (Nat.le_of_eq this) ?_
    rw [List.length_append]
    have : wWord.length = 8 := rfl
    omega
  unfold dueF
  refine ⟨?_, ?_, ?_, ?_⟩
  · show PyData.showableAll _ = true
    have st : ∀ x : Str, (PyData.str x).showable = true := fun _ => rfl
    have bt : ∀ x : Bool, (PyData.bool x).showable = true := fun _ => rfl
    simp only [PyData.showableAll]
    rw [g1.sh, g2.sh, g3.sh, st, st, bt, bt] <;> rfl
  · have d1 := g1.dp
    have d2 := g2.dp
    have d3 := g3.dp
    simp only [PyData.depth, PyData.depthAll] at *
    omega
  · simp only [PyData.leavesShort, PyData.leavesShortAll] at *
    have l1 := g1.lv
    have l2 := g2.lv
    have l3 := g3.lv
    have l4 := lv_str tc
    have l5 := lv_str wc
    simp only [PyData.leavesShort] at l1 l2 l4 l5
    rw [l1, l2, l3, l4, l5] <;> rfl
  · have w1 := g1.wt
    have w2 := g2.wt
    have w3 := g3.wt
    have wb : ∀ b : Bool, (PyData.bool b).weight = 0 := fun _ => by simp only [PyData.weight]
    show PyData.weightAll _ ≤ 30000
    have b1 := wb (decide (lM f h p = []))
    have b2 := wb (firstF f h p).isSome
    simp only [PyData.weightAll]
    omega
end
/-! ### the class, as laws use it -/
structure SetO (P : Program) (w : World) (K : PySem.W.Frag) (mg : Str → Option Value) (base : Heap) (Cw Cr : Addr) : Prop where
  c : SetC K Cw Cr
  str : ∃ f fd, FnOk P w K mg base CX0 4 f fd ["self"] (spSetN K Cw Cr fun r => .str (SX.S (textR r))) ∧ Spc K Cw "__str__" f ∧ Binds K fd ["self"] []
  rep : ∃ f fd, FnOk P w K mg base CX0 4 f fd ["self"] (spSetN K Cw Cr fun r => .str (SX.S (reprS r))) ∧ Spc K Cw "__repr__" f ∧ Binds K fd ["self"] []
  tru : ∃ f fd, FnOk P w K mg base CX0 6 f fd ["self"] (spSetN K Cw Cr fun r => .bl (onw r 0).isSome) ∧ Spc K Cw "__bool__" f ∧ Binds K fd ["self"] []
  eq : ∃ f fd, FnOk P w K mg base CX0 2 f fd ["self", "other"] (spSetEq K Cw Cr) ∧ Spc K Cw "__eq__" f ∧ Binds K fd ["self", "other"] [] ∧ eqOnly K Cw f = true
section
variable {X : Cx} {Cw Cr : Addr} (K : PySem.W.Frag) (O : SetO X.prog X.w X.K X.mg X.base Cw Cr) (hr : Room 8 X.A) (h : X.K = K := by rfl)
include O hr h
theorem setStr : CallR X (.type "str") (rStrOwn Cw (spSetN K Cw Cr fun r => .str (SX.S (textR r))) E0) := by
  subst h
  obtain ⟨f, fd, F, s, b⟩ := O.str
  exact call_strOwn F s b pass0 ((hr.mono (show 6 ≤ 8 by decide)).in1.in1)
theorem setRepr : CallR X (.builtin "repr") (rReprOwn Cw (spSetN K Cw Cr fun r => .str (SX.S (reprS r)))) := by
  subst h
  obtain ⟨f, fd, F, s, b⟩ := O.rep
  exact call_reprOwn F s b ((hr.mono (show 5 ≤ 8 by decide)).in1)
theorem setBool : CallR X (.type "bool") (rBoolOwn Cw (spSetN K Cw Cr fun r => .bl (onw r 0).isSome) E0) := by
  subst h
  obtain ⟨f, fd, F, s, b⟩ := O.tru
  exact call_boolOwn F s b pass0 (hr.in1.in1)
theorem setEq : OpR X (compareOp .Eq) (rOwnB Cw (spSetEq K Cw Cr) E0 id) := by
  subst h
  obtain ⟨f, fd, F, s, b, _⟩ := O.eq
  exact op_eqOwn F s b pass0 (hr.mono (by decide))
theorem setNe : OpR X (compareOp .NotEq) (rOwnB Cw (spSetEq K Cw Cr) E0 not) := by
  subst h
  obtain ⟨f, fd, F, s, b, e⟩ := O.eq
  exact op_neOwn F e b pass0 ((hr.mono (show 3 ≤ 8 by decide)).in1)
end
section
variable {K : PySem.W.Frag} {Cw Cr : Addr} {H : Hp} {σ : L2.St} {te ta tb : TE} {v u : V} {r s : Rw} {B B' : Int}
theorem ev_setStr (h : Ev te σ H v) (hv : SetAt K Cw Cr r v H) (ok : RwOk B r) (le : r.h + r.c ≤ 1000) : Ev (tCB (rStrOwn Cw (spSetN K Cw Cr fun r => .str (SX.S (textR r))) E0) (tCons te tNil)) σ H (.str (SX.S (textR r))) := fun H1 e1 Q q => h H1 e1 _ fun H2 e2 => by
  have h2 := hv.mono (e1.trans e2)
  obtain ⟨a, rfl, i⟩ := h2.is
  exact ⟨a, rfl, i, .ref a, r, B, rfl, h2, ok, le, fun H3 e3 => ⟨_, rfl, q H3 (e2.trans e3)⟩⟩
theorem ev_setRepr (h : Ev te σ H v) (hv : SetAt K Cw Cr r v H) (ok : RwOk B r) (le : r.h + r.c ≤ 1000) : Ev (tCB (rReprOwn Cw (spSetN K Cw Cr fun r => .str (SX.S (reprS r)))) (tCons te tNil)) σ H (.str (SX.S (reprS r))) := fun H1 e1 Q q => h H1 e1 _ fun H2 e2 => by
  have h2 := hv.mono (e1.trans e2)
  obtain ⟨a, rfl, i⟩ := h2.is
  exact ⟨a, rfl, i, .ref a, r, B, rfl, h2, ok, le, fun H3 e3 => ⟨_, rfl, q H3 (e2.trans e3)⟩⟩
theorem ev_setBool (h : Ev te σ H v) (hv : SetAt K Cw Cr r v H) (ok : RwOk B r) (le : r.h + r.c ≤ 1000) : Ev (tCB (rBoolOwn Cw (spSetN K Cw Cr fun r => .bl (onw r 0).isSome) E0) (tCons te tNil)) σ H (.bl (onw r 0).isSome) := fun H1 e1 Q q => h H1 e1 _ fun H2 e2 => by
  have h2 := hv.mono (e1.trans e2)
  obtain ⟨a, rfl, i⟩ := h2.is
  exact ⟨a, rfl, i, .ref a, r, B, rfl, h2, ok, le, fun H3 e3 => ⟨_, rfl, q H3 (e2.trans e3)⟩⟩
theorem ev_setEq {g : Bool → Bool} (h1 : Ev ta σ H v) (h2 : Ev tb σ H u) (hv : SetAt K Cw Cr r v H) (hu : SetAt K Cw Cr s u H) (ok : RwOk B r) (ok' : RwOk B s) : Ev (tOp (rOwnB Cw (spSetEq K Cw Cr) E0 g) ta tb) σ H (.bl (g (decide (r = s)))) := fun H1 e1 Q q => h1 H1 e1 _ fun H2 e2 => h2 H2 (e1.trans e2) _ fun H3 e3 => by
  have v3 := hv.mono ((e1.trans e2).trans e3)
  have u3 := hu.mono ((e1.trans e2).trans e3)
  obtain ⟨a, rfl, i⟩ := v3.is
  obtain ⟨b, rfl, j⟩ := u3.is
  exact ⟨a, b, rfl, rfl, i, j, .ref a, .ref b, r, s, B, rfl, v3, u3, ok, ok', fun H4 e4 => ⟨_, rfl, q H4 ((e2.trans e3).trans e4)⟩⟩
theorem yi_least {f : Nat → Bool} {b c h p : Nat} (hv : ModAt f b c v H) (hb : b ≤ 4000) (c0 : 0 < c) (hc : c ≤ 4000) (e : EvP f c b) (L : Least f h p) (h1 : Ev te σ H v) : Yi (tCall spLeast [] E0 (tCons te tNil)) σ H (ModAt f h p) := fun H1 e1 Q q =>
  h1 H1 e1 _ fun H2 e2 => ⟨v, f, b, c, h, p, rfl, hv.mono (e1.trans e2), hb, c0, hc, e, L, fun v' H' e' m => q v' H' (e2.trans e') m⟩
/-- a pair of lists taken apart -/
theorem q_asgYT {f : Nat → Bool} {h p i j : Nat} {tz : TS} {D : Ends} (y : Yi te σ H (ModAt f h p)) (k : ∀ d1 d2 H1, Ex H H1 → H1 d1 = some (.lst ((List.range h).map fun i => .bl (f i))) → H1 d2 = some (.lst ((List.range p).map fun i => .bl (f (h + i)))) → tz D ((σ.set i (some (.ref d1))).set j (some (.ref d2))) H1) : tSeq (tAsg te (gTup K 2 (gCons (gName i) (gCons (gName j) gNil)))) tz D σ H :=
  y H (Ex.refl H) _ fun v H1 e1 z => by
    obtain ⟨t, d1, d2, rfl, h0, h1, h2⟩ := z
    exact ⟨t, _, rfl, .inl (.inl h0), rfl, _, _, rfl, _, _, rfl, rfl, k d1 d2 H1 e1 h1 h2⟩
theorem any_true (f : Nat → Bool) (h p : Nat) : (((List.range p).map fun i => PyData.bool (f (h + i))).any fun z => PyData.eqv z (.bool true)) = !decide (lM f h p = []) := by
  rw [Bool.eq_iff_iff, List.any_eq_true, Bool.not_eq_true', decide_eq_false_iff_not]
  constructor
  · rintro ⟨z, hz, e⟩
    obtain ⟨i, hi, rfl⟩ := List.mem_map.mp hz
    have fi : f (h + i) = true := by
      cases x : f (h + i) with
      | true => rfl
      | false => rw [x] at e; simp [PyData.eqv] at e
    exact List.ne_nil_of_mem (List.mem_map.mpr ⟨i, List.mem_filter.mpr ⟨hi, fi⟩, rfl⟩)
  · intro ne
    obtain ⟨n, hn⟩ := List.exists_mem_of_ne_nil _ ne
    obtain ⟨i, hi, rfl⟩ := List.mem_map.mp hn
    obtain ⟨h1, h2⟩ := List.mem_filter.mp hi
    exact ⟨_, List.mem_map.mpr ⟨i, h1, rfl⟩, by rw [h2]; simp [PyData.eqv]⟩
theorem eM_lt {f : Nat → Bool} {h n : Nat} (hn : n ∈ eM f h) : n < h := List.mem_range.mp (List.mem_filter.mp hn).1
theorem lM_lt {f : Nat → Bool} {h p n : Nat} (hn : n ∈ lM f h p) : h ≤ n ∧ n < h + p := by
  obtain ⟨i, hi, rfl⟩ := List.mem_map.mp hn
  have := List.mem_range.mp (List.mem_filter.mp hi).1
  omega
theorem eM_len (f : Nat → Bool) (h : Nat) : (eM f h).length ≤ h := Nat.le_trans (List.length_filter_le _ _) (by simp)
theorem lM_len (f : Nat → Bool) (h p : Nat) : (lM f h p).length ≤ p := by
  unfold lM
  rw [List.length_map]
  exact Nat.le_trans (List.length_filter_le _ _) (by simp)
/-- " ".join(words) if words != [] else "none" -/
theorem ev_words {te te' : TE} {ws : List (List Nat)} {es as : List Nat} {p : Nat} {D : Addr} (h1 : Ev te σ H (.ref D)) (h2 : Ev te' σ H (.ref D)) (hD : H D = some (.lst (ws.map fun x => .str (SX.S x)))) (ew : wordsS es as p = ws) (wl : ∀ x ∈ ws, WordOk x) (wn : ws.length ≤ 3000) :
    Ev (tIf (tTest (tOp (fun x y H Q => rNe x y H Q ∨ rEqDat K not x y H Q) te (tLst tNil))) (tM1 (rJoin K) (tC (.str (SX.S [32]))) te') (tC (.str (SX.S noneL)))) σ H (.str (SX.S (textS es as p))) := by
  refine ev_if (b := !decide (ws = [])) (et_B (ev_opL h1 (el_lst ea_nil (by simp)) fun u H5 hu e5 => rv_neDat (d := .list (ws.map fun x => .str (SX.S x))) (e := .list []) (da_list (e5 _ _ hD) (da_strs ws)) (da_list hu .nil) (pl_atmL fun x hx => atm_word (wl x hx)) ⟨rfl, by decide⟩ (by rw [eqv_nilL, Bool.eq_iff_iff, decide_eq_true_eq, decide_eq_true_eq, List.map_eq_nil_iff]))) (fun z => ?_) fun z => ?_
  · have e : textS es as p = TL.joinL [32] ws := by unfold textS; rw [ew, if_neg (by simpa using z)]
    rw [e]
    exact ev_joinW (B := 10) ev_c h2 (.inl (sq_of (by rw [hD, List.map_map] <;> rfl))) (fun x hx => (wl x hx).1) ⟨by decide, by omega, by decide⟩
  · have e : textS es as p = noneL := by unfold textS; rw [ew, if_pos (by simpa using z)]
    rw [e]
    exact ev_c
theorem el_addV {p : Addr} {xs ys : List V} (h1 : Ev ta σ H (.ref p)) (hp : H p = some (.lst xs)) (h2 : EvL tb σ H ys) (l : xs.length + ys.length ≤ 100000) : EvL (tOp (rAddX K) ta tb) σ H (xs ++ ys) := fun H1 e1 Q q =>
  h1 H1 e1 _ fun H2 e2 => h2 H2 (e1.trans e2) _ fun p' H3 _ e3 hp' => .inr (.inl ⟨p, p', xs, ys, rfl, rfl, e3 _ _ (e2 _ _ (e1 _ _ hp)), hp', sz_of l, fun c hc => q c _ (fresh_back (e2.trans e3) hc) ((e2.trans e3).trans (Ex.new hc)) upd_same⟩)
end
end SwX
set_option Elab.async false
set_option linter.all false
set_option maxRecDepth 100000
set_option maxHeartbeats 4000000
/-! sets: lists that draw; a set written otherwise; the form of what is made -/
namespace SwX
open PySem PySem.Spec PyProof.Rows L2 Evl
section
variable {K : PySem.W.Frag} {σ : L2.St} {G H : Hp} {a : Addr} {te ta tb tl : TE} {v : V} {P : V → Prop} {R R' : List V → Prop} {D : Ends} {tz : TS} {t : TT} {xs : List V} {w : World}
/-- a new list; it may draw -/
def DrLs (a : Addr) (te : TE) (σ : L2.St) (G : Hp) (R : List V → Prop) : Prop := ∀ H1, Ex G H1 → Pur H1 a → ∀ Q : VK, (∀ l zs H2, R zs → H2 l = some (.lst zs) → l ≠ a → Ex G H2 → Pur H2 a → Q (.ref l) H2) → te σ H1 Q
theorem drs_ev (h : EvL te σ G xs) (r : R xs) : DrLs a te σ G R := fun H1 e p Q q => h H1 e _ fun l H2 hl e2 h2 => q l xs H2 r h2 (p.ne hl) (e.trans e2) (p.keep e2)
theorem drs_if {B : Bool → Prop} (h : DrT a t σ G B) (h1 : B true → DrLs a ta σ G R) (h2 : B false → DrLs a tb σ G R) : DrLs a (tIf t ta tb) σ G R := fun H1 e p Q q => h H1 e p _ fun b H2 r e2 p2 => by
  cases b with
  | true =>
    show ta σ H2 Q
    exact h1 r H2 e2 p2 Q q
  | false =>
    show tb σ H2 Q
    exact h2 r H2 e2 p2 Q q
theorem drs_cat {M : Addr} (hx : Ev ta σ G (.ref M)) (hM : G M = some (.lst xs)) (h : DrLs a tb σ G R) (l : ∀ ys, R ys → xs.length + ys.length ≤ 100000 ∧ R' (xs ++ ys)) : DrLs a (tOp (rAddX K) ta tb) σ G R' := fun H1 e p Q q =>
  hx H1 e _ fun H2 e2 => h H2 (e.trans e2) (p.keep e2) _ fun l' ys H3 r h3 _ e3 p3 => .inr (.inl ⟨M, l', xs, ys, rfl, rfl, e3 _ _ hM, h3, sz_of (l ys r).1, fun c hc => q c _ _ (l ys r).2 upd_same (p3.ne hc) (e3.trans (Ex.new hc)) (pur_new p3 hc)⟩)
theorem q_asgDrs {i : Nat} (h : DrLs a te σ G R) (e : Ex G H) (p : Pur H a) (k : ∀ l zs H1, R zs → H1 l = some (.lst zs) → l ≠ a → Ex G H1 → Pur H1 a → tz D (σ.set i (some (.ref l))) H1) : tSeq (tAsg te (gName i)) tz D σ H := h H e p _ k
theorem dt_or {u : TT} {B B1 B2 : Bool → Prop} (h1 : DrT a t σ G B1) (h2 : B1 false → DrT a u σ G B2) (f : B1 true → B true) (g : ∀ b, B1 false → B2 b → B b) : DrT a (tOr t u) σ G B := fun H1 e p Q q => h1 H1 e p _ fun b H2 r e2 p2 => by
  cases b with
  | false =>
    show u σ H2 Q
    exact h2 r H2 e2 p2 Q fun b H3 r' e3 p3 => q b H3 (g b r r') e3 p3
  | true =>
    show Q true H2
    exact q true H2 (f r) e2 p2
/-- [te for x in a tuple], te draws -/
theorem drs_lcT {j : Nat} {vs : List Nat} {s : Addr} (n : G a = none) (h0 : Ev tl σ G (.ref s)) (hx : SqT K G s xs) (hm : xs.length ≤ 1000) (hw : ∀ x, wipe ((wipe σ vs).set j (some x)) vs = wipe σ vs)
    (he : ∀ x G', G' a = none → Ex G G' → x ∈ xs → Dr a te ((wipe σ vs).set j (some x)) G' P) : DrLs a (tLc (iTup K tl) (gName j) tYes te vs) σ G fun zs => zs.length = xs.length ∧ ∀ z ∈ zs, P z := fun H1 e1 p1 Q q =>
  h0 H1 e1 _ fun H2 e2 => ⟨s, rfl, ⟨xs, ex_t (e1.trans e2) hx⟩, fun D' hD => by
    have p2 := p1.keep e2
    have ne := p2.ne hD
    refine lc_tup (xs := xs) (fun i H' => ∃ acc, H' D' = some (.lst acc) ∧ acc.length = i ∧ (∀ x ∈ acc, P x) ∧ Ex G H' ∧ Pur H' a) ⟨[], upd_same, rfl, (fun _ h => nomatch h), (e1.trans e2).trans (Ex.new hD), pur_new p2 hD⟩ (fun i H' _ z => ?_) (fun i x H' hi z => ⟨hw _, ?_⟩) fun H' z => ?_
    · obtain ⟨acc, _, _, _, ea, _⟩ := z
      exact ex_t ea hx
    · obtain ⟨acc, ha, la, pa, ea, pu⟩ := z
      have lt : i < xs.length := (List.getElem?_eq_some_iff.mp hi).1
      show te ((wipe σ vs).set j (some x)) H' fun y H4 => ∃ acc, H4 D' = some (.lst acc) ∧ acc.length < sizeLine ∧ ∃ acc', upd H4 D' (.lst (acc ++ [y])) D' = some (.lst acc') ∧ acc'.length = i + 1 ∧ (∀ x ∈ acc', P x) ∧ Ex G (upd H4 D' (.lst (acc ++ [y]))) ∧ Pur (upd H4 D' (.lst (acc ++ [y]))) a
      refine he _ (less a H') less_at (ex_less n ea) (List.mem_of_getElem? hi) H' less_ex pu _ fun y H4 py e4 p4 => ?_
      refine ⟨acc, e4 _ _ (by rw [less_ne ne]; exact ha), sz_lt (by omega), _, upd_same, by simp [la], fun x hx => ?_, ?_, ?_⟩
      · rcases List.mem_append.mp hx with hx | hx
        · exact pa x hx
        · rw [List.mem_singleton.mp hx]
          exact py
      · intro b o hb
        by_cases z : b = D'
        · subst z
          have := (e1.trans e2) _ _ hb
          rw [hD] at this
          cases this
        · rw [upd_ne z]
          exact e4 _ _ (by rw [less_ne (fun w => by rw [w, n] at hb; cases hb)]; exact ea _ _ hb)
      · obtain ⟨x, y', z, e, r⟩ := p4
        exact ⟨x, y', z, by rw [upd_ne (Ne.symm ne)]; exact e, r⟩
    · obtain ⟨acc, ha, la, pa, ea, pu⟩ := z
      exact q D' acc H' ⟨la, pa⟩ ha ne ea pu⟩
/-- tuple(sorted(set(a list))) -/
theorem yi_sortedV {M : Addr} {ms : List Nat} (hx : Ev te σ H (.ref M)) (hM : H M = some (.lst (ms.map natV))) (few : ms.length < 64) : Yi (tCB (rTupOf K) (tCons (tCB (rSortedSet w) (tCons (tCB (rSetOfL K w) (tCons te tNil)) tNil)) tNil)) σ H fun v H' => ∃ (q : Addr) (ns : List Nat), v = .ref q ∧ H' q = some (.tup (ns.map natV)) ∧ ns.Pairwise (· < ·) ∧ ∀ x, x ∈ ns ↔ x ∈ ms := fun H1 e1 Q k =>
  hx H1 e1 _ fun H2 e2 => by
    have hm := e2 _ _ (e1 _ _ hM)
    rw [natv_int] at hm
    refine ⟨M, _, rfl, sq_of hm, by rw [List.length_map]; omega, fun c n hc hn => ?_⟩
    rw [List.length_map] at hn
    refine ⟨c, _, n, rfl, upd_same, by omega, fun out q asc mem len hq => ?_⟩
    obtain ⟨ns, rfl⟩ := ints_nat (ns := out) fun n hn => by
      have := (mem n).mp hn
      simp only [decide_eq_true_eq, List.mem_map] at this
      obtain ⟨m, _, rfl⟩ := this
      omega
    refine ⟨q, _, rfl, .inl ⟨.inl (.inl upd_same), fun u hu => ?_⟩⟩
    refine k (.ref u) _ (((e2.trans (Ex.new hc)).trans (Ex.new hq)).trans (Ex.new hu)) ⟨u, ns, rfl, by rw [upd_same, List.map_map] <;> rfl, (List.pairwise_map.mp asc).imp fun h => by omega, fun x => ?_⟩
    have z := mem ((x : Nat) : Int)
    simp only [decide_eq_true_eq, List.mem_map] at z
    constructor
    · intro h
      obtain ⟨m, hm, e⟩ := z.mp ⟨x, h, rfl⟩
      obtain rfl : m = x := by omega
      exact hm
    · intro h
      obtain ⟨m, hm, e⟩ := z.mpr ⟨x, h, rfl⟩
      obtain rfl : m = x := by omega
      exact hm
theorem ys_YYE {t1 t2 t3 : TE} {F1 F2 : V → Hp → Prop} {x : V} (h1 : Yi t1 σ H F1) (h2 : Yi t2 σ H F2) (h3 : Ev t3 σ H x) (m1 : ∀ v H H', Ex H H' → F1 v H → F1 v H') (m2 : ∀ v H H', Ex H H' → F2 v H → F2 v H') : Ys (tCons t1 (tCons t2 (tCons t3 tNil))) σ H fun vs H' => ∃ v1 v2, vs = [v1, v2, x] ∧ F1 v1 H' ∧ F2 v2 H' := fun H6 e6 Q q =>
  h1 H6 e6 _ fun v1 H7 e7 f1 => h2 H7 (e6.trans e7) _ fun v2 H8 e8 f2 => h3 H8 ((e6.trans e7).trans e8) _ fun H9 e9 => q [v1, v2, x] H9 ((e7.trans e8).trans e9) ⟨v1, v2, rfl, m1 _ _ _ (e8.trans e9) f1, m2 _ _ _ e9 f2⟩
theorem ys_LLn {t1 t2 : TE} {xs ys : List V} (h1 : EvL t1 σ H xs) (h2 : EvL t2 σ H ys) (pu : Pur H a) : Ys (tCons t1 (tCons t2 tNil)) σ H fun vs H' => ∃ d1 d2 : Addr, vs = [.ref d1, .ref d2] ∧ d1 ≠ a ∧ d2 ≠ a ∧ H' d1 = some (.lst xs) ∧ H' d2 = some (.lst ys) := fun H6 e6 Q' q' =>
  h1 H6 e6 _ fun d1 H7 n7 e7 g1 => h2 H7 (e6.trans e7) _ fun d2 H8 n8 e8 g2 => q' [.ref d1, .ref d2] H8 (e7.trans e8) ⟨d1, d2, rfl, (pu.keep e6).ne n7, (pu.keep (e6.trans e7)).ne n8, e8 _ _ g1, g2⟩
theorem s_retLstY {ta : TA} {F : List V → Hp → Prop} (h : Ys ta σ H F) (m : ∀ l H H', Ex H H' → F l H → F l H') (n : ∀ l H, F l H → l.length ≤ 1000) (k : ∀ l u H1, Ex H H1 → F l H1 → H1 u = some (.lst l) → D.rt (.ref u) H1) : tRet (tLst ta) D σ H :=
  h H (Ex.refl H) _ fun l H1 e1 z => ⟨sz_of (Nat.le_trans (n l H1 z) (by decide)), fun u hu => k l u _ (e1.trans (Ex.new hu)) (m l _ _ (Ex.new hu) z) upd_same⟩
theorem bls_of : ∀ {zs : List V}, (∀ z ∈ zs, ∃ b, z = .bl b) → ∃ bs : List Bool, zs = bs.map V.bl
  | [], _ => ⟨[], rfl⟩
  | z :: zs, h => by
    obtain ⟨bs, e⟩ := bls_of (zs := zs) fun y hy => h y (List.mem_cons_of_mem _ hy)
    obtain ⟨b, rfl⟩ := h z List.mem_cons_self
    exact ⟨b :: bs, by rw [e] <;> rfl⟩
end
/-! ### plain: a set written otherwise -/
theorem inSet_iff {es as : List Nat} {n w : Nat} : inSet es as n w = true ↔ w ∈ es ∨ ∃ s ∈ as, s ≤ w ∧ (w - s) % n = 0 := by
  unfold inSet
  simp [List.any_eq_true]
/-- members and starts after i of the starts -/
structure Othr (es as : List Nat) (n m : Nat) (lt : List Bool) (ms ss : List Nat) (i : Nat) : Prop where
  m1 : ∀ x ∈ ms, x ∈ es ∨ x ∈ as
  m2 : ∀ x ∈ es, x ∈ ms
  m3 : ∀ j s, j < i → as[j]? = some s → lt[j]? = some true → s ∈ ms
  s1 : ∀ x, x ∈ ss ↔ ∃ j s b k, j < i ∧ as[j]? = some s ∧ lt[j]? = some b ∧ k < m ∧ x = s + (if b = true then n else 0) + k * n
  ml : ms.length ≤ es.length + i
  sl : ss.length = i * m
theorem Othr.init (es as : List Nat) (n m : Nat) (lt : List Bool) : Othr es as n m lt es [] 0 := ⟨fun x h => .inl h, fun x h => h, fun j s h => absurd h (Nat.not_lt_zero j), fun x => ⟨fun h => (nomatch h), fun ⟨j, s, b, k, h, _⟩ => absurd h (Nat.not_lt_zero j)⟩, Nat.le_refl _, by simp⟩
theorem Othr.step {es as : List Nat} {n m : Nat} {lt : List Bool} {ms ss ys : List Nat} {i s : Nat} {b : Bool} (h : Othr es as n m lt ms ss i) (hs : as[i]? = some s) (hb : lt[i]? = some b) (hy : ys = [s] ∨ ys = []) (bt : b = true → ys = [s]) :
    Othr es as n m lt (ms ++ ys) (ss ++ (List.range m).map fun k => s + (if b = true then n else 0) + k * n) (i + 1) := by
  refine ⟨fun x hx => ?_, fun x hx => List.mem_append_left _ (h.m2 x hx), fun j s' hj hs' hl => ?_, fun x => ?_, ?_, ?_⟩
  · rcases List.mem_append.mp hx with hx | hx
    · exact h.m1 x hx
    · rcases hy with rfl | rfl
      · rw [List.mem_singleton.mp hx]
        exact .inr (List.mem_of_getElem? hs)
      · cases hx
  · rcases Nat.lt_succ_iff_lt_or_eq.mp hj with lt | rfl
    · exact List.mem_append_left _ (h.m3 j s' lt hs' hl)
    · rw [hs] at hs'
      rw [hb] at hl
      obtain rfl := Option.some.inj hs'
      rw [bt (Option.some.inj hl)]
      simp
  · rw [List.mem_append, h.s1, List.mem_map]
    constructor
    · rintro (⟨j, s', b', k, hj, r⟩ | ⟨k, hk, rfl⟩)
      · exact ⟨j, s', b', k, by omega, r⟩
      · exact ⟨i, s, b, k, Nat.lt_succ_self i, hs, hb, List.mem_range.mp hk, rfl⟩
    · rintro ⟨j, s', b', k, hj, hs', hb', hk, rfl⟩
      rcases Nat.lt_succ_iff_lt_or_eq.mp hj with lt | rfl
      · exact .inl ⟨j, s', b', k, lt, hs', hb', hk, rfl⟩
      · rw [hs] at hs'
        rw [hb] at hb'
        obtain rfl := Option.some.inj hs'
        obtain rfl := Option.some.inj hb'
        exact .inr ⟨k, List.mem_range.mpr hk, rfl⟩
  · rw [List.length_append]
    have := h.ml
    rcases hy with rfl | rfl
    · simp only [List.length_cons, List.length_nil]
      omega
    · simp only [List.length_nil]
      omega
  · rw [List.length_append, h.sl, List.length_map, List.length_range, Nat.succ_mul]
theorem Othr.same {es as es' as' : List Nat} {n m : Nat} {lt : List Bool} {ms ss : List Nat} (h : Othr es as n m lt ms ss as.length) (ll : lt.length = as.length) (m0 : 0 < m) (em : ∀ x, x ∈ es' ↔ x ∈ ms) (ea : ∀ x, x ∈ as' ↔ x ∈ ss) (w : Nat) : inSet es' as' (m * n) w = inSet es as n w := by
  rw [Bool.eq_iff_iff, inSet_iff, inSet_iff]
  constructor
  · rintro (hw | ⟨s', hs', le, z⟩)
    · rcases h.m1 w ((em w).mp hw) with h1 | h1
      · exact .inl h1
      · exact .inr ⟨w, h1, Nat.le_refl w, by rw [Nat.sub_self, Nat.zero_mod]⟩
    · obtain ⟨j, s, b, k, hj, hs, hb, hk, rfl⟩ := (h.s1 s').mp ((ea s').mp hs')
      obtain ⟨q, hq⟩ := Nat.dvd_of_mod_eq_zero z
      refine .inr ⟨s, List.mem_of_getElem? hs, by omega, ?_⟩
      have e : w - s = ((if b = true then 1 else 0) + k + m * q) * n := by
        have e1 : m * n * q = m * q * n := by rw [Nat.mul_assoc, Nat.mul_comm n q, ← Nat.mul_assoc]
        rw [Nat.add_mul, Nat.add_mul]
        rw [e1] at hq
        cases b
        · simp only [Bool.false_eq_true, if_false] at hq le ⊢
          omega
        · simp only [if_true] at hq le ⊢
          omega
      rw [e, Nat.mul_mod_left]
  · rintro (hw | ⟨s, hs, le, z⟩)
    · exact .inl ((em w).mpr (h.m2 w hw))
    · obtain ⟨j, hs⟩ := List.getElem?_of_mem hs
      have jl : j < as.length := (List.getElem?_eq_some_iff.mp hs).1
      obtain ⟨b, hb⟩ : ∃ b, lt[j]? = some b := ⟨lt[j]'(by omega), List.getElem?_eq_getElem (by omega)⟩
      obtain ⟨q, hq⟩ := Nat.dvd_of_mod_eq_zero z
      have key : ∀ c q' : Nat, w - s = (c + q') * n → (c = if b = true then 1 else 0) → inSet es' as' (m * n) w = true := by
        intro c q' e hc
        have dm := Nat.div_add_mod q' m
        have lm := Nat.mod_lt q' m0
        have e2 : (c + q') * n = c * n + (m * (q' / m)) * n + (q' % m) * n := by rw [← Nat.add_mul, ← Nat.add_mul, Nat.add_assoc, dm]
        have ec : c * n = if b = true then n else 0 := by subst hc; cases b <;> simp
        refine inSet_iff.mpr (.inr ⟨s + (if b = true then n else 0) + (q' % m) * n, (ea _).mpr ((h.s1 _).mpr ⟨j, s, b, q' % m, jl, hs, hb, lm, rfl⟩), ?_, ?_⟩)
        · rw [← ec]
          omega
        · have : w - (s + (if b = true then n else 0) + q' % m * n) = m * n * (q' / m) := by
            rw [← ec, show m * n * (q' / m) = m * (q' / m) * n by rw [Nat.mul_assoc, Nat.mul_comm n, ← Nat.mul_assoc]]
            omega
          rw [this, Nat.mul_mod_right]
      cases b with
      | false => exact inSet_iff.mp (key 0 q (by rw [Nat.zero_add, hq, Nat.mul_comm]) rfl)
      | true =>
        cases q with
        | zero =>
          have : w = s := by omega
          subst this
          exact .inl ((em w).mpr (h.m3 j w jl hs hb))
        | succ q => exact inSet_iff.mp (key 1 q (by rw [hq, Nat.mul_comm, Nat.add_comm 1]) rfl)
/-! ### what is made is the least form -/
theorem inSet_per {es as : List Nat} {n : Nat} : EvP (inSet es as n) n (ups (es ++ as)) := fun w hw => by
  rw [Bool.eq_iff_iff, inSet_iff, inSet_iff]
  have no : ∀ x, ups (es ++ as) ≤ x → ¬ x ∈ es := fun x hx h => by
    have := ups_lt (List.mem_append_left as h)
    omega
  constructor
  · rintro (h | ⟨s, hs, le, z⟩)
    · exact absurd h (no _ (by omega))
    · have := ups_lt (List.mem_append_right es hs)
      refine .inr ⟨s, hs, by omega, ?_⟩
      rw [show w + n - s = w - s + n by omega, Nat.add_mod_right] at z
      exact z
  · rintro (h | ⟨s, hs, le, z⟩)
    · exact absurd h (no _ hw)
    · refine .inr ⟨s, hs, by omega, ?_⟩
      rw [show w + n - s = w - s + n by omega, Nat.add_mod_right]
      exact z
theorem row_flat {es as : List Nat} {n : Nat} (me : MemOk es) (ma : MemOk as) (h0 : 0 < n) (h1 : n ≤ 1000) : Flat (inSet es as n) (rowR es as n) := by
  refine flat_mk (h := ups (es ++ as)) (p := n) (rowR_ok me ma h0 h1) ?_ ?_ (fun i hi => ?_) (fun i hi => ?_) inSet_per
  · unfold rowR flatR Rw.h
    simp
  · unfold rowR flatR Rw.c
    simp
  · show Ol.g ((List.range (ups (es ++ as))).map (told es as n)) i = _
    rw [g_map hi] <;> rfl
  · show Ol.g ((List.range n).map fun i => told es as n (ups (es ++ as) + i)) i = _
    rw [g_map hi] <;> rfl
theorem setR_flat {es as : List Nat} {n : Nat} (me : MemOk es) (ma : MemOk as) (h0 : 0 < n) (h1 : n ≤ 1000) : Flat (inSet es as n) (setR es as n) ∧ Least (inSet es as n) (setR es as n).h (setR es as n).c := (row_flat me ma h0 h1).lf.1.lf
theorem setR_le {es as : List Nat} {n : Nat} (me : MemOk es) (ma : MemOk as) (h0 : 0 < n) (h1 : n ≤ 1000) : (setR es as n).h ≤ ups (es ++ as) ∧ (setR es as n).c ≤ n := by
  obtain ⟨F, L⟩ := setR_flat me ma h0 h1
  obtain ⟨pd, pc, hb, pe⟩ := L.at_ h0 (inSet_per (es := es) (as := as) (n := n))
  exact ⟨hb, pc⟩
theorem setR_same {es as es' as' : List Nat} {n n' : Nat} (me : MemOk es) (ma : MemOk as) (h0 : 0 < n) (h1 : n ≤ 1000) (me' : MemOk es') (ma' : MemOk as') (h0' : 0 < n') (h1' : n' ≤ 1000) (e : ∀ w, inSet es' as' n' w = inSet es as n w) : setR es' as' n' = setR es as n := by
  obtain ⟨F, L⟩ := setR_flat me ma h0 h1
  obtain ⟨F', L'⟩ := setR_flat me' ma' h0' h1'
  have e' : inSet es' as' n' = inSet es as n := funext e
  rw [e'] at F' L'
  exact row_ext F' F L' L
theorem Rise.mem {hi : Nat} {l : List Nat} (h : Rise hi l) (le : hi ≤ 1000) : MemOk l := ⟨h.asc, fun n hn => by have := h.lt n hn; omega⟩
/-! ### a set made in a law -/
/-- the class is made with all its arguments; it may let an exception out -/
structure HasNE (P : Program) (w : World) (K : PySem.W.Frag) (mg : Str → Option Value) (base : Heap) (x : Str) (C : Addr) (k : Nat) (ps : List Str) (sp : Sp) : Prop where
  g : mg x = some (.ref C)
  ex : ∃ f fd, Mk K C f ∧ FnOk P w K mg base (L2.CX P w) k f fd ps sp ∧ Binds K fd ps []
section
variable {X : Cx} {k : Nat} {C : Addr} {m x : Str} {ps : List Str} {sp : Sp} {e : Expr} {es : List Expr} {t : TA} {p pos : Pos} {E : XK}
theorem pe_hnE (D : HasNE X.prog X.w X.K X.mg X.base x C k ps sp) (hr : Room (k + 1) X.A) (hx : Passes (L2.CX X.prog X.w) X E) (ha : PA X (e :: es) t) (hg : Gl X x := by rfl) (hdb : (x == ("__debug__" : Str)) = false := by decide)
    (he : starEach (e :: es) X.env = (false, eval e X.env) :: starEach es X.env := by rfl) (hpl : (backTo pos (starEach es X.env)).any (·.1) = false := by rfl) : PE X (.Call (.Name x p) (e :: es) [] pos) (tMake C sp [] E t) := by
  obtain ⟨f, fd, M, F, b⟩ := D.ex
  exact pe_make M F hr hg D.g b .nil hx ha hdb he hpl
end
theorem natD_inj : ∀ {l m : List Nat}, natD l = natD m → l = m := by
  intro l m h
  have h := PyData.tuple.inj h
  induction l generalizing m with
  | nil => cases m with
    | nil => rfl
    | cons b m => cases h
  | cons a l ih => cases m with
    | nil => cases h
    | cons b m =>
      rw [List.map_cons, List.map_cons] at h
      obtain ⟨h1, h2⟩ := List.cons.inj h
      have h1 := PyData.int.inj h1
      obtain rfl : a = b := by omega
      rw [ih (congrArg PyData.tuple h2) h2]
section
variable {K : PySem.W.Frag} {σ : L2.St} {G H : Hp} {a Cw Cr C0 C10 C14 : Addr} {te ta tb : TE} {t : TA} {v : V} {P P1 P2 : V → Prop} {D : Ends} {tz : TS} {es as : List Nat} {n : Nat}
theorem yi_set (h : Ys t σ H fun vs H' => ∃ p q : Addr, vs = [.ref p, .ref q, natV n] ∧ SqT K H' p (es.map natV) ∧ SqT K H' q (as.map natV)) (me : MemOk es) (ma : MemOk as) (n0 : 0 < n) (n1 : n ≤ 1000) (le : (setR es as n).h + (setR es as n).c ≤ 1000) :
    Yi (tMake Cw (spWInit K Cw Cr C0 C10 C14) [] E0 t) σ H (SetAt K Cw Cr (setR es as n)) := fun H1 e1 Q q =>
  h H1 e1 _ fun vs H2 e2 z x dx hx hdx ne => by
    obtain ⟨p, t, rfl, s1, s2⟩ := z
    have b := made_ex (C := Cw) hx hdx
    refine ⟨x, dx, .ref p, .ref t, natV n, natD es, natD as, .int (n : Nat), rfl, upd_same, (da_tuple s1 (da_nats _)).mono b, (da_tuple s2 (da_nats _)).mono b, .int _, fun r hr => ?_, fun _ r hr => ?_, fun _ _ hb => ?_, fun es' as' n' h1 h2 h3 me' ma' n0' n1' => ?_⟩
    · rw [chkM_nat me] at hr
      cases hr
    · rw [chkM_nat ma] at hr
      cases hr
    · simp only [btwO] at hb
      have z : (decide ((1 : Int) ≤ (n : Nat)) && decide (((n : Nat) : Int) ≤ 1000)) = true := by
        rw [Bool.and_eq_true, decide_eq_true_eq, decide_eq_true_eq]
        omega
      rw [z] at hb
      cases hb
    · obtain rfl := natD_inj h1
      obtain rfl := natD_inj h2
      obtain rfl : n = n' := by
        have := PyData.int.inj h3
        omega
      exact ⟨fun lt => absurd lt (by omega), fun _ H' e' sa => ⟨rfl, q (.ref x) H' (e2.trans (b.trans e')) sa⟩⟩
theorem ys_ea {vs : List V} {F : List V → Hp → Prop} (h : EvA t σ H vs) (f : ∀ H', Ex H H' → F vs H') : Ys t σ H F := fun H1 e1 Q q => h H1 e1 _ fun H2 e2 => q vs H2 e2 (f H2 (e1.trans e2))
theorem ys_YY {F1 F2 : V → Hp → Prop} (h1 : Yi ta σ H F1) (h2 : Yi tb σ H F2) (m1 : ∀ v H H', Ex H H' → F1 v H → F1 v H') : Ys (tCons ta (tCons tb tNil)) σ H fun vs H' => ∃ v1 v2, vs = [v1, v2] ∧ F1 v1 H' ∧ F2 v2 H' := fun H6 e6 Q q =>
  h1 H6 e6 _ fun v1 H7 e7 f1 => h2 H7 (e6.trans e7) _ fun v2 H8 e8 f2 => q [v1, v2] H8 (e7.trans e8) ⟨v1, v2, rfl, m1 _ _ _ e8 f1, f2⟩
theorem q_parDr {i j : Nat} (h1 : Dr a ta σ G P1) (h2 : Dr a tb σ G P2) (e : Ex G H) (p : Pur H a) (k : ∀ v w H1, P1 v → P2 w → Ex G H1 → Pur H1 a → tz D ((σ.set i (some v)).set j (some w)) H1) : tSeq (tPar i j (tCons ta (tCons tb tNil))) tz D σ H :=
  h1 H e p _ fun v H1 pv e1 p1 => h2 H1 e1 p1 _ fun w H2 pw e2 p2 => ⟨v, w, rfl, k v w H2 pv pw e2 p2⟩
theorem dr_pickK {xs : List V} (n : G a = none) (ha : EvL ta σ G xs) (hb : ∀ G', G' a = none → Ex G G' → Dr a tb σ G' fun v => ∃ k, v = .int k ∧ 0 ≤ k ∧ k < xs.length) : Dr a (tOp (rIx K) ta tb) σ G fun v => v ∈ xs := fun H1 e p Q q =>
  ha H1 e _ fun l H2 hl e2 h2 => by
    have ne := p.ne hl
    refine hb (less a H2) less_at (ex_less n (e.trans e2)) H2 less_ex (p.keep e2) _ fun k H3 pk e3 p3 => ?_
    obtain ⟨k, rfl, k0, k1⟩ := pk
    obtain ⟨v, hv, hv2⟩ := atI_nat k0 k1
    exact .inl ⟨l, xs, k, v, rfl, rfl, sq_of (e3 _ _ (by rw [less_ne ne]; exact h2)), hv, q v H3 (List.mem_of_getElem? hv2) ((ex_less n (e.trans e2)).trans e3) p3⟩
end
end SwX
set_option Elab.async false
set_option linter.all false
set_option maxRecDepth 100000
set_option maxHeartbeats 2000000
/-! looks at the module for the sets: properties, own classes, the exceptions that are raised -/
namespace SwX
open PySem PySem.Spec PyProof.Rows L2
def propB (K : PySem.W.Frag) (C : Addr) (m : PySem.Str) : Bool := He.eqO (PySem.W.findIn K (.ref C) m) (some (some (.ref (He.ma K C m)))) && (He.eqO (PySem.W.specialIn K (.ref (He.ma K C m)) "__get__") (some (some (.builtin "property.__get__"))) && (decide (PySem.W.takesIn K (.ref (He.ma K C m)) = some true) && (match PySem.W.recIn K (He.ma K C m) "property" with
  | some (.ref _ :: _) => true
  | _ => false)))
theorem propB_ok {K : PySem.W.Frag} {C : Addr} {m : PySem.Str} (h : propB K C m = true) : PropOf K C m (He.ma K C m) (He5.wf K C "property" m) := by
  unfold propB at h
  simp only [Bool.and_eq_true] at h
  obtain ⟨h1, h2, h3, h4⟩ := h
  refine ⟨He.eqO_ok h1, He.eqO_ok h2, of_decide_eq_true h3, ?_⟩
  unfold He5.wf
  split at h4
  · rename_i f rest e
    rw [e]
    exact ⟨rest, rfl⟩
  · cases h4
def ownB (K : PySem.W.Frag) (C : Addr) : Bool := He.eqO (PySem.W.findIn K (.ref C) "__class__") (some (some (.builtin "object.__class__"))) && (He.eqO (PySem.W.specialIn K (.builtin "object.__class__") "__get__") (some (some (.builtin "getset_descriptor.__get__"))) && (decide (PySem.W.takesIn K (.builtin "object.__class__") = some true) && (decide (PySem.W.mroIn K C (.type "object") = some true) && decide (PySem.W.kitOne K (.ref C) (.ref C) = some true))))
theorem ownB_ok {K : PySem.W.Frag} {C : Addr} (c : Cls K C) (h : ownB K C = true) : OwnC K C := by
  unfold ownB at h
  simp only [Bool.and_eq_true] at h
  obtain ⟨h1, h2, h3, h4, h5⟩ := h
  exact ⟨c, He.eqO_ok h1, He.eqO_ok h2, of_decide_eq_true h3, of_decide_eq_true h4, of_decide_eq_true h5⟩
def excB (K : PySem.W.Frag) (i : Nat) : Bool := oexB K (bsZ i) (CxZ K i) && (decide (PySem.W.typeIn K (.ref (CxZ K i)) = some (.type "type")) && (He.eqO (PySem.W.findIn K (.ref (CxZ K i)) (exFld i)) (some none) && iniB K (CxZ K i)))
theorem excB_ok {P : Program} {w : World} {K : PySem.W.Frag} {mg : Str → Option Value} {base : Heap} {i : Nat} (h : excB K i = true) (g : mg (exNm i) = some (.ref (CxZ K i)))
    (D : Oex K (CxZ K i) → Free K (CxZ K i) (exFld i) → Ini K (CxZ K i) (He.ma K (CxZ K i) "__init__") → mg (exNm i) = some (.ref (CxZ K i)) → HasX P w K mg base (exNm i) 1 (CxZ K i) 1 [exFld i] (fun us ws => us ++ ws.reverse) (spIni1 (CxZ K i) (exFld i))) : ExH P w K mg base i (CxZ K i) := by
  unfold excB at h
  simp only [Bool.and_eq_true] at h
  obtain ⟨h1, h2, h3, h4⟩ := h
  exact ⟨D (oex_of h1) (free_of (He.eqO_ok h3)) (ini_of h4) g, of_decide_eq_true h2⟩
end SwX
set_option Elab.async false
set_option linter.all false
set_option maxRecDepth 100000
set_option maxHeartbeats 4000000
/-! verdicts: what was told by _law_caught is what is due -/
namespace SwX
open PySem PySem.Spec PyProof.Rows L2 Evl
/-- none: nothing is raised; else the number of the exception and what it keeps -/
abbrev Vd : Type := Option (Int × PyData)
def vdD : Vd → List PyData
  | none => []
  | some (c, d) => [.int c, .str (PyData.shown (.list [d]))]
def vdL : Vd → List V
  | none => []
  | some (c, d) => [.int c, .str (PyData.shown (.list [d]))]
def vtL : Vd → Str → List V
  | none, z => [.str "told", .str z]
  | some (c, d), _ => [.int c, .str (PyData.shown (.list [d]))]
def VdLay (r : Vd) : Prop := ∀ c d, r = some (c, d) → (PyData.str (PyData.shown (.list [d]))).canLay0 = true
theorem vd_da {K : PySem.W.Frag} {H : Hp} {q : Addr} {r : Vd} (h : H q = some (.lst (vdL r))) : Da K H (.ref q) (.list (vdD r)) := by
  cases r with
  | none => exact da_list h .nil
  | some o => exact da_list h (.cons (.int _) (.cons (.str _) .nil))
theorem vd_pl {r : Vd} (h : VdLay r) : Pl (.list (vdD r)) := by
  cases r with
  | none =>
    show Pl (.list [])
    exact ⟨rfl, by decide⟩
  | some o =>
    obtain ⟨c, d⟩ := o
    have z := h c d rfl
    have e : vdD (some (c, d)) = [.int c, .str (PyData.shown (.list [d]))] := rfl
    refine ⟨?_, shaped_of ?_ ?_⟩
    · rw [e] <;> rfl
    · rw [e]
      simp only [PyData.canLay0, PyData.canLayAll0] at z ⊢
      simp [z]
    · rw [e]
      show (PyData.depthAll [_, _]) + 1 ≤ 64
      simp [PyData.depthAll, PyData.depth]
theorem vd_eqv (r : Vd) : PyData.eqv (.list (vdD r)) (.list (vdD r)) = true := by
  cases r with
  | none => rfl
  | some o =>
    obtain ⟨c, d⟩ := o
    show PyData.eqv (.list [.int c, .str _]) (.list [.int c, .str _]) = true
    simp [PyData.eqv, PyData.eqvAll]
theorem vd_nil (r : Vd) : PyData.eqv (.list (vdD r)) (.list []) = r.isNone := by
  cases r with
  | none => rfl
  | some o =>
    obtain ⟨c, d⟩ := o
    rfl
def spTold (K : PySem.W.Frag) : Sp := fun vs H Q _ => ∃ (p q : Addr) (r : Vd) (z : Str), vs = [.ref p, .ref q] ∧ H p = some (.lst (vtL r z)) ∧ H q = some (.lst (vdL r)) ∧ VdLay r ∧ ∀ H', Ex H H' → Q (.bl true) H'
/-! ### texts of integers can be laid out -/
theorem strOk_of {x : Str} (h : ∀ c ∈ x.cps.toList, c < 0x110000) : (PyData.str x).canLay0 = true := by
  show PyData.strOk x = true
  unfold PyData.strOk
  rw [← Array.all_toList]
  rw [List.all_eq_true]
  exact fun c hc => decide_eq_true (h c hc)
theorem int_signs (i : Int) : ∀ c ∈ (PyData.shown (.int i)).cps.toList, c < 0x110000 := fun c hc => by
  refine Nat.lt_of_not_le fun le => ?_
  exact PyProof.Rows.shown_int_free' (k := c) ⟨by omega, by omega⟩ i hc
theorem lay_int (i : Int) : (PyData.str (PyData.shown (.list [.int i]))).canLay0 = true := strOk_of fun c hc => by
  rw [PyData.shown_list] at hc
  have e : Str.join (", " : Str) (PyData.shownAll [.int i]) = PyData.shown (.int i) := by
    simp only [PyData.shownAll]
    rfl
  rw [e] at hc
  have e2 : (("[" : Str) ++ PyData.shown (.int i) ++ ("]" : Str)).cps.toList = ("[" : Str).cps.toList ++ (PyData.shown (.int i)).cps.toList ++ ("]" : Str).cps.toList := by
    show (_ ++ _ ++ _ : Array Nat).toList = _
    simp
  rw [e2] at hc
  have hb : ∀ c ∈ ("[" : Str).cps.toList, c < 0x110000 := by decide +kernel
  have hd : ∀ c ∈ ("]" : Str).cps.toList, c < 0x110000 := by decide +kernel
  rcases List.mem_append.mp hc with hc | hc
  · rcases List.mem_append.mp hc with hc | hc
    · exact hb c hc
    · exact int_signs i c hc
  · exact hd c hc
end SwX
set_option Elab.async false
set_option linter.all false
set_option maxRecDepth 100000
set_option maxHeartbeats 4000000
/-! lists of data in which an item is drawn -/
namespace SwX
open PySem PySem.Spec PyProof.Rows L2 Evl
section
variable {K : PySem.W.Frag} {σ : L2.St} {H H' : Hp} {a : Addr} {te : TE} {ta : TA} {v x : V} {d : PyData} {ds es : List PyData} {D : Ends} {tz : TS} {R : List PyData → Prop}
/-- the items, beside the purse, are data of which R holds -/
def DsA (K : PySem.W.Frag) (a : Addr) (ta : TA) (σ : L2.St) (H : Hp) (R : List PyData → Prop) : Prop := ∀ H1, Ex (less a H) H1 → Pur H1 a → ∀ Q : List V → Hp → Prop, (∀ ds vs H2, R ds → Ex (less a H1) H2 → Pur H2 a → Paired (fun d v => DaA K a d v H2) ds vs → Q vs H2) → ta σ H1 Q
theorem ds_nil (r : R []) : DsA K a tNil σ H R := fun H1 e p Q q => q [] [] H1 r less_ex p .nil
theorem ds_cons (h : ∀ H1, Ex (less a H) H1 → Pur H1 a → Yi te σ H1 (DaA K a d)) (t : DsA K a ta σ H fun ds => R (d :: ds)) : DsA K a (tCons te ta) σ H R := fun H1 e p Q q =>
  h H1 e p H1 (Ex.refl H1) _ fun v H2 e2 z => t H2 (e.trans e2) (p.keep e2) _ fun ds vs H3 r e3 p3 pr => q (d :: ds) (v :: vs) H3 r ((less_mono e2).trans e3) p3 (.cons (daA_from z e3) pr)
theorem ds_draw {P : Int → Prop} (h : ∀ H1, Ex (less a H) H1 → Dr a te σ (less a H1) fun v => ∃ i : Int, v = .int i ∧ P i) (t : ∀ i, P i → DsA K a ta σ H fun ds => R (.int i :: ds)) : DsA K a (tCons te ta) σ H R := fun H1 e p Q q =>
  h H1 e H1 less_ex p _ fun v H2 pv e2 p2 => by
    obtain ⟨i, rfl, pi⟩ := pv
    exact t i pi H2 ((ex_less less_at e).trans e2) p2 _ fun ds vs H3 r e3 p3 pr => q (.int i :: ds) (.int i :: vs) H3 r ((ex_less less_at e2).trans e3) p3 (.cons (.int i) pr)
theorem q_asgDs {i : Nat} (h : DsA K a ta σ H R) (p : Pur H a) (l : ∀ ds, R ds → ds.length ≤ 1000) (k : ∀ ds c H1, R ds → LstOf (DaA K a) ds (.ref c) H1 → Ex (less a H) H1 → Pur H1 a → tz D (σ.set i (some (.ref c))) H1) : tSeq (tAsg (tLst ta) (gName i)) tz D σ H :=
  h H less_ex p _ fun ds vs H2 r e2 p2 pr => ⟨sz_of (by rw [← paired_len pr]; have := l ds r; omega), fun c hc => k ds c _ r ⟨c, vs, rfl, upd_same, paired_mono (Ex.new hc) daA_mono pr⟩ (e2.trans (Ex.new hc)) (p2.keep (Ex.new hc))⟩
/-- a constant among the items -/
theorem dc_c {v : V} (q : ∀ G, Da K G v d) (t : DsA K a ta σ H fun ds => R (d :: ds)) : DsA K a (tCons (tC v) ta) σ H R := ds_cons (fun H1 _ _ => yi_dat ev_c q) t
theorem paired_revD {α β : Type} {F : α → β → Prop} : ∀ {is : List α} {vs : List β}, Paired F is vs → Paired F is.reverse vs.reverse
  | _, _, .nil => .nil
  | _, _, .cons h t => by
    rw [List.reverse_cons, List.reverse_cons]
    exact paired_append (paired_revD t) (.cons h .nil)
/-- t[::-1] -/
theorem yi_drev (pu : Pur H a) (ha : Ev te σ H v) (hv : DaA K a (.tuple ds) v H) : Yi (tRevT K te) σ H (DaA K a (.tuple ds.reverse)) := fun H1 e1 Q q => by
  obtain ⟨p, xs, rfl, hp, pr⟩ := daA_items hv
  refine eu_rev ha (sqt_more hp) H1 e1 _ fun u H2 hu e2 h2 => q (.ref u) H2 e2 (da_tuple (.inl (.inl ?_)) (paired_revD (paired_mono (F := fun d v H => DaA K a d v H) (e1.trans e2) (fun d v H H' e h => daA_mono d v H H' e h) pr)))
  rw [less_ne ((pu.keep e1).ne hu)]
  exact h2
end
end SwX
set_option Elab.async false
set_option linter.all false
set_option maxRecDepth 100000
set_option maxHeartbeats 4000000
/-! a law of calls with tables -/
namespace SwX
open PySem PySem.Spec PyProof.Rows L2 Evl
open LamX (Tabs ExtN)
theorem sql_ext {K : PySem.W.Frag} {H H' : Hp} {a : Addr} {xs : List V} (h : SqL K H a xs) (e : ExtN H H') : SqL K H' a xs := by
  rcases h with (h | ⟨o, h⟩) | h
  · exact .inl (.inl (e _ _ h fun _ z => nomatch z))
  · exact .inl (.inr ⟨o, e _ _ h fun _ z => nomatch z⟩)
  · exact .inr h
theorem extn_less {H H' : Hp} {D : Addr} (e : ExtN H H') : ExtN (less D H) (less D H') := fun b o h n => by
  obtain ⟨h1, ne⟩ := less_some h
  rw [less_ne ne]
  exact e b o h1 n
theorem tabs_mut {T : List (Addr × Str)} {H : Hp} {D : Addr} {xs ys : List V} (t : Tabs T H) (h : H D = some (.lst xs)) : Tabs T (upd H D (.lst ys)) := fun p hp => by
  obtain ⟨ps, h1, h2, h3⟩ := t p hp
  refine ⟨ps, by rw [upd_ne (fun z => by rw [z, h] at h1; cases h1)]; exact h1, h2, fun pos cv hc => ?_⟩
  obtain ⟨c, e1, e2⟩ := h3 pos cv hc
  exact ⟨c, e1, by rw [upd_ne (fun z => by rw [z, h] at e2; cases e2)]; exact e2⟩
theorem ext_fresh {H H1 H2 : Hp} {b : Addr} (hb : H b = none) (e1 : Ex H H1) (e2 : ExL b H1 H2) : ExtN H H2 := fun q o h n => by
  have ne : q ≠ b := fun z => by rw [z, hb] at h; cases h
  exact e2 q o (bare_of (by rw [less_ne ne]; exact e1 _ _ h) n)
theorem s_allR {K : PySem.W.Frag} {σ : L2.St} {H : Hp} {D : Ends} {ta : TA} {te : TE} {tt : TT} {g : TG} {vs : List Nat} {n : Int} (h : EvA ta σ H [.int n]) (hn : 0 ≤ n ∧ n ≤ 40000) (Pv : Addr → Nat → Hp → Prop) (h0 : ∀ H1 D, Ex H H1 → H1 D = none → Pv D 0 (upd H1 D (.lst [])))
    (hs : ∀ (Dl : Addr) (i : Nat) (H' : Hp), i < n.toNat → Pv Dl i H' → g (.int (0 + (i : Int))) (wipe σ vs) H' fun σ2 H2 => wipe σ2 vs = wipe σ vs ∧ tt σ2 H2 fun b H3 => if b = true then te σ2 H3 fun y H4 => ∃ acc, H4 Dl = some (.lst acc) ∧ acc.length < sizeLine ∧ Pv Dl (i + 1) (upd H4 Dl (.lst (acc ++ [y]))) else Pv Dl (i + 1) H3)
    (hd : ∀ Dl H', Pv Dl n.toNat H' → ∃ bs : List Bool, SqL K H' Dl (bs.map V.bl) ∧ D.rt (.bl (bs.all id)) H') : tRet (tCB (rAll K) (tCons (tLc (iRng1 ta) g tt te vs) tNil)) D σ H :=
  h H (Ex.refl H) _ fun H1 e1 => ⟨n, rfl, by omega, by omega, fun Dl hD => lc_range (lo := 0) (n := n.toNat) (Pv Dl) (h0 H1 Dl e1 hD) (hs Dl) fun H' p => by
    obtain ⟨bs, h1, h2⟩ := hd Dl H' p
    exact ⟨Dl, bs, rfl, h1, h2⟩⟩
/-- how often the law goes round -/
def turnsL (hi : Int) (ns : List Int) : Int := if (if hi < ns.length then hi else ns.length) > 2 then (if hi < ns.length then hi else ns.length) else 2
theorem turns_ok {hi : Int} (h : hi ≤ 5) (ns : List Int) : 0 ≤ turnsL hi ns ∧ turnsL hi ns ≤ 5 := by
  unfold turnsL
  split <;> (try split) <;> omega
def spLawT (K : PySem.W.Frag) (T : List (Addr × Str)) : Sp := fun vs H Q _ => ∃ (a : Addr) (ns : List Int), vs = [.ref a] ∧ SqL K H a (ns.map V.int) ∧ Tabs T H ∧ ∀ H', Q (.bl true) H'
def spRightT (T : List (Addr × Str)) : Sp := fun vs H Q _ => ∃ a : Addr, vs = [.ref a] ∧ Pur H a ∧ Tabs T H ∧ ∀ H', ExL a H H' → Tabs T H' → Q (.bl true) H'
end SwX
set_option Elab.async false
set_option linter.all false
set_option maxRecDepth 100000
set_option maxHeartbeats 4000000
/-! sets: own instances sought in them; sets made in each way; lists of sets -/
namespace SwX
open PySem PySem.Spec PyProof.Rows L2 Evl
section
variable {K : PySem.W.Frag} {σ : L2.St} {G H H1 H' : Hp} {a Cw Cr C0 C10 C14 : Addr} {te ta tb tc : TE} {t : TA} {v v1 v2 v3 x : V} {D : Ends} {tz : TS} {es as : List Nat} {n : Nat} {r : Rw} {D1 D2 D3 : PyData} {E : XK} {Q : VK}
/-! ### an own instance asked -/
def spIsIntI (Cw : Addr) : Sp := fun vs H Q _ => ∃ a : Addr, vs = [.ref a] ∧ IsI H a Cw ∧ ∀ H', Ex H H' → Q (.bl false) H'
theorem isI_mono {b C : Addr} (e : Ex H H') (i : IsI H b C) : IsI H' b C := by
  obtain ⟨dx, fs, h⟩ := i
  exact ⟨dx, fs, e _ _ h⟩
theorem ev_isOwnT {n : String} (c : OwnC K Cw) (kI : PySem.W.kitOne K (.ref Cw) (.type n) = some false) (h : Ev te σ H (.ref a)) (i : IsI H a Cw) : Ev (tCB (rIsi K) (tCons te (tCons (tC (.ty n)) tNil))) σ H (.bl false) := fun H1 e1 Q q => h H1 e1 _ fun H2 e2 => by
  obtain ⟨dx, fs, h1⟩ := i
  exact ⟨.ref a, .ty n, .ref Cw, .type n, false, rfl, .ty n, .base (.ins (e2 _ _ (e1 _ _ h1)) c.cls c.ha c.hn c.ht c.hm), kI, q H2 e2⟩
/-- x in the set at v: data or another set -/
def spSetInX (K : PySem.W.Frag) (Cw Cr : Addr) : Sp := fun vs H Q E => spSetIn K Cw Cr vs H Q E ∨ ∃ (v : V) (r : Rw) (b : Addr), vs = [v, .ref b] ∧ SetAt K Cw Cr r v H ∧ IsI H b Cw ∧ ∀ H', Ex H H' → Q (.bl false) H'
structure SetInX (P : Program) (w : World) (K : PySem.W.Frag) (mg : Str → Option Value) (base : Heap) (Cw Cr : Addr) : Prop where
  ex : ∃ f fd, FnOk P w K mg base CX0 2 f fd ["self", "value"] (spSetInX K Cw Cr) ∧ Spc K Cw "__contains__" f ∧ Binds K fd ["self", "value"] []
theorem setInX {X : Cx} {Cw Cr : Addr} (K : PySem.W.Frag) (S : SetInX X.prog X.w X.K X.mg X.base Cw Cr) (hr : Room 2 X.A) (h : X.K = K := by rfl) : OpR X (compareOp .In) (rInOwn Cw (spSetInX K Cw Cr) E0) := by
  subst h
  obtain ⟨f, fd, F, s, b⟩ := S.ex
  exact op_inOwn F s b pass0 hr
/-- what may be asked: data, or another set -/
def AskB (r : Rw) : Option PyData → Bool
  | some D => inW r D
  | none => false
def AskAt (K : PySem.W.Frag) (Cw : Addr) (o : Option PyData) (x : V) (H : Hp) : Prop := match o with
  | some D => Da K H x D
  | none => ∃ b, x = .ref b ∧ IsI H b Cw
theorem ask_mono (o : Option PyData) (x : V) (H H' : Hp) (e : Ex H H') (h : AskAt K Cw o x H) : AskAt K Cw o x H' := by
  cases o with
  | some D => exact Da.mono e h
  | none =>
    obtain ⟨b, rfl, i⟩ := h
    exact ⟨b, rfl, isI_mono e i⟩
theorem rv_ask {o : Option PyData} {B : Int} (hv : SetAt K Cw Cr r v H) (ok : RwOk B r) (hx : AskAt K Cw o x H) : RV (rInOwn Cw (spSetInX K Cw Cr) E0) x v H (.bl (AskB r o)) := fun H1 e1 Q q => by
  have hv1 := hv.mono e1
  obtain ⟨a, rfl, i⟩ := hv1.is
  refine ⟨a, rfl, i, ?_⟩
  cases o with
  | some D => exact .inl ⟨.ref a, x, r, D, B, rfl, hv1, ok, Da.mono e1 hx, fun H' e' => ⟨_, rfl, q H' e'⟩⟩
  | none =>
    obtain ⟨b, rfl, j⟩ := hx
    exact .inr ⟨.ref a, r, b, rfl, hv1, isI_mono e1 j, fun H' e' => ⟨_, rfl, q H' e'⟩⟩
/-! ### making -/
structure WOut (K : PySem.W.Frag) (Cw Cr C0 C10 C14 : Addr) (D1 D2 D3 : PyData) (v3 : V) (E : XK) (H : Hp) (Q : VK) : Prop where
  w1 : ∀ r, chkM D1 = some r → Thr E C10 "index" H (ov (r.map fun n => ((n : Nat) : Int)))
  w2 : chkM D1 = none → ∀ r, chkM D2 = some r → Thr E C10 "index" H (ov (r.map fun n => ((n : Nat) : Int)))
  w3 : chkM D1 = none → chkM D2 = none → btwO 1 (some 1000) D3 = false → Thr E C0 "given" H v3
  w4 : ∀ (es as : List Nat) (n : Nat), D1 = natD es → D2 = natD as → D3 = .int (n : Nat) → MemOk es → MemOk as → 0 < n → n ≤ 1000 →
    (1000 < (setR es as n).h + (setR es as n).c → Thr E C14 "limit" H (.int 1000)) ∧ ((setR es as n).h + (setR es as n).c ≤ 1000 → ∀ v H', Ex H H' → SetAt K Cw Cr (setR es as n) v H' → Q v H')
theorem WOut.mono (o : WOut K Cw Cr C0 C10 C14 D1 D2 D3 v3 E H Q) (e : Ex H H1) : WOut K Cw Cr C0 C10 C14 D1 D2 D3 v3 E H1 Q :=
  ⟨fun r z => (o.w1 r z).from e, fun z r z2 => (o.w2 z r z2).from e, fun z1 z2 z3 => (o.w3 z1 z2 z3).from e, fun es as n h1 h2 h3 me ma n0 n1 => ⟨fun lt => ((o.w4 es as n h1 h2 h3 me ma n0 n1).1 lt).from e, fun le v H' e' sa => (o.w4 es as n h1 h2 h3 me ma n0 n1).2 le v H' (e.trans e') sa⟩⟩
theorem w_made {y dx : Addr} (hx : H y = none) (hdx : H dx = none) (d1 : Da K H v1 D1) (d2 : Da K H v2 D2) (d3 : Da K H v3 D3) (o : WOut K Cw Cr C0 C10 C14 D1 D2 D3 v3 E H Q) : spWInit K Cw Cr C0 C10 C14 [.ref y, v1, v2, v3] (upd (upd H dx (.own y)) y (.ins Cw dx [])) (fun v H2 => v = .non ∧ Q (.ref y) H2) E := by
  have b := made_ex (C := Cw) hx hdx
  have b' : Ex H (upd (upd H dx (.own y)) y (.ins Cw dx [])) := ((Ex.refl H).mut hdx).mut hx
  exact ⟨y, dx, v1, v2, v3, D1, D2, D3, rfl, upd_same, d1.mono b, d2.mono b, d3.mono b, fun r z => (o.w1 r z).from b', fun z r z2 => (o.w2 z r z2).from b', fun z1 z2 z3 => (o.w3 z1 z2 z3).from b', fun es as n h1 h2 h3 me ma n0 n1 => ⟨fun lt => ((o.w4 es as n h1 h2 h3 me ma n0 n1).1 lt).from b', fun le H' e' sa => ⟨rfl, (o.w4 es as n h1 h2 h3 me ma n0 n1).2 le (.ref y) H' (b.trans e') sa⟩⟩⟩
/-- of good arguments -/
theorem w_good (me : MemOk es) (ma : MemOk as) (n0 : 0 < n) (n1 : n ≤ 1000) (hl : 1000 < (setR es as n).h + (setR es as n).c → Thr E C14 "limit" H (.int 1000)) (hs : (setR es as n).h + (setR es as n).c ≤ 1000 → ∀ v H', Ex H H' → SetAt K Cw Cr (setR es as n) v H' → Q v H') : WOut K Cw Cr C0 C10 C14 (natD es) (natD as) (.int (n : Nat)) v3 E H Q := by
  refine ⟨fun r z => ?_, fun _ r z => ?_, fun _ _ z => ?_, fun es' as' n' h1 h2 h3 _ _ _ _ => ?_⟩
  · rw [chkM_nat me] at z
    cases z
  · rw [chkM_nat ma] at z
    cases z
  · have b : btwO 1 (some 1000) (.int (n : Nat)) = true := by
      simp only [btwO, Bool.and_eq_true, decide_eq_true_eq]
      omega
    rw [b] at z
    cases z
  · obtain rfl := natD_inj h1
    obtain rfl := natD_inj h2
    obtain rfl : n = n' := by
      have := PyData.int.inj h3
      omega
    exact ⟨hl, hs⟩
theorem sq_empty {d : Addr} {xs : List V} (h : SqT K (fun _ => none) d xs) : SqT K H d xs := by
  rcases h with (h | ⟨o, h⟩) | h
  · cases h
  · cases h
  · exact .inr h
def DfltW (K : PySem.W.Frag) (d0 : Addr) : Prop := SqT K (fun _ => none) d0 []
theorem out_W3 (h1 : Ev ta σ H v1) (h2 : Ev tb σ H v2) (h3 : Ev tc σ H v3) (d1 : Da K H v1 D1) (d2 : Da K H v2 D2) (d3 : Da K H v3 D3) (o : WOut K Cw Cr C0 C10 C14 D1 D2 D3 v3 E H Q) : tMake Cw (spWInit K Cw Cr C0 C10 C14) [] E (tCons ta (tCons tb (tCons tc tNil))) σ H Q :=
  h1 H (Ex.refl H) _ fun H1 e1 => h2 H1 e1 _ fun H2 e2 => h3 H2 (e1.trans e2) _ fun H3 e3 x dx hx hdx ne => w_made hx hdx (d1.mono ((e1.trans e2).trans e3)) (d2.mono ((e1.trans e2).trans e3)) (d3.mono ((e1.trans e2).trans e3)) (o.mono ((e1.trans e2).trans e3))
theorem out_W2 (h1 : Ev ta σ H v1) (h2 : Ev tb σ H v2) (d1 : Da K H v1 D1) (d2 : Da K H v2 D2) (o : WOut K Cw Cr C0 C10 C14 D1 D2 (.int 1) (.int 1) E H Q) : tMake Cw (spWInit K Cw Cr C0 C10 C14) [.int 1] E (tCons ta (tCons tb tNil)) σ H Q :=
  h1 H (Ex.refl H) _ fun H1 e1 => h2 H1 e1 _ fun H2 e2 x dx hx hdx ne => w_made hx hdx (d1.mono (e1.trans e2)) (d2.mono (e1.trans e2)) (.int 1) (o.mono (e1.trans e2))
theorem out_W1 (h1 : Ev ta σ H v1) (d1 : Da K H v1 D1) (o : WOut K Cw Cr C0 C10 C14 D1 (.tuple []) (.int 1) (.int 1) E H Q) : ∀ d0, DfltW K d0 → tMake Cw (spWInit K Cw Cr C0 C10 C14) [.ref d0, .int 1] E (tCons ta tNil) σ H Q := fun d0 z0 =>
  h1 H (Ex.refl H) _ fun H1 e1 x dx hx hdx ne => w_made hx hdx (d1.mono e1) (da_tuple (sq_empty z0) .nil) (.int 1) (o.mono e1)
/-- by keywords, in the other order -/
theorem out_WR3 (h1 : Ev ta σ H v1) (h2 : Ev tb σ H v2) (h3 : Ev tc σ H v3) (d1 : Da K H v1 D1) (d2 : Da K H v2 D2) (d3 : Da K H v3 D3) (o : WOut K Cw Cr C0 C10 C14 D1 D2 D3 v3 E H Q) : tMakeK Cw 0 3 (spWInit K Cw Cr C0 C10 C14) (fun vs zs => vs ++ zs.reverse) E tNil (tCons tc (tCons tb (tCons ta tNil))) σ H Q :=
  h3 H (Ex.refl H) _ fun H1 e1 => h2 H1 e1 _ fun H2 e2 => h1 H2 (e1.trans e2) _ fun H3 e3 => ⟨rfl, rfl, fun x dx hx hdx ne => w_made hx hdx (d1.mono ((e1.trans e2).trans e3)) (d2.mono ((e1.trans e2).trans e3)) (d3.mono ((e1.trans e2).trans e3)) (o.mono ((e1.trans e2).trans e3))⟩
end
/-! ### the class is made in each way -/
abbrev psW : List Str := ["self", "early", "again", "period"]
structure WMk (P : Program) (w : World) (K : PySem.W.Frag) (mg : Str → Option Value) (base : Heap) (Cw Cr C0 C10 C14 : Addr) : Prop where
  g : mg "Weights" = some (.ref Cw)
  ex : ∃ (f : Addr) (fd : FuncData) (d0 : Addr) (ds ds2 : List Value), Mk K Cw f ∧ FnOk P w K mg base (L2.CX P w) 7 f fd psW (spWInit K Cw Cr C0 C10 C14) ∧ Binds K fd psW [] ∧ Binds K fd psW ds ∧ Vals [.ref d0, .int 1] ds ∧ DfltW K d0 ∧ Binds K fd psW ds2 ∧ Vals [.int 1] ds2 ∧
    KBn K fd psW 1 ["period", "again", "early"] (fun us ws => us ++ ws.reverse) (fun vs zs => vs ++ zs.reverse)
section
variable {X : Cx} {x : Str} {p pos : Pos} {e : Expr} {es : List Expr} {kws : List Keyword} {t tk : TA} {k : Nat} {Cw Cr C0 C10 C14 : Addr} {E : XK}
theorem pe_W3 (M : WMk X.prog X.w X.K X.mg X.base Cw Cr C0 C10 C14) (hr : Room 8 X.A) (hx : Passes (L2.CX X.prog X.w) X E) (ha : PA X (e :: es) t) (hg : Gl X "Weights" := by rfl) (he : starEach (e :: es) X.env = (false, eval e X.env) :: starEach es X.env := by rfl) (hpl : (backTo pos (starEach es X.env)).any (·.1) = false := by rfl) :
    PE X (.Call (.Name "Weights" p) (e :: es) [] pos) (tMake Cw (spWInit X.K Cw Cr C0 C10 C14) [] E t) := by
  obtain ⟨f, fd, d0, ds, ds2, mk, F, b, _⟩ := M.ex
  exact pe_make mk F hr hg M.g b .nil hx ha (by decide) he hpl
theorem pe_W2 (M : WMk X.prog X.w X.K X.mg X.base Cw Cr C0 C10 C14) (hr : Room 8 X.A) (hx : Passes (L2.CX X.prog X.w) X E) (ha : PA X (e :: es) t) (hg : Gl X "Weights" := by rfl) (he : starEach (e :: es) X.env = (false, eval e X.env) :: starEach es X.env := by rfl) (hpl : (backTo pos (starEach es X.env)).any (·.1) = false := by rfl) :
    PE X (.Call (.Name "Weights" p) (e :: es) [] pos) (tMake Cw (spWInit X.K Cw Cr C0 C10 C14) [.int 1] E t) := by
  obtain ⟨f, fd, d0, ds, ds2, mk, F, _, _, _, _, b, d, _⟩ := M.ex
  exact pe_make mk F hr hg M.g b d hx ha (by decide) he hpl
theorem pe_W1 (M : WMk X.prog X.w X.K X.mg X.base Cw Cr C0 C10 C14) (hr : Room 8 X.A) (hx : Passes (L2.CX X.prog X.w) X E) (ha : PA X (e :: es) t) (hg : Gl X "Weights" := by rfl) (he : starEach (e :: es) X.env = (false, eval e X.env) :: starEach es X.env := by rfl) (hpl : (backTo pos (starEach es X.env)).any (·.1) = false := by rfl) :
    PE X (.Call (.Name "Weights" p) (e :: es) [] pos) (fun σ H Q => ∀ d0, DfltW X.K d0 → tMake Cw (spWInit X.K Cw Cr C0 C10 C14) [.ref d0, .int 1] E t σ H Q) := by
  obtain ⟨f, fd, d0, ds, ds2, mk, F, _, b, d, z, _⟩ := M.ex
  exact ⟨fun pins s σ H Q I h => (pe_make mk F hr hg M.g b d hx ha (by decide) he hpl).run pins s σ H Q I (h d0 z)⟩
theorem pe_WR3 (M : WMk X.prog X.w X.K X.mg X.base Cw Cr C0 C10 C14) (hr : Room 8 X.A) (hx : Passes (L2.CX X.prog X.w) X E) (hkw : PK X kws tk) (hg : Gl X "Weights" := by rfl) (hall : (backToKw pos (keywordEach kws X.env)).all (·.1.isSome) = true := by rfl) (hks : (backToKw pos (keywordEach kws X.env)).filterMap (·.1) = (["period", "again", "early"] : List Str) := by rfl)
    (hpl : ((backTo pos (starEach [] X.env)).any (·.1) || (backToKw pos (keywordEach kws X.env)).any (·.1.isNone)) = false := by rfl) : PE X (.Call (.Name "Weights" p) [] kws pos) (tMakeK Cw 0 3 (spWInit X.K Cw Cr C0 C10 C14) (fun vs zs => vs ++ zs.reverse) E tNil tk) := by
  obtain ⟨f, fd, d0, ds, ds2, mk, F, _, _, _, _, _, _, kb⟩ := M.ex
  exact pe_makeK0 mk F hr hg M.g kb hx hkw hall hks (by decide) hpl
end
/-! ### lists of sets -/
section
variable {K : PySem.W.Frag} {σ : L2.St} {H H' : Hp} {Cw Cr l a : Addr} {ta te : TE} {v : V} {D : Ends} {tz : TS} {r : Rw}
theorem RowAt.upd {x : V} {xs : List V} {o : HO} (h : H l = some (.lst xs)) (ra : RowAt K Cr r x H) : RowAt K Cr r x (upd H l o) := by
  obtain ⟨b, dy, p, q, s, rfl, h1, h2, h3, h4⟩ := ra
  have st : ∀ {p : Addr} {ys : List V}, SqT K H p ys → SqT K (L2.upd H l o) p ys := fun z => by
    rcases z with (z | ⟨u, z⟩) | z
    · exact .inl (.inl (by rw [upd_ne (fun w => by rw [w, h] at z; cases z)]; exact z))
    · exact .inl (.inr ⟨u, by rw [upd_ne (fun w => by rw [w, h] at z; cases z)]; exact z⟩)
    · exact .inr z
  exact ⟨b, dy, p, q, s, rfl, by rw [upd_ne (fun z => by rw [z, h] at h1; cases h1)]; exact h1, st h2, st h3, st h4⟩
theorem SetAt.upd {x : V} {xs : List V} {o : HO} (h : H l = some (.lst xs)) (ra : SetAt K Cw Cr r x H) : SetAt K Cw Cr r x (upd H l o) := by
  obtain ⟨b, dx, y, rfl, h1, h2⟩ := ra
  exact ⟨b, dx, y, rfl, by rw [upd_ne (fun z => by rw [z, h] at h1; cases h1)]; exact h1, h2.upd h⟩
theorem sqt_updL {p : Addr} {xs ys : List V} {o : HO} (h : H l = some (.lst xs)) (z : SqT K H p ys) : SqT K (upd H l o) p ys := by
  rcases z with (z | ⟨u, z⟩) | z
  · exact .inl (.inl (by rw [upd_ne (fun w => by rw [w, h] at z; cases z)]; exact z))
  · exact .inl (.inr ⟨u, by rw [upd_ne (fun w => by rw [w, h] at z; cases z)]; exact z⟩)
  · exact .inr z
/-- some sets of the row r in the list at l -/
def SomeAt (K : PySem.W.Frag) (Cw Cr : Addr) (r : Rw) (l : Addr) (m : Nat) (H : Hp) : Prop := ∃ vs, H l = some (.lst vs) ∧ vs.length ≤ m ∧ 0 < vs.length ∧ ∀ v ∈ vs, SetAt K Cw Cr r v H
theorem SomeAt.mono {m : Nat} (e : Ex H H') (s : SomeAt K Cw Cr r l m H) : SomeAt K Cw Cr r l m H' := by
  obtain ⟨vs, h1, h2, h3, h4⟩ := s
  exact ⟨vs, e _ _ h1, h2, h3, fun v hv => (h4 v hv).mono e⟩
theorem SomeAt.le {m m' : Nat} (s : SomeAt K Cw Cr r l m H) (h : m ≤ m') : SomeAt K Cw Cr r l m' H := by
  obtain ⟨vs, h1, h2, h3, h4⟩ := s
  exact ⟨vs, h1, by omega, h3, h4⟩
/-- some.append(a set) -/
theorem s_appS {m : Nat} (s : SomeAt K Cw Cr r l m H) (hm : m ≤ 100) (ha : Ev ta σ H (.ref l)) (h : Yi te σ H (SetAt K Cw Cr r)) (k : ∀ H1 xs ys, Ex H H1 → H1 l = some (.lst xs) → SomeAt K Cw Cr r l (m + 1) (upd H1 l (.lst ys)) → D.nx σ (upd H1 l (.lst ys))) : tDrop (tBM K "list" rAppend ta (tCons te tNil)) D σ H := by
  obtain ⟨vs, h1, h2, h3, h4⟩ := s
  exact ha H (Ex.refl H) _ fun H1 e1 => ⟨Or.inl ⟨rfl, vs, sq_of (e1 l _ h1)⟩, h H1 e1 _ fun v H2 e2 sv => ⟨l, vs, v, rfl, rfl, e2 l _ (e1 l _ h1), sz_lt (by omega), k H2 vs _ (e1.trans e2) (e2 l _ (e1 l _ h1)) ⟨_, upd_same, by simp; omega, by simp, fun u hu => by
    rcases List.mem_append.mp hu with hu | hu
    · exact ((h4 u hu).mono (e1.trans e2)).upd (e2 l _ (e1 l _ h1))
    · rw [List.mem_singleton.mp hu]
      exact sv.upd (e2 l _ (e1 l _ h1))⟩⟩⟩
/-- [te for x in the sets], one truth for all -/
theorem el_some {m j : Nat} {vs : List Nat} {b : Bool} (s : SomeAt K Cw Cr r l m H) (hm : m ≤ 100) (hl : Ev ta σ H (.ref l)) (hw : ∀ x, wipe ((wipe σ vs).set j (some x)) vs = wipe σ vs) (he : ∀ x H1, Ex H H1 → SetAt K Cw Cr r x H1 → Ev te ((wipe σ vs).set j (some x)) H1 (.bl b)) : ∃ n, n ≤ m ∧ EvL (tLc (iList K ta) (gName j) tYes te vs) σ H (List.replicate n (.bl b)) ∧ ∀ te', Ev te' σ H (.ref l) → Ev (tCB (rLenY K) (tCons te' tNil)) σ H (natV n) := by
  obtain ⟨ws, h1, h2, h3, h4⟩ := s
  refine ⟨ws.length, h2, el_is (el_lcL (j := j) (fun _ => true) (fun _ => .bl b) hl (sq_of h1) (by omega) hw (fun i x H3 e3 lt H4 e4 Q' k => k H4 (Ex.refl H4)) fun i x H3 e3 hx _ => he x H3 e3 ((h4 x (List.mem_of_getElem? hx)).mono e3)) ?_, fun te' h' => ev_lenL h' (.inl (sq_of h1))⟩
  unfold given
  rw [List.filter_eq_self.mpr (fun _ _ => rfl), List.map_const', List.length_range]
end
theorem rep_bl (n : Nat) (b : Bool) : List.replicate n (V.bl b) = (List.replicate n b).map V.bl := by rw [List.map_replicate]
theorem da_blL {K : PySem.W.Frag} {H : Hp} {p : Addr} {n : Nat} {b : Bool} (h : H p = some (.lst (List.replicate n (.bl b)))) : Da K H (.ref p) (.list ((List.replicate n b).map PyData.bool)) := by
  rw [rep_bl] at h
  exact da_list h (da_bl _)
theorem pl_blL (n : Nat) (b : Bool) : Pl (.list ((List.replicate n b).map PyData.bool)) := pl_atmL fun x _ => atm_bl x
theorem eqv_blL (n : Nat) (b : Bool) : PyData.eqv (.list ((List.replicate n b).map PyData.bool)) (.list ((List.replicate n b).map PyData.bool)) = true := by
  simp only [PyData.eqv, eqvAll_bl, decide_true]
end SwX
set_option Elab.async false
set_option linter.all false
set_option maxRecDepth 100000
set_option maxHeartbeats 4000000
/-! an own instance against values of other kinds -/
namespace SwX
open PySem PySem.Spec PyProof.Rows L2 PySem.SeqAt
open AutoSeq1 (wpAny_loadPart')
open MeetsSeq
section
variable {K : PySem.W.Frag} {M : Model} {A : Around} {E : Value → Shared → Prop} {hp : Heap} {g : Array GenState} {d : Drawn} {t : Nat} {os : OsState} {C x dx : Addr} {T : String}
theorem isInst_own (X : K.In hp) (hx : hp.get? x = some (PySem.W.instObj C dx)) (e : PySem.W.subIn K (.ref C) (.type T) = some false) {Q : Bool → Shared → Prop} (q : Q false ⟨hp, g, d, t, os⟩) : wpAny M A (isInstance (.ref x) (.type T)) Q E ⟨hp, g, d, t, os⟩ := by
  unfold isInstance
  exact wpAny_bind (wpAny_typeOf_ref hx ((PySem.W.looks_subIn X e).here q))
end
/-- an own instance that is no T -/
def OwnNo (T : String) (x : Addr) (s : Shared) : Prop := ∃ (K : PySem.W.Frag) (C dx : Addr), K.In s.heap ∧ s.heap.get? x = some (PySem.W.instObj C dx) ∧ PySem.W.subIn K (.ref C) (.type T) = some false
theorem list_eq_own (l x : Addr) : Meets (Builtin.«list.__eq__» ⟨[.ref l, .ref x], []⟩) (fun _ R s => OwnNo "list" x s ∧ R (.ok (.ret .notImplemented)) s) :=
  .of_wp fun prog w A R s h => by obtain ⟨hp, g, d, tk, os⟩ := s; obtain ⟨⟨K, C, dx, X, hx, e⟩, h⟩ := h; wp_walk using isInst_own X hx e; exact ⟨_, rfl, h⟩
theorem list_ne_own (l x : Addr) : Meets (Builtin.«list.__ne__» ⟨[.ref l, .ref x], []⟩) (fun _ R s => OwnNo "list" x s ∧ R (.ok (.ret .notImplemented)) s) :=
  .of_wp fun prog w A R s h => by obtain ⟨hp, g, d, tk, os⟩ := s; obtain ⟨⟨K, C, dx, X, hx, e⟩, h⟩ := h; wp_walk using isInst_own X hx e; exact ⟨_, rfl, h⟩
theorem tuple_eq_own (l x : Addr) : Meets (Builtin.«tuple.__eq__» ⟨[.ref l, .ref x], []⟩) (fun _ R s => OwnNo "tuple" x s ∧ R (.ok (.ret .notImplemented)) s) :=
  .of_wp fun prog w A R s h => by obtain ⟨hp, g, d, tk, os⟩ := s; obtain ⟨⟨K, C, dx, X, hx, e⟩, h⟩ := h; wp_walk using isInst_own X hx e; exact ⟨_, rfl, h⟩
theorem tuple_ne_own (l x : Addr) : Meets (Builtin.«tuple.__ne__» ⟨[.ref l, .ref x], []⟩) (fun _ R s => OwnNo "tuple" x s ∧ R (.ok (.ret .notImplemented)) s) :=
  .of_wp fun prog w A R s h => by obtain ⟨hp, g, d, tk, os⟩ := s; obtain ⟨⟨K, C, dx, X, hx, e⟩, h⟩ := h; wp_walk using isInst_own X hx e; exact ⟨_, rfl, h⟩
theorem dict_eq_own (l x : Addr) : Meets (Builtin.«dict.__eq__» ⟨[.ref l, .ref x], []⟩) (fun _ R s => OwnNo "dict" x s ∧ R (.ok (.ret .notImplemented)) s) :=
  .of_wp fun prog w A R s h => by obtain ⟨hp, g, d, tk, os⟩ := s; obtain ⟨⟨K, C, dx, X, hx, e⟩, h⟩ := h; wp_walk using isInst_own X hx e; exact ⟨_, rfl, h⟩
theorem dict_ne_own (l x : Addr) : Meets (Builtin.«dict.__ne__» ⟨[.ref l, .ref x], []⟩) (fun _ R s => OwnNo "dict" x s ∧ R (.ok (.ret .notImplemented)) s) :=
  .of_wp fun prog w A R s h => by obtain ⟨hp, g, d, tk, os⟩ := s; obtain ⟨⟨K, C, dx, X, hx, e⟩, h⟩ := h; wp_walk using isInst_own X hx e; exact ⟨_, rfl, h⟩
theorem str_eq_own (z : Str) (u : Tok) (x : Addr) : Meets (Builtin.«str.__eq__» ⟨[.str z u, .ref x], []⟩) (fun _ R s => (∃ C dx, s.heap.get? x = some (PySem.W.instObj C dx)) ∧ R (.ok (.ret .notImplemented)) s) :=
  .of_wp fun prog w A R s h => by obtain ⟨hp, g, d, tk, os⟩ := s; obtain ⟨⟨C, dx, hx⟩, h⟩ := h; wp_walk using wpAny_loadPart' hx, wpAny_load hx; exact ⟨_, rfl, h⟩
theorem str_ne_own (z : Str) (u : Tok) (x : Addr) : Meets (Builtin.«str.__ne__» ⟨[.str z u, .ref x], []⟩) (fun _ R s => (∃ C dx, s.heap.get? x = some (PySem.W.instObj C dx)) ∧ R (.ok (.ret .notImplemented)) s) :=
  .of_wp fun prog w A R s h => by obtain ⟨hp, g, d, tk, os⟩ := s; obtain ⟨⟨C, dx, hx⟩, h⟩ := h; wp_walk using wpAny_loadPart' hx, wpAny_load hx; exact ⟨_, rfl, h⟩
theorem int_eq_own (z : Int) (u : Tok) (x : Addr) : Meets (Builtin.«int.__eq__» ⟨[.int z u, .ref x], []⟩) (fun _ R s => (∃ C dx, s.heap.get? x = some (PySem.W.instObj C dx)) ∧ R (.ok (.ret .notImplemented)) s) :=
  .of_wp fun prog w A R s h => by obtain ⟨hp, g, d, tk, os⟩ := s; obtain ⟨⟨C, dx, hx⟩, h⟩ := h; wp_walk using wpAny_loadPart' hx, wpAny_load hx; exact ⟨_, rfl, h⟩
theorem int_ne_own (z : Int) (u : Tok) (x : Addr) : Meets (Builtin.«int.__ne__» ⟨[.int z u, .ref x], []⟩) (fun _ R s => (∃ C dx, s.heap.get? x = some (PySem.W.instObj C dx)) ∧ R (.ok (.ret .notImplemented)) s) :=
  .of_wp fun prog w A R s h => by obtain ⟨hp, g, d, tk, os⟩ := s; obtain ⟨⟨C, dx, hx⟩, h⟩ := h; wp_walk using wpAny_loadPart' hx, wpAny_load hx; exact ⟨_, rfl, h⟩
theorem bool_eq_own (z : Bool) (x : Addr) : Meets (Builtin.«int.__eq__» ⟨[.bool z, .ref x], []⟩) (fun _ R s => (∃ C dx, s.heap.get? x = some (PySem.W.instObj C dx)) ∧ R (.ok (.ret .notImplemented)) s) :=
  .of_wp fun prog w A R s h => by obtain ⟨hp, g, d, tk, os⟩ := s; obtain ⟨⟨C, dx, hx⟩, h⟩ := h; wp_walk using wpAny_loadPart' hx, wpAny_load hx; exact ⟨_, rfl, h⟩
theorem bool_ne_own (z : Bool) (x : Addr) : Meets (Builtin.«int.__ne__» ⟨[.bool z, .ref x], []⟩) (fun _ R s => (∃ C dx, s.heap.get? x = some (PySem.W.instObj C dx)) ∧ R (.ok (.ret .notImplemented)) s) :=
  .of_wp fun prog w A R s h => by obtain ⟨hp, g, d, tk, os⟩ := s; obtain ⟨⟨C, dx, hx⟩, h⟩ := h; wp_walk using wpAny_loadPart' hx, wpAny_load hx; exact ⟨_, rfl, h⟩
theorem none_eq_own (x : Addr) : Meets (Builtin.«NoneType.__eq__» ⟨[.none, .ref x], []⟩) (fun _ R s => R (.ok (.ret .notImplemented)) s) :=
  .of_wp fun prog w A R s h => by obtain ⟨hp, g, d, tk, os⟩ := s; wp_walk; exact ⟨_, rfl, h⟩
theorem none_ne_own (x : Addr) : Meets (Builtin.«NoneType.__ne__» ⟨[.none, .ref x], []⟩) (fun _ R s => R (.ok (.ret .notImplemented)) s) :=
  .of_wp fun prog w A R s h => by obtain ⟨hp, g, d, tk, os⟩ := s; wp_walk; exact ⟨_, rfl, h⟩
end SwX
set_option Elab.async false
set_option linter.all false
set_option maxRecDepth 100000
set_option maxHeartbeats 4000000
/-! == and != of an own instance and a value of another kind, on either side -/
namespace SwX
open PySem PySem.Spec PyProof.Rows L2
/-! ### the machine -/
section
variable {prog : Program} {w : World} {M : Model} {A : Around} {E : Value → Shared → Prop} {s : Shared} {K : PySem.W.Frag} {C x dx f : Addr} {ox : Obj} {od : Option Obj} {a b : Value} {Ta ida : String} {op : CmpOp}
theorem rc_back {Q : Value → Shared → Prop} (hu : A.units < cLine) (ha : s.TypeIs a Ta) (X : K.In s.heap) (hx : s.heap.get? x = some (PySem.W.instObj C dx)) (e : PySem.W.subIn K (.ref C) (.type Ta) = some false) (h1 : Slot Ta (cmpInfo op).2.1 ida)
    (hc1 : ∀ Q' : Value → Shared → Prop, Q' .notImplemented s → wpAny M A (call (.builtin ida) [a, .ref x]) Q' E s) (second : wpAny M A (tryCompare (.ref x) (cmpInfo op).2.2 a) (fun r s' => ∃ v, r = some v ∧ Q v s') E s) : wpAny M A (richCompare op a (.ref x)) Q E s := by
  rcases hi : cmpInfo op with ⟨sy, n1, n2⟩
  rw [hi] at h1 second
  have ne : (Value.type Ta != Value.ref C) = true := rfl
  simp only [richCompare, hi, ha.oneThing_none]
  refine wpAny_holding (wpAny_bind (wpAny_cRoomFor hu (wpAny_bind (wpAny_typeOf ha (wpAny_bind (wpAny_typeOf_ref hx ?_))))))
  show wpAny M A _ _ _ _
  simp only [ne, if_true]
  refine wpAny_bind ((PySem.W.looks_subIn X e).here ?_)
  simp only [Bool.false_eq_true, if_false, Bool.not_false, if_true]
  refine wpAny_bind (m := tryCompare a _ _) (wpAny_tryCompare_declines ha h1 (hc1 _ ⟨rfl, ?_⟩))
  refine wpAny_bind (m := tryCompare (.ref x) _ _) (wpAny_mono second (fun r s' z => ?_) fun _ _ z => z)
  obtain ⟨v, rfl, hq⟩ := z
  exact wpAny_pure hq
theorem try_own {name : Str} {Q : Option Value → Shared → Prop} (X : K.In s.heap) (I : PySem.W.InstAt s.heap x ox C od) (hs : PySem.W.findIn K (.ref C) name = some (some (.ref f))) (hf : PySem.W.isFn K (.ref f) = true) (h : wpAny M A (call (.ref f) [.ref x, b]) (PySem.W.CmpBack fun v s' => Q (some v) s') E s) : wpAny M A (tryCompare (.ref x) name b) Q E s := by
  unfold tryCompare
  refine wpAny_bind (PySem.W.ifBound_K X I hs hf (wpAny_mono h (fun v s' hv => ?_) fun _ _ z => z))
  cases v <;> first | exact hv.elim | exact wpAny_pure hv
end
section
variable {prog : Program} {w : World} {A : Around} {E : Value → Shared → Prop} {h : Heap} {g : Array GenState} {d : Drawn} {t : Nat} {os : OsState} {C x f : Addr} {B : String} {bm : List Value} {K : PySem.W.Frag} {b tb : Value}
theorem objNe_any (X : h.OwnEqNoNe x C f B bm) (hu : A.units < cLine) {Q : Fin → Shared → Prop} (hc : wpAny (model prog w) A (call (.ref f) [.ref x, b]) (fun v s' => ∃ k, v = .bool k ∧ Q (.done (.ret (.bool (!k)))) s') E ⟨h, g, d, t, os⟩) : wpAny (model prog w) A (Builtin.«object.__ne__» ⟨[.ref x, b], []⟩) Q E ⟨h, g, d, t, os⟩ := by
  unfold Builtin.«object.__ne__»
  have own := wpAny_callSpecialIfBound?_own (Q := fun r s' => ∃ k, r = some (.bool k) ∧ Q (.done (.ret (.bool (!k)))) s') X.ownEq (wpAny_mono hc (fun r s' ⟨k, e, q⟩ => ⟨k, by rw [e], q⟩) fun _ _ z => z)
  repeat (first
    | with_reducible refine wpAny_cRoomFor hu ?_
    | refine wpAny_bind (m := callSpecialIfBound? (.ref x) _ [b]) (wpAny_mono own (fun r s' z => by
        obtain ⟨k, rfl, q⟩ := z
        repeat (first | exact q | exact wpAny_pure q | exact wpAny_truthy_bool q | (refine wpAny_bind (m := truthy (.bool _)) (wpAny_truthy_bool ?_)) | wp_step)) fun _ _ z => z)
    | wp_step)
theorem try_ne (FB : CmpFacts B bm) (X : h.OwnEqNoNe x C f B bm) (hu : A.units + 1 < cLine) {Q : Option Value → Shared → Prop} (hc : wpAny (model prog w) A.in1 (call (.ref f) [.ref x, b]) (fun v s' => ∃ k, v = .bool k ∧ Q (some (.bool (!k))) s') E ⟨h, g, d, t, os⟩) : wpAny (model prog w) A (tryCompare (.ref x) "__ne__" b) Q E ⟨h, g, d, t, os⟩ := by
  have Y := X
  obtain ⟨o, of, nm, q, N, bs, z1, sn, sub, ab, col, dd, k0, k1, k2, k3, k5, nid, mN, yv, hx, hcl, hC, hn, _, _, _, _, _, hne⟩ := Y
  simp only [tryCompare]
  refine wpAny_bind (wpAny_callSpecialIfBound?_inst hx hcl hC hn hne FB.mro FB.ne (wpAny_call (codeAny_call_builtin FB.ne.plain F.cmpEntry_ne (wpAny_check_slot_inst F.cmpKind_ne F.cmpSplit_ne (F.cmpArgs_ne _ _) FB.hasObject hx hcl hC (objNe_any (A := A.in1) X hu (wpAny_mono hc (fun v s' hv => ?_) fun _ _ z => z))))))
  obtain ⟨k, rfl, q⟩ := hv
  first | exact ⟨k, rfl, wpAny_pure q⟩ | exact ⟨k, rfl, wpAny_pure (wpAny_pure q)⟩ | exact ⟨k, rfl, q⟩
theorem rc_neL (FB : CmpFacts B bm) (X : h.OwnEqNoNe x C f B bm) (Xk : K.In h) (hb : PySem.W.Looks (model prog w) h (typeOf b) tb) (hn : PySem.W.subIn K tb (.ref C) = some false) (ht : tb ≠ .ref C) (hu : A.units + 1 < cLine) {Q : Value → Shared → Prop} (hc : wpAny (model prog w) A.in1 (call (.ref f) [.ref x, b]) (fun v s' => ∃ k, v = .bool k ∧ Q (.bool (!k)) s') E ⟨h, g, d, t, os⟩) :
    wpAny (model prog w) A (richCompare .NotEq (.ref x) b) Q E ⟨h, g, d, t, os⟩ := by
  have Y := X
  obtain ⟨o, of, nm, q, N, bs, z1, sn, sub, ab, col, dd, k0, k1, k2, k3, k5, nid, mN, yv, hx, hcl, _⟩ := Y
  unfold richCompare
  simp only [oneThing_ref]
  refine wpAny_holding (wpAny_bind (wpAny_cRoomFor (Nat.lt_of_succ_lt hu) ?_))
  rw [cmpInfo_NotEq]
  dsimp only
  refine wpAny_bind (wpAny_typeOf_ref hx ?_)
  rw [hcl]
  refine wpAny_bind (hb.here ?_)
  have ne : (Value.ref C != tb) = true := by simpa using fun z => ht z.symm
  simp only [ne, if_true]
  refine wpAny_bind ((PySem.W.looks_subIn Xk hn).here ?_)
  simp only [Bool.false_eq_true, if_false]
  refine wpAny_bind (try_ne FB X hu (wpAny_mono hc (fun v s' hv => ?_) fun _ _ z => z))
  obtain ⟨k, rfl, q⟩ := hv
  first | exact ⟨k, rfl, wpAny_pure q⟩ | exact ⟨k, rfl, wpAny_pure (wpAny_pure q)⟩
end
end SwX
set_option Elab.async false
set_option linter.all false
set_option maxRecDepth 100000
set_option maxHeartbeats 4000000
/-! == and != of an own instance and data or another own instance, on either side: rules of the hand layer -/
namespace SwX
open PySem PySem.Spec PyProof.Rows L2
section
variable {X : Cx} {CX : CXT} {n : Nat} {f C : Addr} {fd : FuncData} {ps : List Str} {sp : Sp} {E : XK}
/-- no type of data is over or under the class at C -/
def alienB (K : PySem.W.Frag) (C : Addr) : Bool := ["NoneType", "bool", "int", "str", "list", "tuple", "dict"].all fun T => decide (PySem.W.subIn K (.ref C) (.type T) = some false) && decide (PySem.W.subIn K (.type T) (.ref C) = some false)
theorem alien_of {K : PySem.W.Frag} (h : alienB K C = true) (d : PyData) : PySem.W.subIn K (.ref C) (.type (tyn d)) = some false ∧ PySem.W.subIn K (.type (tyn d)) (.ref C) = some false := by
  simp only [alienB, List.all_cons, List.all_nil, Bool.and_eq_true, decide_eq_true_eq] at h
  obtain ⟨h1, h2, h3, h4, h5, h6, h7, _⟩ := h
  cases d <;> assumption
/-- own op y, y of another type -/
def rMixL (K : PySem.W.Frag) (C : Addr) (sp : Sp) (E : XK) (g : Bool → Bool) : R2 := fun x y H Q => ∃ a t, x = .ref a ∧ IsI H a C ∧ TyX K H y t ∧ PySem.W.subIn K t (.ref C) = some false ∧ t ≠ .ref C ∧ sp [.ref a, y] H (fun v H' => ∃ k, v = .bl k ∧ Q (.bl (g k)) H') E
theorem op_eqMixL (F : FnOk X.prog X.w X.K X.mg X.base CX n f fd ps sp) (S : Spc X.K C "__eq__" f) (b : Binds X.K fd ps []) (out : Passes CX X E) (room : Room n X.A) : OpR X (compareOp .Eq) (rMixL X.K C sp E id) := by
  intro pins s σ H x y v u Q I rx ry h
  obtain ⟨a, t, rfl, ia, ty, no, ne, q⟩ := h
  cases rx
  obtain ⟨ox, od, J⟩ := ia.look I
  obtain ⟨P, Z, p, _⟩ := kit_of I ry ty
  obtain ⟨m, fr⟩ := I.fr
  have un := room.un
  show wpAny (model X.prog X.w) X.A (richCompare .Eq _ _) _ _ _
  refine PySem.W.cmp_K (op := .Eq) (tb := t) (by omega) fr I.ok.mod.kin J (Z.ty _ _ I.kIn p) (by simp [PySem.W.notFirst, no]) S.at_ S.fn (wpAny_mono (by_machine F room rfl b out I (.cons (rel_ref _) (.cons ry .nil)) q) (fun r s' z => ?_) fun _ _ z => z)
  obtain ⟨v, H', K', rv, k, rfl, q'⟩ := z
  cases rv
  exact ⟨_, H', K', rel_bl _, q'⟩
theorem op_neMixL (F : FnOk X.prog X.w X.K X.mg X.base CX n f fd ps sp) (S : eqOnly X.K C f = true) (b : Binds X.K fd ps []) (out : Passes CX X E) (room : Room n X.A.in1) : OpR X (compareOp .NotEq) (rMixL X.K C sp E not) := by
  intro pins s σ H x y v u Q I rx ry h
  obtain ⟨a, t, rfl, ia, ty, no, ne, q⟩ := h
  cases rx
  obtain ⟨ox, od, J⟩ := ia.look I
  obtain ⟨P, Z, p, _⟩ := kit_of I ry ty
  have un := room.un
  have Y := eqOnly_of I.kIn J S
  have more : X.A.in1.units = X.A.units + 1 := rfl
  have kin := I.kIn
  have bm := by_machine F room rfl b out I (.cons (rel_ref _) (.cons ry .nil)) q
  have zt := Z.ty (model X.prog X.w) _ kin p
  obtain ⟨hh, g, d, tk, os⟩ := s
  show wpAny (model X.prog X.w) X.A (richCompare .NotEq _ _) _ _ _
  refine rc_neL PySem.F.cmp_object Y kin zt no ne (by omega) (wpAny_mono bm (fun r s' z => ?_) fun _ _ z => z)
  obtain ⟨v, H', K', rv, k, rfl, q'⟩ := z
  cases rv
  exact ⟨k, rfl, .bl (!k), H', K', rel_bl _, q'⟩
/-- data op own -/
def rMixR (K : PySem.W.Frag) (C : Addr) (sp : Sp) (E : XK) (g : Bool → Bool) : R2 := fun x y H Q => ∃ a d, y = .ref a ∧ IsI H a C ∧ Da K H x d ∧ sp [.ref a, x] H (fun v H' => ∃ k, v = .bl k ∧ Q (.bl (g k)) H') E
theorem eq_declines {M : Model} {A : Around} {Ev : Value → Shared → Prop} {pins : List (Addr × Obj)} {σ : L2.St} {H : Hp} {s : Shared} {x : V} {v : Value} {d : PyData} {a dx : Addr} (I : Inv X pins σ H s) (al : alienB X.K C = true) (hx : s.heap.get? a = some (PySem.W.instObj C dx)) (rx : RelV x v) (h : Da X.K H x d) :
    ∃ ida, s.TypeIs v (tyn d) ∧ Slot (tyn d) "__eq__" ida ∧ ∀ Q' : Value → Shared → Prop, Q' .notImplemented s → wpAny (model X.prog X.w) X.A (call (.builtin ida) [v, .ref a]) Q' Ev s := by
  have own : ∀ T, (PySem.W.subIn X.K (.ref C) (.type T) = some false) → OwnNo T a s := fun T e => ⟨X.K, C, dx, I.kIn, hx, e⟩
  cases h with
  | non =>
    cases rx
    exact ⟨"NoneType.__eq__", typeIs_none _, F.slot_NoneType_eq, fun Q' q => call_meets F.slot_NoneType_eq (typeIs_none _) F.entry_NoneType_eq (F.args_NoneType_eq_2 _ _) (none_eq_own a) q⟩
  | bl b =>
    cases rx
    exact ⟨"int.__eq__", PySem.typeIs_bool _ _, F.slot_bool_eq, fun Q' q => call_meets F.slot_bool_eq (PySem.typeIs_bool _ _) F.entry_int_eq (F.args_int_eq_2 _ _) (bool_eq_own b a) ⟨⟨C, dx, hx⟩, q⟩⟩
  | int i =>
    obtain ⟨t, rfl⟩ := rx
    exact ⟨"int.__eq__", typeIs_int _ _ _, F.slot_int_eq, fun Q' q => call_meets F.slot_int_eq (typeIs_int _ _ _) F.entry_int_eq (F.args_int_eq_2 _ _) (int_eq_own i t a) ⟨⟨C, dx, hx⟩, q⟩⟩
  | str i =>
    obtain ⟨t, rfl⟩ := rx
    exact ⟨"str.__eq__", typeIs_str _ _ _, F.slot_str_eq, fun Q' q => call_meets F.slot_str_eq (typeIs_str _ _ _) F.entry_str_eq (F.args_str_eq_2 _ _) (str_eq_own i t a) ⟨⟨C, dx, hx⟩, q⟩⟩
  | @lst p xs ds h l _ =>
    cases rx
    obtain ⟨its, rv, ⟨o, n, ho, hc, _, hd⟩, _⟩ := I.list (Evl.sq_of h)
    have T : s.TypeIs (.ref p) "list" := ⟨_, ho, hc⟩
    exact ⟨"list.__eq__", T, F.slot_list_eq, fun Q' q => call_meets F.slot_list_eq T F.entry_list_eq (F.args_list_eq_2 _ _) (list_eq_own p a) ⟨own _ (alien_of al (.list [])).1, q⟩⟩
  | @tup p xs ds h l _ =>
    cases rx
    obtain ⟨its, rv, ⟨o, ho, hc, n, hd⟩, _⟩ := I.tuple h
    have T : s.TypeIs (.ref p) "tuple" := ⟨_, ho, hc⟩
    exact ⟨"tuple.__eq__", T, F.slot_tuple_eq, fun Q' q => call_meets F.slot_tuple_eq T F.entry_tuple_eq (F.args_tuple_eq_2 _ _) (tuple_eq_own p a) ⟨own _ (alien_of al (.tuple [])).1, q⟩⟩
  | @dic p kvs ds h l each =>
    cases rx
    have ok : ObjOk X.prog X.w H s.heap p (.dK kvs) := I.hok p _ h
    obtain ⟨_, _, vs, kv, o, es, ep, ho, hx', hd, _, hp, _⟩ := ok
    have T : s.TypeIs (.ref p) "dict" := ⟨_, ho, hx'.1⟩
    exact ⟨"dict.__eq__", T, F.slot_dict_eq, fun Q' q => call_meets F.slot_dict_eq T F.entry_dict_eq (F.args_dict_eq_2 _ _) (dict_eq_own p a) ⟨own _ (alien_of al (.dict [])).1, q⟩⟩
theorem ne_declines {M : Model} {A : Around} {Ev : Value → Shared → Prop} {pins : List (Addr × Obj)} {σ : L2.St} {H : Hp} {s : Shared} {x : V} {v : Value} {d : PyData} {a dx : Addr} (I : Inv X pins σ H s) (al : alienB X.K C = true) (hx : s.heap.get? a = some (PySem.W.instObj C dx)) (rx : RelV x v) (h : Da X.K H x d) :
    ∃ ida, s.TypeIs v (tyn d) ∧ Slot (tyn d) "__ne__" ida ∧ ∀ Q' : Value → Shared → Prop, Q' .notImplemented s → wpAny (model X.prog X.w) X.A (call (.builtin ida) [v, .ref a]) Q' Ev s := by
  have own : ∀ T, (PySem.W.subIn X.K (.ref C) (.type T) = some false) → OwnNo T a s := fun T e => ⟨X.K, C, dx, I.kIn, hx, e⟩
  cases h with
  | non =>
    cases rx
    exact ⟨"NoneType.__ne__", typeIs_none _, F.slot_NoneType_ne, fun Q' q => call_meets F.slot_NoneType_ne (typeIs_none _) F.entry_NoneType_ne (F.args_NoneType_ne_2 _ _) (none_ne_own a) q⟩
  | bl b =>
    cases rx
    exact ⟨"int.__ne__", PySem.typeIs_bool _ _, F.slot_bool_ne, fun Q' q => call_meets F.slot_bool_ne (PySem.typeIs_bool _ _) F.entry_int_ne (F.args_int_ne_2 _ _) (bool_ne_own b a) ⟨⟨C, dx, hx⟩, q⟩⟩
  | int i =>
    obtain ⟨t, rfl⟩ := rx
    exact ⟨"int.__ne__", typeIs_int _ _ _, F.slot_int_ne, fun Q' q => call_meets F.slot_int_ne (typeIs_int _ _ _) F.entry_int_ne (F.args_int_ne_2 _ _) (int_ne_own i t a) ⟨⟨C, dx, hx⟩, q⟩⟩
  | str i =>
    obtain ⟨t, rfl⟩ := rx
    exact ⟨"str.__ne__", typeIs_str _ _ _, F.slot_str_ne, fun Q' q => call_meets F.slot_str_ne (typeIs_str _ _ _) F.entry_str_ne (F.args_str_ne_2 _ _) (str_ne_own i t a) ⟨⟨C, dx, hx⟩, q⟩⟩
  | @lst p xs ds h l _ =>
    cases rx
    obtain ⟨its, rv, ⟨o, n, ho, hc, _, hd⟩, _⟩ := I.list (Evl.sq_of h)
    have T : s.TypeIs (.ref p) "list" := ⟨_, ho, hc⟩
    exact ⟨"list.__ne__", T, F.slot_list_ne, fun Q' q => call_meets F.slot_list_ne T F.entry_list_ne (F.args_list_ne_2 _ _) (list_ne_own p a) ⟨own _ (alien_of al (.list [])).1, q⟩⟩
  | @tup p xs ds h l _ =>
    cases rx
    obtain ⟨its, rv, ⟨o, ho, hc, n, hd⟩, _⟩ := I.tuple h
    have T : s.TypeIs (.ref p) "tuple" := ⟨_, ho, hc⟩
    exact ⟨"tuple.__ne__", T, F.slot_tuple_ne, fun Q' q => call_meets F.slot_tuple_ne T F.entry_tuple_ne (F.args_tuple_ne_2 _ _) (tuple_ne_own p a) ⟨own _ (alien_of al (.tuple [])).1, q⟩⟩
  | @dic p kvs ds h l each =>
    cases rx
    have ok : ObjOk X.prog X.w H s.heap p (.dK kvs) := I.hok p _ h
    obtain ⟨_, _, vs, kv, o, es, ep, ho, hx', hd, _, hp, _⟩ := ok
    have T : s.TypeIs (.ref p) "dict" := ⟨_, ho, hx'.1⟩
    exact ⟨"dict.__ne__", T, F.slot_dict_ne, fun Q' q => call_meets F.slot_dict_ne T F.entry_dict_ne (F.args_dict_ne_2 _ _) (dict_ne_own p a) ⟨own _ (alien_of al (.dict [])).1, q⟩⟩
theorem op_eqMixR (F : FnOk X.prog X.w X.K X.mg X.base CX n f fd ps sp) (S : Spc X.K C "__eq__" f) (al : alienB X.K C = true) (b : Binds X.K fd ps []) (out : Passes CX X E) (room : Room n X.A) : OpR X (compareOp .Eq) (rMixR X.K C sp E id) := by
  intro pins s σ H x y v u Q I rx ry h
  obtain ⟨a, d, rfl, ia, da, q⟩ := h
  cases ry
  have ia' := ia
  obtain ⟨ox, od, J⟩ := ia.look I
  obtain ⟨dx, fs, e⟩ := ia'
  obtain ⟨mA, O, _⟩ := ins_get I.hok e
  have un := room.un
  obtain ⟨ida, T, sl, dec⟩ := eq_declines (M := model X.prog X.w) (A := X.A) (Ev := X.xe) I al O.obj rx da
  show wpAny (model X.prog X.w) X.A (richCompare .Eq _ _) _ _ _
  refine rc_back (op := .Eq) (by omega) T I.kIn O.obj (alien_of al d).1 sl dec ?_
  refine try_own I.kIn J S.at_ S.fn (wpAny_mono (by_machine F room rfl b out I (.cons (rel_ref _) (.cons rx .nil)) q) (fun r s' z => ?_) fun _ _ z => z)
  obtain ⟨v, H', K', rv, k, rfl, q'⟩ := z
  cases rv
  exact ⟨_, rfl, _, H', K', rel_bl _, q'⟩
theorem op_neMixR (F : FnOk X.prog X.w X.K X.mg X.base CX n f fd ps sp) (S : eqOnly X.K C f = true) (al : alienB X.K C = true) (b : Binds X.K fd ps []) (out : Passes CX X E) (room : Room n X.A.in1) : OpR X (compareOp .NotEq) (rMixR X.K C sp E not) := by
  intro pins s σ H x y v u Q I rx ry h
  obtain ⟨a, d, rfl, ia, da, q⟩ := h
  cases ry
  have ia' := ia
  obtain ⟨ox, od, J⟩ := ia.look I
  obtain ⟨dx, fs, e⟩ := ia'
  obtain ⟨mA, O, _⟩ := ins_get I.hok e
  have un := room.un
  have Y := eqOnly_of I.kIn J S
  have more : X.A.in1.units = X.A.units + 1 := rfl
  obtain ⟨ida, T, sl, dec⟩ := ne_declines (M := model X.prog X.w) (A := X.A) (Ev := X.xe) I al O.obj rx da
  have bm := by_machine F room rfl b out I (.cons (rel_ref _) (.cons rx .nil)) q
  have kin := I.kIn
  have ob := O.obj
  clear J O
  obtain ⟨hh, g, dd, tk, os⟩ := s
  show wpAny (model X.prog X.w) X.A (richCompare .NotEq _ _) _ _ _
  refine rc_back (op := .NotEq) (by omega) T kin ob (alien_of al d).1 sl dec ?_
  refine try_ne PySem.F.cmp_object Y (by omega) (wpAny_mono bm (fun r s' z => ?_) fun _ _ z => z)
  obtain ⟨v, H', K', rv, k, rfl, q'⟩ := z
  cases rv
  exact ⟨k, rfl, _, rfl, .bl (!k), H', K', rel_bl _, q'⟩
end
end SwX
set_option Elab.async false
set_option linter.all false
set_option maxRecDepth 100000
set_option maxHeartbeats 4000000
/-! what repr shows of data without dicts can be laid out -/
namespace SwX
open PySem PySem.Spec PyProof.Rows L2
theorem char_lt (c : Char) : c.toNat < 0x110000 := by
  have h := c.valid
  have e : c.toNat = c.val.toNat := rfl
  rcases h with h | h
  · have : c.val.toNat < 0xD800 := h
    omega
  · have : c.val.toNat < 0x110000 := h.2
    omega
theorem reprChar_lt {q c : Nat} (hc : c < 0x110000) : ∀ x ∈ Builtin.Str.reprChar q c, x < 0x110000 := by
  intro x hx
  unfold Builtin.Str.reprChar at hx
  have dig : ∀ n, ∀ x ∈ List.replicate n 48 ++ (Nat.toDigits 16 c).map Char.toNat, x < 0x110000 := fun n x hx => by
    rcases List.mem_append.mp hx with h | h
    · rw [(List.mem_replicate.mp h).2]
      decide
    · obtain ⟨d, _, rfl⟩ := List.mem_map.mp h
      exact char_lt d
  have two : ∀ a b n, a < 200 → b < 200 → ∀ x ∈ [a, b] ++ (List.replicate n 48 ++ (Nat.toDigits 16 c).map Char.toNat), x < 0x110000 := fun a b n ha hb x hx => by
    rcases List.mem_append.mp hx with h | h
    · simp only [List.mem_cons, List.not_mem_nil, or_false] at h
      rcases h with rfl | rfl <;> omega
    · exact dig n x h
  dsimp only at hx
  split at hx
  · simp only [List.mem_cons, List.not_mem_nil, or_false] at hx
    rcases hx with rfl | rfl <;> omega
  · split at hx
    · simp only [List.mem_cons, List.not_mem_nil, or_false] at hx
      rcases hx with rfl | rfl <;> omega
    · split at hx
      · simp only [List.mem_cons, List.not_mem_nil, or_false] at hx
        rcases hx with rfl | rfl <;> omega
      · split at hx
        · simp only [List.mem_cons, List.not_mem_nil, or_false] at hx
          rcases hx with rfl | rfl <;> omega
        · split at hx
          · rw [List.mem_singleton.mp hx]
            exact hc
          · split at hx
            · exact two _ _ _ (by decide) (by decide) x hx
            · split at hx
              · exact two _ _ _ (by decide) (by decide) x hx
              · exact two _ _ _ (by decide) (by decide) x hx
theorem fold_lt {q : Nat} : ∀ (l : List Nat) (acc : Array Nat), (∀ c ∈ l, c < 0x110000) → (∀ c ∈ acc.toList, c < 0x110000) → ∀ c ∈ (l.foldl (fun out c => out ++ (Builtin.Str.reprChar q c).toArray) acc).toList, c < 0x110000
  | [], acc, _, h => h
  | c :: r, acc, hl, h => by
    rw [List.foldl_cons]
    refine fold_lt r _ (fun x hx => hl x (List.mem_cons_of_mem _ hx)) fun x hx => ?_
    rw [Array.toList_append] at hx
    rcases List.mem_append.mp hx with z | z
    · exact h x z
    · exact reprChar_lt (hl c List.mem_cons_self) x z
theorem text_lt {x : Str} (h : ∀ c ∈ x.cps.toList, c < 0x110000) : ∀ c ∈ (reprText x).cps.toList, c < 0x110000 := by
  have q0 : reprQuote x < 0x110000 := by
    unfold reprQuote
    split <;> decide
  intro c hc
  unfold reprText at hc
  rw [Array.toList_push] at hc
  rcases List.mem_append.mp hc with z | z
  · rw [← Array.foldl_toList] at z
    refine fold_lt _ _ h (fun y hy => ?_) c z
    rw [List.mem_singleton.mp hy]
    exact q0
  · rw [List.mem_singleton.mp z]
    exact q0
theorem app_lt {x y : Str} (hx : ∀ c ∈ x.cps.toList, c < 0x110000) (hy : ∀ c ∈ y.cps.toList, c < 0x110000) : ∀ c ∈ (x ++ y).cps.toList, c < 0x110000 := fun c hc => by
  rw [cps_toList_append] at hc
  rcases List.mem_append.mp hc with z | z
  · exact hx c z
  · exact hy c z
theorem join_lt {ts : List Str} (h : ∀ t ∈ ts, ∀ c ∈ t.cps.toList, c < 0x110000) : ∀ c ∈ (Str.join (", " : Str) ts).cps.toList, c < 0x110000 := fun c hc => by
  rcases (mem_join _ c ts).mp hc with ⟨t, ht, z⟩ | ⟨_, z⟩
  · exact h t ht c z
  · have b : ∀ c ∈ ((", " : Str)).cps.toList, c < 0x110000 := by decide +kernel
    exact b c z
theorem strOk_lt {x : Str} (h : PyData.strOk x = true) : ∀ c ∈ x.cps.toList, c < 0x110000 := by
  unfold PyData.strOk at h
  rw [← Array.all_toList, List.all_eq_true] at h
  exact fun c hc => of_decide_eq_true (h c hc)
mutual
theorem shown_lt : ∀ d : PyData, d.canLay0 = true → ∀ c ∈ d.shown.cps.toList, c < 0x110000
  | .none, _ => by
    show ∀ c ∈ ("None" : Str).cps.toList, c < 0x110000
    decide +kernel
  | .bool b, _ => by cases b <;> decide +kernel
  | .int i, _ => int_signs i
  | .str x, h => by
    rw [PyData.shown_str]
    exact text_lt (strOk_lt h)
  | .list xs, h => by
    rw [PyData.shown_list]
    exact app_lt (app_lt (by decide +kernel) (join_lt (shownAll_lt xs (by simpa only [PyData.canLay0] using h)))) (by decide +kernel)
  | .tuple xs, h => by
    rw [PyData.shown_tuple]
    refine app_lt (app_lt (by decide +kernel) (join_lt (shownAll_lt xs (by simpa only [PyData.canLay0] using h)))) ?_
    split <;> decide +kernel
  | .dict _, h => by cases h
theorem shownAll_lt : ∀ ds : List PyData, PyData.canLayAll0 ds = true → ∀ t ∈ PyData.shownAll ds, ∀ c ∈ t.cps.toList, c < 0x110000
  | [], _ => fun t ht => by cases ht
  | d :: ds, h => fun t ht => by
    have h' : d.canLay0 = true ∧ PyData.canLayAll0 ds = true := by simpa only [PyData.canLayAll0, Bool.and_eq_true] using h
    rw [show PyData.shownAll (d :: ds) = d.shown :: PyData.shownAll ds by simp only [PyData.shownAll]] at ht
    rcases List.mem_cons.mp ht with e | e
    · rw [e]
      exact shown_lt d h'.1
    · exact shownAll_lt ds h'.2 t e
end
theorem lay_shown {d : PyData} (h : d.canLay0 = true) : (PyData.str d.shown).canLay0 = true := strOk_of (shown_lt d h)
end SwX
set_option Elab.async false
set_option linter.all false
set_option maxRecDepth 100000
set_option maxHeartbeats 4000000
/-! values of other kinds told from an own class: isinstance, == and != -/
namespace SwX
open PySem PySem.Spec PyProof.Rows L2 Evl
def kitNoB (K : PySem.W.Frag) (C : Addr) : Bool := ["NoneType", "bool", "int", "str", "list", "tuple", "dict"].all fun T => decide (PySem.W.kitOne K (.type T) (.ref C) = some false)
structure Alien (K : PySem.W.Frag) (C : Addr) : Prop where
  al : alienB K C = true
  kt : kitNoB K C = true
theorem Alien.kit {K : PySem.W.Frag} {C : Addr} (h : Alien K C) (d : PyData) : PySem.W.kitOne K (.type (tyn d)) (.ref C) = some false := by
  have h := h.kt
  simp only [kitNoB, List.all_cons, List.all_nil, Bool.and_eq_true, decide_eq_true_eq] at h
  obtain ⟨h1, h2, h3, h4, h5, h6, h7, _⟩ := h
  cases d <;> assumption
/-- u is no instance of the class at C -/
def NotC (K : PySem.W.Frag) (C : Addr) (u : V) (H : Hp) : Prop := ∃ t, TyX K H u t ∧ PySem.W.kitOne K t (.ref C) = some false ∧ PySem.W.subIn K t (.ref C) = some false ∧ t ≠ .ref C
section
variable {K : PySem.W.Frag} {σ : L2.St} {H H' : Hp} {C Cw a : Addr} {te ta tb : TE} {u v : V} {D : PyData} {sp : Sp} {g : Bool → Bool}
theorem notC_da (A : Alien K C) (h : Da K H v D) : NotC K C v H := ⟨_, da_ty h, A.kit D, (alien_of A.al D).2, fun z => nomatch z⟩
theorem notC_ins (c : OwnC K Cw) (kt : PySem.W.kitOne K (.ref Cw) (.ref C) = some false) (sb : PySem.W.subIn K (.ref Cw) (.ref C) = some false) (ne : Cw ≠ C) (h : IsI H a Cw) : NotC K C (.ref a) H := by
  obtain ⟨dx, fs, e⟩ := h
  exact ⟨.ref Cw, .base (.ins e c.cls c.ha c.hn c.ht c.hm), kt, sb, fun z => ne (by cases z; rfl)⟩
theorem ev_isNo (h : Ev te σ H u) (n : ∀ H', Ex H H' → NotC K C u H') : Ev (tCB (rIsi K) (tCons te (tCons (tC (.ref C)) tNil))) σ H (.bl false) := fun H1 e1 Q q => h H1 e1 _ fun H2 e2 => by
  obtain ⟨t, ty, kt, _⟩ := n H2 (e1.trans e2)
  exact ⟨u, .ref C, t, .ref C, false, rfl, .own C, ty, kt, q H2 e2⟩
/-- own == u, u no instance -/
def spEqNo (K : PySem.W.Frag) (C : Addr) : Sp := fun vs H Q _ => ∃ (a : Addr) (u : V), vs = [.ref a, u] ∧ IsI H a C ∧ (∀ H', Ex H H' → NotC K C u H') ∧ ∀ H', Ex H H' → Q (.bl false) H'
def spOr (s1 s2 : Sp) : Sp := fun vs H Q E => s1 vs H Q E ∨ s2 vs H Q E
theorem ok_or {P : Program} {w : World} {mg : Str → Option Value} {base : Heap} {CX : CXT} {n : Nat} {f : Addr} {fd : FuncData} {ps : List Str} {s1 s2 : Sp} (h1 : FnOk P w K mg base CX n f fd ps s1) (h2 : FnOk P w K mg base CX n f fd ps s2) : FnOk P w K mg base CX n f fd ps (spOr s1 s2) := by
  obtain ⟨a1, a2⟩ := h1
  obtain ⟨b1, b2⟩ := h2
  refine ⟨fun vs H Q E h => ?_, fun A outer s H args us vs Q E hr e0 env bind hsp => ?_⟩
  · rcases h with h | h
    · exact a1 vs H Q E h
    · exact b1 vs H Q E h
  · rcases hsp with h | h
    · exact a2 A outer s H args us vs Q E hr e0 env bind h
    · exact b2 A outer s H args us vs Q E hr e0 env bind h
/-- what the program holds of the two classes' own == -/
structure EqC (P : Program) (w : World) (K : PySem.W.Frag) (mg : Str → Option Value) (base : Heap) (k : Nat) (C : Addr) (sp : Sp) : Prop where
  ex : ∃ f fd, FnOk P w K mg base CX0 k f fd ["self", "other"] (spOr sp (spEqNo K C)) ∧ Spc K C "__eq__" f ∧ Binds K fd ["self", "other"] [] ∧ eqOnly K C f = true
  al : Alien K C
/-- the other class -/
structure Oth (K : PySem.W.Frag) (C Cw : Addr) : Prop where
  o : OwnC K Cw
  kt : PySem.W.kitOne K (.ref Cw) (.ref C) = some false
  sb : PySem.W.subIn K (.ref Cw) (.ref C) = some false
  ne : Cw ≠ C
theorem notC_ask (A : Alien K C) (O : Oth K C Cw) {o : Option PyData} (h : AskAt K Cw o v H) : ∀ H', Ex H H' → NotC K C v H' := fun H' e => by
  cases o with
  | some D => exact notC_da A (Da.mono e h)
  | none =>
    obtain ⟨b, rfl, i⟩ := h
    exact notC_ins O.o O.kt O.sb O.ne (isI_mono e i)
theorem rv_mixL (A : Alien K C) (O : Oth K C Cw) (i : IsI H a C) {o : Option PyData} (h : AskAt K Cw o v H) : RV (rMixL K C (spOr sp (spEqNo K C)) E0 g) (.ref a) v H (.bl (g false)) := fun H1 e1 Q q => by
  have n := notC_ask A O h
  obtain ⟨t, ty, _, sb, ne⟩ := n H1 e1
  exact ⟨a, t, rfl, isI_mono e1 i, ty, sb, ne, .inr ⟨a, v, rfl, isI_mono e1 i, fun H2 e2 => n H2 (e1.trans e2), fun H2 e2 => ⟨false, rfl, q H2 e2⟩⟩⟩
/-- the thing on the left: data, or one of the other class -/
def rThing (K : PySem.W.Frag) (C Cw : Addr) (s1 s2 : Sp) (g : Bool → Bool) : R2 := fun x y H Q => rMixR K C s1 E0 g x y H Q ∨ rMixL K Cw s2 E0 g x y H Q
theorem rv_thing {sp2 : Sp} (A : Alien K C) (O : Oth K C Cw) (c : OwnC K C) (kt : PySem.W.kitOne K (.ref C) (.ref Cw) = some false) (sb : PySem.W.subIn K (.ref C) (.ref Cw) = some false) (i : IsI H a C) {o : Option PyData} (h : AskAt K Cw o v H) : RV (rThing K C Cw (spOr sp (spEqNo K C)) (spOr sp2 (spEqNo K Cw)) g) v (.ref a) H (.bl (g false)) := fun H1 e1 Q q => by
  have n := notC_ask A O h
  cases o with
  | some D => exact .inl ⟨a, D, rfl, isI_mono e1 i, Da.mono e1 h, .inr ⟨a, v, rfl, isI_mono e1 i, fun H2 e2 => n H2 (e1.trans e2), fun H2 e2 => ⟨false, rfl, q H2 e2⟩⟩⟩
  | none =>
    obtain ⟨b, rfl, j⟩ := h
    have m : ∀ H', Ex H1 H' → NotC K Cw (.ref a) H' := fun H' e' => notC_ins c kt sb O.ne.symm (isI_mono (e1.trans e') i)
    obtain ⟨t, ty, _, sb', ne'⟩ := m H1 (Ex.refl H1)
    exact .inr ⟨b, t, rfl, isI_mono e1 j, ty, sb', ne', .inr ⟨b, .ref a, rfl, isI_mono e1 j, m, fun H2 e2 => ⟨false, rfl, q H2 e2⟩⟩⟩
end
section
variable {X : Cx} {k j : Nat} {C Cw : Addr} {s1 s2 : Sp} (K : PySem.W.Frag)
theorem mixEqL (O : EqC X.prog X.w K X.mg X.base k C s1) (hr : Room (k + 1) X.A) (h : X.K = K := by rfl) : OpR X (compareOp .Eq) (rMixL K C (spOr s1 (spEqNo K C)) E0 id) := by
  subst h
  obtain ⟨f, fd, F, S, b, _⟩ := O.ex
  exact op_eqMixL F S b pass0 (hr.mono (Nat.le_succ k))
theorem mixNeL (O : EqC X.prog X.w K X.mg X.base k C s1) (hr : Room (k + 1) X.A) (h : X.K = K := by rfl) : OpR X (compareOp .NotEq) (rMixL K C (spOr s1 (spEqNo K C)) E0 not) := by
  subst h
  obtain ⟨f, fd, F, S, b, e⟩ := O.ex
  exact op_neMixL F e b pass0 hr.in1
theorem thingEq (O : EqC X.prog X.w K X.mg X.base k C s1) (W : EqC X.prog X.w K X.mg X.base j Cw s2) (hr : Room (k + 1) X.A) (hr2 : Room (j + 1) X.A) (h : X.K = K := by rfl) : OpR X (compareOp .Eq) (rThing K C Cw (spOr s1 (spEqNo K C)) (spOr s2 (spEqNo K Cw)) id) := by
  subst h
  obtain ⟨f, fd, F, S, b, _⟩ := O.ex
  exact op_join (op_eqMixR F S O.al.al b pass0 (hr.mono (Nat.le_succ k))) (mixEqL X.K W hr2)
theorem thingNe (O : EqC X.prog X.w K X.mg X.base k C s1) (W : EqC X.prog X.w K X.mg X.base j Cw s2) (hr : Room (k + 1) X.A) (hr2 : Room (j + 1) X.A) (h : X.K = K := by rfl) : OpR X (compareOp .NotEq) (rThing K C Cw (spOr s1 (spEqNo K C)) (spOr s2 (spEqNo K Cw)) not) := by
  subst h
  obtain ⟨f, fd, F, S, b, e⟩ := O.ex
  exact op_join (op_neMixR F e O.al.al b pass0 hr.in1) (mixNeL X.K W hr2)
end
end SwX
set_option Elab.async false
set_option linter.all false
set_option maxRecDepth 100000
set_option maxHeartbeats 4000000
/-! texts of catalogues: plain laws (signs, lengths, each text tells its catalogue); what is told of one, as data -/
namespace SwX
open PySem PySem.Spec PyProof.Rows L2 Evl
/-- a rule as a row's text has it -/
structure RowOk (r : Rul) : Prop where
  nm : RulNm r
  lo : 1 ≤ r.2.1
  hi : r.2.1 ≤ 9
  ln : r.2.2.length ≤ 10
theorem sign_no {n : Nm} (h : NameOk n) {c : Nat} (k : c < 48 ∨ (57 < c ∧ c < 97)) : c ∉ n := fun z => by
  have := h.sg c z
  unfold okSign at this
  omega
theorem num_no {o c : Nat} (h : o ≤ 9) (k : c < 48 ∨ 57 < c) : c ∉ TL.numL o := fun z => by
  rw [TL.numL_lt (by omega)] at z
  rw [List.mem_singleton.mp z] at k
  omega
theorem fore_eq (r : Rul) : r.1 ++ ([32] ++ TL.numL r.2.1) = TL.joinL [32] [r.1, TL.numL r.2.1] := rfl
theorem fore_no {r : Rul} (h : RowOk r) : 58 ∉ r.1 ++ ([32] ++ TL.numL r.2.1) := fun z => by
  rcases List.mem_append.mp z with z | z
  · exact sign_no h.nm.1 (.inr (by decide)) z
  · rcases List.mem_append.mp z with z | z
    · simp at z
    · exact num_no h.hi (.inr (by decide)) z
theorem joinL_no {c : Nat} {sep : List Nat} (hs : c ∉ sep) : ∀ {l : List (List Nat)}, (∀ p ∈ l, c ∉ p) → c ∉ TL.joinL sep l
  | [], _ => fun h => nomatch h
  | [x], h => h x List.mem_cons_self
  | x :: y :: l, h => fun z => by
    have z : c ∈ x ++ (sep ++ TL.joinL sep (y :: l)) := z
    rcases List.mem_append.mp z with z | z
    · exact h x List.mem_cons_self z
    · rcases List.mem_append.mp z with z | z
      · exact hs z
      · exact joinL_no hs (l := y :: l) (fun p hp => h p (List.mem_cons_of_mem _ hp)) z
theorem head_no {ns : List Nm} (h : ∀ n ∈ ns, NameOk n) : 10 ∉ headL ns := joinL_no (by decide) fun p hp => (List.mem_cons.mp hp).elim (fun e => by rw [e]; decide) fun hp => sign_no (h p hp) (.inl (by decide))
theorem row_no {r : Rul} (h : RowOk r) : 10 ∉ rowL r := fun z => by
  unfold rowL at z
  rcases List.mem_append.mp z with z | z
  · exact sign_no h.nm.1 (.inl (by decide)) z
  · rcases List.mem_append.mp z with z | z
    · simp at z
    · rcases List.mem_append.mp z with z | z
      · exact num_no h.hi (.inl (by decide)) z
      · unfold tailL at z
        split at z
        · exact nomatch z
        · rcases List.mem_append.mp z with z | z
          · simp at z
          · exact joinL_no (by decide) (fun p hp => sign_no (h.nm.2 p hp) (.inl (by decide))) z
theorem mem_joinL {c : Nat} {sep : List Nat} : ∀ {l : List (List Nat)}, c ∈ TL.joinL sep l → c ∈ sep ∨ ∃ p ∈ l, c ∈ p
  | [], h => nomatch h
  | [x], h => .inr ⟨x, List.mem_cons_self, h⟩
  | x :: y :: l, h => by
    have h : c ∈ x ++ (sep ++ TL.joinL sep (y :: l)) := h
    rcases List.mem_append.mp h with h | h
    · exact .inr ⟨x, List.mem_cons_self, h⟩
    · rcases List.mem_append.mp h with h | h
      · exact .inl h
      · rcases mem_joinL (l := y :: l) h with h | ⟨p, hp, h⟩
        · exact .inl h
        · exact .inr ⟨p, List.mem_cons_of_mem _ hp, h⟩
theorem name_small {n : Nm} (h : NameOk n) {c : Nat} (hc : c ∈ n) : c < 128 := by
  have := h.sg c hc
  unfold okSign at this
  omega
theorem row_small {r : Rul} (h : RowOk r) {c : Nat} (hc : c ∈ rowL r) : c < 128 := by
  unfold rowL at hc
  rcases List.mem_append.mp hc with z | z
  · exact name_small h.nm.1 z
  · rcases List.mem_append.mp z with z | z
    · rw [List.mem_singleton.mp z]
      decide
    · rcases List.mem_append.mp z with z | z
      · rw [TL.numL_lt (by have := h.hi; omega)] at z
        rw [List.mem_singleton.mp z]
        have := h.hi
        omega
      · unfold tailL at z
        split at z
        · exact nomatch z
        · rcases List.mem_append.mp z with z | z
          · rcases List.mem_cons.mp z with z | z
            · rw [z]
              decide
            · rw [List.mem_singleton.mp z]
              decide
          · rcases mem_joinL z with z | ⟨p, hp, z⟩
            · rw [List.mem_singleton.mp z]
              decide
            · exact name_small (h.nm.2 p hp) z
theorem text_small {ns : List Nm} {rs : List Rul} (hn : ∀ n ∈ ns, NameOk n) (hr : ∀ r ∈ rs, RowOk r) {c : Nat} (hc : c ∈ textL ns rs) : c < 128 := by
  unfold textL at hc
  rcases mem_joinL hc with z | ⟨p, hp, z⟩
  · rw [List.mem_singleton.mp z]
    decide
  · rcases List.mem_cons.mp hp with rfl | hp
    · unfold headL at z
      rcases mem_joinL z with z | ⟨p, hp, z⟩
      · rw [List.mem_singleton.mp z]
        decide
      · rcases List.mem_cons.mp hp with rfl | hp
        · have : ∀ c ∈ kindsL, c < 128 := by decide
          exact this c z
        · exact name_small (hn p hp) z
    · obtain ⟨r, hr2, rfl⟩ := List.mem_map.mp hp
      exact row_small (hr r hr2) z
theorem str_lay {l : List Nat} (h : ∀ c ∈ l, c < 128) : (nmD l).canLay0 = true := by
  show PyData.strOk (SX.S l) = true
  unfold PyData.strOk
  rw [← Array.all_toList]
  show l.all _ = true
  rw [List.all_eq_true]
  exact fun c hc => decide_eq_true (by have := h c hc; omega)
theorem RulesOk.row {ns : List Nm} {rs : List Rul} (h : RulesOk ns rs) (n : ∀ m ∈ ns, NameOk m) : ∀ r ∈ rs, RowOk r := fun r hr => ⟨(h.ok r hr).nm n, (h.ok r hr).lo, (h.ok r hr).hi, Nat.le_trans (h.ok r hr).len (by decide)⟩
/-! ### each text tells its catalogue -/
theorem joinL_inj {c : Nat} {sep : List Nat} {l m : List (List Nat)} (hl : ∀ p ∈ l, c ∉ p) (hm : ∀ p ∈ m, c ∉ p) (nl : l ≠ []) (nm : m ≠ []) (e : TL.joinL (c :: sep) l = TL.joinL (c :: sep) m) : l = m := by
  have a := TL.spl_join (s := c) (S := sep) nl hl
  rw [e, TL.spl_join nm hm] at a
  exact a.symm
theorem head_inj {ns ms : List Nm} (hn : ∀ n ∈ ns, NameOk n) (hm : ∀ n ∈ ms, NameOk n) (e : headL ns = headL ms) : ns = ms := by
  have k : ∀ {l : List Nm}, (∀ n ∈ l, NameOk n) → ∀ p ∈ kindsL :: l, 32 ∉ p := fun h p hp => (List.mem_cons.mp hp).elim (fun e => by rw [e]; decide) fun hp => sign_no (h p hp) (.inl (by decide))
  exact (List.cons.inj (joinL_inj (c := 32) (sep := []) (k hn) (k hm) (List.cons_ne_nil _ _) (List.cons_ne_nil _ _) e)).2
def rowP (r : Rul) : List (List Nat) := (r.1 ++ ([32] ++ TL.numL r.2.1)) :: if r.2.2 = [] then [] else [TL.joinL [32] r.2.2]
theorem rowL_eq (r : Rul) : rowL r = TL.joinL [58, 32] (rowP r) := by
  unfold rowL rowP tailL
  split
  · rw [List.append_nil] <;> rfl
  · show _ = (r.1 ++ ([32] ++ TL.numL r.2.1)) ++ ([58, 32] ++ TL.joinL [32] r.2.2)
    simp
theorem parts_no {r : Rul} (h : RowOk r) : 58 ∉ TL.joinL [32] r.2.2 := joinL_no (by decide) fun p hp => sign_no (h.nm.2 p hp) (.inr (by decide))
theorem rowP_no {r : Rul} (h : RowOk r) : ∀ p ∈ rowP r, 58 ∉ p := fun p hp => by
  unfold rowP at hp
  rcases List.mem_cons.mp hp with rfl | hp
  · exact fore_no h
  · split at hp
    · cases hp
    · rw [List.mem_singleton.mp hp]
      exact parts_no h
theorem row_inj {r s : Rul} (hr : RowOk r) (hs : RowOk s) (e : rowL r = rowL s) : r = s := by
  rw [rowL_eq, rowL_eq] at e
  have z := joinL_inj (c := 58) (sep := [32]) (rowP_no hr) (rowP_no hs) (List.cons_ne_nil _ _) (List.cons_ne_nil _ _) e
  unfold rowP at z
  obtain ⟨f, t⟩ := List.cons.inj z
  have no : ∀ {r : Rul}, RowOk r → ∀ p ∈ [r.1, TL.numL r.2.1], 32 ∉ p := fun h p hp => by
    rcases List.mem_cons.mp hp with rfl | hp
    · exact sign_no h.nm.1 (.inl (by decide))
    · rw [List.mem_singleton.mp hp]
      exact num_no h.hi (.inl (by decide))
  rw [fore_eq, fore_eq] at f
  have f := joinL_inj (c := 32) (sep := []) (no hr) (no hs) (List.cons_ne_nil _ _) (List.cons_ne_nil _ _) f
  obtain ⟨f1, f2⟩ := List.cons.inj f
  have f2 := TL.numL_inj (List.cons.inj f2).1
  have pn : ∀ {r : Rul}, RowOk r → ∀ p ∈ r.2.2, 32 ∉ p := fun h p hp => sign_no (h.nm.2 p hp) (.inl (by decide))
  have f3 : r.2.2 = s.2.2 := by
    by_cases a : r.2.2 = []
    · by_cases b : s.2.2 = []
      · rw [a, b]
      · rw [if_pos a, if_neg b] at t
        cases t
    · by_cases b : s.2.2 = []
      · rw [if_neg a, if_pos b] at t
        cases t
      · rw [if_neg a, if_neg b] at t
        exact joinL_inj (c := 32) (sep := []) (pn hr) (pn hs) a b (List.cons.inj t).1
  obtain ⟨r1, r2, r3⟩ := r
  obtain ⟨s1, s2, s3⟩ := s
  dsimp only at f1 f2 f3
  rw [f1, f2, f3]
theorem rows_inj : ∀ {rs ts : List Rul}, (∀ r ∈ rs, RowOk r) → (∀ r ∈ ts, RowOk r) → rs.map rowL = ts.map rowL → rs = ts
  | [], [], _, _, _ => rfl
  | [], _ :: _, _, _, e => by cases e
  | _ :: _, [], _, _, e => by cases e
  | r :: rs, t :: ts, h, k, e => by
    obtain ⟨e1, e2⟩ := List.cons.inj e
    rw [row_inj (h r List.mem_cons_self) (k t List.mem_cons_self) e1, rows_inj (fun x hx => h x (List.mem_cons_of_mem _ hx)) (fun x hx => k x (List.mem_cons_of_mem _ hx)) e2]
theorem text_inj {ns ms : List Nm} {rs ts : List Rul} (hn : NamesOk ns) (hm : NamesOk ms) (hr : RulesOk ns rs) (ht : RulesOk ms ts) : textL ns rs = textL ms ts ↔ ns = ms ∧ rs = ts := by
  constructor
  · intro e
    have k : ∀ {ns : List Nm} {rs : List Rul}, NamesOk ns → RulesOk ns rs → ∀ p ∈ headL ns :: rs.map rowL, 10 ∉ p := fun a b p hp => by
      rcases List.mem_cons.mp hp with rfl | hp
      · exact head_no a.ok
      · obtain ⟨r, hr, rfl⟩ := List.mem_map.mp hp
        exact row_no (b.row a.ok r hr)
    obtain ⟨e1, e2⟩ := List.cons.inj (joinL_inj (c := 10) (sep := []) (k hn hr) (k hm ht) (List.cons_ne_nil _ _) (List.cons_ne_nil _ _) e)
    exact ⟨head_inj hn.ok hm.ok e1, rows_inj (hr.row hn.ok) (ht.row hm.ok) e2⟩
  · rintro ⟨rfl, rfl⟩
    rfl
/-! ### what repr can show shortly, of lists -/
structure GoodA (ds : List PyData) (n w : Nat) : Prop where
  sh : PyData.showableAll ds = true
  dp : PyData.depthAll ds ≤ n
  lv : PyData.leavesShortAll 100 ds = true
  wt : PyData.weightAll ds ≤ w
theorem goodA_nil {n w : Nat} : GoodA [] n w := ⟨rfl, by simp [PyData.depthAll], rfl, by simp [PyData.weightAll]⟩
theorem goodA_cons {d : PyData} {ds : List PyData} {n w1 w2 w : Nat} (h : Good d n w1) (t : GoodA ds n w2) (le : w1 + 1 + w2 ≤ w) : GoodA (d :: ds) n w := by
  obtain ⟨a1, a2, a3, a4⟩ := h
  obtain ⟨b1, b2, b3, b4⟩ := t
  refine ⟨?_, ?_, ?_, ?_⟩
  · simp only [PyData.showableAll, a1, b1, Bool.and_self]
  · simp only [PyData.depthAll]
    omega
  · simp only [PyData.leavesShortAll, a3, b3, Bool.and_self]
  · simp only [PyData.weightAll]
    omega
theorem goodA_map {α : Type} {f : α → PyData} {n w : Nat} : ∀ {l : List α} {m : Nat}, (∀ x ∈ l, Good (f x) n w) → l.length ≤ m → GoodA (l.map f) n ((w + 1) * m)
  | [], _, _, _ => goodA_nil
  | x :: l, m, h, le => by
    obtain ⟨k, rfl⟩ : ∃ k, m = k + 1 := ⟨m - 1, by simp at le; omega⟩
    exact goodA_cons (h x List.mem_cons_self) (goodA_map (m := k) (fun y hy => h y (List.mem_cons_of_mem _ hy)) (by simp at le; omega)) (by rw [Nat.mul_succ]; omega)
theorem Good.le {d : PyData} {n w n' w' : Nat} (h : Good d n w) (hn : n ≤ n') (hw : w ≤ w') : Good d n' w' := ⟨h.sh, Nat.le_trans h.dp hn, h.lv, Nat.le_trans h.wt hw⟩
theorem good_tuple {ds : List PyData} {n w : Nat} (h : GoodA ds n w) : Good (.tuple ds) (n + 1) w := ⟨by simp only [PyData.showable]; exact h.sh, by simp only [PyData.depth]; have := h.dp; omega, by simp only [PyData.leavesShort]; exact h.lv, by simp only [PyData.weight]; exact h.wt⟩
theorem good_list {ds : List PyData} {n w : Nat} (h : GoodA ds n w) : Good (.list ds) (n + 1) w := ⟨by simp only [PyData.showable]; exact h.sh, by simp only [PyData.depth]; have := h.dp; omega, by simp only [PyData.leavesShort]; exact h.lv, by simp only [PyData.weight]; exact h.wt⟩
theorem good_str {x : List Nat} {w : Nat} (h : ∀ c ∈ x, c < 1000) (l : x.length ≤ w) : Good (nmD x) 0 w := ⟨rfl, Nat.le_refl _, lv_str h, by
  show (SX.S x).cps.size ≤ w
  exact Nat.le_trans (Nat.le_of_eq (SX.S_len x)) l⟩
theorem good_nm {n : Nm} (h : NameOk n) : Good (nmD n) 0 8 := good_str (fun c hc => by have := h.sg c hc; unfold okSign at this; omega) h.len
theorem good_nms {ns : List Nm} {m : Nat} (h : ∀ n ∈ ns, NameOk n) (l : ns.length ≤ m) : Good (nmsD ns) 1 (9 * m) := good_tuple (goodA_map (w := 8) (fun n hn => good_nm (h n hn)) l)
theorem good_rul {r : Rul} (h : RowOk r) (l : r.2.2.length ≤ 3) : Good (rulD r) 2 300 :=
  good_tuple (goodA_cons (w1 := 8) ((good_nm h.nm.1).le (by decide) (Nat.le_refl _)) (goodA_cons (w1 := 137) ((good_nat (n := r.2.1) (by have := h.hi; omega)).le (by decide) (Nat.le_refl _)) (goodA_cons (w1 := 27) (good_nms h.nm.2 l) goodA_nil (Nat.le_refl (27 + 1 + 0))) (Nat.le_refl _)) (by decide))
theorem good_ruls {rs : List Rul} (h : ∀ r ∈ rs, RowOk r ∧ r.2.2.length ≤ 3) (l : rs.length ≤ 10) : Good (rulsD rs) 3 3010 := good_tuple (goodA_map (w := 300) (fun r hr => good_rul (h r hr).1 (h r hr).2) l)
/-! ### what is told of a catalogue -/
/-- the text that repr shows of one -/
def reprL (n m : Nat) : List Nat := [67, 97, 116, 97, 108, 111, 103, 117, 101, 32, 111, 102, 32] ++ TL.numL n ++ [32, 107, 105, 110, 100, 115, 44, 32] ++ TL.numL m ++ [32, 114, 101, 99, 105, 112, 101, 115]
def tellD (ns : List Nm) (rs : List Rul) : List PyData := [nmsD ns, rulsD rs, nmD (textL ns rs), nmD (reprL ns.length rs.length), .int (rs.length : Nat), .bool true]
theorem text_len {ns : List Nm} {rs : List Rul} (hn : NamesOk ns) (hr : RulesOk ns rs) : (textL ns rs).length ≤ 600 := by
  have k : ∀ p ∈ headL ns :: rs.map rowL, p.length ≤ 50 := fun p hp => by
    rcases List.mem_cons.mp hp with rfl | hp
    · have z := joinL_small (B := 8) (sep := [32]) (l := kindsL :: ns) fun x hx => by
        rcases List.mem_cons.mp hx with rfl | hx
        · decide
        · exact (hn.ok x hx).len
      have l := hn.len
      have : (8 + ([32] : List Nat).length) * (kindsL :: ns).length ≤ 9 * 5 := Nat.mul_le_mul (by decide) (by simp; omega)
      exact Nat.le_trans z (by omega)
    · obtain ⟨r, h, rfl⟩ := List.mem_map.mp hp
      have ro := hr.row hn.ok r h
      have rl := (hr.ok r h).len
      have l1 := ro.nm.1.len
      have l2 := TL.numL_len (n := r.2.1) (k := 1) (by decide) (by have := ro.hi; omega)
      have l3 : (tailL r.2.2).length ≤ 29 := by
        unfold tailL
        split
        · simp
        · have z := joinL_small (B := 8) (sep := [32]) (l := r.2.2) fun x hx => (ro.nm.2 x hx).len
          have : (8 + ([32] : List Nat).length) * r.2.2.length ≤ 9 * 3 := Nat.mul_le_mul (by decide) rl
          simp only [List.length_append, List.length_cons, List.length_nil] at *
          omega
      unfold rowL
      simp only [List.length_append, List.length_cons, List.length_nil]
      omega
  have z := joinL_small (B := 50) (sep := [10]) k
  have l := hr.len
  have : (50 + ([10] : List Nat).length) * (headL ns :: rs.map rowL).length ≤ 51 * 11 := Nat.mul_le_mul (by decide) (by simp; omega)
  exact Nat.le_trans z (by omega)
theorem repr_lt {n m : Nat} : ∀ c ∈ reprL n m, c < 128 := by
  intro c hc
  unfold reprL at hc
  have d : ∀ (k : Nat), ∀ c ∈ TL.numL k, c < 128 := fun k c hc => Nat.lt_of_not_le fun le => TL.numL_free (n := k) (s := c) (.inr (by omega)) hc
  have w : ∀ c ∈ ([67, 97, 116, 97, 108, 111, 103, 117, 101, 32, 111, 102, 32] ++ [32, 107, 105, 110, 100, 115, 44, 32] ++ [32, 114, 101, 99, 105, 112, 101, 115] : List Nat), c < 128 := by decide
  simp only [List.mem_append] at hc w
  rcases hc with (((h | h) | h) | h) | h
  · exact w c (.inl (.inl h))
  · exact d _ c h
  · exact w c (.inl (.inr h))
  · exact d _ c h
  · exact w c (.inr h)
theorem repr_len {n m : Nat} (hn : n < 100) (hm : m < 100) : (reprL n m).length ≤ 40 := by
  have l1 := TL.numL_len (n := n) (k := 2) (by decide) (by omega)
  have l2 := TL.numL_len (n := m) (k := 2) (by decide) (by omega)
  unfold reprL
  simp only [List.length_append, List.length_cons, List.length_nil]
  omega
theorem good_tell {ns : List Nm} {rs : List Rul} (hn : NamesOk ns) (hr : RulesOk ns rs) : Good (.list (tellD ns rs)) 4 30000 := by
  have ln := hn.len
  have lr := hr.len
  have g1 := (good_nms hn.ok hn.len).le (n' := 3) (w' := 36) (by decide) (by decide)
  have g2 := (good_ruls (fun r h => ⟨hr.row hn.ok r h, (hr.ok r h).len⟩) hr.len)
  have g3 := (good_str (x := textL ns rs) (w := 600) (fun c hc => Nat.lt_of_lt_of_le (text_small hn.ok (hr.row hn.ok) hc) (by decide)) (text_len hn hr)).le (n' := 3) (by decide) (Nat.le_refl _)
  have g4 := (good_str (x := reprL ns.length rs.length) (w := 40) (fun c hc => Nat.lt_of_lt_of_le (repr_lt c hc) (by decide)) (repr_len (by omega) (by omega))).le (n' := 3) (by decide) (Nat.le_refl _)
  have g5 := (good_nat (n := rs.length) (by omega)).le (n' := 3) (by decide) (Nat.le_refl _)
  have g6 : Good (.bool true) 3 0 := ⟨rfl, by decide, rfl, by decide⟩
  exact good_list (goodA_cons g1 (goodA_cons g2 (goodA_cons g3 (goodA_cons g4 (goodA_cons g5 (goodA_cons g6 goodA_nil (Nat.le_refl (0 + 1 + 0))) (Nat.le_refl _)) (Nat.le_refl _)) (Nat.le_refl _)) (Nat.le_refl _)) (by decide))
theorem tell_lay {ns : List Nm} {rs : List Rul} (hn : NamesOk ns) (hr : RulesOk ns rs) : (PyData.list (tellD ns rs)).canLay0 = true := by
  have l1 : (nmsD ns).canLay0 = true := by
    unfold nmsD
    simp only [PyData.canLay0]
    exact nms_lay hn.ok
  have l2 : (rulsD rs).canLay0 = true := by
    unfold rulsD
    simp only [PyData.canLay0]
    exact lay_all fun r h => (rul_parts ((hr.ok r h).nm hn.ok)).1
  have l3 := str_lay (l := textL ns rs) fun c hc => text_small hn.ok (hr.row hn.ok) hc
  have l4 := str_lay (l := reprL ns.length rs.length) repr_lt
  unfold tellD
  simp only [PyData.canLay0, PyData.canLayAll0, l1, l2, l3, l4, Bool.and_self]
theorem shown_lay {ns : List Nm} {rs : List Rul} (hn : NamesOk ns) (hr : RulesOk ns rs) : (PyData.str (PyData.shown (.list (tellD ns rs)))).canLay0 = true := lay_shown (tell_lay hn hr)
end SwX
set_option Elab.async false
set_option linter.all false
set_option maxRecDepth 100000
set_option maxHeartbeats 2000000
/-! a leaner hook: only what some names reach is looked at, each object once -/
namespace SwX
open PySem PySem.Spec PyProof.Rows L2
/-- those not seen yet; what is seen, as bits -/
def addB : List Addr → Nat → List Addr → List Addr × Nat
  | [], seen, acc => (acc, seen)
  | a :: as, seen, acc => match Nat.testBit seen a with
    | true => addB as seen acc
    | false => addB as (Nat.lor seen (Nat.shiftLeft 1 a)) (a :: acc)
def bfs (g : Addr → Option Obj) : Nat → List Addr → List Addr → Nat → List Addr
  | 0, _, acc, _ => acc
  | n + 1, fr, acc, seen => match addB (fr.flatMap fun a => match g a with
    | some o => He.refsD o
    | none => []) seen [] with
    | (nw, seen') => bfs g n nw (acc ++ nw) seen'
/-- the names' addresses, what they reach in n steps; the tables of the module, of the modules, of the statics -/
def asN (g : Addr → Option Obj) (n : Nat) (xs : List PySem.Str) : List Addr := match addB (xs.map fun x => He.ga (He.frG g [mainGlobals]) x) (Nat.lor (Nat.shiftLeft 1 mainGlobals) (Nat.lor (Nat.shiftLeft 1 sysModules) (Nat.shiftLeft 1 cStatics))) [] with
  | (r, seen) => bfs g n r (mainGlobals :: sysModules :: cStatics :: r) seen
theorem saysN_of {fa : List He.Fa} {fn : List He5.DefA} {tf : TfZ} {ex : PySem.W.Frag → Bool} {h : Heap} {as : List Addr} (e : obsZK fa fn tf ex h.get? (He.frT h.get? as) = (true, He5.valA fn)) : SaysZ fa fn tf ex h (He.frT h.get? as) := by
  have e1 : He5.obsA fa fn (He.frT h.get? as) = He5.valA fn := congrArg (fun z : AlZ => z.2) e
  have e2 : (((He.frT h.get? as).lookup sysModules).isSome && (ex (He.frT h.get? as) && tabsZ h.get? tf (He.frT h.get? as))) = true := congrArg (fun z : AlZ => z.1) e
  obtain ⟨h0, h12⟩ := Bool.and_eq_true_iff.mp e2
  obtain ⟨h1, h2⟩ := Bool.and_eq_true_iff.mp h12
  generalize hK : He.frT h.get? as = K at e1 h0 h1 h2 ⊢
  have key : ∀ p ∈ tf, PySem.W.codeHdIn K (ctZ K (p K)).1 (ctZ K (p K)).2 = true ∧ ∃ o, h.get? (ctZ K (p K)).2 = some o ∧ He.emptyTab o = true := fun p hp => by
    obtain ⟨h3, h4⟩ := Bool.and_eq_true_iff.mp (List.all_eq_true.mp h2 p hp)
    refine ⟨h3, ?_⟩
    cases q : h.get? (ctZ K (p K)).2 with
    | none =>
      rw [q] at h4
      cases h4
    | some o =>
      rw [q] at h4
      exact ⟨o, rfl, h4⟩
  exact ⟨Option.isSome_iff_exists.mp h0, h1, e1, fun p hp => (key p hp).1, fun p hp => by
    obtain ⟨_, o, q, z⟩ := key p hp
    rw [← hK]
    rw [← hK] at q
    exact He.frT_none q z, fun p hp => by
    obtain ⟨_, o, q, z⟩ := key p hp
    rw [q, He.emptyTab_eq z]⟩
def obsN (n : Nat) (xs : List PySem.Str) (fa : List He.Fa) (fn : List He5.DefA) (tf : TfZ) (ex : PySem.W.Frag → Bool) (g : Addr → Option Obj) : AlZ := obsZK fa fn tf ex g (He.frT g (asN g n xs))
def hookN (n : Nat) (xs : List PySem.Str) (fa : List He.Fa) (fn : List He5.DefA) (tf : TfZ) (ex : PySem.W.Frag → Bool) : PySem.W.Hook where
  α := AlZ
  obs := fun s => obsN n xs fa fn tf ex s.heap.get?
  val := fun _ => (true, He5.valA fn)
  says := fun _ h => ∃ K : PySem.W.Frag, K.In h ∧ SaysZ fa fn tf ex h K
  of := fun _ _ e => ⟨_, He.frT_in, saysN_of e⟩
  keeps := fun _ _ _ ⟨K, hK, c⟩ k => ⟨K, PySem.W.Frag.In.keeps hK k, ⟨c.sys, c.more, c.sd, c.hd, c.out, fun p hp => k _ _ (c.empty p hp)⟩⟩
theorem obsN_eq {n : Nat} {xs : List PySem.Str} {fa : List He.Fa} {fn : List He5.DefA} {tf : TfZ} {ex : PySem.W.Frag → Bool} {g : Addr → Option Obj} {s : Shared} (h : ∀ a, g a = s.heap.get? a) : obsN n xs fa fn tf ex g = (hookN n xs fa fn tf ex).obs s := by
  have e : g = s.heap.get? := funext h
  rw [e] <;> rfl
end SwX
set_option Elab.async false
set_option linter.all false
set_option maxRecDepth 100000
set_option maxHeartbeats 4000000
/-! repr of a list that holds an own instance, in a suite of an exception too -/
namespace SwX
open PySem PySem.Spec PyProof.Rows L2
section
variable {prog : Program} {w : World} {A : Around} {E : Value → Shared → Prop} {s : Shared} {K : PySem.W.Frag} {x C f : Addr} {ox : Obj} {od : Option Obj} {name : Str}
theorem ifBoundBy_K {M : Model} {last : Value → List Value → Sem Value} {Q : Option Value → Shared → Prop} (X : K.In s.heap) (I : PySem.W.InstAt s.heap x ox C od) (hs : PySem.W.findIn K (.ref C) name = some (some (.ref f))) (hf : PySem.W.isFn K (.ref f) = true)
    (h : wpAny M A (last (.ref f) [.ref x]) (fun v => Q (some v)) E s) : wpAny M A (callSpecialIfBoundBy? last (.ref x) name) Q E s := by
  simp only [callSpecialIfBoundBy?, bindSpecialIfBound?]
  refine wpAny_holding (wpAny_bind (wpAny_bind (wpAny_bind (I.type.here ((PySem.W.looks_findIn X hs).here ?_)))))
  refine wpAny_bind (wpAny_askSetting (wpAny_ite ?_))
  have fin : wpAny M A (last (.ref f) [.ref x] >>= fun v => pure (some v)) Q E s := wpAny_bind (wpAny_mono h (fun v s' h' => wpAny_pure h') fun _ _ h' => h')
  split
  · exact wpAny_bind ((PySem.W.bind_fn X _ (beq_iff_eq.mp hf)).here (wpAny_pure (by exact fin)))
  · exact wpAny_tryCatch (wpAny_bind ((PySem.W.bind_fn X _ (beq_iff_eq.mp hf)).here (wpAny_pure (by exact fin))))
theorem reprUnder_own {b : Nat} {Q : Str → Shared → Prop} (hb : b ≤ sizeLine) (hu : A.units < cLine) (X : K.In s.heap) (I : PySem.W.InstAt s.heap x ox C od) (hs : PySem.W.findIn K (.ref C) "__repr__" = some (some (.ref f))) (hf : PySem.W.isFn K (.ref f) = true)
    (h : wpAny (model prog w) A (call (.ref f) [.ref x]) (fun v s' => ∃ z u, v = .str z u ∧ Q z s') E s) : wpAny (model prog w) A (pyReprUnder b (.ref x)) Q E s := by
  refine wpAny_pyReprUnder_ref hb ?_
  unfold pyReprObjUnder pyReprObjBy
  refine wpAny_bind (wpAny_cRoomFor hu ?_)
  refine wpAny_bind (wpAny_bind (I.type.here ((PySem.W.looks_findIn X hs).here ?_)))
  show wpAny _ _ (if (some (Value.ref f)).isNone = true then _ else _) _ _ _
  rw [if_neg (by simp)]
  refine wpAny_bind (ifBoundBy_K (name := Str.ofString "__repr__") X I hs hf ?_)
  show wpAny _ _ (call (.ref f) [.ref x]) _ _ _
  refine wpAny_mono h (fun v s' hv => ?_) fun _ _ e => e
  obtain ⟨z, u, rfl, q⟩ := hv
  exact wpAny_bind (wpAny_isInstance (T := "str") (b := true) rfl isSubtype_str_str (wpAny_pure ⟨z, u, rfl, q⟩))
end
/-! ### the list -/
section
variable {X : Cx} {pins : List (Addr × Obj)} {σ : L2.St} {H : Hp} {s : Shared} {p a C f : Addr} {sp : Sp}
/-- how the def at f runs from the machine -/
def RunsAt (X : Cx) (σ : L2.St) (H : Hp) (f a : Addr) (sp : Sp) : Prop := ∀ (A' : Around) (pins' : List (Addr × Obj)) (s' : Shared) (Q : VK), A'.handled = X.A.handled → A'.depth ≤ X.A.depth + 3 → A'.frames = X.A.frames → A'.units ≤ X.A.units + 8 → Inv X pins' σ H s' → sp [.ref a] H Q E0 →
  wpAny (model X.prog X.w) A' (call (.ref f) [.ref a]) (fun u s'' => ∃ v H', Inv X pins' σ H' s'' ∧ RelV v u ∧ Q v H') X.xe s'
def rReprL1 (C : Addr) (sp : Sp) : List V → Hp → VK → Prop := fun xs H Q => ∃ p a, xs = [.ref p] ∧ H p = some (.lst [.ref a]) ∧ IsI H a C ∧ sp [.ref a] H (fun v H' => ∃ z : Str, v = .str z ∧ H' p = some (.lst [.ref a]) ∧ (listText [z]).length ≤ sizeLine ∧ Q (.str (listText [z])) H') E0
theorem reprL_of (I : Inv X pins σ H s) (calm : Calm X.A) (un : X.A.units + 20 < cLine) (hp : H p = some (.lst [.ref a])) (ia : IsI H a C) (S : Spc X.K C "__repr__" f) (run : RunsAt X σ H f a sp) {Q : VK}
    (h : sp [.ref a] H (fun v H' => ∃ z : Str, v = .str z ∧ H' p = some (.lst [.ref a]) ∧ (listText [z]).length ≤ sizeLine ∧ Q (.str (listText [z])) H') E0) :
    wpAny (model X.prog X.w) X.A (call (.builtin "repr") [.ref p]) (fun u s' => ∃ v H', Inv X pins σ H' s' ∧ RelV v u ∧ Q v H') X.xe s := by
  obtain ⟨its, rv, ⟨o, n, ho, hcls, hdic, hd⟩, hz⟩ := I.list (xs := [.ref a]) (.inl (.inl hp))
  obtain ⟨u, rfl, ru⟩ := Vals.one rv
  cases ru
  refine call_repr_slot (by omega) ⟨o, ho, hcls⟩ F.slot_list_repr.toG ?_
  refine wpAny_call (codeAny_call_builtin F.slot_list_repr.plain F.entry_list_repr (F.slot_list_repr.check _ _ _ _ _ _ _ _ ⟨o, ho, hcls⟩ (F.args_list_repr_1 _) ?_))
  show wpAny _ _ (Builtin.listReprAt 0 ⟨[.ref p], []⟩) _ _ _
  refine wpAny_list_repr_head (g := []) calm (fun v rest kw hm => nomatch hm) ho hd ?_
  refine wpAny_bind (m := newList []) (wpAny_newObj_type ?_)
  refine wpAny_pure ⟨F.quiet_list_repr_loop _, ?_⟩
  have hPp : p ≠ s.heap.objs.size := Nat.ne_of_lt (Heap.lt_size ho)
  refine codeAny_builtin F.entry_list_repr_loop ?_
  show wpAny _ _ (Builtin.«list.__repr__.loop» ⟨[.ref p, .int (0 : Int) 0, .ref s.heap.objs.size, .int (0 : Int) 0], []⟩) _ _ _
  rw [repr_loop_tree]
  refine wpAny_bind (wpAny_listItems (Heap.get?_push_of_some _ ho) hd ?_)
  have hsome : (#[Value.ref a])[(0 : Int).toNat]? = some (Value.ref a) := rfl
  simp only [hsome]
  have I1 : Inv X pins σ H { s with heap := s.heap.push { cls := .type "list", data := .seq #[] } } := I.kept fun b u e => Heap.get?_push_of_some _ e
  have hHP : H s.heap.objs.size = none := I.hok.fresh (Nat.le_refl _)
  have I2 : Inv X ((s.heap.objs.size, { cls := .type "list", data := .seq #[] }) :: pins) σ H { s with heap := s.heap.push { cls := .type "list", data := .seq #[] } } := I1.pins_of fun q hq => by
    rcases List.mem_cons.mp hq with rfl | hq
    · exact ⟨Heap.get?_push_size _ rfl, hHP, fun e => absurd I.lt (by rw [← e]; exact Nat.lt_irrefl _), I.nofs (Nat.le_refl _), fun v e => nomatch e⟩
    · exact I1.pin q (List.mem_append_right _ hq)
  have hsL : X.s_0.heap.objs.size ≤ s.heap.objs.size := I.sz
  have hcP : ∀ x c, X.env.cells.lookup x = some c → c ≠ s.heap.objs.size := fun x c e z => by
    obtain ⟨v, o', ho', _⟩ := I.cell x c e
    exact absurd (Heap.lt_size ho') (by rw [z]; exact Nat.lt_irrefl _)
  have hpP : ∀ q ∈ X.pn ++ pins, q.1 ≠ s.heap.objs.size := fun q hq z => by
    have := (I.pin q hq).1
    exact absurd (Heap.lt_size this) (by rw [z]; exact Nat.lt_irrefl _)
  have hLP : s.heap.objs.size ≠ X.env.locals := fun e => absurd I.lt (by rw [← e]; exact Nat.lt_irrefl _)
  obtain ⟨ox, od, J⟩ := ia.look I1
  refine wpAny_bind (wpAny_holding (reprUnder_own (by decide) (by rw [units_under_list_loop]; show X.A.units + 1 + 1 < _; omega) I1.kIn J S.at_ S.fn (wpAny_mono (run _ _ _ _ ?r1 ?r2 ?r3 ?r4 I2 h) (fun v s' z => ?_) fun _ _ e => e)))
  case r1 => rfl
  case r2 => show X.A.depth + _ ≤ _; exact Nat.add_le_add_left (show 0 + 0 + 1 + 0 ≤ 3 by decide) _
  case r3 => rfl
  case r4 => rw [units_under_list_loop]; show X.A.units + 1 + 1 ≤ _; omega
  obtain ⟨v', H', J', rv', z, rfl, hp', len, q⟩ := z
  obtain ⟨t, rfl⟩ := rv'
  refine ⟨z, t, rfl, ?_⟩
  have hP' := (J'.pin (s.heap.objs.size, _) (List.mem_append_right _ List.mem_cons_self)).1
  have zl : z.length ≤ sizeLine := Nat.le_trans ((textFrom_len [z] 0 "[").2.1 z List.mem_cons_self) (by
    have e : (listText [z]).length = (textFrom 0 "[" [z]).length + 1 := by
      show (textFrom 0 "[" [z] ++ "]").length = _
      rw [strLen_append]
      rfl
    omega)
  refine wpAny_bind (wpAny_mkStr ?_ zl)
  refine wpAny_bind ?_
  show wpAny _ _ (updateSeq s.heap.objs.size _) _ _ _
  refine wpAny_updateSeq hP' rfl (wpAny_pure ⟨F.quiet_list_repr_loop _, ?_⟩) (by decide)
  obtain ⟨its', rvl, ⟨o', n', ho', hcls', hdic', hd'⟩, hz'⟩ := J'.list (xs := [.ref a]) (.inl (.inl hp'))
  obtain ⟨u', rfl, ru'⟩ := Vals.one rvl
  cases ru'
  refine codeAny_builtin F.entry_list_repr_loop ?_
  show wpAny _ _ (Builtin.«list.__repr__.loop» ⟨[.ref p, .int (0 + 1 : Int) 0, .ref s.heap.objs.size, .int _ 0], []⟩) _ _ _
  rw [repr_loop_tree]
  refine wpAny_bind (wpAny_listItems ((Heap.get?_update_other _ _ (fun h : s.heap.objs.size = p => hPp h.symm)).trans ho') hd' ?_)
  have hnone : (#[Value.ref a])[(0 + 1 : Int).toNat]? = none := rfl
  simp only [hnone]
  unfold reprEnd
  refine wpAny_bind (wpAny_listItems (Heap.get?_update_self _ hP' rfl) rfl ?_)
  show wpAny _ _ (forIn ((strValues [(z, _)]).zipIdx 0) ("[" : Str) reprBody >>= _) _ _ _
  rw [repr_fold]
  refine wpAny_bind (wpAny_pure ?_)
  refine wpAny_bind (wpAny_mkStr (wpAny_pure ?_) len)
  have J0 : Inv X pins σ H' s' := J'.pins_of fun q hq => J'.pin q (List.mem_append_right _ (List.mem_cons_of_mem _ hq))
  have hn' : H' s.heap.objs.size = none := (J'.pin (s.heap.objs.size, _) (List.mem_append_right _ List.mem_cons_self)).2.1
  have K0 := J0.turned (t' := s'.toks + 1) (h' := s'.heap.update s.heap.objs.size (Obj.mapSeq fun x => x.push (Value.str z s'.toks))) (it := s.heap.objs.size) (fun b u hb e => (Heap.get?_update_other _ _ (fun h : s.heap.objs.size = b => hb h.symm)).trans e) hn' hLP (.inr hsL) hcP hpP
  exact ⟨_, _, rfl, .str (listText [z]), H', K0.tok _, ⟨_, rfl⟩, q⟩
end
end SwX
set_option Elab.async false
set_option linter.all false
set_option maxRecDepth 100000
set_option maxHeartbeats 4000000
/-! exceptions with no context: made, raised, passed on; a try whose suite raises; defs that run whatever is handled -/
namespace SwX
open PySem PySem.Spec PyProof.Rows L2 HotX L2H
/-! ### with no context -/
section
variable {X : Cx} {k n : Nat} {fI C : Addr} {fd : FuncData} {ps : List Str} {sp : Sp} {x : Str} {p pos : Pos} {e : Expr} {es : List Expr} {t : TA}
theorem mk_runsN {pins : List (Addr × Obj)} {σ : L2.St} {H : Hp} {s : Shared} {Q : XK} {us : List Value} {vs : List V} (T : Oex X.K C) (ty : PySem.W.typeIn X.K (.ref C) = some (.type "type")) (i : Ini X.K C fI) (F : FnOk X.prog X.w X.K X.mg X.base CX0 k fI fd ps sp) (room : Room (k + 1) X.A)
    (b : KBn X.K fd ps (n + 1) [] (fun us _ => us) (fun vs _ => vs)) (I : Inv X pins σ H s) (r : Vals vs us) (len : vs.length = n ∧ n ≤ 1000)
    (h : ∀ a, H a = none → sp (.ref a :: vs) (upd H a (exo a C none)) (fun v H2 => v = .non ∧ ∃ (d : Addr) (fs : List (Str × V)), H2 a = some (exo a C (some d)) ∧ H2 d = some (exd d fs) ∧ H d = none ∧ Q (.ref C) (some d) (upd (del H2 a) d (.xd fs))) E0) :
    wpAny (model X.prog X.w) X.A (call (.ref C) us) (L2N.MkP X pins σ Q) X.xe s := by
  obtain ⟨B, newId, initId, bmB, base, _, nm, qn, N, bs, bm, hd, sn, sub, ab, col, dd, k0, k1, k2, k3, k5, hC, tail⟩ := T.base
  obtain ⟨l1, l3⟩ := len
  obtain ⟨hp, gs, dr, tok, os⟩ := s
  have new : H (hp.objs.size + 1) = none := I.hok.fresh (Nat.le_succ _)
  have keep : ∀ z o, hp.get? z = some o → (laid2 hp C us).get? z = some o := fun _ _ z => Heap.get?_push_of_some _ (Heap.get?_push_of_some _ z)
  have there : (laid2 hp C us).get? (hp.objs.size + 1) = some (PySem.HandSPX.excO C hp.objs.size) := by heap_get
  have J : Inv X pins σ (upd H (hp.objs.size + 1) (exo (hp.objs.size + 1) C none)) ⟨laid2 hp C us, gs, dr, tok, os⟩ := I.laid (t' := tok) keep (Nat.le_succ _) (exo_ok there)
  have ra : Vals (V.ref (hp.objs.size + 1) :: vs) (Value.ref (hp.objs.size + 1) :: us) := .cons rfl r
  have small : us.length ≤ sizeLine := by have := r.length; rw [sizeLine_eq]; omega
  refine wpAny_call (run_class base.call (line_of base.call fun Y => PySem.W.excTail_contains Y bm tail) ⟨_, _, _, _, _, _, _, _, _, _, _, _, _, _, _, I.kIn _ _ hC⟩ small (PySem.W.looks_findIn I.kIn i.at_) (fun self => PySem.W.bind_fn I.kIn self i.ty) ?_)
  refine codeAny_mono (F.run _ X.stack _ _ ⟨Value.ref (hp.objs.size + 1) :: us, []⟩ (Value.ref (hp.objs.size + 1) :: us) _ _ E0 (room.make C us []) (J.env0.make C us []) (b.to _ (_ :: us) [] J.kIn ?_ rfl) (b.rel ra .nil) (h _ new)) fun r s' z => ?_
  · exact ra.length.symm.trans (congrArg Nat.succ l1)
  cases r with
  | error er => exact z.elim
  | ok fl =>
    cases fl with
    | ret u =>
      obtain ⟨v, H2, os2, bare2, un2, hok2, rv, ev, d, fs, ea, ed, hd1, q2⟩ := z
      subst ev
      obtain ⟨h2, g2, d2, t2, os'⟩ := s'
      obtain ⟨t0, G, J, kG, ge, hoe, na⟩ := mk_end0 (d2 := d2) (t2 := t2) I (Nat.le_succ _) keep un2 hok2 os2 bare2 ea ed hd1
      refine ⟨rv, ⟨hp.objs.size + 1, _, _, ⟨G, g2, d2, t2, os'⟩, _, .ref C, some d, rfl, J, kG, ge, hoe, ⟨rfl, rfl, fun vs hv => ?_⟩, rfl, rfl, na, rfl, bare2, raises_own T.exc ty, q2⟩⟩
      cases hv
      rfl
    | next => exact z.elim
    | brk => exact z.elim
    | cont => exact z.elim
theorem pmk_newN {ks : List Str} {gg : {α : Type} → List α → List α → List α} (D : HasX X.prog X.w X.K X.mg X.base x k C n ks gg sp) (ty : PySem.W.typeIn X.K (.ref C) = some (.type "type")) (hr : Room (k + 1) X.A) (ha : PA X (e :: es) t) (hg : Gl X x := by rfl) (hdb : (x == ("__debug__" : Str)) = false := by decide)
    (he : starEach (e :: es) X.env = (false, eval e X.env) :: starEach es X.env := by rfl) (hpl : (backTo pos (starEach es X.env)).any (·.1) = false := by rfl) : L2N.PMk X (.Call (.Name x p) (e :: es) [] pos) (tMkN C n sp t) := by
  obtain ⟨fI, fd, ps, T, i, F, hm, b, _⟩ := D.ex
  intro pins s σ H Q I h
  refine wpAny_Call_Name_kw (ld_glob I hg hm (PySem.W.callWith_K (h₀ := X.base) I.ok.mod.kin T.kp (thn (ha.run pos pins s σ H _ I h) fun us s1 hu => ?_) he hpl) hdb)
  obtain ⟨vs, H1, I1, r, len, q⟩ := hu
  exact ⟨I1.kIn, mk_runsN T ty i F hr b I1 r len q⟩
end
/-- the module's name x is a def that may let an exception without context out -/
structure HasEN (P : Program) (w : World) (K : PySem.W.Frag) (mg : Str → Option Value) (base : Heap) (x : Str) (k : Nat) (ps : List Str) (sp : Sp) : Prop where
  ex : ∃ f fd, FnOk P w K mg base (L2N.CX P w) k f fd ps sp ∧ mg x = some (.ref f) ∧ PySem.W.keepIn K (.ref f) = true ∧ Binds K fd ps []
section
variable {X : Cx} {k : Nat} {ps : List Str} {sp : Sp} {x : Str} {p pos : Pos} {e : Expr} {es : List Expr} {t : TA} {E : XK} {W : WX}
theorem pass_EN (tk : L2N.Takes X W) (hW : ∀ cls d σ H, E cls d H → W cls d σ H) : Passes (L2N.CX X.prog X.w) X E := fun pins σ H s e s' I c => L2N.passes_call tk hW pins σ H s e s' I c
theorem pe_hasEN (D : HasEN X.prog X.w X.K X.mg X.base x k ps sp) (hr : Room k X.A) (hx : Passes (L2N.CX X.prog X.w) X E) (ha : PA X (e :: es) t) (hg : Gl X x := by rfl) (hdb : (x == ("__debug__" : Str)) = false := by decide)
    (he : starEach (e :: es) X.env = (false, eval e X.env) :: starEach es X.env := by rfl) (hpl : (backTo pos (starEach es X.env)).any (·.1) = false := by rfl) : PE X (.Call (.Name x p) (e :: es) [] pos) (tCall sp [] E t) := by
  obtain ⟨f, fd, F, hm, hk, hb⟩ := D.ex
  exact pe_call F hr hg hm hk hb .nil hx ha hdb he hpl
/-- no context, or any -/
theorem cx_any {P : Program} {w : World} {outer : List Env} {H : Hp} {s : Shared} {E : XK} {u : Value} {s' : Shared} (h : L2N.CX P w outer H s E u s') : L2.CX P w outer H s E u s' := by
  obtain ⟨a, B, H', cls, d, e, fl, r⟩ := h
  exact ⟨a, B, H', cls, d, e, flyingZ_imp (fun o z => z.zc) fl, r⟩
theorem fn_any {P : Program} {w : World} {K : PySem.W.Frag} {mg : Str → Option Value} {base : Heap} {f : Addr} {fd : FuncData} (F : FnOk P w K mg base (L2N.CX P w) k f fd ps sp) : FnOk P w K mg base (L2.CX P w) k f fd ps sp :=
  ⟨F.len, fun A outer s H args us vs Q E hr e0 hb r h => codeAny_mono (F.run A outer s H args us vs Q E hr e0 hb r h) fun res s' z => by
    cases res with
    | error er => exact cx_any z
    | ok fl => cases fl <;> exact z⟩
end
/-! ### try: .. except (A, B): a suite that raises -/
def wOnlyT (K : PySem.W.Frag) (cs : List Value) (ts : Addr → Value → Option Addr → TS) (D : Ends) : WX := fun cls d σ H => PySem.W.exmAny K cls cs = some true ∧ ∀ a, H a = none → ts a cls d D σ H
section
variable {X : Cx} {cs : List Value} {body suite : List Stmt} {b₀ : Stmt} {ty : Expr} {pos cpos : Pos} {tb : WX → TS} {ts : Addr → Value → Option Addr → TS} {Wout : WX}
theorem ps_try_onlyXT (sk : X.stack = X.env :: X.outer) (fr : X.env.frame = some X.env.locals) (T : ClsT X ty cs) (hpa : ∀ hd : Option Value, PassesOwnAt (model X.prog X.w) (X.A.mark hd) X.A X.env X.xe) (tk : L2.Takes X Wout)
    (hb : ∀ (W : WX) (pn : List (Addr × Obj)) (xe : Value → Shared → Prop), L2N.Takes (X.tr pn xe) W → PassesOwn (model X.prog X.w) X.A X.env xe → PSs (X.tr pn xe) body (tb W))
    (hsu : ∀ (a : Addr) (oe : Obj) (cls : Value) (d : Option Addr) (pn : List (Addr × Obj)), L2N.Zn cls d oe → (∃ vs, oe.data = .fields vs) → L2.Takes (suiteX X a ((a, oe) :: pn)) Wout → HotC (suiteX X a ((a, oe) :: pn)) →
      PSs (suiteX X a ((a, oe) :: pn)) (b₀ :: suite) (ts a cls d)) :
    PS X (.Try body [.ExceptHandler (some ty) none (b₀ :: suite) cpos] [] [] pos) (fun D σ H => tb (wOnlyT X.K cs ts D) D σ H) := by
  refine ⟨fun pins s σ H D I0 h => ?_⟩
  have ok0 := I0.ok
  have frs0 : X.A.frames = some (X.env :: X.outer) := ok0.frames.trans (by rw [sk])
  refine wpAny_Try_except (wpAny_mono ((hb (wOnlyT X.K cs ts D) (X.pn ++ pins) (fun e z => wpAny (model X.prog X.w) X.A (noteFrame e X.env) (fun _ z2 => wpAny (model X.prog X.w) X.A (setFlight e none) (fun _ z3 =>
    wpAny (model X.prog X.w) X.A (handleBy e X.env [.ExceptHandler (some ty) none (b₀ :: suite) cpos]) (SP X pins D) X.xe z3) X.xe z2) X.xe z) (fun u t air => ?_) PassesOwn.looking).run [] s σ H D (I0.toTry _) h) (fun f t sp => ?_) fun e t z => z)
  · obtain ⟨a, B, sI, pins1, σ1, H1, cls, d, rfl, J', nb, up, sky, na, os, ag, hit, go⟩ := air
    have J : Inv X pins σ1 H1 sI := J'.ofTry ok0
    have sky1 : Sky B (X.env :: X.outer) a (L2N.Zn cls d) X.env.locals t.heap := sk ▸ sky
    show wpAny (model X.prog X.w) X.A (noteFrame (.ref a) X.env) _ _ _
    refine L2N.Sky.land L2N.Zn.steady frs0 fr sky1 fun h3 fl3 up3 => ?_
    have J3 : Inv X pins σ1 H1 { t with heap := h3 } := J.landed nb fl3.1 (up.trans up3) os ag
    obtain ⟨oe, vs, got, zc, dat⟩ := fl3.there
    have nfr : a ∉ frs (X.env :: X.outer) := fun hm => by
      obtain ⟨_, o, e, no⟩ := fl3.2.2.1.mem hm
      rw [got] at e
      cases e
      exact no _ dat
    have nL : a ≠ X.env.locals := fun z => nfr (List.mem_filterMap.mpr ⟨X.env, List.mem_cons_self, z ▸ fr⟩)
    have nF : a ∉ X.fs := fun hm => by
      obtain ⟨e, he, q⟩ := List.mem_filterMap.mp hm
      exact nfr (List.mem_filterMap.mpr ⟨e, List.mem_cons_of_mem _ he, q⟩)
    have S3 := J3.suite got dat na nL nF
    refine wpAny_handleBy_cons (codeAny_handlers_test (T.1 a _ [] σ1 H1 _ _ _ S3 ?_)) (by intro q; cases q)
    have pk : ∀ b o, h3.get? b = some o → (h3.push (tupO cs)).get? b = some o := fun b o e => Heap.get?_push_of_some _ e
    have LT : PySem.W.Looks (model X.prog X.w) (h3.push (tupO cs)) (typeOf (.ref a)) cls := fun _ _ _ _ k q => wpAny_typeOf_ref (k _ _ (pk _ _ got)) (zc.1.symm ▸ q)
    refine (T.2 (h3.push (tupO cs)) _ a cls true (J3.kIn.keeps pk) LT (Heap.get?_push_size _ rfl) hit).here ?_
    refine codeAny_handlers_suite ?_
    refine HandSPX.lands_againZ (s := { t with heap := h3.push (tupO cs) }) (flying_kept fl3 pk) fun h4 fl4 up4 => ?_
    have J4 : Inv X pins σ1 H1 { t with heap := h4 } := J.landed nb fl4.1 ((up.trans up3).trans ((Heap.UpToSlots.of_keeps pk).trans up4)) os ag
    obtain ⟨oe4, vs4, got4, zc4, dat4⟩ := fl4.there
    have S4 := J4.suite got4 dat4 na nL nF
    have tkS : L2.Takes (suiteX X a ((a, oe4) :: (X.pn ++ pins))) Wout := fun u2 s2 x2 => by
      obtain ⟨a2, B2, sI2, pn2, σ2, H2, cls2, d2, e2, I2, nb2, up2, sky2, na2, os2, ag2, w2⟩ := x2
      exact tk u2 s2 ⟨a2, B2, sI2, pins, σ2, H2, cls2, d2, e2, unsuiteX I2 ok0, nb2, up2, sky2, na2, os2, ag2, w2⟩
    have hot : HotC (suiteX X a ((a, oe4) :: (X.pn ++ pins))) := ⟨(a, oe4), ⟨rfl, vs4, dat4, zc4.2.2 vs4 dat4⟩, List.mem_cons_self⟩
    refine wpAny_mono ((hsu a oe4 cls d (X.pn ++ pins) zc4 ⟨_, dat4⟩ tkS hot).run [] _ _ H1 _ (suiteX_of S4) (go a na)) (fun f s6 hsp => ?_) (fun e6 s6 z => hpa (some (.ref a)) e6 s6 z)
    cases f with
    | next =>
      obtain ⟨σ6, H6, S6, q6⟩ := hsp
      exact ⟨_, _, unsuiteX S6 ok0, q6⟩
    | brk =>
      obtain ⟨σ6, H6, S6, q6⟩ := hsp
      exact ⟨_, _, unsuiteX S6 ok0, q6⟩
    | cont =>
      obtain ⟨σ6, H6, S6, q6⟩ := hsp
      exact ⟨_, _, unsuiteX S6 ok0, q6⟩
    | ret u =>
      obtain ⟨v6, σ6, H6, S6, r6, q6⟩ := hsp
      exact ⟨_, _, _, unsuiteX S6 ok0, r6, q6⟩
  · cases f with
    | ret u =>
      obtain ⟨v, z, Y, J, rv, q⟩ := sp
      exact ⟨v, z, Y, J.ofTry ok0, rv, q⟩
    | next =>
      obtain ⟨z, Y, J, q⟩ := sp
      exact wpAny_execs_nil ⟨z, Y, J.ofTry ok0, q⟩
    | brk =>
      obtain ⟨z, Y, J, q⟩ := sp
      exact ⟨z, Y, J.ofTry ok0, q⟩
    | cont =>
      obtain ⟨z, Y, J, q⟩ := sp
      exact ⟨z, Y, J.ofTry ok0, q⟩
end
/-! ### an own exception with one field, made while one is handled -/
section
variable {P : Program} {w : World} {K : PySem.W.Frag} {mg : Str → Option Value} {base : Heap} {CX : CXT} {k : Nat} {f : Addr} {fd : FuncData} {N ps : List Str} {sp : Sp} {x qual : Str} {params : Arguments} {body : List Stmt} {scope : Scope} {dvs : List V} {kws : List (Str × V)}
theorem FunD.okH (F : FunD K x qual params body scope dvs kws f fd) (S : FnScope N ps scope) (len : ∀ vs H Q E, sp vs H Q E → vs.length = ps.length)
    (hb : ∀ (cdv : Value) (A : Around) (outer : List Env) (s : Shared) (H : Hp) (vs : List V) (Q : VK) (E : XK) (p : Addr × Obj), Hot1 A p → RoomH k (A.deeper (envOfC qual scope s.heap.objs.size f cdv)) → sp vs H Q E →
      ∃ t, PSs (cxH CX P w K mg base N qual scope f cdv A outer s H E p) body t ∧ t { nx := fun _ H' => Q .non H', rt := Q } (L2.start N vs) H) : FnH P w K mg base CX (k + 1) f fd ps sp := by
  obtain ⟨oc, od, dV, kV, doc, pm, an, cdv, ct, osl, rfl, lk, hcd, _, _⟩ := F.ex
  exact fn_ofH lk hcd S len fun A outer s H vs Q E p hot hr h => hb cdv A outer s H vs Q E p hot hr h
end
/-- the class at C, as it is made while an exception is handled -/
structure HasXH (P : Program) (w : World) (K : PySem.W.Frag) (mg : Str → Option Value) (base : Heap) (x : Str) (k : Nat) (C : Addr) (n : Nat) (sp : Sp) : Prop where
  ex : ∃ fI fd ps, Oex K C ∧ Ini K C fI ∧ FnH P w K mg base CX0 k fI fd ps sp ∧ mg x = some (.ref C) ∧ KBn K fd ps (n + 1) [] (fun us _ => us) (fun vs _ => vs)
section
variable {X : Cx} {k n : Nat} {fI C : Addr} {fd : FuncData} {ps : List Str} {sp : Sp} {x : Str} {p pos : Pos} {e : Expr} {es : List Expr} {t : TA}
theorem mk_runsH {pins : List (Addr × Obj)} {σ : L2.St} {H : Hp} {s : Shared} {Q : XK} {us : List Value} {vs : List V} (T : Oex X.K C) (ty : PySem.W.typeIn X.K (.ref C) = some (.type "type")) (i : Ini X.K C fI) (F : FnH X.prog X.w X.K X.mg X.base CX0 k fI fd ps sp) (room : RoomH (k + 1) X.A) (hc : HotC X)
    (b : KBn X.K fd ps (n + 1) [] (fun us _ => us) (fun vs _ => vs)) (I : Inv X pins σ H s) (r : Vals vs us) (len : vs.length = n ∧ n ≤ 1000)
    (h : ∀ a, H a = none → sp (.ref a :: vs) (upd H a (exo a C none)) (fun v H2 => v = .non ∧ ∃ (d : Addr) (fs : List (Str × V)), H2 a = some (exo a C (some d)) ∧ H2 d = some (exd d fs) ∧ H d = none ∧ Q (.ref C) (some d) (upd (del H2 a) d (.xd fs))) E0) :
    wpAny (model X.prog X.w) X.A (call (.ref C) us) (fun u s' => L2N.MkP X pins σ Q u s' ∧ Six u s') X.xe s := by
  obtain ⟨B, newId, initId, bmB, base, _, nm, qn, N, bs, bm, hd, sn, sub, ab, col, dd, k0, k1, k2, k3, k5, hC, tail⟩ := T.base
  obtain ⟨l1, l3⟩ := len
  obtain ⟨pn, hot, hpn⟩ := hc
  obtain ⟨hp, gs, dr, tok, os⟩ := s
  have new : H (hp.objs.size + 1) = none := I.hok.fresh (Nat.le_succ _)
  have keep : ∀ z o, hp.get? z = some o → (laid2 hp C us).get? z = some o := fun _ _ z => Heap.get?_push_of_some _ (Heap.get?_push_of_some _ z)
  have there : (laid2 hp C us).get? (hp.objs.size + 1) = some (PySem.HandSPX.excO C hp.objs.size) := by heap_get
  have J : Inv X pins σ (upd H (hp.objs.size + 1) (exo (hp.objs.size + 1) C none)) ⟨laid2 hp C us, gs, dr, tok, os⟩ := I.laid (t' := tok) keep (Nat.le_succ _) (exo_ok there)
  have ra : Vals (V.ref (hp.objs.size + 1) :: vs) (Value.ref (hp.objs.size + 1) :: us) := .cons rfl r
  have small : us.length ≤ sizeLine := by have := r.length; rw [sizeLine_eq]; omega
  have P1 := J.pin pn (List.mem_append_left _ hpn)
  have hpin : PinOk X.stack (upd H (hp.objs.size + 1) (exo (hp.objs.size + 1) C none)) ⟨laid2 hp C us, gs, dr, tok, os⟩ pn :=
    ⟨P1.1, P1.2.1, fun hmm => (List.mem_cons.mp (J.stkSub pn.1 hmm)).elim P1.2.2.1 P1.2.2.2.1, P1.2.2.2.2⟩
  refine wpAny_call (run_class base.call (line_of base.call fun Y => PySem.W.excTail_contains Y bm tail) ⟨_, _, _, _, _, _, _, _, _, _, _, _, _, _, _, I.kIn _ _ hC⟩ small (PySem.W.looks_findIn I.kIn i.at_) (fun self => PySem.W.bind_fn I.kIn self i.ty) ?_)
  refine codeAny_mono (F.run _ X.stack _ _ ⟨Value.ref (hp.objs.size + 1) :: us, []⟩ (Value.ref (hp.objs.size + 1) :: us) _ _ E0 pn (room.make C us []) ⟨hot.1, hot.2⟩ hpin (J.env0.make C us []) (b.to _ (_ :: us) [] J.kIn ?_ rfl) (b.rel ra .nil) (h _ new)) fun r s' z => ?_
  · exact ra.length.symm.trans (congrArg Nat.succ l1)
  cases r with
  | error er => exact z.elim
  | ok fl =>
    cases fl with
    | ret u =>
      obtain ⟨v, H2, os2, bare2, un2, hok2, rv, ev, d, fs, ea, ed, hd1, q2⟩ := z
      subst ev
      obtain ⟨h2, g2, d2, t2, os'⟩ := s'
      obtain ⟨t0, G, J, kG, ge, hoe, na⟩ := mk_end0 (d2 := d2) (t2 := t2) I (Nat.le_succ _) keep un2 hok2 os2 bare2 ea ed hd1
      refine ⟨rv, ⟨hp.objs.size + 1, _, _, ⟨G, g2, d2, t2, os'⟩, _, .ref C, some d, rfl, J, kG, ge, hoe, ⟨rfl, rfl, fun vs hv => ?_⟩, rfl, rfl, na, rfl, bare2, raises_own T.exc ty, q2⟩, fun a oe vs ea2 hg2 hd2 => ?_⟩
      · cases hv
        rfl
      · cases ea2
        have hg3 : h2.get? (hp.objs.size + 1) = some oe := hg2
        rw [hoe] at hg3
        cases hg3
        cases hd2
        show (4 : Nat) < 6
        decide
    | next => exact z.elim
    | brk => exact z.elim
    | cont => exact z.elim
theorem pmk_newH (D : HasXH X.prog X.w X.K X.mg X.base x k C n sp) (ty : PySem.W.typeIn X.K (.ref C) = some (.type "type")) (hr : RoomH (k + 1) X.A) (hc : HotC X) (ha : PA X (e :: es) t) (hg : Gl X x := by rfl) (hdb : (x == ("__debug__" : Str)) = false := by decide)
    (he : starEach (e :: es) X.env = (false, eval e X.env) :: starEach es X.env := by rfl) (hpl : (backTo pos (starEach es X.env)).any (·.1) = false := by rfl) : PMk5 X (.Call (.Name x p) (e :: es) [] pos) (tMkN C n sp t) := by
  obtain ⟨fI, fd, ps, T, i, F, hm, b⟩ := D.ex
  intro pins s σ H Q I h
  refine wpAny_Call_Name_kw (ld_glob I hg hm (PySem.W.callWith_K (h₀ := X.base) I.ok.mod.kin T.kp (thn (ha.run pos pins s σ H _ I h) fun us s1 hu => ?_) he hpl) hdb)
  obtain ⟨vs, H1, I1, r, len, q⟩ := hu
  exact ⟨I1.kIn, mk_runsH T ty i F hr hc b I1 r len q⟩
end
/-! ### defs that run whatever is handled -/
structure FnQ (P : Program) (w : World) (K : PySem.W.Frag) (mg : Str → Option Value) (base : Heap) (k : Nat) (f : Addr) (fd : FuncData) (ps : List Str) (sp : Sp) : Prop where
  len : ∀ vs H Q E, sp vs H Q E → vs.length = ps.length
  run : ∀ (A : Around) (outer : List Env) (s : Shared) (H : Hp) (args : Args) (us : List Value) (vs : List V) (Q : VK) (E : XK), RoomH k A → Env0 P w K mg base A outer s H → BindsTo s fd args (ps.zip us) → Vals vs us → sp vs H Q E →
    codeAny (model P w) A (.call (.ref f) args) (CR CX0 outer P w H s Q E) s
/-- the context of such a def's body -/
def cxQ (P : Program) (w : World) (K : PySem.W.Frag) (mg : Str → Option Value) (base : Heap) (N : List Str) (qual : Str) (scope : Scope) (f : Addr) (cd : Value) (A : Around) (outer : List Env) (s : Shared) (H : Hp) (E : XK) : Cx :=
  { cxOf CX0 P w K mg base N qual scope f cd A outer s H E with calm := false }
theorem inv_startQ {P : Program} {w : World} {K : PySem.W.Frag} {mg : Str → Option Value} {base : Heap} {N ps : List Str} {qual : Str} {scope : Scope} {f : Addr} {cd : Value} {A : Around} {outer : List Env} {s s1 : Shared} {H : Hp} {E : XK} {us : List Value} {vs : List V}
    (S : FnScope N ps scope) (e0 : Env0 P w K mg base A outer s H) (hl : vs.length = ps.length) (r : Vals vs us)
    (x : InCallC s s.heap.objs.size (bindL (envOfC qual scope s.heap.objs.size f cd).kindOf (ps.zip us) fun _ => none) (cellsFrom (s.heap.objs.size + 1) scope.names []) (bindC (envOfC qual scope s.heap.objs.size f cd).kindOf (ps.zip us) fun _ => none) s1) :
    Inv (cxQ P w K mg base N qual scope f cd A outer s H E) [] (L2.start N vs) H s1 := by
  have hpl : ps.length ≤ N.length := by have := congrArg List.length S.pre; rw [List.length_take] at this; omega
  obtain ⟨h1, tk, rfl, hk⟩ := x.done
  have noA : ∀ b : Addr, b ∉ (cxQ P w K mg base N qual scope f cd A outer s H E).ex := fun b z => absurd (show b ∈ ([] : List Addr) from z) (by simp)
  refine ⟨⟨e0.mod, S.kind, rfl, rfl, Nat.le_refl _, fun y z c h1 h2 => ?_, fun y hy => ?_, fun y c _ h => ?_, (fun z => Bool.noConfusion (show false = true from z)), Around.frames_deeper e0.frames, .inr ⟨rfl, rfl⟩, fun b z => absurd z (noA b), e0.bs, e0.bsz, fun b _ _ => noA b, fun b z => absurd z (noA b), e0.funs, e0.frf⟩,
    rfl, e0.bare, Un.kept hk, ⟨_, x.toInCall.ns, fun i y v h1 h2 h3 => ?_⟩, fun y c h => ⟨_, x.cell y c h⟩, e0.hok.fresh (Nat.le_refl _), fun y c h => ?_, fun p hp => absurd (show p ∈ ([] : List (Addr × Obj)) from hp) (by simp), e0.hok.kept hk, ?_⟩
  · exact name_of_addr x.apart (PySem.mem_of_lookup h1) (PySem.mem_of_lookup h2)
  · have hy : scope.names.lookup y = some .cell ∨ scope.names.lookup y = some .free := hy
    rcases hy with hy | hy
    · exact cell_has hy
    · exact absurd rfl (S.nofree _ (PySem.mem_of_lookup hy))
  · exact Nat.le_of_lt (x.above y c (PySem.mem_of_lookup h))
  · have hi : i < vs.length := by
      unfold L2.start at h2
      by_cases hi : i < vs.length
      · exact hi
      · rw [List.getElem?_append_right (by simpa using hi)] at h2
        rw [List.getElem?_replicate] at h2
        split at h2 <;> cases h2
    have ha : vs[i]? = some v := by
      unfold L2.start at h2
      rw [List.getElem?_append_left (by simpa using hi), List.getElem?_map] at h2
      cases e : vs[i]? with
      | none => rw [e] at h2; cases h2
      | some a => rw [e] at h2; cases h2; rfl
    obtain ⟨u, hu, rv⟩ := r.get ha
    have hp : ps[i]? = some y := by
      rw [← S.pre, List.getElem?_take_of_lt (by omega)]; exact h1
    have ndP : ps.Nodup := by rw [← S.pre]; exact S.nd.sublist (List.take_sublist _ _)
    refine ⟨u, rv, ?_⟩
    rcases S.par y (List.mem_of_getElem? hp) with k | k
    · exact .inl ⟨k, bindL_get ndP hp hu k⟩
    · obtain ⟨c, e⟩ := cell_has (n := s.heap.objs.size + 1) k
      refine .inr ⟨.inl k, c, e, ?_⟩
      have q := x.cell y c e
      rw [bindC_get ndP hp hu (by show scope.names.lookup y ≠ _; rw [k]; decide)] at q
      exact q
  · exact e0.hok.fresh (Nat.le_of_lt (x.above y c (PySem.mem_of_lookup h)))
  · unfold L2.start
    show _ = N.length
    rw [List.length_append, List.length_map, List.length_replicate]
    omega
section
variable {P : Program} {w : World} {K : PySem.W.Frag} {mg : Str → Option Value} {base : Heap} {k : Nat} {f : Addr} {fd : FuncData} {N ps : List Str} {sp : Sp} {x qual : Str} {params : Arguments} {body : List Stmt} {scope : Scope} {dvs : List V} {kws : List (Str × V)}
theorem FunD.okQ (F : FunD K x qual params body scope dvs kws f fd) (S : FnScope N ps scope) (len : ∀ vs H Q E, sp vs H Q E → vs.length = ps.length)
    (hb : ∀ (cdv : Value) (A : Around) (outer : List Env) (s : Shared) (H : Hp) (vs : List V) (Q : VK) (E : XK), RoomH k (A.deeper (envOfC qual scope s.heap.objs.size f cdv)) → sp vs H Q E →
      ∃ t, PSs (cxQ P w K mg base N qual scope f cdv A outer s H E) body t ∧ t { nx := fun _ H' => Q .non H', rt := Q } (L2.start N vs) H) : FnQ P w K mg base (k + 1) f fd ps sp := by
  obtain ⟨oc, od, dV, kV, doc, pm, an, cdv, ct, osl, rfl, lk, hcd, _, _⟩ := F.ex
  refine ⟨len, fun A outer s H args us vs Q E hr e0 bind r hsp => ?_⟩
  have base_in : ∀ b o, base.get? b = some o → s.heap.get? b = some o := fun b o z => (e0.bs b o z).1
  have KX : K.In s.heap := e0.mod.kin.keeps base_in
  have par : ∀ y ∈ ps.zip us, scope.names.lookup y.1 = some .local ∨ (scope.names.lookup y.1 = some .cell ∧ ((cellsFrom (s.heap.objs.size + 1) scope.names []).lookup y.1).isSome = true) := fun y hy => by
    cases S.par y.1 (List.of_mem_zip hy).1 with
    | inl q => exact Or.inl q
    | inr q => exact Or.inr ⟨q, PySem.W.cellsFrom_some _ _ _ (Or.inl q)⟩
  refine codeAny_call_function hr.depth (KX _ _ lk) rfl S.co S.gen rfl (PySem.W.codeRec_of KX hcd) (bind _ _ _ _ (wpAny_newFunctionEnv_cells S.kind par fun env he s1 made => ?_))
  subst he
  refine And.intro ((e0.mod.nolimit.keeps base_in).keeps made.toInCall.keep) (codeAny_func ?_)
  obtain ⟨t, ht, hq⟩ := hb cdv A outer s H vs Q E (hr.deeper _) hsp
  refine wpAny_mono (ht.run [] s1 (L2.start N vs) H _ (inv_startQ S e0 (len _ _ _ _ hsp) r made) hq) (fun fl s' z => ?_) fun _ _ z => z
  cases fl with
  | ret u =>
    obtain ⟨v, σ', H', J, rv, q⟩ := z
    exact ⟨v, H', J.os, J.bare, J.base, J.hok, rv, q⟩
  | next =>
    obtain ⟨σ', H', J, q⟩ := z
    exact ⟨V.non, H', J.os, J.bare, J.base, J.hok, rfl, q⟩
  | brk =>
    obtain ⟨_, _, _, q⟩ := z
    exact q.elim
  | cont =>
    obtain ⟨_, _, _, q⟩ := z
    exact q.elim
theorem FnQ.ok (F : FnQ P w K mg base k f fd ps sp) : FnOk P w K mg base CX0 k f fd ps sp := ⟨F.len, fun A outer s H args us vs Q E hr e0 hb r h => F.run A outer s H args us vs Q E (roomH_of hr) e0 hb r h⟩
end
section
variable {X : Cx} {k : Nat} {f C a : Addr} {fd : FuncData} {ps : List Str} {sp : Sp} {σ : L2.St} {H : Hp}
theorem FnQ.runsAt (F : FnQ X.prog X.w X.K X.mg X.base k f fd ps sp) (b : Binds X.K fd ps []) (hr : RoomH (k + 1) X.A) : RunsAt X σ H f a sp := fun A' pins' s' Q h1 h2 h3 h4 I h => by
  obtain ⟨fr, md, bs, bz, fu, ff, ho, ba⟩ := I.env0
  have r : Vals [V.ref a] [Value.ref a] := .cons rfl .nil
  have z := b s' [.ref a] I.kIn (by have := F.len _ _ _ _ h; simpa using this)
  simp only [List.append_nil] at z
  have room : RoomH k A' := ⟨by have := hr.dp; omega, by have := hr.un; omega⟩
  refine wpAny_call (codeAny_mono (F.run A' X.stack s' H ⟨[.ref a], []⟩ [.ref a] [.ref a] Q E0 room ⟨h3 ▸ fr, md, bs, bz, fu, ff, ho, ba⟩ z r h) fun res s'' q => ?_)
  cases res with
  | error er => exact q.elim
  | ok fl =>
    cases fl with
    | ret u =>
      obtain ⟨v, H', J, rv, q'⟩ := I.after q
      exact ⟨v, H', J, rv, q'⟩
    | next => exact q.elim
    | brk => exact q.elim
    | cont => exact q.elim
/-- repr([x]), x an own instance -/
theorem call_reprL1 (F : FnQ X.prog X.w X.K X.mg X.base k f fd ps sp) (S : Spc X.K C "__repr__" f) (b : Binds X.K fd ps []) (calm : Calm X.A) (hr : RoomH (k + 1) X.A) : CallR X (.builtin "repr") (rReprL1 C sp) := by
  intro pins s σ H xs us Q I r h
  obtain ⟨p, a, rfl, hp, ia, q⟩ := h
  obtain ⟨u, rfl, ru⟩ := Vals.one r
  cases ru
  exact reprL_of I calm (by have := hr.un; omega) hp ia S (F.runsAt b hr) q
end
end SwX
set_option Elab.async false
set_option linter.all false
set_option maxRecDepth 100000
set_option maxHeartbeats 4000000
/-! classmethods by keyword; repr of a text, of data in a list, of an own instance in a list; what _law_caught tells of an exception that holds either -/
namespace SwX
open PySem PySem.Spec PyProof.Rows L2 L2H
/-! ### classmethods by keyword -/
section
variable {X : Cx} {pins : List (Addr × Obj)} {σ : L2.St} {H : Hp} {s : Shared} {C p g : Addr} {mc : Value} {m : Str} {CX : CXT} {k : Nat} {fd : FuncData} {ps ks : List Str} {sp : Sp} {E : XK} {gg : List Value → List Value → List Value} {gV : List V → List V → List V}
theorem callwith_cmK {pos : Pos} {kws : List Keyword} {q : Addr} {Q : Value → Shared → Prop} {E : Value → Shared → Prop} {A : Around} (hf : PySem.W.fnIn X.K g = true) (hall : (backToKw pos (keywordEach kws X.env)).all (·.1.isSome) = true)
    (h : wpAny (model X.prog X.w) A (evalAll ((backToKw pos (keywordEach kws X.env)).map (·.2))) (fun vs s₁ => PySem.W.MethP X.K q g (.ref C) s₁.heap ∧ wpAny (model X.prog X.w) A (call (.ref q) ([] ++ []) (((backToKw pos (keywordEach kws X.env)).filterMap (·.1)).zip vs)) Q E s₁) E s)
    (hpl : ((backTo pos (starEach [] X.env)).any (·.1) || (backToKw pos (keywordEach kws X.env)).any (·.1.isNone)) = false) :
    wpAny (model X.prog X.w) A (callWith pos (.ref q) [] (backTo pos (starEach [] X.env)) (backToKw pos (keywordEach kws X.env))) Q E s := PySem.W.callWith_of hpl (PySem.W.keeps_M hf) (evalArgs_kw2_nil hall h)
theorem run_cmK {q : Addr} {Q : VK} {ws : List Value} {zs : List V} (F : FnOk X.prog X.w X.K X.mg X.base CX k g fd ps sp) (b : KBn X.K fd ps 1 ks gg gV) (hr : Room k X.A) (hx : Passes CX X E) (I : Inv X ((q, PySem.W.methodObj (.ref g) (.ref C)) :: pins) σ H s)
    (r : Vals zs ws) (len : zs.length = ks.length) (h : sp (gV [.ref C] zs) H Q E) : wpAny (model X.prog X.w) X.A (call (.ref q) [] (ks.zip ws)) (EP X pins σ Q) X.xe s := by
  have rz : Vals (gV [.ref C] zs) (gg [.ref C] ws) := b.rel (.cons rfl .nil) r
  have z : wpAny (model X.prog X.w) X.A (call (.ref q) [] (ks.zip ws)) (EP X ((q, PySem.W.methodObj (.ref g) (.ref C)) :: pins) σ Q) X.xe s := by
    refine wpAny_call (PySem.W.method_call (ClX.pin_at I) (codeAny_mono (F.run X.A X.stack s H ⟨[.ref C], ks.zip ws⟩ (gg [.ref C] ws) (gV [.ref C] zs) Q E hr I.env0 (b.to s [.ref C] ws I.kIn rfl (r.length.symm.trans len)) rz h) fun res s' hq => ?_))
    cases res with
    | error e => exact hx _ σ H s e s' I hq
    | ok fl =>
      cases fl with
      | ret u => exact I.after hq
      | next => exact hq.elim
      | brk => exact hq.elim
      | cont => exact hq.elim
  exact thn z fun _ _ y => ClX.unpinE y
def tCMethK (C : Addr) (n : Nat) (sp : Sp) (gV : List V → List V → List V) (E : XK) (ta : TE) (tk : TA) : TE := fun σ H Q => ta σ H fun x H1 => x = .ref C ∧ tk σ H1 fun zs H2 => zs.length = n ∧ sp (gV [.ref C] zs) H2 Q E
theorem pe_cmethK {o : Expr} {ta : TE} {tk : TA} {kws : List Keyword} {apos pos : Pos} {pl : Sem Bool} (he : PE X o ta) (r : ClX.CRead X.K C mc) (c : ClX.CMet X.K C mc m p g) (F : FnOk X.prog X.w X.K X.mg X.base CX k g fd ps sp) (b : KBn X.K fd ps 1 ks gg gV) (hr : Room k X.A) (hx : Passes CX X E) (hkw : PK X kws tk)
    (hall : (backToKw pos (keywordEach kws X.env)).all (·.1.isSome) = true := by rfl) (hks : (backToKw pos (keywordEach kws X.env)).filterMap (·.1) = ks := by rfl)
    (hpl : ((backTo pos (starEach [] X.env)).any (·.1) || (backToKw pos (keywordEach kws X.env)).any (·.1.isNone)) = false := by rfl)
    (ht : eval (.Call (.Attribute o m apos) [] kws pos) X.env = (do
      let ov ← eval o X.env
      standAt apos.atName
      let (f, first) ← holding [ov] (getMethod ov m pl)
      callWith pos f first (backTo pos (starEach [] X.env)) (backToKw pos (keywordEach kws X.env))) := by rfl) :
    PE X (.Call (.Attribute o m apos) [] kws pos) (tCMethK C ks.length sp gV E ta tk) := by
  refine ⟨fun pins s σ H Q I h => ?_⟩
  refine PySem.W.methodCall_KW (pl := pl) (thn (he.run pins s σ H _ I h) fun u s1 ⟨x, H1, I1, rx, ex, q⟩ => ?_) ht
  subst ex
  obtain rfl : u = Value.ref C := rx
  refine ClX.getmethcm_ok I1 r c fun s2 I2 => ?_
  refine callwith_cmK (C := C) c.fi hall (thn (hkw.run pos _ s2 σ H1 _ I2 q) fun ws s3 ⟨zs, H2, I3, rv, len, q2⟩ => ⟨⟨ClX.pin_at I3, I3.kIn⟩, ?_⟩) hpl
  rw [hks]
  exact run_cmK F b hr hx I3 rv len q2
end
/-! ### repr -/
section
variable {X : Cx} {k : Nat} {f C : Addr} {fd : FuncData} {ps : List Str} {sp : Sp}
/-- repr of a text -/
def rReprS : List V → Hp → VK → Prop := fun xs H Q => ∃ x : Str, xs = [.str x] ∧ (reprText x).length ≤ sizeLine ∧ Q (.str (reprText x)) H
theorem call_reprS : CallR X (.builtin "repr") rReprS := by
  intro pins s σ H xs us Q I r h
  obtain ⟨x, rfl, hz, q⟩ := h
  obtain ⟨u, rfl, t, rfl⟩ := vals1 r
  exact PySem.P.repr_of_str ⟨.str _, H, I.tok _, ⟨_, rfl⟩, q⟩ hz
/-- repr of data in a list or a tuple, of a text, of an own instance in a list -/
def rReprO (K : PySem.W.Frag) (C : Addr) (sp : Sp) : List V → Hp → VK → Prop := fun xs H Q => (rRepr K xs H Q ∨ rReprS xs H Q) ∨ rReprL1 C sp xs H Q
theorem reprO (S : SysIn X.K) (F : FnQ X.prog X.w X.K X.mg X.base k f fd ps sp) (Sp : Spc X.K C "__repr__" f) (b : Binds X.K fd ps []) (calm : Calm X.A) (hr : RoomH (k + 1) X.A) : CallR X (.builtin "repr") (rReprO X.K C sp) :=
  cr_join (cr_join (call_reprH S calm (by have := hr.un; omega)) call_reprS) (call_reprL1 F Sp b calm hr)
end
/-! ### what _law_caught makes of its lambda; rrL: how repr reads in the suite -/
def TTo (rs : List Nat) (C : Nat → Addr) (rrL rr : List V → Hp → VK → Prop) : (XK → Hp → VK → Prop) → Hp → VK → Prop := fun tl H Q =>
  tl (Thrown rs C fun i v H' => ∀ p H1, Evl.Ex H' H1 → H1 p = some (.lst [v]) → rrL [.ref p] H1 fun x H2 => ([V.int (i : Nat), x] : List V).length ≤ sizeLine ∧ ∀ q, H2 q = none → Q (.ref q) (upd H2 q (.lst [.int (i : Nat), x]))) H
  fun v H' => rr [v] H' fun x H2 => ([V.str "told", x] : List V).length ≤ sizeLine ∧ ∀ p, H2 p = none → Q (.ref p) (upd H2 p (.lst [.str "told", x]))
/-- what repr gives of [v]: data, or an own instance -/
def RepZ (K : PySem.W.Frag) (C : Addr) (sp : Sp) (v : V) (H : Hp) (z : Str) : Prop := (∃ D : PyData, Da K H v D ∧ (PyData.list [D]).showable = true ∧ (PyData.list [D]).depth ≤ 180 ∧ (PyData.list [D]).shown.length ≤ sizeLine ∧ z = PyData.shown (.list [D])) ∨
  ∃ (a : Addr) (y : Str), v = .ref a ∧ IsI H a C ∧ (∀ H1 Q, Evl.Ex H H1 → (∀ H2, Evl.Ex H1 H2 → Q (.str y) H2) → sp [.ref a] H1 Q E0) ∧ (listText [y]).length ≤ sizeLine ∧ z = listText [y]
section
open Evl
open LamX (Tabs ExtN tLam)
variable {K : PySem.W.Frag} {C : Addr} {sp : Sp} {v : V} {H : Hp} {z : Str} {T : List (Addr × Str)} {rs : List Nat} {Cn : Nat → Addr} {rr : List V → Hp → VK → Prop} {t : XK → TE} {σ : L2.St} {i : Nat}
theorem isI_ext {H H' : Hp} {a : Addr} (e : ExtN H H') (h : IsI H a C) : IsI H' a C := by
  obtain ⟨dx, fs, z⟩ := h
  exact ⟨dx, fs, e _ _ z fun _ w => nomatch w⟩
theorem RepZ.run {p : Addr} {H1 : Hp} {Q : VK} (h : RepZ K C sp v H z) (e : Ex H H1) (hp : H1 p = some (.lst [v])) (q : ∀ H2, Ex H1 H2 → Q (.str z) H2) : rReprO K C sp [.ref p] H1 Q := by
  rcases h with ⟨D, da, sh, dp, ln, rfl⟩ | ⟨a, y, rfl, ia, run, ln, rfl⟩
  · exact .inl (.inl ⟨p, .list [D], rfl, da_list hp (.cons (Da.mono e da) .nil), sh, dp, ln, q H1 (Ex.refl H1)⟩)
  · exact .inr ⟨p, a, rfl, hp, ia.mono e, run H1 _ e fun H2 e2 => ⟨y, rfl, e2 _ _ hp, ln, q H2 e2⟩⟩
/-- a lambda whose exception tells v -/
theorem lam_thrO (tabs : Tabs T H) (hi : i ∈ rs) (run : ∀ (E : XK) H1 Q', ExtN H H1 → Thr E (Cn i) (exFld i) H1 v → t E σ H1 Q') (rep : ∀ H1, ExtN H H1 → RepZ K C sp v H1 z) {Q : VK}
    (k : ∀ p H2, ExtN H H2 → Tabs T H2 → H2 p = some (.lst [.int (i : Nat), .str z]) → Q (.ref p) H2) : tLam T (TTo rs Cn (rReprO K C sp) rr) t σ H Q :=
  ⟨tabs, fun H1 ext tabs1 => by
    dsimp only [TTo]
    refine run _ H1 _ ext fun d H' e fl => ⟨i, v, hi, rfl, fl, fun p H2 e2 hp => ?_⟩
    refine (rep H1 ext).run (e.trans e2) hp fun H3 e3 => ⟨show 2 ≤ sizeLine by decide, fun q hq => ?_⟩
    have e13 : Ex H1 (upd H3 q (.lst [.int (i : Nat), .str z])) := ((e.trans e2).trans e3).trans (Ex.new hq)
    exact k q _ (ext.trans (LamX.ExtN.of e13)) (tabs1.ext e13) upd_same⟩
/-- a lambda that gives a text -/
theorem lam_strO {x : Str} (tabs : Tabs T H) (run : ∀ (E : XK) H1 Q', ExtN H H1 → (∀ H2, Ex H1 H2 → Q' (.str x) H2) → t E σ H1 Q') (ln : (reprText x).length ≤ sizeLine) {rrL : List V → Hp → VK → Prop} {Q : VK}
    (k : ∀ p H2, ExtN H H2 → Tabs T H2 → H2 p = some (.lst [.str "told", .str (reprText x)]) → Q (.ref p) H2) : tLam T (TTo rs Cn rrL (rReprO K C sp)) t σ H Q :=
  ⟨tabs, fun H1 ext tabs1 => by
    dsimp only [TTo]
    refine run _ H1 _ ext fun H2 e2 => .inl (.inr ⟨x, rfl, ln, show 2 ≤ sizeLine by decide, fun q hq => ?_⟩)
    have e13 : Ex H1 (upd H2 q (.lst [.str "told", .str (reprText x)])) := e2.trans (Ex.new hq)
    exact k q _ (ext.trans (LamX.ExtN.of e13)) (tabs1.ext e13) upd_same⟩
end
end SwX
set_option Elab.async false
set_option linter.all false
set_option maxRecDepth 100000
set_option maxHeartbeats 4000000
/-! a local class called in a try; long comprehensions that make objects; values that are no texts -/
namespace SwX
open PySem PySem.Spec PyProof.Rows L2
section
variable {X : Cx} {CX : CXT} {k i : Nat} {f C : Addr} {fd : FuncData} {ps : List Str} {sp : Sp} {E : L2.St → XK} {dvs : List V} {ds : List Value} {x : Str} {p pos : Pos} {e : Expr} {es : List Expr} {t : TA}
theorem run_makeS {pins : List (Addr × Obj)} {σ : L2.St} {H : Hp} {s : Shared} {Q : VK} {us : List Value} {vs : List V} (M : Mk X.K C f) (F : FnOk X.prog X.w X.K X.mg X.base CX k f fd ps sp) (hr : Room (k + 1) X.A) (hb : Binds X.K fd ps ds) (hd : Vals dvs ds)
    (hx : PassesAt CX X σ (E σ)) (I : Inv X pins σ H s) (r : Vals vs us)
    (h : ∀ x dx, H x = none → H dx = none → dx ≠ x → sp (.ref x :: (vs ++ dvs)) (upd (upd H dx (.own x)) x (.ins C dx [])) (fun v H2 => v = .non ∧ Q (.ref x) H2) (E σ)) :
    wpAny (model X.prog X.w) X.A (call (.ref C) us) (EP X pins σ Q) X.xe s := by
  have hq := h (s.heap.objs.size + 1) s.heap.objs.size (I.hok.fresh (Nat.le_succ _)) (I.hok.fresh (Nat.le_refl _)) (Nat.ne_of_lt (Nat.lt_succ_self _))
  have I2 := Inv.made (C := C) I
  have r2 : Vals (V.ref (s.heap.objs.size + 1) :: (vs ++ dvs)) (Value.ref (s.heap.objs.size + 1) :: (us ++ ds)) := .cons rfl (r.append hd)
  have hl : (Value.ref (s.heap.objs.size + 1) :: us ++ ds).length = ps.length := by
    have e := r2.length
    rw [F.len _ _ _ _ hq] at e
    exact e.symm
  refine wpAny_call (make_map (f := f) I.kIn M.makes M.init (beq_iff_eq.mp M.fn) (codeAny_mono (F.run _ X.stack _ _ ⟨Value.ref (s.heap.objs.size + 1) :: us, []⟩ (Value.ref (s.heap.objs.size + 1) :: (us ++ ds)) _ _ (E σ) (hr.make C us [])
    (I2.env0.make C us []) (hb _ (Value.ref (s.heap.objs.size + 1) :: us) I2.kIn hl) r2 hq) fun r s' hq' => ?_))
  cases r with
  | error e => exact hx pins _ _ e s' I2 hq'
  | ok fl =>
    cases fl with
    | ret u =>
      obtain ⟨v, H', I3, rv, ev, q3⟩ := I2.after hq'
      subst ev
      exact ⟨rv, ⟨V.ref (s.heap.objs.size + 1), H', I3, rfl, q3⟩⟩
    | next => exact False.elim hq'
    | brk => exact False.elim hq'
    | cont => exact False.elim hq'
/-- x(e, ..) in a try, x a local name that holds the class at C -/
def tMakeLS (i : Nat) (C : Addr) (sp : Sp) (dvs : List V) (E : L2.St → XK) (t : TA) : TE := fun σ H Q => σ[i]? = some (some (.ref C)) ∧ tMake C sp dvs (E σ) t σ H Q
theorem pe_makeLS (M : Mk X.K C f) (F : FnOk X.prog X.w X.K X.mg X.base CX k f fd ps sp) (room : Room (k + 1) X.A) (hN : X.N[i]? = some x) (hv : Vis X.env.scope x) (hb : Binds X.K fd ps ds) (hd : Vals dvs ds) (out : ∀ σ, PassesAt CX X σ (E σ)) (ha : PA X (e :: es) t)
    (hdb : (x == ("__debug__" : Str)) = false := by decide) (hcd : (x == ("__classdict__" : Str)) = false := by decide) (he : starEach (e :: es) X.env = (false, eval e X.env) :: starEach es X.env := by rfl) (hpl : (backTo pos (starEach es X.env)).any (·.1) = false := by rfl) :
    PE X (.Call (.Name x p) (e :: es) [] pos) (tMakeLS i C sp dvs E t) := by
  refine ⟨fun pins s σ H Q I h => ?_⟩
  have look := (pe_var (pos := p) hN hv hdb hcd).run pins s σ H (fun v H1 => v = .ref C ∧ H1 = H) I ⟨.ref C, h.1, rfl, rfl⟩
  refine wpAny_Call_Name_kw (thn look fun u s1 z => ?_)
  obtain ⟨v, H1, I1, r1, rfl, rfl⟩ := z
  cases r1
  refine PySem.W.callWith_K (h₀ := X.base) I1.ok.mod.kin M.kp (thn (ha.run pos pins s1 σ _ _ I1 h.2) fun us s2 z => ?_) he hpl
  obtain ⟨vs, H2, I2, r, q⟩ := z
  exact ⟨I2.kIn, run_makeS M F room hb hd (out σ) I2 r q⟩
end
section
open Evl
variable {K : PySem.W.Frag} {σ : L2.St} {H : Hp} {te tl : TE} {α : Type} {F : α → V → Hp → Prop} {is : List α} {xs : List V}
/-- [te for x in a list], each a new thing of which F holds aside of whatever stood before; up to 40000 -/
theorem yi_lcLX {j : Nat} {vs : List Nat} (m : ∀ i v H H', Ex H H' → F i v H → F i v H') (h : EvL tl σ H xs) (l : xs.length = is.length) (hz : xs.length ≤ 40000) (hw : ∀ x, wipe ((wipe σ vs).set j (some x)) vs = wipe σ vs)
    (he : ∀ (i : Nat) (x : V) (d : α) H1, Ex H H1 → xs[i]? = some x → is[i]? = some d → ∀ Q : VK, (∀ v H2, Ex H1 H2 → (∀ a, H1 a ≠ none → F d v (less a H2)) → Q v H2) → te ((wipe σ vs).set j (some x)) H1 Q) : Yi (tLc (iList K tl) (gName j) tYes te vs) σ H (LstOf F is) := fun H0 e0 Q q =>
  h H0 e0 _ fun p H1 n1 e1 h1 => ⟨p, rfl, ⟨xs, sq_of h1⟩, fun D hD => by
    have ne : p ≠ D := fun z => by rw [z, hD] at h1; cases h1
    refine lc_list (xs := xs) (fun i H' => ∃ acc, H' D = some (.lst acc) ∧ Paired (fun d v => F d v (less D H')) (is.take i) acc ∧ Ex H1 H') ⟨[], upd_same, by rw [List.take_zero]; exact .nil, Ex.new hD⟩ (fun i H' _ z => sq_of (z.choose_spec.2.2 _ _ h1)) (fun i x H' hx z => ⟨hw x, ?_⟩) fun H' z => ?_
    · obtain ⟨acc, ha, pa, ea⟩ := z
      have lt : i < is.length := by
        rw [← l]
        exact (List.getElem?_eq_some_iff.mp hx).1
      have at_ : is[i]? = some is[i] := by simp [lt]
      show te ((wipe σ vs).set j (some x)) H' fun y H4 => ∃ acc, H4 D = some (.lst acc) ∧ acc.length < sizeLine ∧ ∃ acc', upd H4 D (.lst (acc ++ [y])) D = some (.lst acc') ∧ Paired (fun d v => F d v (less D (upd H4 D (.lst (acc ++ [y]))))) (is.take (i + 1)) acc' ∧ Ex H1 (upd H4 D (.lst (acc ++ [y])))
      refine he i x is[i] H' ((e0.trans e1).trans ea) hx at_ _ fun y H4 e4 fy => ?_
      have ln := paired_len pa
      rw [List.length_take] at ln
      refine ⟨acc, e4 _ _ ha, sz_lt (by omega), _, upd_same, ?_, ?_⟩
      · rw [less_upd_same, List.take_succ, at_]
        exact paired_append (paired_mono (F := fun d v H => F d v H) (less_mono e4) m pa) (.cons (fy D (by rw [ha]; exact fun z => nomatch z)) .nil)
      · intro b o hb
        have nb : b ≠ D := fun z => by rw [z, hD] at hb; cases hb
        rw [upd_ne nb]
        exact e4 _ _ (ea _ _ hb)
    · obtain ⟨acc, ha, pa, ea⟩ := z
      rw [l, List.take_length] at pa
      exact q (.ref D) H' (e1.trans ea) ⟨D, acc, rfl, ha, paired_mono (F := fun d v H => F d v H) less_ex m pa⟩⟩
/-- v is no text -/
def NotStr (K : PySem.W.Frag) (v : V) (H : Hp) : Prop := ∀ H', Ex H H' → ∃ t, TyX K H' v t ∧ PySem.W.kitOne K t (.type "str") = some false
theorem NotStr.mono {v : V} {H' : Hp} (h : NotStr K v H) (e : Ex H H') : NotStr K v H' := fun H2 e2 => h H2 (e.trans e2)
theorem notStr_da {v : V} {D : PyData} (h : Da K H v D) (n : isStr D = false) : NotStr K v H := fun H' e => ⟨_, da_ty (Da.mono e h), kit_ty (by rw [kit_str, n])⟩
theorem notStr_ins {C a : Addr} (c : OwnC K C) (kt : PySem.W.kitOne K (.ref C) (.type "str") = some false) (h : IsI H a C) : NotStr K (.ref a) H := fun H' e => by
  obtain ⟨dx, fs, z⟩ := h
  exact ⟨.ref C, .base (.ins (e _ _ z) c.cls c.ha c.hn c.ht c.hm), kt⟩
theorem ev_isNS {v : V} (h : Ev te σ H v) (n : NotStr K v H) : Ev (tCB (rIsi K) (tCons te (tCons (tC (.ty "str")) tNil))) σ H (.bl false) := fun H1 e1 Q q => h H1 e1 _ fun H2 e2 => by
  obtain ⟨t, ty, kt⟩ := n H2 (e1.trans e2)
  exact ⟨v, .ty "str", t, .type "str", false, rfl, .ty "str", ty, kt, q H2 e2⟩
end
end SwX
set_option Elab.async false
set_option linter.all false
set_option maxRecDepth 100000
set_option maxHeartbeats 4000000
/-! comprehensions, pairs unpacked, calls: while an exception is handled -/
namespace SwX
open PySem PySem.Spec PyProof.Rows L2 HotX L2H
section
variable {prog : Program} {w : World} {A : Around} {E : Value → Shared → Prop} {s : Shared}
/-- StopIteration raised in an iterator's step, and caught -/
theorem halt_hot {x1 : Addr} (hot : HotAt A x1 s.heap) {α : Type} {Q : α → Shared → Prop}
    (k : ∀ (h' : Heap) (z : Addr) (o : Obj), (∀ b u, s.heap.get? b = some u → h'.get? b = some u) → h'.get? z = some o → o.cls = .type "StopIteration" → E (.ref z) { s with heap := h' }) :
    wpAny (model prog w) A (newExc (.type "StopIteration") [] >>= fun v => (raiseNew v : Sem α)) Q E s := by
  obtain ⟨hh, oh, us, g1, g2, g3⟩ := hot
  refine wpAny_bind ?_
  simp only [newExc, newTuple]
  refine wpAny_bind (wpAny_newObj_type (wpAny_bind (m := firstArgMember _ _) (wpAny_of_eq (a := Value.none) (by first | rfl | (simp only [firstArgMember]; rfl)) ?_)) (by size_fits))
  refine wpAny_newObj_type ?_ (by size_fits)
  have far := Heap.lt_size (Heap.get?_push_of_some { cls := .type "tuple", data := .seq #[] } g1)
  refine raiseNew_hot ⟨hh, oh, us, Heap.get?_push_of_some _ (Heap.get?_push_of_some _ g1), g2, g3⟩ (Nat.ne_of_lt (Heap.lt_size (Heap.get?_push_of_some _ g1))) (Heap.get?_push_size _ rfl) rfl (by first | (simp; done) | (simp; omega)) ?_
  refine k _ _ _ (fun b u e => ?_) (Heap.get?_update_self _ (Heap.get?_push_size _ rfl) rfl) rfl
  rw [Heap.get?_update_other _ _ (Nat.ne_of_gt (Heap.lt_size (Heap.get?_push_of_some _ e)))]
  exact Heap.get?_push_of_some _ (Heap.get?_push_of_some _ e)
/-- a list's iterator at its end -/
theorem next_listH {it l x1 : Addr} {i : Nat} {xs : Array Value} {Q : Option Value → Shared → Prop} (hot : HotAt A x1 s.heap) (ne : x1 ≠ it) (at_ : s.heap.IsListIter it l i) (hl : s.heap.IsList l xs) (out : xs[i]? = none)
    (k : ∀ h', Heap.ExtBut it s.heap h' → Q none { s with heap := h' }) : wpAny (model prog w) A (pyNext (.ref it)) Q E s := by
  obtain ⟨oi, ei, ci, di⟩ := id at_
  obtain ⟨ol, el, _, nl, dl⟩ := hl
  obtain ⟨hh, oh, us, g1, g2, g3⟩ := hot
  unfold pyNext
  refine wpAny_bind (wpAny_attempt (wpAny_callSpecial?_slot (name := Str.ofString "__next__") at_.typeIs slot_listiter_next (wpAny_call_entry slot_listiter_next at_.typeIs entry_listiter_next ?_ (args_listiter_next _))))
  show wpAny _ _ (field (.ref it) 0 >>= _) _ _ s
  refine wpAny_bind (wpAny_field ei di (x := .ref l) rfl ?_)
  show wpAny _ _ (if (Value.ref l == Value.none) = true then _ else _) _ _ s
  rw [if_neg (show ¬ ((Value.ref l == Value.none) = true) from Bool.false_ne_true)]
  show wpAny _ _ (field (.ref it) 1 >>= _) _ _ s
  refine wpAny_bind (wpAny_field ei di (x := .int i 0) rfl (wpAny_bind (m := seqItems? (.ref l)) (wpAny_seqItems el dl ?_)))
  simp only [Int.toNat_natCast, out]
  refine wpAny_bind (wpAny_rule (wpAny_bind (wpAny_setField ei di (by simp) ?_)))
  refine halt_hot (x1 := x1) ?_ fun h' z o kp ez cz => ?_
  · exact ⟨hh, oh, us, (Heap.SameBut.update ..).extBut _ _ ne g1, g2, g3⟩
  refine wpAny_bind (wpAny_isInstance (T := "StopIteration") (b := true) ⟨_, ez, cz⟩ isSubtype_stop (wpAny_pure (k _ fun b u nb e => kp b u ((Heap.SameBut.update ..).extBut b u nb e))))
/-- a tuple's iterator at its end -/
theorem next_tupH {it l x1 : Addr} {i : Nat} {xs : Array Value} {Q : Option Value → Shared → Prop} (hot : HotAt A x1 s.heap) (ne : x1 ≠ it) (at_ : IsTupIter s.heap it l i) (hl : IsTup s.heap l xs) (out : xs[i]? = none)
    (k : ∀ h', Heap.ExtBut it s.heap h' → Q none { s with heap := h' }) : wpAny (model prog w) A (pyNext (.ref it)) Q E s := by
  obtain ⟨oi, ei, ci, di⟩ := id at_
  obtain ⟨ol, el, _, nl, dl⟩ := hl
  obtain ⟨hh, oh, us, g1, g2, g3⟩ := hot
  unfold pyNext
  refine wpAny_bind (wpAny_attempt (wpAny_callSpecial?_slot (name := Str.ofString "__next__") at_.typeIs slot_tupleiter_next (wpAny_call_entry slot_tupleiter_next at_.typeIs entry_tupleiter_next ?_ (args_tupleiter_next _))))
  show wpAny _ _ (field (.ref it) 0 >>= _) _ _ s
  refine wpAny_bind (wpAny_field ei di (x := .ref l) rfl ?_)
  show wpAny _ _ (if (Value.ref l == Value.none) = true then _ else _) _ _ s
  rw [if_neg (show ¬ ((Value.ref l == Value.none) = true) from Bool.false_ne_true)]
  show wpAny _ _ (field (.ref it) 1 >>= _) _ _ s
  refine wpAny_bind (wpAny_field ei di (x := .int i 0) rfl (wpAny_bind (m := seqItems? (.ref l)) (wpAny_seqItems el dl ?_)))
  simp only [Int.toNat_natCast, out]
  refine wpAny_bind (wpAny_rule (wpAny_bind (wpAny_setField ei di (by simp) ?_)))
  refine halt_hot (x1 := x1) ?_ fun h' z o kp ez cz => ?_
  · exact ⟨hh, oh, us, (Heap.SameBut.update ..).extBut _ _ ne g1, g2, g3⟩
  refine wpAny_bind (wpAny_isInstance (T := "StopIteration") (b := true) ⟨_, ez, cz⟩ isSubtype_stop (wpAny_pure (k _ fun b u nb e => kp b u ((Heap.SameBut.update ..).extBut b u nb e))))
theorem unpackH {l x1 : Addr} {xs : Array Value} {Q : List Value → Shared → Prop} (hot : HotAt A x1 s.heap) (hl : IsTup s.heap l xs)
    (k : ∀ h', Heap.ExtBut s.heap.objs.size s.heap h' → Q xs.toList { s with heap := h' }) : wpAny (model prog w) A (unpackItems (.ref l) xs.size none) Q E s := by
  have far : l ≠ s.heap.objs.size := by obtain ⟨o, ho, _⟩ := hl; exact Nat.ne_of_lt (Heap.lt_size ho)
  obtain ⟨hh, oh, us, g1, g2, g3⟩ := hot
  have far1 : x1 ≠ s.heap.objs.size := Nat.ne_of_lt (Heap.lt_size g1)
  unfold unpackItems
  refine wpAny_bind ?_
  unfold notIterableAtAll
  refine wpAny_bind (wpAny_specialOf hl.typeIs slot_tuple_iter.lookup (wpAny_pure ?_))
  simp only [Bool.false_eq_true, if_false]
  refine wpAny_bind (wpAny_holding (iter_tuple hl (wpAny_bind (m := holding _ _) (wpAny_holding (draw_tuple far xs.size 0 _ _ ⟨_, Heap.get?_push_size _ rfl, rfl, rfl⟩ (hl.push _) (by omega) fun h1 it1 same1 => ?_)))))
  have all : List.take xs.size (List.drop 0 xs.toList) = xs.toList := by
    rw [List.drop_zero]
    exact List.take_of_length_le (by simp)
  rw [all, if_neg (by simp)]
  have kp1 : ∀ b u, b ≠ s.heap.objs.size → s.heap.get? b = some u → h1.get? b = some u := fun b u nb e => same1.extBut b u nb (Heap.get?_push_of_some _ e)
  refine wpAny_bind (wpAny_holding (next_tupH (x1 := x1) ⟨hh, oh, us, kp1 _ _ far1 g1, g2, g3⟩ far1 it1 ((hl.push _).extBut same1.extBut far) (by simp) fun h2 kp2 => ?_))
  simp only [Option.isSome_none, Bool.false_eq_true, if_false]
  exact wpAny_pure (k h2 fun b u nb e => kp2 b u nb (kp1 b u nb e))
end
section
variable {X : Cx} {σ : L2.St} {H : Hp}
/-- (a, b, ..) = a tuple -/
theorem pg_tupH {es : List Expr} {k : Nat} {t : TGs} {n : Nat} (hc : HotC X) (h : PGs X es t) (hn : (assignEach es X.env).length = n := by rfl) (hst : (assignEach es X.env).findIdx? (·.1) = none := by rfl) : PG X (.Tuple es k pos) (gTup X.K n t) := by
  refine ⟨fun pins s σ H v u Q I r hw => ?_⟩
  obtain ⟨l, xs, rfl, hq, hl, hw⟩ := hw
  cases r
  obtain ⟨its, rv, ht, hz⟩ := I.tuple hq
  obtain ⟨x1, hot⟩ := hc.at I
  rw [assign_Tuple]
  refine wpAny_bind (wpAny_standAt ?_)
  unfold unpack
  have ln : (assignEach es X.env).length = its.toArray.size := by simp [hn, ← hl, rv.length]
  rw [ln, hst]
  refine wpAny_bind (wpAny_holding (unpackH hot ht fun h' kp => ?_))
  have J : Inv X pins σ H { s with heap := h' } := I.kept (t' := s.toks) fun b o e => kp b o (Nat.ne_of_lt (Heap.lt_size e)) e
  exact h.run pins _ σ H xs _ Q J (by simpa using rv) hw
/-! ### iterators -/
theorem turn_listH {P : Program} {w : World} {K : PySem.W.Frag} {tg : Expr} (a it : Addr) : TurnH P w K tg (Itl K a) [it] it (fun i h => h.IsListIter it a i) where
  mem := List.mem_cons_self
  obj := fun i h at_ b hb => by
    rw [List.mem_singleton.mp hb]
    obtain ⟨o, e, c, d⟩ := at_
    exact ⟨o, e, fun v z => by rw [d] at z; cases z⟩
  keep := fun i h h' at_ k => at_.at fun o e => k it List.mem_cons_self o e
  item := by
    rintro Y rfl rfl rfl hc i pins s σ H E I hf at_ ⟨xs, x, hq, hx⟩
    obtain ⟨its, rv, p, hz⟩ := I.list hq
    obtain ⟨u, hu, ru⟩ := rv.get hx
    obtain ⟨f0, f1, f2, f3, f4, f5⟩ := hf it List.mem_cons_self
    refine wpAny_pyNext_list_item at_ p.isList (x := u) (by simpa using hu) fun h' at2 sb => ?_
    have J : Inv Y pins σ H { s with heap := h' } := I.turned (t' := s.toks) (fun b o nb e => (sb.2 b nb).trans e) f0 f1 f3 f4 f5
    obtain ⟨o, e, c, d⟩ := id at2
    exact ⟨u, rfl, go_of (s := { s with heap := h' }) e c d (by decide) ⟨x, H, J, ru, ⟨rfl, fun ys hy => by rw [I.list_inj hy hq]; exact hx⟩, at2, fun b hb => (hf b hb).1⟩⟩
  done := by
    rintro Y rfl rfl rfl hc i pins s σ H E I hf at_ ⟨xs, hq, hx⟩
    obtain ⟨its, rv, p, hz⟩ := I.list hq
    obtain ⟨f0, f1, f2, f3, f4, f5⟩ := hf it List.mem_cons_self
    have ln := rv.length
    obtain ⟨q, ⟨hh, v1, e1, c1⟩, hp⟩ := hc
    have ne : q.1 ≠ it := f5 q (List.mem_append_left _ hp)
    exact next_listH (x1 := q.1) ⟨hh, q.2, v1, (I.pin q (List.mem_append_left _ hp)).1, e1, c1⟩ ne at_ p.isList (by simp; omega) fun h' kp => ⟨rfl, I.turned (t' := s.toks) (fun b o nb e => kp b o nb e) f0 f1 f3 f4 f5⟩
  self := fun _ _ _ _ _ at_ h => wpAny_pyIter_listiter at_ h
theorem pi_listH {tg l : Expr} {tl : TE} (hl : PE X l tl) : PIH X tg l (iList X.K tl) := by
  refine ⟨fun pins s σ H R I h => thn (hl.run pins s σ H _ I h) fun v s1 z => ?_⟩
  obtain ⟨x, H1, J, r1, a, rfl, ⟨xs, hq⟩, q⟩ := z
  cases r1
  obtain ⟨its, rv, p, hz⟩ := J.list hq
  refine wpAny_pyIter_list p.isList ⟨s1.heap.objs.size, [s1.heap.objs.size], _, _, H1, rfl, J.kept (t' := s1.toks) fun b o e => Heap.get?_push_of_some _ e, turn_listH a _, ⟨_, Heap.get?_push_size _ rfl, rfl, rfl⟩, fun b hb => ?_, q⟩
  rw [List.mem_singleton.mp hb]
  exact J.fpOk (Nat.le_refl _) (J.hok.fresh (Nat.le_refl _))
theorem pi_range2H {tg a b : Expr} {ta : TA} {p pos : Pos} (hg : Gl X "range") (hm : X.mg "range" = none) (ha : PA X [a, b] ta) (h1 : starEach [a, b] X.env = [(false, eval a X.env), (false, eval b X.env)] := by rfl) (h2 : starEach [b] X.env = [(false, eval b X.env)] := by rfl) :
    PIH X tg (.Call (.Name "range" p) [a, b] [] pos) (iRng2 ta) := by
  refine ⟨fun pins s σ H R I h => Call_ (ld_blt I hg hm boot_range (PyProof.Rows.callWith_type1 (thn (ha.run pos pins s σ H _ I h) fun us s1 z => ?_) (by rw [h1, h2]) (by rw [h2]; rfl)))⟩
  obtain ⟨vs, H1, J, r, i, j, rfl, ⟨q1, q2, q3, q4⟩, q⟩ := z
  cases r with
  | cons r rr =>
    cases rr with
    | cons r' rr =>
      cases rr
      obtain ⟨t, rfl⟩ := r
      obtain ⟨t', rfl⟩ := r'
      exact call_range_2 (range_itH J q1 q2 q3 q4 q)
/-! ### a comprehension -/
/-- the block's context, which bears the def's pins -/
abbrev blkH (X : Cx) (s : Shared) (H : Hp) (scope : Scope) (cenv : Env) (fp : List Addr) : Cx := { X.blk s H scope cenv fp with pn := X.pn }
theorem blkH_hot {s : Shared} {H : Hp} {scope : Scope} {ce : Env} {fp : List Addr} (hc : HotC X) : HotC (blkH X s H scope ce fp) := hc
theorem blkH_inv {s s' : Shared} {H H' : Hp} {σ : L2.St} {scope : Scope} {ce : Env} {fp : List Addr} (I : Inv (X.blk s H scope ce fp) [] σ H' s')
    (hp : ∀ p ∈ X.pn, s'.heap.get? p.1 = some p.2 ∧ H' p.1 = none ∧ p.1 ≠ ce.locals ∧ p.1 ∉ frs X.stack ∧ ∀ v, p.2.data ≠ .cell v) : Inv (blkH X s H scope ce fp) [] σ H' s' :=
  ⟨⟨I.ok.mod, I.ok.kind, I.ok.glob, I.ok.blt, I.ok.above, I.ok.inj, I.ok.has, I.ok.cab, I.ok.hd, I.ok.frames, I.ok.stk, I.ok.exf, I.ok.bs, I.ok.bsz, I.ok.noex, I.ok.exfs, I.ok.funs, I.ok.frf⟩, I.os, I.bare, I.base, I.loc, I.cell, I.free, I.freeC, fun p h => hp p (by simpa using h), I.hok, I.len⟩
theorem lc_coreH {pins : List (Addr × Obj)} {s : Shared} {σ : L2.St} {H : Hp} {Q : VK} {elt tg iter : Expr} {ifs : List Expr} {scope : Scope} {own : List (Str × Nat)} {pos pos' : Pos} {wi : TI} {g : TG} {tt : TT} {te : TE} {use : Option (Value → Sem Unit)} {Qf : Value → Shared → Prop}
    (hc : HotC X) (nd : X.N.Nodup) (I : Inv X pins σ H s) (hi : PIH X tg iter wi) (ok : BlkOk X.N X.env.scope scope own)
    (hg : ∀ (s : Shared) (H : Hp) (C : Addr) (cl : List (Str × Addr)) (fp : List Addr), PG (blkH X s H scope (compEnvC scope cl C X.env) fp) tg g) (ht : ∀ (s : Shared) (H : Hp) (C : Addr) (cl : List (Str × Addr)) (fp : List Addr), PTs (blkH X s H scope (compEnvC scope cl C X.env) fp) ifs tt)
    (he : ∀ (s : Shared) (H : Hp) (C : Addr) (cl : List (Str × Addr)) (fp : List Addr), PE (blkH X s H scope (compEnvC scope cl C X.env) fp) elt te) (hs : ∀ x, foldedSetIterable iter X.env x = pure x) (h : tLc wi g tt te (own.map (·.2)) σ H Q)
    (hR : ∀ D C s' m H', Inv X pins σ H' s' → Q (.ref D) H' → s'.heap.Ns C m → FpOk X pins H' C → compPost (model X.prog X.w) X.A X.xe use Qf (.ref D) C (.ok .next) s') :
    wpAny (model X.prog X.w) X.A (comprehension (.ListComp elt [⟨tg, iter, ifs, 0⟩] scope pos) scope X.env pos' (newList []) false (eval iter X.env) use) Qf X.xe s := by
  have frees : ∀ y ∈ scope.names, y.2 = .free → ∃ c, X.env.cells.lookup y.1 = some c := fun y hy e => (ok.free y hy e).elim (fun k => I.ok.has _ (.inl k)) fun k => I.ok.has _ (.inr k)
  refine wpAny_comprehension_free (use := use) rfl hs (closure_ok frees) ok.kind (fun y hy e => by rw [ok.uniq y hy, e]) (thn (hi.run pins s σ H _ I h) fun xv s1 hx => thn hx fun itv s2 h2 => ?_)
  obtain ⟨it, fp, tn, J, H2, rfl, I2, T, at2, f2, q⟩ := h2
  refine wpAny_newObj_type (newEnv_comp ?_) (by show 0 ≤ sizeLine; decide)
  generalize hD : s2.heap.objs.size = D
  obtain ⟨W, ⟨m0, w0⟩, turn⟩ := q D (I2.hok.fresh (Nat.le_of_eq hD))
  generalize e3 : ({ s2 with heap := s2.heap.push { cls := .type "list", data := .seq ([] : List Value).toArray } } : Shared) = s3
  have h3 : s3.heap = s2.heap.push { cls := .type "list", data := .seq ([] : List Value).toArray } := by rw [← e3]
  have I3 : Inv X pins σ (upd H2 D (.lst [])) s3 := by
    rw [← e3]
    exact I2.laid (t' := s2.toks) (fun b o e => Heap.get?_push_of_some _ e) (Nat.le_of_eq hD) ⟨Nat.zero_le _, [], 0, .nil, by rw [← hD]; exact Heap.get?_push_size _ rfl⟩
  have below : ∀ b ∈ fp, b < s2.heap.objs.size := fun b hb => (T.obj _ _ at2 b hb).elim fun o z => Heap.lt_size z.1
  have f3 : ∀ b ∈ fp, FpOk X pins (upd H2 D (.lst [])) b ∧ b < s3.heap.objs.size := fun b hb => by
    have lt := below b hb
    exact ⟨⟨by rw [upd_ne (by rw [← hD]; exact Nat.ne_of_lt lt)]; exact (f2 b hb).1, (f2 b hb).2⟩, by rw [h3, Heap.size_push]; exact Nat.lt_succ_of_lt lt⟩
  have at3 : tn 0 s3.heap := T.keep _ _ _ at2 fun b _ o e => by rw [h3]; exact Heap.get?_push_of_some _ e
  have B4 := block_start I3 ok nd f3
  have kp4 : ∀ b o, s3.heap.get? b = some o → (pushCells (s3.heap.push { cls := .type "dict", data := .dict #[] }) scope.names).get? b = some o := fun b o e => pushCells_keeps _ _ _ _ (Heap.get?_push_of_some _ e)
  have pg := hg s3 (upd H2 D (.lst [])) s3.heap.objs.size (cellsFrom (s3.heap.objs.size + 1) scope.names (cloFrom X.env.cells scope.names [])) fp
  have pt := ht s3 (upd H2 D (.lst [])) s3.heap.objs.size (cellsFrom (s3.heap.objs.size + 1) scope.names (cloFrom X.env.cells scope.names [])) fp
  have pe := he s3 (upd H2 D (.lst [])) s3.heap.objs.size (cellsFrom (s3.heap.objs.size + 1) scope.names (cloFrom X.env.cells scope.names [])) fp
  show codeAny _ _ (.compStart (.ListComp elt [⟨tg, iter, ifs, 0⟩] scope pos) 0 (.ref it) (.ref D) (compEnvC scope (cellsFrom (s3.heap.objs.size + 1) scope.names (cloFrom X.env.cells scope.names [])) s3.heap.objs.size X.env)) (compPost (model X.prog X.w) X.A X.xe use Qf (.ref D) s3.heap.objs.size) { s3 with heap := pushCells (s3.heap.push { cls := .type "dict", data := .dict #[] }) scope.names }
  have none3 : ∀ b ∈ fp, (upd H2 D (.lst [])) b = none := fun b hb => (f3 b hb).1.1
  generalize ece : compEnvC scope (cellsFrom (s3.heap.objs.size + 1) scope.names (cloFrom X.env.cells scope.names [])) s3.heap.objs.size X.env = ce at B4 pg pt pe ⊢
  have cL : ce.locals = s3.heap.objs.size := by subst ece; rfl
  generalize eH3 : upd H2 D (.lst []) = H3 at I3 B4 pg pt pe w0 none3 f3
  have I4 : Inv (blkH X s3 H3 scope ce fp) [] (wipe σ (own.map (·.2))) H3 { s3 with heap := pushCells (s3.heap.push { cls := .type "dict", data := .dict #[] }) scope.names } := blkH_inv B4 fun p hp => by
    obtain ⟨g1, g2, g3, g4, g5⟩ := I3.pin p (List.mem_append_left _ hp)
    exact ⟨kp4 _ _ g1, g2, by rw [cL]; exact Nat.ne_of_lt (Heap.lt_size g1), fun z => (List.mem_cons.mp (I3.stkSub _ z)).elim g3 g4, g5⟩
  generalize e4 : ({ s3 with heap := pushCells (s3.heap.push { cls := .type "dict", data := .dict #[] }) scope.names } : Shared) = s4 at I4 ⊢
  have at4 : tn 0 s4.heap := T.keep _ _ _ at3 fun b _ o e => by rw [← e4]; exact kp4 b o e
  have hcB : HotC (blkH X s3 H3 scope ce fp) := hc
  have still : ∀ {σ' : L2.St} {H' : Hp} {s' : Shared}, Inv (blkH X s3 H3 scope ce fp) [] σ' H' s' → (∀ b ∈ fp, H' b = none) → ∀ b ∈ fp, FpOk (blkH X s3 H3 scope ce fp) [] H' b := fun {σ' H' s'} I' hn b hb =>
    ⟨hn b hb, (I'.ok.exf b hb).1, I'.ok.exfs b hb, .inl hb, fun x c e => (I'.ok.exf b hb).2 x c e, fun p hp => (f3 b hb).1.2.2.2.2.2 p (List.mem_append_left _ (by simpa using hp))⟩
  have loop : codeAny (model X.prog X.w) X.A (.compLoop (.ListComp elt [⟨tg, iter, ifs, 0⟩] scope pos) 0 (.ref it) (.ref D) ce) (compPost (model X.prog X.w) X.A X.xe use Qf (.ref D) s3.heap.objs.size) s4 := by
    refine compLoop_any (fun n s' => ∃ i H', Inv (blkH X s3 H3 scope ce fp) [] (wipe σ (own.map (·.2))) H' s' ∧ tn i s'.heap ∧ (∀ b ∈ fp, H' b = none) ∧ W i n H') ?_ m0 ⟨0, H3, I4, at4, none3, w0⟩
    rintro n s5 ⟨i, H5, I5, at5, n5, w5⟩
    rcases turn i n H5 w5 with ⟨stop, qq⟩ | ⟨go, Nx, hNx, step⟩
    · refine thnF (T.done (blkH X s3 H3 scope ce fp) rfl rfl rfl hcB i [] s5 _ H5 (fun _ _ => False) I5 (still I5 n5) at5 stop) fun r s6 z => ?_
      obtain ⟨rfl, I6⟩ := z
      have I7 : Inv X pins σ H5 s6 := I3.call' (ch := fp) I6.os I6.base I6.hok I6.bare fun b hb => ⟨(f3 b hb).1.2.2.2.1, (f3 b hb).1.2.1, (f3 b hb).1.2.2.2.2.1, (f3 b hb).1.2.2.2.2.2⟩
      have nC : H5 s3.heap.objs.size = none := by
        have z : H5 ce.locals = none := I6.free
        rwa [cL] at z
      obtain ⟨m, hn, _⟩ := I6.loc
      have hn : s6.heap.Ns ce.locals m := hn
      rw [cL] at hn
      exact hR D s3.heap.objs.size s6 m H5 I7 qq hn (I3.fpOk (Nat.le_refl _) nC)
    · refine thnF (T.item (blkH X s3 H3 scope ce fp) rfl rfl rfl hcB i [] s5 _ H5 (fun _ _ => False) I5 (still I5 n5) at5 go) fun r s6 z => ?_
      obtain ⟨u, rfl, h6⟩ := z
      refine thnF h6 fun _ s7 ⟨x, H7, I7, r7, y7, at7, n7⟩ => ?_
      refine thnF (pg.run _ s7 _ H7 x u _ (I7.pinned (still I7 n7) (T.obj _ _ at7)) r7 (step x H7 y7)) fun _ s8 ⟨σ8, H8, I8, hw8, q8⟩ => thnF (pt.run _ s8 σ8 H8 _ I8 q8) fun b s9 ⟨H9, I9, q9⟩ => ?_
      have fin : ∀ {s' : Shared} {H' : Hp}, Inv (blkH X s3 H3 scope ce fp) ([] ++ pinsAt fp s7.heap) σ8 H' s' → Nx H' → ∃ m, m < n ∧ ∃ i H', Inv (blkH X s3 H3 scope ce fp) [] (wipe σ (own.map (·.2))) H' s' ∧ tn i s'.heap ∧ (∀ b ∈ fp, H' b = none) ∧ W i m H' := fun {s' H'} I' nx => by
        obtain ⟨m', hm, w'⟩ := hNx H' nx
        have pinned : ∀ b ∈ fp, ∀ o, s7.heap.get? b = some o → s'.heap.get? b = some o ∧ H' b = none := fun b hb o e =>
          let z := I'.pin (b, o) (List.mem_append_right _ (List.mem_append_right _ (mem_pinsAt hb e)))
          ⟨z.1, z.2.1⟩
        have hl : (wipe σ (own.map (·.2))).length = σ8.length := by rw [← hw8, wipe_length]
        refine ⟨m', hm, i + 1, H', (I'.unpinned (pins := [])).weak hl (fun j v e => ?_), T.keep _ _ _ at7 fun b hb o e => (pinned b hb o e).1, fun b hb => (T.obj _ _ at7 b hb).elim fun o z => (pinned b hb o z.1).2, w'⟩
        rw [← hw8] at e
        exact (wipe_some e).1
      cases b with
      | false =>
        simp only [Bool.false_eq_true, if_false] at q9 ⊢
        exact fin I9 q9
      | true =>
        simp only [if_true] at q9 ⊢
        exact thnF (pe.run _ s9 σ8 H9 _ I9 q9) fun z s10 ⟨yv, H10, I10, r10, acc, hD10, hz10, nx⟩ => app_ok (X := blkH X s3 H3 scope ce fp) I10 hD10 hz10 r10 fun s11 I11 => fin I11 nx
  exact codeAny_compStart_list loop (T.self X.A 0 _ _ _ at4 loop)
theorem pe_lcH {elt tg iter : Expr} {ifs : List Expr} {scope : Scope} {own : List (Str × Nat)} {pos : Pos} {wi : TI} {g : TG} {tt : TT} {te : TE} (hc : HotC X) (nd : X.N.Nodup) (hi : PIH X tg iter wi) (ok : BlkOk X.N X.env.scope scope own)
    (hg : ∀ (s : Shared) (H : Hp) (C : Addr) (cl : List (Str × Addr)) (fp : List Addr), PG (blkH X s H scope (compEnvC scope cl C X.env) fp) tg g) (ht : ∀ (s : Shared) (H : Hp) (C : Addr) (cl : List (Str × Addr)) (fp : List Addr), PTs (blkH X s H scope (compEnvC scope cl C X.env) fp) ifs tt)
    (he : ∀ (s : Shared) (H : Hp) (C : Addr) (cl : List (Str × Addr)) (fp : List Addr), PE (blkH X s H scope (compEnvC scope cl C X.env) fp) elt te) (hs : ∀ x, foldedSetIterable iter X.env x = pure x := by intro _; rfl) :
    PE X (.ListComp elt [⟨tg, iter, ifs, 0⟩] scope pos) (tLc wi g tt te (own.map (·.2))) := by
  refine ⟨fun pins s σ H Q I h => ?_⟩
  rw [eval_ListComp]
  refine lc_coreH hc nd I hi ok hg ht he hs h fun D C s' m H' J q hn f => ⟨m, hn, fun h2 sb => ?_⟩
  obtain ⟨f0, f1, f2, f3, f4, f5⟩ := f
  exact ⟨.ref D, H', J.turned (t' := s'.toks) (fun b o nb e => (sb.2 b nb).trans e) f0 f1 f3 f4 f5, rfl, q⟩
end
end SwX
set_option Elab.async false
set_option linter.all false
set_option maxRecDepth 100000
set_option maxHeartbeats 4000000
/-! defs and methods called while an exception is handled; own repr there -/
namespace SwX
open PySem PySem.Spec PyProof.Rows L2 HotX L2H
/-- the name x of the module is a def that keeps sp while an exception is handled -/
structure HasH (P : Program) (w : World) (K : PySem.W.Frag) (mg : Str → Option Value) (base : Heap) (x : Str) (k : Nat) (ps : List Str) (sp : Sp) : Prop where
  ex : ∃ f fd, FnH P w K mg base CX0 k f fd ps sp ∧ mg x = some (.ref f) ∧ PySem.W.keepIn K (.ref f) = true ∧ Binds K fd ps []
/-- .. a method of the class at C -/
structure HasMH (P : Program) (w : World) (K : PySem.W.Frag) (mg : Str → Option Value) (base : Heap) (C : Addr) (m : Str) (k : Nat) (ps : List Str) (sp : Sp) : Prop where
  cls : Cls K C
  ex : ∃ f fd, Meth K C m f ∧ FnH P w K mg base CX0 k f fd ps sp ∧ Binds K fd ps []
theorem pass0S {X : Cx} {E : L2.St → XK} : ∀ σ, PassesAt CX0 X σ (E σ) := fun σ pins H s e s' I z => z.elim
theorem hotOf {CX : CXT} {P : Program} {w : World} {K : PySem.W.Frag} {mg : Str → Option Value} {base : Heap} {N : List Str} {qual : Str} {scope : Scope} {f : Addr} {cd : Value} {A : Around} {outer : List Env} {s : Shared} {H : Hp} {E : XK} {p : Addr × Obj} (h : Hot1 A p) : HotC (cxH CX P w K mg base N qual scope f cd A outer s H E p) := ⟨p, ⟨h.1, h.2⟩, List.mem_cons_self⟩
theorem tCall_S {sp : Sp} {E : XK} {t : TA} : tCallS sp (fun _ => E) t = tCall sp [] E t := by
  funext σ H Q
  show t σ H (fun vs H1 => sp vs H1 Q E) = t σ H fun vs H1 => sp (vs ++ []) H1 Q E
  congr 1
  funext vs H1
  rw [List.append_nil]
theorem tMeth_S {C : Addr} {m : Str} {sp : Sp} {E : XK} {ta : TE} {t : TA} : tMethH C m sp (fun _ => E) ta t = tMeth C m sp [] E ta t := by
  funext σ H Q
  show ta σ H _ = ta σ H _
  congr 1
  funext x H1
  simp only [List.append_nil]
section
variable {X : Cx} {k : Nat} {C : Addr} {m x : Str} {ps : List Str} {sp : Sp} {o e : Expr} {es : List Expr} {ta : TE} {t : TA} {p apos pos : Pos} {pl : Sem Bool}
theorem pe_hasH (hc : HotC X) (D : HasH X.prog X.w X.K X.mg X.base x k ps sp) (hr : RoomH k X.A) (ha : PA X (e :: es) t) (hg : Gl X x := by rfl) (hdb : (x == ("__debug__" : Str)) = false := by decide)
    (he : starEach (e :: es) X.env = (false, eval e X.env) :: starEach es X.env := by rfl) (hpl : (backTo pos (starEach es X.env)).any (·.1) = false := by rfl) : PE X (.Call (.Name x p) (e :: es) [] pos) (tCall sp [] E0 t) := by
  obtain ⟨f, fd, F, hm, hk, hb⟩ := D.ex
  rw [← tCall_S]
  exact pe_callH F hr hc hg hm hk hb pass0S ha hdb he hpl
theorem pe_hmH (hc : HotC X) (D : HasMH X.prog X.w X.K X.mg X.base C m k ps sp) (hr : RoomH k X.A) (he : PE X o ta) (ha : PA X (e :: es) t)
    (hst : starEach (e :: es) X.env = (false, eval e X.env) :: starEach es X.env := by rfl) (hpl : (backTo pos (starEach es X.env)).any (·.1) = false := by rfl)
    (ht : eval (.Call (.Attribute o m apos) (e :: es) [] pos) X.env = (do
      let ov ← eval o X.env
      standAt apos.atName
      let (f, first) ← holding [ov] (getMethod ov m pl)
      callWith pos f first (backTo pos (starEach (e :: es) X.env)) (backToKw pos (keywordEach [] X.env))) := by rfl) : PE X (.Call (.Attribute o m apos) (e :: es) [] pos) (tMeth C m sp [] E0 ta t) := by
  obtain ⟨f, fd, M, F, b⟩ := D.ex
  rw [← tMeth_S]
  exact pe_methH (pl := pl) he D.cls M F hr hc b pass0S ha hst hpl ht
theorem pe_hm0H (hc : HotC X) (D : HasMH X.prog X.w X.K X.mg X.base C m k ps sp) (hr : RoomH k X.A) (he : PE X o ta)
    (ht : eval (.Call (.Attribute o m apos) [] [] pos) X.env = (do
      let ov ← eval o X.env
      standAt apos.atName
      let (f, first) ← holding [ov] (getMethod ov m pl)
      callWith pos f first (backTo pos (starEach [] X.env)) (backToKw pos (keywordEach [] X.env))) := by rfl) : PE X (.Call (.Attribute o m apos) [] [] pos) (tMeth C m sp [] E0 ta tNil) := by
  obtain ⟨f, fd, M, F, b⟩ := D.ex
  refine ⟨fun pins s σ H Q I h => PySem.W.methodCall_KW (pl := pl) (thn (he.run pins s σ H _ I h) fun u s1 z => ?_) ht⟩
  obtain ⟨y, H1, J, ry, a, dx, fs, rfl, ea, l, q⟩ := z
  obtain rfl : u = Value.ref a := ry
  refine getmeth_ok J ea D.cls M l (PySem.W.callWith_K0 (first := [.ref a]) J.kIn M.kp ?_)
  exact run_fnH (us := [.ref a]) (vs := [.ref a]) (E := fun _ => E0) F hr hc b (pass0S (E := fun _ => E0) σ) J (.cons rfl .nil) q
/-- != of data -/
theorem neKH (K : PySem.W.Frag) (hr : RoomH k X.A) (h : X.K = K := by rfl) : OpR X (compareOp .NotEq) (fun x y H Q => rNe x y H Q ∨ rEqDat K not x y H Q) := by
  subst h
  exact op_join op_ne fun pins s σ H x y v u Q I rx ry ⟨d, e, hx, hy, px, py, q⟩ => op_neD (by have := hr.un; omega) pins s σ H x y v u Q I rx ry ⟨d, e, hx.dp px.nd, hy.dp py.nd, px.sh, py.sh, q⟩
end
section
variable {X : Cx}
/-- name = [..] -/
theorem ps_setLcH {i : Nat} {y : Str} {py : Pos} {elt tg iter : Expr} {ifs : List Expr} {scope : Scope} {own : List (Str × Nat)} {pos spos : Pos} {wi : TI} {g : TG} {tt : TT} {te : TE} (hc : HotC X) (nd : X.N.Nodup) (hy : X.N[i]? = some y) (yl : X.env.scope.names.lookup y = some .local)
    (hsw : swapsWith (.ListComp elt [⟨tg, iter, ifs, 0⟩] scope pos) (some (.Name y py)) spos.line X.env = pure true) (hi : PIH X tg iter wi) (ok : BlkOk X.N X.env.scope scope own)
    (hg : ∀ (s : Shared) (H : Hp) (C : Addr) (cl : List (Str × Addr)) (fp : List Addr), PG (blkH X s H scope (compEnvC scope cl C X.env) fp) tg g) (ht : ∀ (s : Shared) (H : Hp) (C : Addr) (cl : List (Str × Addr)) (fp : List Addr), PTs (blkH X s H scope (compEnvC scope cl C X.env) fp) ifs tt)
    (he : ∀ (s : Shared) (H : Hp) (C : Addr) (cl : List (Str × Addr)) (fp : List Addr), PE (blkH X s H scope (compEnvC scope cl C X.env) fp) elt te) (hs : ∀ x, foldedSetIterable iter X.env x = pure x := by intro _; rfl) :
    PS X (.Assign [.Name y py] (.ListComp elt [⟨tg, iter, ifs, 0⟩] scope pos) spos) (tAsg (tLc wi g tt te (own.map (·.2))) (gName i)) := by
  refine ⟨fun pins s σ H D I h => ?_⟩
  rw [exec_Assign_Name_used _ _ _ _ hsw]
  refine wpAny_bind (wpAny_standAt (wpAny_bind ?_))
  show wpAny _ X.A (do let _ ← comprehension (.ListComp elt [⟨tg, iter, ifs, 0⟩] scope pos) scope X.env (firstIterPos [⟨tg, iter, ifs, 0⟩] pos) (newList []) false (eval iter X.env) (some (assign (.Name y py) X.env))) _ _ s
  have h : tLc wi g tt te (own.map (·.2)) σ H (fun x H1 => gName i x σ H1 D.nx) := h
  refine wpAny_bind (thn (lc_coreH (Qf := fun _ s' => SP X pins D .next s') hc nd I hi ok hg ht he hs h fun L C s' m H' J q hn f => ?_) fun _ s' z => wpAny_pure (wpAny_pure z))
  obtain ⟨f0, f1, f2, f3, f4, f5⟩ := f
  refine wpAny_assign_Name (store_ok2 (v := V.ref L) J nd hy (.inl yl) rfl (fun s2 I2 ⟨a, sb, ha⟩ => ?_) (.inr yl))
  have far : C ≠ a := ha.elim (fun z => by rw [z]; exact f1) fun z e => f4 y a z e.symm
  exact ⟨m, hn.sameBut sb far, fun h3 sb3 => ⟨_, H', I2.turned (t' := s2.toks) (fun b o nb e => (sb3.2 b nb).trans e) f0 f1 f3 f4 f5, q⟩⟩
end
section
variable {X : Cx} {k : Nat} {f C a : Addr} {fd : FuncData} {ps : List Str} {sp : Sp} {σ : L2.St} {H : Hp}
theorem fnH_runsAt (F : FnH X.prog X.w X.K X.mg X.base CX0 k f fd ps sp) (hc : HotC X) (b : Binds X.K fd ps []) (hr : RoomH (k + 1) X.A) : RunsAt X σ H f a sp := fun A' pins' s' Q h1 h2 h3 h4 I h => by
  obtain ⟨fr, md, bs, bz, fu, ff, ho, ba⟩ := I.env0
  have r : Vals [V.ref a] [Value.ref a] := .cons rfl .nil
  have z := b s' [.ref a] I.kIn (by have := F.len _ _ _ _ h; simpa using this)
  simp only [List.append_nil] at z
  have room : RoomH k A' := ⟨by have := hr.dp; omega, by have := hr.un; omega⟩
  obtain ⟨p, hot, hp⟩ := hc
  obtain ⟨g1, g2, g3, g4, g5⟩ := I.pin p (List.mem_append_left _ hp)
  have pin : PinOk X.stack H s' p := ⟨g1, g2, fun hm => (List.mem_cons.mp (I.stkSub p.1 hm)).elim g3 g4, g5⟩
  refine wpAny_call (codeAny_mono (F.run A' X.stack s' H ⟨[.ref a], []⟩ [.ref a] [.ref a] Q E0 p room ⟨h1.trans hot.1, hot.2⟩ pin ⟨h3 ▸ fr, md, bs, bz, fu, ff, ho, ba⟩ z r h) fun res s'' q => ?_)
  cases res with
  | error er => exact q.elim
  | ok fl =>
    cases fl with
    | ret u =>
      obtain ⟨v, H', J, rv, q'⟩ := I.after q
      exact ⟨v, H', J, rv, q'⟩
    | next => exact q.elim
    | brk => exact q.elim
    | cont => exact q.elim
/-- repr([x]), x an own instance, while an exception is handled -/
theorem call_reprLH (F : FnH X.prog X.w X.K X.mg X.base CX0 k f fd ps sp) (hc : HotC X) (S : Spc X.K C "__repr__" f) (b : Binds X.K fd ps []) (calm : Calm X.A) (hr : RoomH (k + 1) X.A) : CallR X (.builtin "repr") (rReprL1 C sp) := by
  intro pins s σ H xs us Q I r h
  obtain ⟨p, a, rfl, hp, ia, q⟩ := h
  obtain ⟨u, rfl, ru⟩ := Vals.one r
  cases ru
  exact reprL_of I calm (by have := hr.un; omega) hp ia S (fnH_runsAt F hc b hr) q
/-- .. nothing being handled -/
theorem fn_runsAt (F : FnOk X.prog X.w X.K X.mg X.base CX0 k f fd ps sp) (hd : X.A.handled = none) (b : Binds X.K fd ps []) (hr : RoomH (k + 1) X.A) : RunsAt X σ H f a sp := fun A' pins' s' Q h1 h2 h3 h4 I h => by
  obtain ⟨fr, md, bs, bz, fu, ff, ho, ba⟩ := I.env0
  have r : Vals [V.ref a] [Value.ref a] := .cons rfl .nil
  have z := b s' [.ref a] I.kIn (by have := F.len _ _ _ _ h; simpa using this)
  simp only [List.append_nil] at z
  have room : Room k A' := ⟨h1.trans hd, by have := hr.dp; omega, by have := hr.un; omega⟩
  refine wpAny_call (codeAny_mono (F.run A' X.stack s' H ⟨[.ref a], []⟩ [.ref a] [.ref a] Q E0 room ⟨h3 ▸ fr, md, bs, bz, fu, ff, ho, ba⟩ z r h) fun res s'' q => ?_)
  cases res with
  | error er => exact q.elim
  | ok fl =>
    cases fl with
    | ret u =>
      obtain ⟨v, H', J, rv, q'⟩ := I.after q
      exact ⟨v, H', J, rv, q'⟩
    | next => exact q.elim
    | brk => exact q.elim
    | cont => exact q.elim
theorem call_reprL0 (F : FnOk X.prog X.w X.K X.mg X.base CX0 k f fd ps sp) (hd : X.A.handled = none) (S : Spc X.K C "__repr__" f) (b : Binds X.K fd ps []) (calm : Calm X.A) (hr : RoomH (k + 1) X.A) : CallR X (.builtin "repr") (rReprL1 C sp) := by
  intro pins s σ H xs us Q I r h
  obtain ⟨p, a, rfl, hp, ia, q⟩ := h
  obtain ⟨u, rfl, ru⟩ := Vals.one r
  cases ru
  exact reprL_of I calm (by have := hr.un; omega) hp ia S (fn_runsAt F hd b hr) q
end
end SwX
set_option Elab.async false
set_option linter.all false
set_option maxRecDepth 100000
set_option maxHeartbeats 4000000
/-! try: .. except (A, B) as e, lambdas: exceptions without context -/
namespace SwX
open PySem PySem.Spec PyProof.Rows L2 HotX L2H
section
variable {X : Cx} {n : Str} {cs : List Value} {i : Nat} {body suite : List Stmt} {b₀ : Stmt} {ty : Expr} {pos cpos : Pos} {tb : WX → TS} {ts : Addr → Value → Option Addr → TS}
theorem ps_try_asNT (sk : X.stack = X.env :: X.outer) (fr : X.env.frame = some X.env.locals) (nd : X.N.Nodup) (ni : X.N[i]? = some n) (nl : X.env.kindOf n = some .local) (T : ClsT X ty cs)
    (hb : ∀ (W : WX) (pn : List (Addr × Obj)) (xe : Value → Shared → Prop), L2N.Takes (X.tr pn xe) W → PassesOwn (model X.prog X.w) X.A X.env xe → PSs (X.tr pn xe) body (tb W))
    (hu : ∀ (a : Addr) (oe : Obj) (cls : Value) (d : Option Addr) (pn : List (Addr × Obj)), L2N.Zn cls d oe → (∃ vs, oe.data = .fields vs) → PSs (X.suite a ((a, oe) :: pn)) (b₀ :: suite) (ts a cls d)) :
    PS X (.Try body [.ExceptHandler (some ty) (some n) (b₀ :: suite) cpos] [] [] pos) (fun D σ H => tb (wAsT X.K cs i X.N.length ts D) D σ H) := by
  refine ⟨fun pins s σ H D I0 h => ?_⟩
  have ok0 := I0.ok
  have frs0 : X.A.frames = some (X.env :: X.outer) := ok0.frames.trans (by rw [sk])
  refine wpAny_Try_except (wpAny_mono ((hb (wAsT X.K cs i X.N.length ts D) (X.pn ++ pins) (fun e z => wpAny (model X.prog X.w) X.A (noteFrame e X.env) (fun _ z2 => wpAny (model X.prog X.w) X.A (setFlight e none) (fun _ z3 =>
    wpAny (model X.prog X.w) X.A (handleBy e X.env [.ExceptHandler (some ty) (some n) (b₀ :: suite) cpos]) (SP X pins D) X.xe z3) X.xe z2) X.xe z) (fun u t air => ?_) PassesOwn.looking).run [] s σ H D (I0.toTry _) h) (fun f t sp => ?_) fun e t z => z)
  · obtain ⟨a, B, sI, pins1, σ1, H1, cls, d, rfl, J', nb, up, sky, na, os, ag, hit, go⟩ := air
    have J : Inv X pins σ1 H1 sI := J'.ofTry ok0
    have sky1 : Sky B (X.env :: X.outer) a (L2N.Zn cls d) X.env.locals t.heap := sk ▸ sky
    show wpAny (model X.prog X.w) X.A (noteFrame (.ref a) X.env) _ _ _
    refine L2N.Sky.land L2N.Zn.steady frs0 fr sky1 fun h3 fl3 up3 => ?_
    have J3 : Inv X pins σ1 H1 { t with heap := h3 } := J.landed nb fl3.1 (up.trans up3) os ag
    obtain ⟨oe, vs, got, zc, dat⟩ := fl3.there
    have nfr : a ∉ frs (X.env :: X.outer) := fun hm => by
      obtain ⟨_, o, e, no⟩ := fl3.2.2.1.mem hm
      rw [got] at e
      cases e
      exact no _ dat
    have nL : a ≠ X.env.locals := fun z => nfr (List.mem_filterMap.mpr ⟨X.env, List.mem_cons_self, z ▸ fr⟩)
    have nF : a ∉ X.fs := fun hm => by
      obtain ⟨e, he, q⟩ := List.mem_filterMap.mp hm
      exact nfr (List.mem_filterMap.mpr ⟨e, List.mem_cons_of_mem _ he, q⟩)
    have S3 := J3.suite got dat na nL nF
    refine wpAny_handleBy_cons (codeAny_handlers_test (T.1 a _ [] σ1 H1 _ _ _ S3 ?_)) (by intro q; cases q)
    have pk : ∀ b o, h3.get? b = some o → (h3.push (tupO cs)).get? b = some o := fun b o e => Heap.get?_push_of_some _ e
    have LT : PySem.W.Looks (model X.prog X.w) (h3.push (tupO cs)) (typeOf (.ref a)) cls := fun _ _ _ _ k q => wpAny_typeOf_ref (k _ _ (pk _ _ got)) (zc.1.symm ▸ q)
    refine (T.2 (h3.push (tupO cs)) _ a cls true (J3.kIn.keeps pk) LT (Heap.get?_push_size _ rfl) hit).here ?_
    refine codeAny_handlers_suite_as (HandSPX.lands_againZ (s := { t with heap := h3.push (tupO cs) }) (flying_kept fl3 pk) fun h4 fl4 up4 => ?_)
    have J4 : Inv X pins σ1 H1 { t with heap := h4 } := J.landed nb fl4.1 ((up.trans up3).trans ((Heap.UpToSlots.of_keeps pk).trans up4)) os ag
    obtain ⟨oe4, vs4, got4, zc4, dat4⟩ := fl4.there
    have S4 := J4.suite got4 dat4 na nL nF
    refine store_ok (X := X.suite a ((a, oe4) :: (X.pn ++ pins))) (v := .ref a) S4 nd ni (.inl nl) rfl (fun s5 S5 => ?_) (.inr nl)
    refine wpAny_mono ((hu a oe4 cls d (X.pn ++ pins) zc4 ⟨_, dat4⟩).run [] s5 _ H1 _ S5 (go a na J.len)) (fun f s6 out => ?_) fun _ _ z => False.elim z
    have done : ∀ {z : L2.St} {Y : Hp} {R : Shared → Prop}, Inv (X.suite a ((a, oe4) :: (X.pn ++ pins))) [] z Y s6 → (∀ s7, Inv X pins (z.set i none) Y s7 → R s7) →
        wpAny (model X.prog X.w) X.A (do bindName X.env n .none; unbindBehindTheSuite X.env n cpos) (fun _ s7 => R s7) X.xe s6 := fun S r => gone_ok (S.unsuite ok0) nd ni nl r
    cases f with
    | ret u =>
      obtain ⟨v, z, Y, S6, rv, q⟩ := out
      exact done S6 fun s7 J7 => ⟨_, _, _, J7, rv, q⟩
    | next =>
      obtain ⟨z, Y, S6, q⟩ := out
      exact done S6 fun s7 J7 => ⟨_, _, J7, q⟩
    | brk =>
      obtain ⟨z, Y, S6, q⟩ := out
      exact done S6 fun s7 J7 => ⟨_, _, J7, q⟩
    | cont =>
      obtain ⟨z, Y, S6, q⟩ := out
      exact done S6 fun s7 J7 => ⟨_, _, J7, q⟩
  · cases f with
    | ret u =>
      obtain ⟨v, z, Y, J, rv, q⟩ := sp
      exact ⟨v, z, Y, J.ofTry ok0, rv, q⟩
    | next =>
      obtain ⟨z, Y, J, q⟩ := sp
      exact wpAny_execs_nil ⟨z, Y, J.ofTry ok0, q⟩
    | brk =>
      obtain ⟨z, Y, J, q⟩ := sp
      exact ⟨z, Y, J.ofTry ok0, q⟩
    | cont =>
      obtain ⟨z, Y, J, q⟩ := sp
      exact ⟨z, Y, J.ofTry ok0, q⟩
end
/-! ### lambdas -/
open LamX (Tabs ExtN TabB CodeO LamS lamEnv lamCx tLam)
/-- the lambda's context; what leaves it has no context -/
abbrev lamCxN (X : Cx) (A : Around) (outer : List Env) (s : Shared) (H : Hp) (E : XK) (scope : Scope) (f c' : Addr) : Cx :=
  { lamCx X A outer s H E scope f c' with xe := fun e s' => wpAny (model X.prog X.w) (A.deeper (lamEnv X scope s.heap.objs.size f c')) (leaving (lamEnv X scope s.heap.objs.size f c') e) (fun _ z => L2N.CX X.prog X.w outer H s E e z) (fun e' z => L2N.CX X.prog X.w outer H s E e' z) s' }
section
variable {X : Cx} {pins : List (Addr × Obj)} {σ : L2.St} {H HZ : Hp} {s s1 : Shared}
theorem lamN_inv {A : Around} {outer : List Env} {E : XK} {scope : Scope} {f c' : Addr} {p : List (Addr × Obj)} {s2 : Shared} (I : Inv (lamCx X A outer s1 HZ E scope f c') p σ H s2) : Inv (lamCxN X A outer s1 HZ E scope f c') p σ H s2 :=
  ⟨⟨I.ok.mod, I.ok.kind, I.ok.glob, I.ok.blt, I.ok.above, I.ok.inj, I.ok.has, I.ok.cab, I.ok.hd, I.ok.frames, I.ok.stk, I.ok.exf, I.ok.bs, I.ok.bsz, I.ok.noex, I.ok.exfs, I.ok.funs, I.ok.frf⟩, I.os, I.bare, I.base, I.loc, I.cell, I.free, I.freeC, I.pin, I.hok, I.len⟩
theorem pe_actN {CXg : CXT} {Eg : XK} {Ng : List Str} {qg : Str} {sg : Scope} {g f c' : Addr} {cdg pm ctv : Value} {params : Arguments} {body : Expr} {scope : Scope} {k i : Nat} {a : Str} {pn : List (Addr × Obj)} {xe : Value → Shared → Prop} {W : WX} {E : XK} {tb : TE} {p1 p2 : Pos}
    (I : Inv X pins σ H s) (L : LamS X.env.scope scope) (hf : s.heap.get? f = some (PySem.W.kla_obj "<lambda>" (X.env.qual ++ "<lambda>") params body scope (cloFrom X.env.cells scope.names []) pm c' ctv)) (hfn : H f = none) (hfr : f ∉ frs X.stack)
    (hbind : bindArgs (PySem.W.kla_fn "<lambda>" (X.env.qual ++ "<lambda>") params body scope (cloFrom X.env.cells scope.names []) pm (.ref c') ctv) ⟨[], []⟩ = pure [])
    (tk : L2N.Takes ((cxOf CXg X.prog X.w X.K X.mg X.base Ng qg sg g cdg X.A X.stack s H Eg).tr pn xe) W) (hW : ∀ cls d σ' H', E cls d H' → W cls d σ' H') (hr : Room (k + 1) (X.A.deeper (envOfC qg sg s.heap.objs.size g cdg)))
    (hbody : ∀ (A : Around) (outer : List Env) (s : Shared) (H : Hp), Room k (A.deeper (lamEnv X scope s.heap.objs.size f c')) → PE (lamCxN X A outer s H E scope f c') body tb)
    (hN : Ng[i]? = some a) (hv : Vis sg a) (hd : (a == ("__debug__" : Str)) = false := by decide) (hcd : (a == ("__classdict__" : Str)) = false := by decide) :
    PE ((cxOf CXg X.prog X.w X.K X.mg X.base Ng qg sg g cdg X.A X.stack s H Eg).tr pn xe) (.Call (.Name a p1) [] [] p2)
      (fun σZ HZ Q => σZ[i]? = some (some (.ref f)) ∧ HZ c' = some (CodeO c' (X.env.qual ++ "<lambda>")) ∧ tb σ HZ Q) := by
  refine ⟨fun pinsZ sZ σZ HZ Q IZ h => ?_⟩
  obtain ⟨hs, hc, ht⟩ := h
  refine wpAny_Call_Name_kw (thn ((pe_var (pos := p1) (i := i) hN hv hd hcd).run pinsZ sZ σZ HZ (fun v H1 => v = .ref f ∧ H1 = HZ) IZ ⟨.ref f, hs, rfl, rfl⟩) fun u s1 z => ?_)
  obtain ⟨v, H1, I1, r1, rfl, eH⟩ := z
  rw [eH] at I1
  obtain rfl : u = Value.ref f := r1
  have there : s1.heap.get? f = some (PySem.W.kla_obj "<lambda>" (X.env.qual ++ "<lambda>") params body scope (cloFrom X.env.cells scope.names []) pm c' ctv) := I1.base.keep f _ hf hfn hfr (fun z => nomatch (show f ∈ ([] : List Addr) from z))
  refine PySem.W.callWith_F0 ⟨_, _, _, _, there⟩ ?_
  obtain ⟨⟨oc, vs, t, hoc, hdc, hvc⟩, _, _⟩ := I1.hok c' _ hc
  have rc : codeAny (model X.prog X.w) (X.A.deeper (envOfC qg sg s.heap.objs.size g cdg)) (.call (.ref f) ⟨[], []⟩) (CR (L2N.CX X.prog X.w) (envOfC qg sg s.heap.objs.size g cdg :: X.stack) X.prog X.w HZ s1 Q E) s1 := by
    refine PySem.W.kla_callFunE hr.depth there rfl L.co L.gen rfl ⟨c', oc, vs, t, rfl, hoc, hdc, hvc⟩ ?_
    rw [hbind]
    refine wpAny_pure (wpAny_newFunctionEnv (fun y hy => (L.own y hy).2) (fun y hy => absurd hy (by simp)) (fun h1 hns hsb => ⟨I1.nolimit.fresh _ hsb, ?_⟩) L.kind)
    show codeAny _ _ (.expr body (lamEnv X scope s1.heap.objs.size f c')) _ _
    have kp : ∀ b o, s1.heap.get? b = some o → h1.get? b = some o := fun b o e => hsb.extBut b o (Nat.ne_of_lt (Heap.lt_size e)) (Heap.get?_push_of_some _ e)
    have J := lamN_inv (LamX.lam_start2 (A := X.A.deeper (envOfC qg sg s.heap.objs.size g cdg)) (outer := envOfC qg sg s.heap.objs.size g cdg :: X.stack) (E := E) (f := f) (c' := c') (tk := s1.toks + ([] : List (Str × Value)).length) I L I1.env0 hr.hd I1.base hns kp)
    refine PySem.W.kla_codeExpr (wpAny_mono ((hbody _ _ s1 HZ (hr.deeper _)).run [] _ _ HZ Q J ht) (fun v s' z => ?_) fun e s' z => z)
    obtain ⟨w', H', J', rv, q⟩ := z
    exact ⟨w', H', J'.os, J'.bare, J'.base, J'.hok, rv, q⟩
  have hx : Passes (L2N.CX X.prog X.w) ((cxOf CXg X.prog X.w X.K X.mg X.base Ng qg sg g cdg X.A X.stack s H Eg).tr pn xe) E := fun pins σ H s e s' I c => L2N.passes_call tk hW pins σ H s e s' I c
  refine wpAny_call (codeAny_mono rc fun r s' z => ?_)
  cases r with
  | error e => exact hx pinsZ σZ HZ s1 e s' I1 z
  | ok fl =>
    cases fl with
    | ret u => exact I1.after z
    | next => exact False.elim z
    | brk => exact False.elim z
    | cont => exact False.elim z
/-- the def that calls what it got -/
def GivesToN (X : Cx) (Ng : List Str) (x : Str) (sg : Scope) (g : Addr) (cdg : Value) (bg : List Stmt) (a : Str) (q : Str) (TT : (XK → Hp → VK → Prop) → Hp → VK → Prop) : Prop :=
  ∀ (f c' : Addr) (s : Shared) (H : Hp) (Q : VK) (tl : XK → Hp → VK → Prop),
    (∀ (W : WX) (pn : List (Addr × Obj)) (xe : Value → Shared → Prop) (E : XK) (p1 p2 : Pos), L2N.Takes ((cxOf C8.CX0 X.prog X.w X.K X.mg X.base Ng x sg g cdg X.A X.stack s H C8.E0).tr pn xe) W → (∀ cls d σ' H', E cls d H' → W cls d σ' H') →
      PE ((cxOf C8.CX0 X.prog X.w X.K X.mg X.base Ng x sg g cdg X.A X.stack s H C8.E0).tr pn xe) (.Call (.Name a p1) [] [] p2) (fun σZ HZ Q => σZ[0]? = some (some (.ref f)) ∧ HZ c' = some (CodeO c' q) ∧ tl E HZ Q)) →
    H c' = some (CodeO c' q) → TT tl H Q → ∃ t, PSs (cxOf C8.CX0 X.prog X.w X.K X.mg X.base Ng x sg g cdg X.A X.stack s H C8.E0).nox bg t ∧ t { nx := fun _ H' => Q .non H', rt := Q } (L2.start Ng [.ref f]) H
theorem pe_lamcallN {T : List (Addr × Str)} {TT : (XK → Hp → VK → Prop) → Hp → VK → Prop} {x a : Str} {g c P : Addr} {k : Nat} {pg : Arguments} {bg : List Stmt} {sg : Scope} {dV kV doc pm cdv ct oc : Value} {an od : Option Addr} {osl : Array (Option Value)} {Ng : List Str}
    {params : Arguments} {body : Expr} {scope : Scope} {t : XK → TE} {p lpos pos : Pos} (hg : Gl X x) (hm : X.mg x = some (.ref g)) (hk : PySem.W.keepIn X.K (.ref g) = true)
    (lk : X.K.lookup g = some ⟨oc, od, .func (PySem.W.fnOf x x pg bg sg dV kV doc pm an cdv ct), osl⟩) (hcg : PySem.W.codeIn X.K cdv x = true) (hb : L2.Binds X.K (PySem.W.fnOf x x pg bg sg dV kV doc pm an cdv ct) [a] []) (Sg : FnScope Ng [a] sg) (hNg : Ng[0]? = some a) (hva : Vis sg a)
    (hG : GivesToN X Ng x sg g cdv bg a (X.env.qual ++ "<lambda>") TT)
    (TB : TabB X.base X.mg c P) (hcode : X.env.code = .ref c) (hmT : (P, X.env.qual ++ "<lambda>") ∈ T) (hu : ∀ p ∈ T, p.1 = P → p.2 = X.env.qual ++ "<lambda>") (hr : Room (k + 2) X.A) (L : LamS X.env.scope scope) (hdef : defaultsOf params X.env = ([], []))
    (hbind : ∀ (q : Str) (cl : List (Str × Addr)) (pm cv ctv : Value), bindArgs (PySem.W.kla_fn "<lambda>" q params body scope cl pm cv ctv) ⟨[], []⟩ = pure [])
    (hbody : ∀ (A : Around) (outer : List Env) (s : Shared) (H : Hp) (E : XK) (f c' : Addr), Room k (A.deeper (lamEnv X scope s.heap.objs.size f c')) → PE (lamCxN X A outer s H E scope f c') body (t E))
    (hdb : (x == ("__debug__" : Str)) = false := by decide) (hd : (a == ("__debug__" : Str)) = false := by decide) (hcd : (a == ("__classdict__" : Str)) = false := by decide) :
    PE X (.Call (.Name x p) [.Lambda params body scope lpos] [] pos) (tLam T TT t) := by
  refine ⟨fun pins s σ H Q I h => ?_⟩
  obtain ⟨hT, h⟩ := h
  refine wpAny_Call_Name_kw (ld_glob I hg hm (PySem.W.callWith_K (h₀ := X.base) I.ok.mod.kin hk ?_ (by rfl) (by rfl)) hdb)
  show wpAny _ _ (spliced ((false, eval (.Lambda params body scope lpos) X.env) :: backTo pos (starEach [] X.env))) _ _ s
  refine Calls.spliced_cons (LamX.lam_make2 I TB hcode hmT hu hT hdef (L.has I.ok) fun f c' pm' ctv H1 s' I1 eN T1 hf hfn hfr hco => Calls.spliced_nil ⟨I1.kIn, ?_⟩)
  have rc : codeAny (model X.prog X.w) X.A (.call (.ref g) ⟨[.ref f], []⟩) (CR C8.CX0 X.stack X.prog X.w H1 s' Q C8.E0) s' := by
    refine LamX.run_ofS (N := Ng) (ps := [a]) (us := [.ref f]) (vs := [.ref f]) lk hcg Sg hr I1.env0 (hb s' [.ref f] I1.kIn rfl) (.cons rfl .nil) rfl fun hr' => ?_
    obtain ⟨t', ht', hq'⟩ := hG f c' s' H1 Q (fun E H' Q' => t E σ H' Q') (fun W pn xe E p1 p2 tk hW => pe_actN (i := 0) I1 L hf hfn hfr (hbind _ _ _ _ _) tk hW hr' (fun A outer s H hr2 => hbody A outer s H E f c' hr2) hNg hva hd hcd) hco (h H1 eN T1)
    exact ⟨t', ht'.nox, hq'⟩
  refine wpAny_call (codeAny_mono rc fun r s2 z => ?_)
  cases r with
  | error e => exact (show False from z).elim
  | ok fl =>
    cases fl with
    | ret u => exact I1.after z
    | next => exact False.elim z
    | brk => exact False.elim z
    | cont => exact False.elim z
theorem lam_passN {A : Around} {outer : List Env} {E : XK} {scope : Scope} {f c' : Addr} : Passes (L2N.CX (lamCxN X A outer s H E scope f c').prog (lamCxN X A outer s H E scope f c').w) (lamCxN X A outer s H E scope f c') E := pass_EN (L2N.takes_of rfl rfl rfl rfl) fun _ _ _ _ z => z
end
end SwX
set_option Elab.async false
set_option linter.all false
set_option maxRecDepth 100000
set_option maxHeartbeats 4000000
/-! methods that may let exceptions (without context) out, by position and by keyword -/
namespace SwX
open PySem PySem.Spec PyProof.Rows L2 L2H
/-- the class at C has the method m -/
structure HasMX (CX : CXT) (P : Program) (w : World) (K : PySem.W.Frag) (mg : Str → Option Value) (base : Heap) (C : Addr) (m : Str) (k : Nat) (ps : List Str) (sp : Sp) : Prop where
  cls : Cls K C
  ex : ∃ f fd, Meth K C m f ∧ FnOk P w K mg base CX k f fd ps sp ∧ Binds K fd ps []
/-- .. called with one value by the keyword y -/
structure HasMK (CX : CXT) (P : Program) (w : World) (K : PySem.W.Frag) (mg : Str → Option Value) (base : Heap) (C : Addr) (m : Str) (k : Nat) (ps : List Str) (y : Str) (sp : Sp) : Prop where
  cls : Cls K C
  ex : ∃ f fd, Meth K C m f ∧ FnOk P w K mg base CX k f fd ps sp ∧ KBn K fd ps 1 [y] (fun us ws => us ++ ws) (fun vs zs => vs ++ zs)
section
variable {X : Cx} {CX : CXT} {k : Nat} {C : Addr} {m y : Str} {ps : List Str} {sp : Sp} {o e : Expr} {es : List Expr} {kws : List Keyword} {ta : TE} {t tk : TA} {p apos pos : Pos} {pl : Sem Bool} {E : XK}
theorem pe_hmX (D : HasMX CX X.prog X.w X.K X.mg X.base C m k ps sp) (hr : Room k X.A) (hx : Passes CX X E) (he : PE X o ta) (ha : PA X (e :: es) t)
    (hst : starEach (e :: es) X.env = (false, eval e X.env) :: starEach es X.env := by rfl) (hpl : (backTo pos (starEach es X.env)).any (·.1) = false := by rfl)
    (ht : eval (.Call (.Attribute o m apos) (e :: es) [] pos) X.env = (do
      let ov ← eval o X.env
      standAt apos.atName
      let (f, first) ← holding [ov] (getMethod ov m pl)
      callWith pos f first (backTo pos (starEach (e :: es) X.env)) (backToKw pos (keywordEach [] X.env))) := by rfl) : PE X (.Call (.Attribute o m apos) (e :: es) [] pos) (tMeth C m sp [] E ta t) := by
  obtain ⟨f, fd, M, F, b⟩ := D.ex
  exact pe_meth (pl := pl) he D.cls M F hr b .nil hx ha hst hpl ht
/-- o.m(y=e) -/
def tMethKw (C : Addr) (m : Str) (sp : Sp) (E : XK) (ta : TE) (tk : TA) : TE := fun σ H Q => ta σ H fun x H1 => ∃ a dx fs, x = .ref a ∧ H1 a = some (.ins C dx fs) ∧ fs.lookup m = none ∧ tk σ H1 fun zs H2 => zs.length = 1 ∧ sp (x :: zs) H2 Q E
theorem run_mKw {pins : List (Addr × Obj)} {σ : L2.St} {H : Hp} {s : Shared} {f a : Addr} {fd : FuncData} {Q : VK} {ws : List Value} {zs : List V} (F : FnOk X.prog X.w X.K X.mg X.base CX k f fd ps sp) (b : KBn X.K fd ps 1 [y] (fun us ws => us ++ ws) (fun vs zs => vs ++ zs)) (hr : Room k X.A) (hx : Passes CX X E) (I : Inv X pins σ H s)
    (r : Vals zs ws) (len : zs.length = 1) (h : sp (.ref a :: zs) H Q E) : wpAny (model X.prog X.w) X.A (call (.ref f) [.ref a] ([y].zip ws)) (EP X pins σ Q) X.xe s := by
  have rz : Vals (V.ref a :: zs) (Value.ref a :: ws) := .cons rfl r
  refine wpAny_call (codeAny_mono (F.run X.A X.stack s H ⟨[.ref a], [y].zip ws⟩ (.ref a :: ws) (.ref a :: zs) Q E hr I.env0 (b.to s [.ref a] ws I.kIn rfl (r.length.symm.trans len)) rz h) fun res s' z => ?_)
  cases res with
  | error e => exact hx _ σ H s e s' I z
  | ok fl =>
    cases fl with
    | ret u => exact I.after z
    | next => exact z.elim
    | brk => exact z.elim
    | cont => exact z.elim
theorem pe_hmK (D : HasMK CX X.prog X.w X.K X.mg X.base C m k ps y sp) (hr : Room k X.A) (hx : Passes CX X E) (he : PE X o ta) (hkw : PK X kws tk)
    (hall : (backToKw pos (keywordEach kws X.env)).all (·.1.isSome) = true := by rfl) (hks : (backToKw pos (keywordEach kws X.env)).filterMap (·.1) = [y] := by rfl)
    (hpl : ((backTo pos (starEach [] X.env)).any (·.1) || (backToKw pos (keywordEach kws X.env)).any (·.1.isNone)) = false := by rfl)
    (ht : eval (.Call (.Attribute o m apos) [] kws pos) X.env = (do
      let ov ← eval o X.env
      standAt apos.atName
      let (f, first) ← holding [ov] (getMethod ov m pl)
      callWith pos f first (backTo pos (starEach [] X.env)) (backToKw pos (keywordEach kws X.env))) := by rfl) : PE X (.Call (.Attribute o m apos) [] kws pos) (tMethKw C m sp E ta tk) := by
  obtain ⟨f, fd, M, F, b⟩ := D.ex
  refine ⟨fun pins s σ H Q I h => PySem.W.methodCall_KW (pl := pl) (thn (he.run pins s σ H _ I h) fun u s1 z => ?_) ht⟩
  obtain ⟨x, H1, J, rx, a, dx, fs, rfl, ea, l, q⟩ := z
  obtain rfl : u = Value.ref a := rx
  refine getmeth_ok J ea D.cls M l (PySem.W.callWith_of (P := fun h => X.K.In h) hpl (fun h z => PySem.W.keeps_K M.kp h z) (evalArgs_kw2_nil hall (thn (hkw.run pos pins s1 σ H1 _ J q) fun ws s2 z => ?_)))
  obtain ⟨zs, H2, J2, rv, len, q2⟩ := z
  refine ⟨J2.kIn, ?_⟩
  rw [hks]
  exact run_mKw F b hr hx J2 rv len q2
end
end SwX
set_option Elab.async false
set_option linter.all false
set_option maxRecDepth 100000
set_option maxHeartbeats 4000000
/-! ranges of great integers -/
namespace SwX
open PySem PySem.Spec PyProof.Rows L2
theorem slot_longNext : Slot "longrange_iterator" "__next__" "longrange_iterator.__next__" :=
  .of (owner := "longrange_iterator") (n := "__next__") (by rw [typeLookup_type, builtinLookup_eq_fast]; kernel_rfl) (by decide +kernel) (by decide +kernel) (by decide +kernel) (by first | exact .inl (by decide +kernel) | exact .inr (by decide +kernel)) (by rw [isSubtype_type]; kernel_rfl)
theorem entry_longNext : entryFor table "longrange_iterator.__next__" = some Builtin.«longrange_iterator.__next__» := entryFor_of_tree (by kernel_rfl)
theorem owner_long : Manifest.owners.lookup (String.ofList ['r', 'o', 't', 'a', 'r', 'e', 't', 'i', '_', 'e', 'g', 'n', 'a', 'r', 'g', 'n', 'o', 'l'].reverse) = some Manifest.sig_longrange_iterator := by kernel_rfl
theorem args_longNext (a : Value) : argsOk "longrange_iterator.__next__" ⟨[a], []⟩ := by
  unfold argsOk
  rw [signature?_of (id := "longrange_iterator.__next__") (n := ['_', '_', 't', 'x', 'e', 'n', '_', '_']) (o := ['r', 'o', 't', 'a', 'r', 'e', 't', 'i', '_', 'e', 'g', 'n', 'a', 'r', 'g', 'n', 'o', 'l']) (by kernel_rfl) owner_long]
  kernel_rfl
theorem slot_longIter : Slot "longrange_iterator" "__iter__" "longrange_iterator.__iter__" :=
  .of (owner := "longrange_iterator") (n := "__iter__") (by rw [typeLookup_type, builtinLookup_eq_fast]; kernel_rfl) (by decide +kernel) (by decide +kernel) (by decide +kernel) (by first | exact .inl (by decide +kernel) | exact .inr (by decide +kernel)) (by rw [isSubtype_type]; kernel_rfl)
theorem entry_longIter : entryFor table "longrange_iterator.__iter__" = some Builtin.«dict_keyiterator.__iter__» :=
  entryFor_alias (id' := "dict_keyiterator.__iter__") (by kernel_rfl) (by first | rfl | decide +kernel | (unfold String.splitOn; simp +decide [String.splitOnAux])) (by decide +kernel) (by kernel_rfl)
theorem args_longIter (a : Value) : argsOk "longrange_iterator.__iter__" ⟨[a], []⟩ := by
  unfold argsOk
  rw [signature?_of (id := "longrange_iterator.__iter__") (n := ['_', '_', 'r', 'e', 't', 'i', '_', '_']) (o := ['r', 'o', 't', 'a', 'r', 'e', 't', 'i', '_', 'e', 'g', 'n', 'a', 'r', 'g', 'n', 'o', 'l']) (by kernel_rfl) owner_long]
  kernel_rfl
/-- the iterator stands at x, so many left -/
abbrev IsLong (h : Heap) (it : Addr) (x left : Int) : Prop := h.get? it = some { cls := .type "longrange_iterator", dict := none, data := .fields #[rawInt x, rawInt left, rawInt 1], slots := #[] }
theorem long_item (it : Addr) (x left : Int) (pos : ¬left ≤ 0) :
    Meets (Builtin.«longrange_iterator.__next__» ⟨[.ref it], []⟩) (fun _ R s => IsLong s.heap it x left ∧ R (.ok (.ret (Value.int x s.toks))) { s with heap := (s.heap.update it (Obj.mapFields fun u => u.setIfInBounds 0 (rawInt (x + 1)))).update it (Obj.mapFields fun u => u.setIfInBounds 1 (rawInt (left - 1))), toks := s.toks + 1 }) :=
  .of_wp fun prog w A R s h => by
    obtain ⟨hp, g, d, tk, os⟩ := s
    obtain ⟨hl, h⟩ := h
    wp_walk
    exact ⟨_, rfl, h⟩
section
variable {prog : Program} {w : World} {A : Around} {E : Value → Shared → Prop} {s : Shared}
theorem next_long {it : Addr} {x left : Int} {Q : Option Value → Shared → Prop} (at_ : IsLong s.heap it x left) (pos : 0 < left)
    (k : ∀ h', IsLong h' it (x + 1) (left - 1) → Heap.SameBut it s.heap h' → Q (some (.int x s.toks)) { s with heap := h', toks := s.toks + 1 }) : wpAny (model prog w) A (pyNext (.ref it)) Q E s := by
  have ty : s.TypeIs (.ref it) "longrange_iterator" := ⟨_, at_, rfl⟩
  unfold pyNext
  exact wpAny_bind (wpAny_attempt (wpAny_callSpecial?_slot (name := Str.ofString "__next__") ty slot_longNext (call_meets slot_longNext ty entry_longNext (args_longNext _) (long_item it x left (by omega)) ⟨at_, wpAny_pure (k _ (Heap.get?_update_self _ (Heap.get?_update_self _ at_ rfl) rfl) ((Heap.SameBut.update ..).trans (Heap.SameBut.update ..)))⟩)))
theorem int_fld {M : Model} {it : Addr} {o : Obj} {vs : Array Value} {id : String} {i : Nat} {v : Int} {Q : Int → Shared → Prop} (h : s.heap.get? it = some o) (d : o.data = .fields vs) (e : vs[i]? = some (rawInt v)) (q : Q v s) : wpAny M A (Builtin.Iterators_pickling.intField id (.ref it) i) Q E s := by
  unfold Builtin.Iterators_pickling.intField
  exact wpAny_bind (wpAny_field h d e (wpAny_pure q))
theorem next_longEnd {it : Addr} {x left : Int} {Q : Option Value → Shared → Prop} (hh : A.handled = none) (at_ : IsLong s.heap it x left) (out : left ≤ 0)
    (k : ∀ h', Heap.ExtBut it s.heap h' → Q none { s with heap := h' }) : wpAny (model prog w) A (pyNext (.ref it)) Q E s := by
  have ty : s.TypeIs (.ref it) "longrange_iterator" := ⟨_, at_, rfl⟩
  unfold pyNext
  refine wpAny_bind (wpAny_attempt (wpAny_callSpecial?_slot (name := Str.ofString "__next__") ty slot_longNext (wpAny_call_entry slot_longNext ty entry_longNext ?_ (args_longNext _))))
  unfold Builtin.«longrange_iterator.__next__»
  refine wpAny_bind (wpAny_of_eq (a := #[some (.ref it)]) (by kernel_rfl) ?_)
  refine wpAny_bind (int_fld at_ rfl rfl (wpAny_bind (int_fld at_ rfl rfl (wpAny_bind (int_fld at_ rfl rfl ?_)))))
  show wpAny _ _ (if left ≤ 0 then _ else _) _ _ s
  rw [if_pos out]
  refine wpAny_bind (wpAny_rule ?_)
  refine wpAny_bind ?_
  simp only [newExc, newTuple]
  refine wpAny_bind (wpAny_newObj_type (wpAny_bind (m := firstArgMember _ _) (wpAny_of_eq (a := Value.none) (by first | rfl | (simp only [firstArgMember]; rfl)) ?_)) (by size_fits))
  refine wpAny_newObj_type ?_ (by size_fits)
  refine wpAny_bind ?_
  simp only [raiseNew]
  refine wpAny_bind (wpAny_handled ?_)
  rw [show A.in1.handled = none from hh]
  refine wpAny_bind (wpAny_pure (wpAny_throw ?_))
  refine wpAny_bind (wpAny_isInstance (T := "StopIteration") (b := true) ⟨_, Heap.get?_push_size _ rfl, rfl⟩ isSubtype_stop ?_)
  exact wpAny_pure (k _ fun b u nb e => Heap.get?_push_of_some _ (Heap.get?_push_of_some _ e))
end
theorem turn_long {P : Program} {w : World} {K : PySem.W.Frag} {tg : Expr} (it : Addr) (lo : Int) (n : Nat) : Turn P w K tg (Itr lo n) [it] it (fun i h => IsLong h it (lo + (i : Nat)) ((n : Int) - (i : Nat))) where
  mem := List.mem_cons_self
  obj := fun i h at_ b hb => by
    rw [List.mem_singleton.mp hb]
    exact ⟨_, at_, fun v z => by
      have z' : Data.fields _ = Data.cell v := z
      cases z'⟩
  keep := fun i h h' at_ k => k it List.mem_cons_self _ at_
  item := by
    rintro Y rfl rfl rfl hc i pins s σ H E I hf at_ lt
    have lt : i < n := lt
    obtain ⟨f0, f1, f2, f3, f4, f5⟩ := hf it List.mem_cons_self
    refine next_long at_ (by omega) fun h' at2 same => ?_
    have at3 : IsLong h' it (lo + ((i + 1 : Nat) : Int)) ((n : Int) - ((i + 1 : Nat) : Int)) := by
      have e1 : lo + ((i : Nat) : Int) + 1 = lo + ((i + 1 : Nat) : Int) := by omega
      have e2 : (n : Int) - ((i : Nat) : Int) - 1 = (n : Int) - ((i + 1 : Nat) : Int) := by omega
      rw [← e1, ← e2]
      exact at2
    have J : Inv Y pins σ H { s with heap := h', toks := s.toks + 1 } := I.turned (fun b o nb e => (same.2 b nb).trans e) f0 f1 f3 f4 f5
    exact ⟨_, rfl, go_of (s := { s with heap := h', toks := s.toks + 1 }) (n := "longrange_iterator") at3 rfl rfl (by decide) ⟨.int (lo + i), H, J, ⟨s.toks, rfl⟩, ⟨rfl, rfl⟩, at3, fun b hb => (hf b hb).1⟩⟩
  done := by
    rintro Y rfl rfl rfl hc i pins s σ H E I hf at_ le
    have le : n ≤ i := le
    obtain ⟨f0, f1, f2, f3, f4, f5⟩ := hf it List.mem_cons_self
    exact next_longEnd (I.ok.hd hc) at_ (by omega) fun h' kp => ⟨rfl, I.turned (t' := s.toks) (fun b o nb e => kp b o nb e) f0 f1 f3 f4 f5⟩
  self := fun A i s Q E at_ q => by
    have ty : s.TypeIs (.ref it) "longrange_iterator" := ⟨_, at_, rfl⟩
    refine wpAny_pyIter_slot ty slot_longIter (wpAny_call_entry slot_longIter ty entry_longIter ?_ (args_longIter _))
    show wpAny _ _ (ret (.ref it)) _ _ s
    exact wpAny_pure ⟨_, rfl, "longrange_iterator", _, ty, slot_longNext.lookup, q⟩
/-- range(i, j), of any size, not too long -/
def iRng2W (ta : TA) : TI := fun σ H R => ta σ H fun vs H1 => ∃ i j : Int, vs = [.int i, .int j] ∧ R (Itr i (j - i).toNat) H1
theorem pi_range2W {X : Cx} {tg a b : Expr} {ta : TA} {p pos : Pos} (hg : Gl X "range") (hm : X.mg "range" = none) (ha : PA X [a, b] ta) (h1 : starEach [a, b] X.env = [(false, eval a X.env), (false, eval b X.env)] := by rfl) (h2 : starEach [b] X.env = [(false, eval b X.env)] := by rfl) :
    PI X tg (.Call (.Name "range" p) [a, b] [] pos) (iRng2W ta) := by
  refine ⟨fun pins s σ H R I h => Call_ (ld_blt I hg hm boot_range (PyProof.Rows.callWith_type1 (thn (ha.run pos pins s σ H _ I h) fun us s1 z => ?_) (by rw [h1, h2]) (by rw [h2]; rfl)))⟩
  obtain ⟨vs, H1, J, r, lo, hi, rfl, q⟩ := z
  cases r with
  | cons r rr =>
    cases rr with
    | cons r' rr =>
      cases rr
      obtain ⟨t, rfl⟩ := r
      obtain ⟨u, rfl⟩ := r'
      refine call_range_2 ?_
      generalize e9 : ({ cls := .type "range", data := .fields #[.int lo t, .int hi u, .int 1 (s1.toks)] } : Obj) = ob
      have hr : IsRange (s1.heap.push ob) s1.heap.objs.size lo hi 1 t u s1.toks := by rw [← e9]; exact Heap.get?_push_size _ rfl
      have J2 : Inv X pins σ H1 { s1 with heap := s1.heap.push ob, toks := s1.toks + 1 } := J.kept fun b o e => Heap.get?_push_of_some _ e
      have sz : Builtin.Range.rangeSize lo hi 1 = ((hi - lo).toNat : Nat) := by rw [rangeSize_one]; split <;> omega
      have frs : ∀ (ob2 : Obj) (b : Addr), b ∈ [(s1.heap.push ob).objs.size] → FpOk X pins H1 b := fun ob2 b hb => by
        rw [List.mem_singleton.mp hb]
        exact J2.fpOk (Nat.le_refl _) (J2.hok.fresh (Nat.le_refl _))
      cases small : Builtin.Range.small lo hi 1 with
      | true =>
        refine wpAny_pyIter_range hr small ?_
        refine ⟨(s1.heap.push ob).objs.size, [(s1.heap.push ob).objs.size], _, _, H1, rfl, J2.kept (t' := s1.toks + 1) fun b o e => Heap.get?_push_of_some _ e, turn_range _ lo (hi - lo).toNat, ?_, frs ob, q⟩
        have e1 : lo + ((0 : Nat) : Int) * 1 = lo := by simp
        have e2 : (((hi - lo).toNat : Nat) : Int) - ((0 : Nat) : Int) = Builtin.Range.rangeSize lo hi 1 := by rw [sz]; simp
        show IsRangeIter _ _ (lo + ((0 : Nat) : Int) * 1) ((((hi - lo).toNat : Nat) : Int) - ((0 : Nat) : Int)) 1
        rw [e1, e2]
        exact Heap.get?_push_size _ rfl
      | false =>
        have ty : ({ s1 with heap := s1.heap.push ob, toks := s1.toks + 1 } : Shared).TypeIs (.ref s1.heap.objs.size) "range" := ⟨_, hr, rfl⟩
        refine wpAny_pyIter_slot ty F.slot_range_iter (call_meets F.slot_range_iter ty F.entry_range_iter (F.args_range_iter_1 _) (AutoRange.range___iter___range_0 s1.heap.objs.size lo hi 1 t u s1.toks (by unfold Builtin.Range.small at small; rw [small]; rfl)) ⟨hr, ?_⟩)
        unfold Builtin.Range.small at small
        simp only [small, Bool.false_eq_true, if_false]
        refine ⟨"longrange_iterator", _, ⟨_, Heap.get?_push_size _ rfl, rfl⟩, slot_longNext.lookup, ?_⟩
        refine ⟨(s1.heap.push ob).objs.size, [(s1.heap.push ob).objs.size], _, _, H1, rfl, J2.kept (t' := s1.toks + 1) fun b o e => Heap.get?_push_of_some _ e, turn_long _ lo (hi - lo).toNat, ?_, frs ob, q⟩
        have e1 : lo + ((0 : Nat) : Int) = lo := by simp
        have e2 : (((hi - lo).toNat : Nat) : Int) - ((0 : Nat) : Int) = Builtin.Range.rangeSize lo hi 1 := by rw [sz]; simp
        show IsLong _ _ (lo + ((0 : Nat) : Int)) ((((hi - lo).toNat : Nat) : Int) - ((0 : Nat) : Int))
        rw [e1, e2]
        exact Heap.get?_push_size _ rfl
end SwX
set_option Elab.async false
set_option linter.all false
set_option maxRecDepth 100000
set_option maxHeartbeats 4000000
namespace K07
open PySem PySem.Spec PyProof.Rows L2 Evl SwX
abbrev prog : Program := PySem.Challenge.pw_sealedweights_k07_first_onward_and_below
def top (i : Nat) : Stmt := prog.main.body.getD i (.Pass ⟨0, 0, 0, 0⟩)
abbrev FnP (K : PySem.W.Frag) (x : Str) (st : Stmt) (f : Addr) (fd : FuncData) : Prop := FunD K x x (defArgs st) (defBody st) (defScope st) [] [] f fd
section
variable {P : Program} {w : World} {K : PySem.W.Frag} {mg : Str → Option Value} {base : Heap} {f : Addr} {fd : FuncData}
abbrev s__law_seed : Stmt := top 64
abbrev sc__law_seed_N : List Str := ["_law_script", "_law_k", "_law_seed_here", "_law_cell"]
theorem sc__law_seed : FnScope sc__law_seed_N ["_law_script", "_law_k"] (defScope s__law_seed) := ⟨rfl, rfl, rfl, by decide +kernel, rfl, by decide +kernel, by decide +kernel⟩
theorem ok_seed (F : FnP K "_law_seed" s__law_seed f fd) (m_len : mg "len" = none) (m_int : mg "int" = none) : FnOk P w K mg base CX0 1 f fd ["_law_script", "_law_k"] (spSeed K) := by
  refine F.ok sc__law_seed (fun vs H Q E h => by obtain ⟨a, ns, k, rfl, _⟩ := h; rfl) (fun cdv A outer s H vs Q E hr h => ⟨_, PSs.nox
    (pss_cons (ps_if (pt_cmpR op_lt (pv 1) (pe_callB call_len_seq (by rfl) m_len (by decide +kernel) (pa_cons (pv 0) pa_nil)) (nomark _)) (pss_one (ps_ret (pe_ix ix_A (pv 0) (pv 1) (fun _ _ => rfl)))) pss_nil) (pss_cons (ps_set (i := 2) sc__law_seed.nd rfl (Or.inl rfl) (pe_op op_addA (pe_op op_mul (pe_op op_mul pe_int (pe_op op_addA (pv 1) pe_int)) (pe_op op_addA (pv 1) pe_int)) pe_int)) (pss_cons (ps_for PassesOwn.never rfl (pi_list (pe_slice sl_list (pv 0) po_none (po_some pe_int))) (pg_name (i := 3) sc__law_seed.nd rfl (Or.inl rfl)) (pss_one (ps_set (i := 2) sc__law_seed.nd rfl (Or.inl rfl) (pe_op op_modN (pe_callTy call_int1 (by rfl) m_int (by decide +kernel) (pa_cons (pe_op op_addA (pe_op op_mul (pv 2) pe_int) (pv 3)) pa_nil)) pe_int)))) (pss_one (ps_ret (pv 2)))))), ?_⟩)
  obtain ⟨a, ns, k, rfl, hS, k0, k1, q⟩ := h
  refine q_when (b := decide (k < (ns.map V.int).length)) (et_B (ev_op (ev_var rfl) (ev_len (ev_var rfl) hS) rv_I0)) (fun c H1 e1 => ?_) fun _ H1 e1 => ?_
  · have c := of_decide_eq_true c
    rw [List.length_map] at c
    have hj : k.toNat < ns.length := by omega
    have g : atI (ns.map V.int) k = some (.int (ns[k.toNat]'hj)) := by
      obtain ⟨j, rfl⟩ := Int.eq_ofNat_of_zero_le k0
      unfold atI
      rw [ixN_nat (by rw [List.length_map]; omega)]
      simp
    exact s_ret (ev_op (ev_var rfl) (ev_var rfl) (rv_at (ex_l e1 hS) g)) fun H2 e2 => q _ _ (e1.trans e2)
  · refine q_asg (i := 2) (v := .int (40093 * (k + 3) * (k + 7) + 271)) (ev_op (ev_op (ev_op ev_c (ev_op (ev_var rfl) ev_c rv_add) (rv_I (Or.inl (by omega)))) (ev_op (ev_var rfl) ev_c rv_add) (rv_I (Or.inr (by omega)))) ev_c rv_add) fun H2 e2 => ?_
    refine q_forNL (xs := cutV (ns.map V.int) none (some 4)) (el_sl (ev_var rfl) eo_none (eo_some ev_c) (ex_l (e1.trans e2) hS)) (fun p i σ' H' => (∃ v0 v1 n v3, σ' = [v0, v1, some (.int n), v3]) ∧ Ex H H' ∧ H' p = some (.lst (cutV (ns.map V.int) none (some 4)))) (fun p H3 hp e3 h3 => ⟨⟨_, _, _, _, rfl⟩, (e1.trans e2).trans e3, h3⟩) (fun p i σ' H' _ z => sq_of z.2.2) (fun p i x σ' H' hx z => ?_) fun p σ' H' z => ?_
    · obtain ⟨⟨v0, v1, n, v3, rfl⟩, e, hp⟩ := z
      obtain ⟨m, _, rfl⟩ := List.mem_map.mp (cut_mem hx)
      exact s_asg (i := 2) (v := .int (((n * 50021 + m)).fmod 2147483629)) (ev_op (ev_int1 (ev_op (ev_op (ev_var rfl) ev_c (rv_I (Or.inr (by omega)))) (ev_var rfl) rv_add)) ev_c (rv_I (by omega))) fun H4 e4 => ⟨⟨_, _, _, _, rfl⟩, e.trans e4, e4 _ _ hp⟩
    · obtain ⟨⟨v0, v1, n, v3, rfl⟩, e, _⟩ := z
      exact s_ret (ev_var rfl) fun H2 e2 => q _ _ (e.trans e2)
abbrev s__law_purse : Stmt := top 65
abbrev sc__law_purse_N : List Str := ["_law_number"]
theorem sc__law_purse : FnScope sc__law_purse_N ["_law_number"] (defScope s__law_purse) := ⟨rfl, rfl, rfl, by decide +kernel, rfl, by decide +kernel, by decide +kernel⟩
theorem ok_purse (F : FnP K "_law_purse" s__law_purse f fd) (m_int : mg "int" = none) : FnOk P w K mg base CX0 1 f fd ["_law_number"] spPurse := by
  refine F.ok sc__law_purse (fun vs H Q E h => by obtain ⟨n, rfl, _⟩ := h; rfl) (fun cdv A outer s H vs Q E hr h => ⟨_, PSs.nox
    (pss_one (ps_ret (pe_lst (pa_cons (pe_op op_modN (pe_callTy call_int1 (by rfl) m_int (by decide +kernel) (pa_cons (pv 0) pa_nil)) pe_int) (pa_cons (pe_ifExp (pt_cmpR op_ge (pv 0) (pe_op op_pow pe_int pe_int) (nomark _)) (pv 0) pe_int) (pa_cons pe_int pa_nil)))))), ?_⟩)
  obtain ⟨n, rfl, q⟩ := h
  have big : (10 : Int) ^ (18 : Int).toNat = 1000000000000000000 := by decide
  refine s_retL (xs := [.int (n.fmod 2147483629), .int (if 10 ^ (18 : Int).toNat ≤ n then n else 0), .int 0]) (el_lst (ea_cons (ev_op (ev_int1 (ev_var rfl)) ev_c (rv_I (by omega))) (ea_cons (ev_if (b := decide (10 ^ (18 : Int).toNat ≤ n)) (et_B (ev_op (ev_var rfl) (ev_op ev_c ev_c (rv_I (by unfold CPow; omega))) rv_I0)) (fun c => ?_) fun c => ?_) (ea_cons ev_c ea_nil))) (by simp)) fun a H1 n1 e1 h1 => ?_
  · rw [if_pos (of_decide_eq_true c)]
    exact ev_var rfl
  · rw [if_neg (of_decide_eq_false c)]
    exact ev_c
  · refine q a H1 n1 e1 ⟨_, _, _, h1, ?_, ?_, ?_⟩
    · rw [Int.fmod_eq_emod_of_nonneg _ (by omega)]
      exact Int.emod_nonneg _ (by omega)
    · rw [Int.fmod_eq_emod_of_nonneg _ (by omega)]
      exact Int.emod_lt_of_pos _ (by omega)
    · split <;> omega
abbrev s__law_draw : Stmt := top 66
abbrev sc__law_draw_N : List Str := ["_law_purse_here", "_law_many", "_law_state", "_law_blend", "_law_digit"]
theorem sc__law_draw : FnScope sc__law_draw_N ["_law_purse_here", "_law_many"] (defScope s__law_draw) := ⟨rfl, rfl, rfl, by decide +kernel, rfl, by decide +kernel, by decide +kernel⟩
theorem ok_draw (F : FnP K "_law_draw" s__law_draw f fd) (m_int : mg "int" = none) (m_divmod : mg "divmod" = none) : FnOk P w K mg base CX0 1 f fd ["_law_purse_here", "_law_many"] spDraw := by
  refine F.ok sc__law_draw (fun vs H Q E h => by obtain ⟨a, m, rfl, _⟩ := h; rfl) (fun cdv A outer s H vs Q E hr h => ⟨_, PSs.nox
    (pss_cons (ps_asg (pe_op op_addA (pe_ix ix_A (pv 0) pe_int (fun _ _ => rfl)) pe_int) (pg_sub (pv 0) pe_int set_list)) (pss_cons (ps_set (i := 2) sc__law_draw.nd rfl (Or.inl rfl) (pe_callTy call_int1 (by rfl) m_int (by decide +kernel) (pa_cons (pe_ix ix_A (pv 0) pe_int (fun _ _ => rfl)) pa_nil))) (pss_cons (ps_set (i := 3) sc__law_draw.nd rfl (Or.inl rfl) (pe_op op_mul (pv 2) (pe_op op_addA (pe_op op_modN (pe_callTy call_int1 (by rfl) m_int (by decide +kernel) (pa_cons (pv 2) pa_nil)) pe_int) pe_int))) (pss_cons (ps_asg (pe_op op_modN (pe_callTy call_int1 (by rfl) m_int (by decide +kernel) (pa_cons (pe_op op_addA (pe_op op_addA (pv 3) (pe_op op_mul pe_int (pe_ix ix_A (pv 0) pe_int (fun _ _ => rfl)))) pe_int) pa_nil)) pe_int) (pg_sub (pv 0) pe_int set_list)) (pss_cons (ps_if (pt_cmpR op_gt (pe_ix ix_A (pv 0) pe_int (fun _ _ => rfl)) pe_int (nomark _)) (pss_cons (ps_asg (pe_callB call_divmodW (by rfl) m_divmod (by decide +kernel) (pa_cons (pe_ix ix_A (pv 0) pe_int (fun _ _ => rfl)) (pa_cons (pv 1) pa_nil))) (pg_tup rfl (pgs_cons (pg_sub (pv 0) pe_int set_list) (pgs_cons (pg_name (i := 4) sc__law_draw.nd rfl (Or.inl rfl)) pgs_nil)))) (pss_one (ps_ret (pv 4)))) pss_nil) (pss_one (ps_ret (pe_op op_modN (pe_callTy call_int1 (by rfl) m_int (by decide +kernel) (pa_cons (pe_op op_fdivN (pe_ix ix_A (pv 0) pe_int (fun _ _ => rfl)) pe_int) pa_nil)) (pv 1))))))))), ?_⟩)
  obtain ⟨a, m, rfl, m0, m1, ⟨x, y, z, h0, x0, x1, y0⟩, q⟩ := h
  refine q_setL (j := 2) (v := .int (z + 1)) h0 (ev_op (ev_op (ev_var rfl) ev_c (rv_at (sq_of h0) rfl)) ev_c rv_add) (ev_var rfl) ev_c (by simp) fun H1 e1 => ?_
  have g1 : Ex (less a H) (upd H1 a (.lst [.int x, .int y, .int (z + 1)])) := less_upd (less_ex.trans e1)
  refine q_asg (i := 2) (v := .int x) (ev_int1 (ev_op (ev_var rfl) ev_c (rv_at (sq_of upd_same) rfl))) fun H2 e2 => ?_
  have r0 : 0 ≤ x.fmod 30011 := by
    rw [Int.fmod_eq_emod_of_nonneg _ (by omega)]
    exact Int.emod_nonneg _ (by omega)
  have r1 : x.fmod 30011 < 30011 := by
    rw [Int.fmod_eq_emod_of_nonneg _ (by omega)]
    exact Int.emod_lt_of_pos _ (by omega)
  refine q_asg (i := 3) (v := .int (x * (x.fmod 30011 + 40009))) (ev_op (ev_var rfl) (ev_op (ev_op (ev_int1 (ev_var rfl)) ev_c (rv_I (by omega))) ev_c rv_add) (rv_I (Or.inl (by omega)))) fun H3 e3 => ?_
  have h3 := e3 _ _ (e2 _ _ (upd_same (H := H1) (a := a) (o := .lst [.int x, .int y, .int (z + 1)])))
  refine q_setL (j := 0) (v := .int ((x * (x.fmod 30011 + 40009) + 65551 * (z + 1) + 19).fmod 2147483629)) h3 (ev_op (ev_int1 (ev_op (ev_op (ev_var rfl) (ev_op ev_c (ev_op (ev_var rfl) ev_c (rv_at (sq_of h3) rfl)) (rv_I (Or.inl (by omega)))) rv_add) ev_c rv_add)) ev_c (rv_I (by omega))) (ev_var rfl) ev_c (by simp) fun H4 e4 => ?_
  have s0 : 0 ≤ (x * (x.fmod 30011 + 40009) + 65551 * (z + 1) + 19).fmod 2147483629 := by
    rw [Int.fmod_eq_emod_of_nonneg _ (by omega)]
    exact Int.emod_nonneg _ (by omega)
  have s1 : (x * (x.fmod 30011 + 40009) + 65551 * (z + 1) + 19).fmod 2147483629 < 2147483629 := by
    rw [Int.fmod_eq_emod_of_nonneg _ (by omega)]
    exact Int.emod_lt_of_pos _ (by omega)
  generalize (x * (x.fmod 30011 + 40009) + 65551 * (z + 1) + 19).fmod 2147483629 = u at s0 s1 ⊢
  have g4 : Ex (less a H) (upd H4 a (.lst [.int u, .int y, .int (z + 1)])) := less_upd (((g1.trans e2).trans e3).trans e4)
  show tIfS _ _ _ _ _ (upd H4 a (.lst [.int u, .int y, .int (z + 1)]))
  refine q_when (b := decide (0 < y)) (et_B (ev_op (ev_op (ev_var rfl) ev_c (rv_at (sq_of upd_same) rfl)) ev_c rv_I0)) (fun c H5 e5 => ?_) fun _ H5 e5 => ?_
  · have h5 := e5 _ _ (upd_same (H := H4) (a := a) (o := .lst [.int u, .int y, .int (z + 1)]))
    refine (ev_op (ev_var rfl) ev_c (rv_at (sq_of h5) rfl) : Ev _ _ H5 _) H5 (Ex.refl _) _ fun H6 e6 => ⟨.int m, rfl, y, m, rfl, pylong_small m0 m1, fun p hp => ?_⟩
    have ne : a ≠ p := fun w => by rw [← w, e6 _ _ h5] at hp; cases hp
    refine ⟨p, _, rfl, st_of upd_same, rfl, _, _, rfl, ⟨_, rfl, a, [.int u, .int y, .int (z + 1)], 1, 1, rfl, rfl, by rw [upd_ne ne]; exact e6 _ _ h5, rfl, ?_⟩⟩
    refine ⟨_, _, rfl, rfl, ?_⟩
    refine s_ret (ev_var rfl) fun H7 e7 => q _ _ (Int.emod_nonneg _ (by omega)) (Int.emod_lt_of_pos _ m0) ⟨u, y / m, z + 1, e7 _ _ upd_same, s0, s1, Int.ediv_nonneg y0 (by omega)⟩ ?_
    exact (less_upd ((((g4.trans e5).trans e6)).trans (Ex.new hp))).trans e7
  · have h5 := e5 _ _ (upd_same (H := H4) (a := a) (o := .lst [.int u, .int y, .int (z + 1)]))
    refine s_ret (v := .int ((u.fdiv 128).fmod m)) (ev_op (ev_int1 (ev_op (ev_op (ev_var rfl) ev_c (rv_at (sq_of h5) rfl)) ev_c (rv_I (by unfold CDivN; omega)))) (ev_var rfl) (rv_I (by omega))) fun H7 e7 => q _ _ ?_ ?_ ⟨u, y, z + 1, e7 _ _ h5, s0, s1, y0⟩ ((g4.trans e5).trans e7)
    · rw [Int.fmod_eq_emod_of_nonneg _ (by omega)]
      exact Int.emod_nonneg _ (by omega)
    · rw [Int.fmod_eq_emod_of_nonneg _ (by omega)]
      exact Int.emod_lt_of_pos _ m0
end
end K07
set_option Elab.async false
set_option linter.all false
set_option maxRecDepth 100000
set_option maxHeartbeats 4000000
namespace K07
open PySem PySem.Spec PyProof.Rows L2 Evl SwX
section
variable {P : Program} {w : World} {K : PySem.W.Frag} {mg : Str → Option Value} {base : Heap} {f : Addr} {fd : FuncData} {C : Addr}
abbrev FnM (K : PySem.W.Frag) (x q : Str) (st : Stmt) (dvs : List V) (f : Addr) (fd : FuncData) : Prop := FunD K x q (defArgs st) (defBody st) (defScope st) dvs [] f fd
/-! ### Row.__init__ -/
abbrev s_Row_init : Stmt := inClass (top 32) 0
abbrev sc_Row_init_N : List Str := ["self", "early", "values", "rises"]
theorem sc_Row_init : FnScope sc_Row_init_N ["self", "early", "values", "rises"] (defScope s_Row_init) := ⟨rfl, rfl, rfl, by decide +kernel, rfl, by decide +kernel, by decide +kernel⟩
theorem ok_Row_init (c : RowC K C) (m_tuple : mg "tuple" = none) (F : FnM K "__init__" "Row.__init__" s_Row_init [] f fd) : FnOk P w K mg base CX0 1 f fd ["self", "early", "values", "rises"] (spRowInit K C) := by
  refine F.ok sc_Row_init (fun vs H Q E h => by obtain ⟨a, dx, v1, v2, v3, r, rfl, _⟩ := h; rfl) (fun cdv A outer s H vs Q E hr h => ⟨_, PSs.nox
    (pss_one (ps_asg (pe_tup (pa_cons (pe_callTy call_tuple_of (by rfl) m_tuple (by decide +kernel) (pa_cons (pv 1) pa_nil)) (pa_cons (pe_callTy call_tuple_of (by rfl) m_tuple (by decide +kernel) (pa_cons (pv 2) pa_nil)) (pa_cons (pe_callTy call_tuple_of (by rfl) m_tuple (by decide +kernel) (pa_cons (pv 3) pa_nil)) pa_nil)))) (pg_tup rfl (pgs_cons (pg_fldT (pv 0)) (pgs_cons (pg_fldT (pv 0)) (pgs_cons (pg_fldT (pv 0)) pgs_nil)))))), ?_⟩)
  obtain ⟨a, dx, v1, v2, v3, r, rfl, h0, h1, h2, h3, q⟩ := h
  refine s_asgTupY (ys_consP (yi_tupE (ev_var (i := 1) rfl) h1) tq_mono (ys_consP (yi_tupE (ev_var (i := 2) rfl) h2) tq_mono (ys_consP (yi_tupE (ev_var (i := 3) rfl) h3) tq_mono ys_nilP))) ?_ ?_ fun l u H1 e1 z hu => ?_
  · rintro l H1 H2 e ⟨v, l, rfl, z1, v', l', rfl, z2, v'', l'', rfl, z3, rfl⟩
    exact ⟨v, _, rfl, tq_mono _ _ _ e z1, v', _, rfl, tq_mono _ _ _ e z2, v'', _, rfl, tq_mono _ _ _ e z3, rfl⟩
  · rintro l H1 ⟨v, l, rfl, z1, v', l', rfl, z2, v'', l'', rfl, z3, rfl⟩
    exact (show 3 ≤ 1000 by decide)
  obtain ⟨_, _, rfl, ⟨p1, rfl, T1⟩, _, _, rfl, ⟨p2, rfl, T2⟩, _, _, rfl, ⟨p3, rfl, T3⟩, rfl⟩ := z
  have ha := e1 _ _ h0
  refine ⟨u, _, rfl, .inl (.inl hu), rfl, _, _, rfl, .ref a, rfl, a, C, dx, [], rfl, ha, c.cls, c.n1, by simp, _, _, rfl, .ref a, rfl, a, C, dx, _, rfl, upd_same, c.cls, c.n2, Nat.lt_of_le_of_lt (putF_size _ _ _) (by decide), _, _, rfl, .ref a, rfl, a, C, dx, _, rfl, upd_same, c.cls, c.n3, Nat.lt_of_le_of_lt (Nat.le_trans (putF_size _ _ _) (Nat.succ_le_succ (putF_size _ _ _))) (by decide), rfl, ?_⟩
  refine q _ (less_upd (less_upd (less_upd (less_ex.trans e1)))) ⟨a, dx, p1, p2, p3, rfl, upd_same, ?_, ?_, ?_⟩
  · exact sqt_upd upd_same (sqt_upd upd_same (sqt_upd ha T1))
  · exact sqt_upd upd_same (sqt_upd upd_same (sqt_upd ha T2))
  · exact sqt_upd upd_same (sqt_upd upd_same (sqt_upd ha T3))
/-! ### Row.at, rise_at, length, key -/
abbrev s_Row_at : Stmt := inClass (top 32) 1
abbrev sc_Row_at_N : List Str := ["self", "weight", "turns", "at"]
theorem sc_Row_at : FnScope sc_Row_at_N ["self", "weight"] (defScope s_Row_at) := ⟨rfl, rfl, rfl, by decide +kernel, rfl, by decide +kernel, by decide +kernel⟩
theorem ok_Row_at (c : RowC K C) (m_len : mg "len" = none) (m_divmod : mg "divmod" = none) (F : FnM K "at" "Row.at" s_Row_at [] f fd) : FnOk P w K mg base CX0 1 f fd ["self", "weight"] (spAt K C) := by
  refine F.ok sc_Row_at (fun vs H Q E h => by obtain ⟨v, r, wt, B, rfl, _⟩ := h; rfl) (fun cdv A outer s H vs Q E hr h => ⟨_, PSs.nox
    (pss_cons (ps_if (pt_cmpR op_lt (pv 1) (pe_callB (lenK K) (by rfl) m_len (by decide +kernel) (pa_cons (fldK K (pv 0) rfl) pa_nil)) (nomark _)) (pss_one (ps_ret (pe_ix (ixK K) (fldK K (pv 0) rfl) (pv 1) (fun _ _ => rfl)))) pss_nil) (pss_cons (ps_asg (pe_callB call_divmodW (by rfl) m_divmod (by decide +kernel) (pa_cons (pe_op op_sub (pv 1) (pe_callB (lenK K) (by rfl) m_len (by decide +kernel) (pa_cons (fldK K (pv 0) rfl) pa_nil))) (pa_cons (pe_callB (lenK K) (by rfl) m_len (by decide +kernel) (pa_cons (fldK K (pv 0) rfl) pa_nil)) pa_nil))) (pg_tup rfl (pgs_cons (pg_name (i := 2) sc_Row_at.nd rfl (Or.inl rfl)) (pgs_cons (pg_name (i := 3) sc_Row_at.nd rfl (Or.inl rfl)) pgs_nil)))) (pss_one (ps_ret (pe_ifExp (pt_cmpR op_isN (pe_ix (ixK K) (fldK K (pv 0) rfl) (pv 3) (fun _ _ => rfl)) pe_non (nomark _)) pe_non (pe_op (addK K) (pe_ix (ixK K) (fldK K (pv 0) rfl) (pv 3) (fun _ _ => rfl)) (pe_op op_mul (pv 2) (pe_ix (ixK K) (fldK K (pv 0) rfl) (pv 3) (fun _ _ => rfl))))))))), ?_⟩)
  obtain ⟨v, r, wt, B, rfl, hv, ok, q⟩ := h
  obtain ⟨a, dx, p, t, s', rfl, h0, h1, h2, h3⟩ := hv
  have fh : ∀ {σ : L2.St} {H' : Hp}, Ex H H' → σ[0]? = some (some (.ref a)) → Ev (tFld K (tVar 0) "head") σ H' (.ref p) := fun e z => ev_fld c.cls c.n1 (ev_var z) (e _ _ h0) rfl
  have fc : ∀ {σ : L2.St} {H' : Hp}, Ex H H' → σ[0]? = some (some (.ref a)) → Ev (tFld K (tVar 0) "cycle") σ H' (.ref t) := fun e z => ev_fld c.cls c.n2 (ev_var z) (e _ _ h0) rfl
  have fs : ∀ {σ : L2.St} {H' : Hp}, Ex H H' → σ[0]? = some (some (.ref a)) → Ev (tFld K (tVar 0) "steps") σ H' (.ref s') := fun e z => ev_fld c.cls c.n3 (ev_var z) (e _ _ h0) rfl
  refine q_when (b := decide ((wt : Int) < (r.head.map ov).length)) (et_B (ev_op (ev_var (i := 1) rfl) (ev_lenL (fh (Ex.refl H) rfl) (.inr h1)) rv_I0)) (fun lt H1 e1 => ?_) fun ge H1 e1 => ?_
  · have lt' : wt < r.head.length := by
      rw [List.length_map] at lt
      have := of_decide_eq_true lt
      omega
    have e0 : ov (r.at wt) = ov (Ol.g r.head wt) := by rw [Rw.at_lt lt']
    refine s_ret (ev_ixO (fh e1 rfl) (ev_var (i := 1) rfl) (ex_t e1 h1) lt') fun H2 e2 => ?_
    rw [← e0]
    exact q H2 (e1.trans e2)
  · have ge' : ¬ wt < r.h := fun z => by
      rw [List.length_map] at ge
      have := of_decide_eq_false ge
      exact this (by have : r.h = r.head.length := rfl; omega)
    have i0 : (wt : Int) - ((r.head.map ov).length : Nat) = ((wt - r.h : Nat) : Int) := by
      rw [List.length_map]
      show (wt : Int) - (r.h : Nat) = _
      omega
    have lc : ((r.cycle.map ov).length : Nat) = r.c := List.length_map _
    have cp := ok.pos
    have cs' := ok.cs
    refine q_asgNN (i := 2) (j := 3) (x := .int (((wt - r.h) / r.c : Nat) : Int)) (y := .int (((wt - r.h) % r.c : Nat) : Int)) (eu_is (eu_divmod (i := ((wt - r.h : Nat) : Int)) (j := (r.c : Nat)) (ev_is (ev_op (ev_var (i := 1) rfl) (ev_lenL (fh e1 rfl) (.inr (ex_t e1 h1))) rv_I0) (by rw [i0])) (ev_is (ev_lenL (fc e1 rfl) (.inr (ex_t e1 h2))) (by rw [lc])) (pylong_small (by omega) (by omega))) (by rw [Int.natCast_ediv, Int.natCast_emod])) fun H2 e2 => ?_
    have E2 := e1.trans e2
    have lt : (wt - r.h) % r.c < r.c := Nat.mod_lt _ cp
    generalize hj : (wt - r.h) % r.c = j at lt ⊢
    generalize ht : (wt - r.h) / r.c = tn
    have e0 : r.at wt = farV tn (Ol.g r.cycle j) (Ol.g r.steps j) := by
      rw [Rw.at_ge ge', hj, ht]
    have ec : Ev (tOp (rIx K) (tFld K (tVar 0) "cycle") (tVar 3)) [some (.ref a), some (.int (wt : Int)), some (.int (tn : Int)), some (.int (j : Int))] H2 (ov (Ol.g r.cycle j)) := ev_ixO (fc E2 rfl) (ev_var (i := 3) rfl) (ex_t E2 h2) lt
    have es : Ev (tOp (rIx K) (tFld K (tVar 0) "steps") (tVar 3)) [some (.ref a), some (.int (wt : Int)), some (.int (tn : Int)), some (.int (j : Int))] H2 (ov (Ol.g r.steps j)) := ev_ixO (fs E2 rfl) (ev_var (i := 3) rfl) (ex_t E2 h3) (by rw [ok.len]; exact lt)
    have both := ok.both j lt
    cases cv : Ol.g r.cycle j with
    | none =>
      rw [cv] at ec e0
      refine s_ret (ev_if (b := true) (et_B (ev_op ec ev_c rv_isN)) (fun _ => ev_c) fun z => nomatch z) fun H3 e3 => ?_
      have z := q H3 (E2.trans e3)
      rw [e0] at z
      exact z
    | some x =>
      rw [cv] at ec e0
      cases sv : Ol.g r.steps j with
      | none =>
        rw [cv, sv] at both
        cases both.mpr rfl
      | some y =>
        rw [sv] at es e0
        have sm := ok.small j y sv
        refine s_ret (ev_if (b := false) (et_B (ev_op ec ev_c rv_isN)) (fun z => nomatch z) fun _ => ev_op ec (ev_op (ev_var (i := 2) rfl) es (rv_I (Or.inr (by have := ok.big; omega)))) rv_addI) fun H3 e3 => ?_
        have z := q H3 (E2.trans e3)
        rw [e0] at z
        exact z
abbrev s_Row_rise_at : Stmt := inClass (top 32) 2
abbrev sc_Row_rise_at_N : List Str := ["self", "weight"]
theorem sc_Row_rise_at : FnScope sc_Row_rise_at_N ["self", "weight"] (defScope s_Row_rise_at) := ⟨rfl, rfl, rfl, by decide +kernel, rfl, by decide +kernel, by decide +kernel⟩
theorem ok_Row_rise (c : RowC K C) (m_len : mg "len" = none) (F : FnM K "rise_at" "Row.rise_at" s_Row_rise_at [] f fd) : FnOk P w K mg base CX0 1 f fd ["self", "weight"] (spRise K C) := by
  refine F.ok sc_Row_rise_at (fun vs H Q E h => by obtain ⟨v, r, wt, B, rfl, _⟩ := h; rfl) (fun cdv A outer s H vs Q E hr h => ⟨_, PSs.nox
    (pss_one (ps_ret (pe_ix (ixK K) (fldK K (pv 0) rfl) (pe_op op_modN (pe_op op_sub (pv 1) (pe_callB (lenK K) (by rfl) m_len (by decide +kernel) (pa_cons (fldK K (pv 0) rfl) pa_nil))) (pe_callB (lenK K) (by rfl) m_len (by decide +kernel) (pa_cons (fldK K (pv 0) rfl) pa_nil))) (fun _ _ => rfl)))), ?_⟩)
  obtain ⟨v, r, wt, B, rfl, hv, ok, le, q⟩ := h
  have hv' := hv
  obtain ⟨a, dx, p, t, s', rfl, h0, h1, h2, h3⟩ := hv
  have cp := ok.pos
  have lt : (wt - r.h) % r.c < r.steps.length := by rw [ok.len]; exact Nat.mod_lt _ cp
  have i0 : ((wt : Int) - (r.h : Nat)).fmod (r.c : Nat) = (((wt - r.h) % r.c : Nat) : Int) := by
    rw [Int.fmod_eq_emod_of_nonneg _ (by omega), show (wt : Int) - (r.h : Nat) = ((wt - r.h : Nat) : Int) by omega, Int.natCast_emod]
  exact s_ret (ev_ixO (ev_fld c.cls c.n3 (ev_var (i := 0) rfl) h0 rfl) (ev_is (ev_op (ev_op (ev_var (i := 1) rfl) (ev_headLen c (ev_var (i := 0) rfl) hv') rv_I0) (ev_cycLen c (ev_var (i := 0) rfl) hv') (rv_I (by omega))) (by rw [i0])) h3 lt) q
abbrev s_Row_length : Stmt := inClass (top 32) 3
abbrev sc_Row_length_N : List Str := ["self"]
theorem sc_Row_length : FnScope sc_Row_length_N ["self"] (defScope s_Row_length) := ⟨rfl, rfl, rfl, by decide +kernel, rfl, by decide +kernel, by decide +kernel⟩
theorem ok_Row_length (c : RowC K C) (m_len : mg "len" = none) (F : FnM K "length" "Row.length" s_Row_length [] f fd) : FnOk P w K mg base CX0 1 f fd ["self"] (spLen K C) := by
  refine F.ok sc_Row_length (fun vs H Q E h => by obtain ⟨v, r, rfl, _⟩ := h; rfl) (fun cdv A outer s H vs Q E hr h => ⟨_, PSs.nox
    (pss_one (ps_ret (pe_op (addK K) (pe_callB (lenK K) (by rfl) m_len (by decide +kernel) (pa_cons (fldK K (pv 0) rfl) pa_nil)) (pe_callB (lenK K) (by rfl) m_len (by decide +kernel) (pa_cons (fldK K (pv 0) rfl) pa_nil))))), ?_⟩)
  obtain ⟨v, r, rfl, hv, q⟩ := h
  exact s_ret (ev_is (ev_op (ev_headLen c (ev_var (i := 0) rfl) hv) (ev_cycLen c (ev_var (i := 0) rfl) hv) rv_addI) (by rw [Int.natCast_add])) q
abbrev s_Row_key : Stmt := inClass (top 32) 4
abbrev sc_Row_key_N : List Str := ["self"]
theorem sc_Row_key : FnScope sc_Row_key_N ["self"] (defScope s_Row_key) := ⟨rfl, rfl, rfl, by decide +kernel, rfl, by decide +kernel, by decide +kernel⟩
theorem ok_Row_key (c : RowC K C) (F : FnM K "key" "Row.key" s_Row_key [] f fd) : FnOk P w K mg base CX0 1 f fd ["self"] (spKey K C) := by
  refine F.ok sc_Row_key (fun vs H Q E h => by obtain ⟨v, r, rfl, _⟩ := h; rfl) (fun cdv A outer s H vs Q E hr h => ⟨_, PSs.nox
    (pss_one (ps_ret (pe_tup (pa_cons (fldK K (pv 0) rfl) (pa_cons (fldK K (pv 0) rfl) (pa_cons (fldK K (pv 0) rfl) pa_nil)))))), ?_⟩)
  obtain ⟨v, r, rfl, ⟨a, dx, p, t, s', rfl, h0, h1, h2, h3⟩, ⟨l1, l2, l3⟩, q⟩ := h
  refine (eu_tup (ea_cons (ev_fld c.cls c.n1 (ev_var (i := 0) rfl) h0 rfl) (ea_cons (ev_fld c.cls c.n2 (ev_var (i := 0) rfl) h0 rfl) (ea_cons (ev_fld c.cls c.n3 (ev_var (i := 0) rfl) h0 rfl) ea_nil))) (by simp) : EvU _ [some (.ref a)] H _) H (Ex.refl H) _ fun u H1 n1 e1 hu => q u H1 e1 ?_
  exact da_tuple (.inl (.inl hu)) (.cons (da_tuple (ex_t e1 h1) (da_ol _)) (.cons (da_tuple (ex_t e1 h2) (da_ol _)) (.cons (da_tuple (ex_t e1 h3) (da_ol _)) .nil)))
end
end K07
set_option Elab.async false
set_option linter.all false
set_option maxRecDepth 100000
set_option maxHeartbeats 4000000
namespace K07
open PySem PySem.Spec PyProof.Rows L2 Evl SwX
section
variable {P : Program} {w : World} {K : PySem.W.Frag} {mg : Str → Option Value} {base : Heap} {f : Addr} {fd : FuncData} {C : Addr}
abbrev s_step_of : Stmt := top 33
abbrev sc_step_of_N : List Str := ["row", "weight", "period", "here", "there"]
theorem sc_step_of : FnScope sc_step_of_N ["row", "weight", "period"] (defScope s_step_of) := ⟨rfl, rfl, rfl, by decide +kernel, rfl, by decide +kernel, by decide +kernel⟩
theorem ok_step_of (M_at : HasM P w K mg base C "at" 1 ["self", "weight"] (spAt K C)) (F : FnP K "step_of" s_step_of f fd) : FnOk P w K mg base CX0 2 f fd ["row", "weight", "period"] (spStep K C) := by
  refine F.ok sc_step_of (fun vs H Q E h => by obtain ⟨v, r, a, b, B, rfl, _⟩ := h; rfl) (fun cdv A outer s H vs Q E hr h => ⟨_, PSs.nox
    (pss_cons (ps_par (i := 3) (j := 4) (by rfl) sc_step_of.nd rfl rfl (by decide) rfl rfl (pa_cons (pe_hm M_at (hr.mono (by decide)) (pv 0) (pa_cons (pv 1) pa_nil)) (pa_cons (pe_hm M_at (hr.mono (by decide)) (pv 0) (pa_cons (pe_op (addK K) (pv 1) (pv 2)) pa_nil)) pa_nil)) (by rfl)) (pss_cons (ps_if (pw_or (pt_cmpR op_isN (pv 3) pe_non (nomark _)) (pw_or1 (pt_cmpR op_isN (pv 4) pe_non (nomark _)))).pt (pss_one (ps_ret (pe_ifExp (pw_and (pt_cmpR op_isN (pv 3) pe_non (nomark _)) (pw_and1 (pt_cmpR op_isN (pv 4) pe_non (nomark _)))).pt pe_non pe_str))) pss_nil) (pss_one (ps_ret (pe_op op_sub (pv 4) (pv 3)))))), ?_⟩)
  obtain ⟨v, r, a, b, B, rfl, hv, ok, q⟩ := h
  refine q_parE (i := 3) (j := 4) (ev_at (ev_var (i := 0) rfl) hv ok (ev_var (i := 1) rfl)) (ev_at (w := a + b) (ev_var (i := 0) rfl) hv ok (ev_is (ev_op (ev_var (i := 1) rfl) (ev_var (i := 2) rfl) rv_addI) (by rw [Int.natCast_add]))) fun H1 e1 => ?_
  have q1 : ∀ H', Ex H1 H' → Q (sv (r.stp a b)) H' := fun H' e => q H' (e1.trans e)
  unfold Rw.stp at q1
  generalize r.at a = x at q1 ⊢
  generalize r.at (a + b) = y at q1 ⊢
  have tx : ∀ H2, EvT (tTest (tOp (fun x y H Q => y = .non ∧ Q (.bl (decide (x = .non))) H) (tVar 3) (tC .non))) [some v, some (.int (a : Int)), some (.int (b : Int)), some (ov x), some (ov y)] H2 x.isNone := fun H2 => et_is (et_B (ev_op (ev_var (i := 3) rfl) ev_c rv_isN)) (by rw [ov_isN])
  have ty : ∀ H2, EvT (tTest (tOp (fun x y H Q => y = .non ∧ Q (.bl (decide (x = .non))) H) (tVar 4) (tC .non))) [some v, some (.int (a : Int)), some (.int (b : Int)), some (ov x), some (ov y)] H2 y.isNone := fun H2 => et_is (et_B (ev_op (ev_var (i := 4) rfl) ev_c rv_isN)) (by rw [ov_isN])
  refine q_when (b := x.isNone || y.isNone) (et_or (tx H1) fun _ => ty H1) (fun c H2 e2 => ?_) fun c H2 e2 => ?_
  · refine s_ret (v := if x.isNone && y.isNone then .non else .str "none") (ev_ite (et_and (tx H2) fun _ => ty H2) (fun _ => ev_c) fun _ => ev_c) fun H3 e3 => ?_
    have z := q1 H3 (e2.trans e3)
    cases x with
    | none =>
      cases y with
      | none => exact z
      | some j => exact z
    | some i =>
      cases y with
      | none => exact z
      | some j => cases c
  · cases x with
    | none => cases c
    | some i =>
      cases y with
      | none => cases c
      | some j => exact s_ret (ev_op (ev_var (i := 4) rfl) (ev_var (i := 3) rfl) rv_I0) fun H3 e3 => q1 H3 (e2.trans e3)
abbrev s_has_period : Stmt := top 34
abbrev sc_has_period_N : List Str := ["row", "period", "first", "many", "steps", "at"]
theorem sc_has_period : FnScope sc_has_period_N ["row", "period"] (defScope s_has_period) := ⟨rfl, rfl, rfl, by decide +kernel, rfl, by decide +kernel, by decide +kernel⟩
theorem ok_has_period (c : RowC K C) (m_len : mg "len" = none) (m_range : mg "range" = none) (m_all : mg "all" = none) (D_step_of : Has P w K mg base "step_of" 2 ["row", "weight", "period"] (spStep K C)) (F : FnP K "has_period" s_has_period f fd) : FnOk P w K mg base CX0 3 f fd ["row", "period"] (spHasP K C) := by
  refine F.ok sc_has_period (fun vs H Q E h => by obtain ⟨v, r, p, B, rfl, _⟩ := h; rfl) (fun cdv A outer s H vs Q E hr h => ⟨_, PSs.nox
    (pss_cons (ps_asg (pe_tup (pa_cons (pe_callB (lenK K) (by rfl) m_len (by decide +kernel) (pa_cons (fldK K (pv 0) rfl) pa_nil)) (pa_cons (pe_callB (lenK K) (by rfl) m_len (by decide +kernel) (pa_cons (fldK K (pv 0) rfl) pa_nil)) pa_nil))) (pg_tup rfl (pgs_cons (pg_name (i := 2) sc_has_period.nd rfl (Or.inr rfl)) (pgs_cons (pg_name (i := 3) sc_has_period.nd rfl (Or.inl rfl)) pgs_nil)))) (pss_cons (ps_set (i := 4) sc_has_period.nd rfl (Or.inr rfl) (pe_lc (own := [("at", 5)]) (g := gName 5) (tt := tYes) rfl sc_has_period.nd (pi_range1 (by rfl) m_range (pa_cons (pe_op op_mul pe_int (pv 3)) pa_nil)) (blkOk_by (N := sc_has_period_N) (sc := defScope s_has_period) (by decide +kernel)) (fun _ _ _ _ _ => pg_name (i := 5) sc_has_period.nd rfl (Or.inl rfl)) (fun _ _ _ _ _ => pts_nil) (fun _ _ _ _ _ => (pe_has D_step_of (hr.mono (by decide)) (pa_cons (pv 0) (pa_cons (pe_op (addK K) (pv 2) (pv 5)) (pa_cons (pv 1) pa_nil))))))) (pss_one (ps_ret (pe_and (pe_cmpR (niK K hr) pe_str (pv 4) rfl) (pe_one (pe_callB (cr_all rfl) (by rfl) m_all (by decide +kernel) (pa_cons (pe_lc (own := [("at", 5)]) (g := gName 5) (tt := tYes) rfl sc_has_period.nd (pi_range1 (by rfl) m_range (pa_cons (pe_op op_mul pe_int (pv 3)) pa_nil)) (blkOk_by (N := sc_has_period_N) (sc := defScope s_has_period) (by decide +kernel)) (fun _ _ _ _ _ => pg_name (i := 5) sc_has_period.nd rfl (Or.inl rfl)) (fun _ _ _ _ _ => pts_nil) (fun _ _ _ _ _ => (pe_cmpR (eqK K hr) (pe_ix (ixK K) (pv 4) (pv 5) (fun _ _ => rfl)) (pe_ix (ixK K) (pv 4) (pe_op op_modN (pv 5) (pv 1)) (fun _ _ => rfl)) (nomark _)))) pa_nil)))))))), ?_⟩)
  obtain ⟨v, r, p, B, rfl, hv, ok, pp, q⟩ := h
  have cs' := ok.cs
  refine q_asgNN (i := 2) (j := 3) (eu_tup (ea_cons (ev_headLen c (ev_var (i := 0) rfl) hv) (ea_cons (ev_cycLen c (ev_var (i := 0) rfl) hv) ea_nil)) (by simp)) fun H1 e1 => ?_
  have hv1 := hv.mono e1
  have two : (2 : Int) * (r.c : Nat) = ((2 * r.c : Nat) : Int) := by rw [Int.natCast_mul] <;> rfl
  refine q_asgL (i := 4) (el_lcN (j := 5) (n := 2 * r.c) (fun i => sv (r.stp (r.h + i) p)) (ea_cons (ev_is (ev_op ev_c (ev_var (i := 3) rfl) (rv_I (Or.inl (by omega)))) (by rw [two])) ea_nil) (by omega) (fun _ => rfl) fun i H2 e2 lt => ev_step (hv1.mono e2) ok (ev_var (i := 0) rfl) (ev_is (ev_op (ev_var (i := 2) rfl) (ev_var (i := 5) rfl) rv_addI) (by rw [Int.natCast_add])) (ev_var (i := 1) rfl)) fun D H2 nD e2 hD => ?_
  have daD : Da K H2 (.ref D) (.list ((List.range (2 * r.c)).map fun i => sd (r.stp (r.h + i) p))) := da_list hD (da_svs (fun i => r.stp (r.h + i) p) _)
  have plD : Pl (.list ((List.range (2 * r.c)).map fun i => sd (r.stp (r.h + i) p))) := pl_atmL fun i _ => atm_sd _
  refine s_ret (v := .bl (hasP r p)) (ev_is (ev_andV (a := (List.range (2 * r.c)).all fun i => (r.stp (r.h + i) p).isSome) (b := (List.range (2 * r.c)).all fun i => decide (r.stp (r.h + i) p = r.stp (r.h + i % p) p)) (ev_is (ev_op ev_c (ev_var (i := 4) rfl) (rv_niDat (.inl rfl) (.str _) daD (atm_sd none).pl plD rfl)) ?_) fun a1 => ?_) rfl) fun H3 e3 => q H3 ((e1.trans e2).trans e3)
  · congr 1
    rw [Bool.eq_iff_iff]
    simp [List.any_map, eqv_sdn, Option.isSome_iff_ne_none]
  · rw [List.all_eq_true] at a1
    have some_ : ∀ i, i < 2 * r.c → ∃ o, r.stp (r.h + i) p = some o := fun i hi => Option.isSome_iff_exists.mp (a1 i (List.mem_range.mpr hi))
    refine ev_is (ev_allT (bs := (List.range (2 * r.c)).map fun i => decide (r.stp (r.h + i) p = r.stp (r.h + i % p) p)) (el_is (el_lcN (j := 5) (n := 2 * r.c) (fun i => .bl (decide (r.stp (r.h + i) p = r.stp (r.h + i % p) p))) (ea_cons (ev_is (ev_op ev_c (ev_var (i := 3) rfl) (rv_I (Or.inl (by omega)))) (by rw [two])) ea_nil) (by omega) (fun _ => rfl) fun i H3 e3 lt => ?_) (by rw [List.map_map] <;> rfl))) (by rw [List.all_map] <;> rfl)
    have hD3 := e3 _ _ hD
    have lm : i % p < 2 * r.c := Nat.lt_of_le_of_lt (Nat.mod_le _ _) lt
    have at_ : ∀ n, n < 2 * r.c → ((List.range (2 * r.c)).map fun i => sv (r.stp (r.h + i) p))[n]? = some (sv (r.stp (r.h + n) p)) := fun n hn => by rw [List.getElem?_map, List.getElem?_range hn] <;> rfl
    obtain ⟨o1, e1'⟩ := some_ i lt
    obtain ⟨o2, e2'⟩ := some_ (i % p) lm
    refine ev_op (ev_op (ev_var (i := 4) rfl) (ev_var (i := 5) rfl) (rv_ixLn (sq_of hD3) (at_ i lt))) (ev_op (ev_var (i := 4) rfl) (ev_is (ev_op (ev_var (i := 5) rfl) (ev_var (i := 1) rfl) (rv_I (by omega))) (by rw [Int.fmod_eq_emod_of_nonneg _ (by omega), ← Int.natCast_emod])) (rv_ixLn (sq_of hD3) (at_ _ lm))) (rv_eqDat (da_sv _) (da_sv _) (atm_sd _).pl (atm_sd _).pl ?_)
    rw [e1', e2', eqv_sd]
    simp
abbrev s_with_period : Stmt := top 35
abbrev sc_with_period_N : List Str := ["row", "period", "first", "values", "at"]
theorem sc_with_period : FnScope sc_with_period_N ["row", "period"] (defScope s_with_period) := ⟨rfl, rfl, rfl, by decide +kernel, rfl, by decide +kernel, by decide +kernel⟩
theorem ok_with_period (c : RowC K C) (m_len : mg "len" = none) (m_range : mg "range" = none) (M_at : HasM P w K mg base C "at" 1 ["self", "weight"] (spAt K C)) (N_Row : HasN P w K mg base "Row" C 1 ["self", "early", "values", "rises"] (spRowInit K C)) (D_step_of : Has P w K mg base "step_of" 2 ["row", "weight", "period"] (spStep K C)) (F : FnP K "with_period" s_with_period f fd) : FnOk P w K mg base CX0 3 f fd ["row", "period"] (spWithP K C) := by
  refine F.ok sc_with_period (fun vs H Q E h => by obtain ⟨v, r, p, B, rfl, _⟩ := h; rfl) (fun cdv A outer s H vs Q E hr h => ⟨_, PSs.nox
    (pss_cons (ps_set (i := 2) sc_with_period.nd rfl (Or.inr rfl) (pe_callB (lenK K) (by rfl) m_len (by decide +kernel) (pa_cons (fldK K (pv 0) rfl) pa_nil))) (pss_cons (ps_setLc (i := 3) (own := [("at", 4)]) (g := gName 4) (tt := tYes) rfl sc_with_period.nd rfl rfl (sw_true rfl rfl rfl (by rfl)) (pi_range1 (by rfl) m_range (pa_cons (pv 1) pa_nil)) (blkOk_by (N := sc_with_period_N) (sc := defScope s_with_period) (by decide +kernel)) (fun _ _ _ _ _ => pg_name (i := 4) sc_with_period.nd rfl (Or.inl rfl)) (fun _ _ _ _ _ => pts_nil) (fun _ _ _ _ _ => (pe_hm M_at (hr.mono (by decide)) (pv 0) (pa_cons (pe_op (addK K) (pv 2) (pv 4)) pa_nil)))) (pss_one (ps_ret (pe_hn N_Row (hr.mono (by decide)) (pa_cons (fldK K (pv 0) rfl) (pa_cons (pv 3) (pa_cons (pe_lc (own := [("at", 4)]) (g := gName 4) (tt := tYes) rfl sc_with_period.nd (pi_range1 (by rfl) m_range (pa_cons (pv 1) pa_nil)) (blkOk_by (N := sc_with_period_N) (sc := defScope s_with_period) (by decide +kernel)) (fun _ _ _ _ _ => pg_name (i := 4) sc_with_period.nd rfl (Or.inl rfl)) (fun _ _ _ _ _ => pts_nil) (fun _ _ _ _ _ => (pe_has D_step_of (hr.mono (by decide)) (pa_cons (pv 0) (pa_cons (pe_op (addK K) (pv 2) (pv 4)) (pa_cons (pv 1) pa_nil)))))) pa_nil)))))))), ?_⟩)
  obtain ⟨v, r, p, B, rfl, hv, ok, pc, st, q⟩ := h
  refine q_asg (i := 2) (ev_headLen c (ev_var (i := 0) rfl) hv) fun H1 e1 => ?_
  have hv1 := hv.mono e1
  refine q_asgL (i := 3) (el_lcN (j := 4) (n := p) (fun i => ov (r.at (r.h + i))) (ea_cons (ev_var (i := 1) rfl) ea_nil) (by omega) (fun _ => rfl) fun i H2 e2 lt => ev_at (ev_var (i := 0) rfl) (hv1.mono e2) ok (ev_is (ev_op (ev_var (i := 2) rfl) (ev_var (i := 4) rfl) rv_addI) (by rw [Int.natCast_add]))) fun D H2 nD e2 hD => ?_
  have hv2 := hv1.mono e2
  obtain ⟨ph, evh, sqh⟩ := ev_head (σ := [some v, some (.int (p : Int)), some (.int (r.h : Int)), some (.ref D), none]) (te := tVar 0) c (ev_var (i := 0) rfl) hv2
  refine s_retY (P := RowAt K C (withP r p)) (yi_row (ys_row3 (yi_sqE evh ⟨ph, rfl, .inl sqh⟩) (yi_sqE (ev_var (i := 3) rfl) ⟨D, rfl, .inr (sq_of ?_)⟩) (yi_sqL (el_is (el_lcN (j := 4) (n := p) (fun i => sv (r.stp (r.h + i) p)) (ea_cons (ev_var (i := 1) rfl) ea_nil) (by omega) (fun _ => rfl) fun i H3 e3 lt => ev_step (hv2.mono e3) ok (ev_var (i := 0) rfl) (ev_is (ev_op (ev_var (i := 2) rfl) (ev_var (i := 4) rfl) rv_addI) (by rw [Int.natCast_add])) (ev_var (i := 1) rfl)) ?_)))) fun v' H3 e3 ra => q v' H3 ((e1.trans e2).trans e3) ra
  · rw [hD]
    unfold withP
    rw [List.map_map] <;> rfl
  · unfold withP
    rw [List.map_map]
    refine List.map_congr_left fun i hi => ?_
    obtain ⟨o, eo⟩ := st i (List.mem_range.mp hi)
    show sv (r.stp (r.h + i) p) = ov ((r.stp (r.h + i) p).getD none)
    rw [eo] <;> rfl
abbrev s_is_straight : Stmt := top 36
abbrev sc_is_straight_N : List Str := ["row", "weight", "period", "far"]
theorem sc_is_straight : FnScope sc_is_straight_N ["row", "weight"] (defScope s_is_straight) := ⟨rfl, rfl, rfl, by decide +kernel, rfl, by decide +kernel, by decide +kernel⟩
theorem ok_is_straight (c : RowC K C) (m_len : mg "len" = none) (M_rise_at : HasM P w K mg base C "rise_at" 1 ["self", "weight"] (spRise K C)) (D_step_of : Has P w K mg base "step_of" 2 ["row", "weight", "period"] (spStep K C)) (F : FnP K "is_straight" s_is_straight f fd) : FnOk P w K mg base CX0 3 f fd ["row", "weight"] (spStr K C) := by
  refine F.ok sc_is_straight (fun vs H Q E h => by obtain ⟨v, r, a, B, rfl, _⟩ := h; rfl) (fun cdv A outer s H vs Q E hr h => ⟨_, PSs.nox
    (pss_cons (ps_set (i := 2) sc_is_straight.nd rfl (Or.inl rfl) (pe_callB (lenK K) (by rfl) m_len (by decide +kernel) (pa_cons (fldK K (pv 0) rfl) pa_nil))) (pss_cons (ps_set (i := 3) sc_is_straight.nd rfl (Or.inl rfl) (pe_op (addK K) (pv 1) (pe_op op_mul (pv 2) (pe_op (addK K) pe_int (pe_op op_fdivN (pe_callB (lenK K) (by rfl) m_len (by decide +kernel) (pa_cons (fldK K (pv 0) rfl) pa_nil)) (pv 2)))))) (pss_one (ps_ret (pe_cmpR (eqK K hr) (pe_has D_step_of (hr.mono (by decide)) (pa_cons (pv 0) (pa_cons (pv 1) (pa_cons (pv 2) pa_nil)))) (pe_hm M_rise_at (hr.mono (by decide)) (pv 0) (pa_cons (pv 3) pa_nil)) (nomark _)))))), ?_⟩)
  obtain ⟨v, r, a, B, rfl, hv, ok, q⟩ := h
  have cp := ok.pos
  have cs' := ok.cs
  have hs' := ok.hs
  refine q_asg (i := 2) (ev_cycLen c (ev_var (i := 0) rfl) hv) fun H1 e1 => ?_
  have hv1 := hv.mono e1
  have d0 : r.h / r.c ≤ 20000 := Nat.le_trans (Nat.div_le_self _ _) hs'
  refine q_asg (i := 3) (v := .int ((a + r.c * (1 + r.h / r.c) : Nat) : Int)) (ev_is (ev_op (ev_var (i := 1) rfl) (ev_op (ev_var (i := 2) rfl) (ev_op ev_c (ev_op (ev_headLen c (ev_var (i := 0) rfl) hv1) (ev_var (i := 2) rfl) (rv_I (by unfold CDivN; omega))) rv_addI) (rv_I (Or.inl (by omega)))) rv_addI) ?_) fun H2 e2 => ?_
  · rw [Int.natCast_add, Int.natCast_mul, Int.natCast_add, Int.natCast_ediv, Int.fdiv_eq_ediv_of_nonneg _ (by omega)] <;> rfl
  have hv2 := hv1.mono e2
  have le : r.h ≤ a + r.c * (1 + r.h / r.c) := by
    have := Nat.div_add_mod r.h r.c
    have := Nat.mod_lt r.h cp
    rw [Nat.mul_add, Nat.mul_one]
    omega
  refine s_ret (v := .bl (strB r a)) (ev_op (ev_step hv2 ok (ev_var (i := 0) rfl) (ev_var (i := 1) rfl) (ev_var (i := 2) rfl)) (ev_rise (ev_var (i := 0) rfl) hv2 ok le (ev_var (i := 3) rfl)) (rv_eqDat (da_sv _) (da_ov _) (atm_sd _).pl (pl_od _) ?_)) fun H3 e3 => q H3 ((e1.trans e2).trans e3)
  unfold strB
  cases r.stp a r.c with
  | none =>
    cases r.rise (a + r.c * (1 + r.h / r.c)) with
    | none => rfl
    | some i => rfl
  | some o =>
    show PyData.eqv (od o) _ = _
    rw [eqv_od]
    simp
end
end K07
set_option Elab.async false
set_option linter.all false
set_option maxRecDepth 100000
set_option maxHeartbeats 4000000
namespace K07
open PySem PySem.Spec PyProof.Rows L2 Evl SwX
section
variable {P : Program} {w : World} {K : PySem.W.Frag} {mg : Str → Option Value} {base : Heap} {f : Addr} {fd : FuncData} {C : Addr}
abbrev s_least_form : Stmt := top 37
abbrev sc_least_form_N : List Str := ["row", "many", "period", "first", "values", "size", "at"]
theorem sc_least_form : FnScope sc_least_form_N ["row"] (defScope s_least_form) := ⟨rfl, rfl, rfl, by decide +kernel, rfl, by decide +kernel, by decide +kernel⟩
theorem ok_least_form (c : RowC K C) (m_len : mg "len" = none) (m_range : mg "range" = none) (M_at : HasM P w K mg base C "at" 1 ["self", "weight"] (spAt K C)) (N_Row : HasN P w K mg base "Row" C 1 ["self", "early", "values", "rises"] (spRowInit K C)) (D_step_of : Has P w K mg base "step_of" 2 ["row", "weight", "period"] (spStep K C)) (D_has_period : Has P w K mg base "has_period" 3 ["row", "period"] (spHasP K C)) (D_with_period : Has P w K mg base "with_period" 3 ["row", "period"] (spWithP K C)) (D_is_straight : Has P w K mg base "is_straight" 3 ["row", "weight"] (spStr K C)) (F : FnP K "least_form" s_least_form f fd) : FnOk P w K mg base CX0 4 f fd ["row"] (spLf K C) := by
  refine F.ok sc_least_form (fun vs H Q E h => by obtain ⟨v, r, B, rfl, _⟩ := h; rfl) (fun cdv A outer s H vs Q E hr h => ⟨_, PSs.nox
    (pss_cons (ps_set (i := 1) sc_least_form.nd rfl (Or.inr rfl) (pe_callB (lenK K) (by rfl) m_len (by decide +kernel) (pa_cons (fldK K (pv 0) rfl) pa_nil))) (pss_cons (ps_set (i := 2) sc_least_form.nd rfl (Or.inr rfl) (pe_ix (ixK K) (pe_lc (own := [("size", 5)]) (g := gName 5) rfl sc_least_form.nd (pi_range2 (by rfl) m_range (pa_cons pe_int (pa_cons (pe_op (addK K) (pv 1) pe_int) pa_nil))) (blkOk_by (N := sc_least_form_N) (sc := defScope s_least_form) (by decide +kernel)) (fun _ _ _ _ _ => pg_name (i := 5) sc_least_form.nd rfl (Or.inl rfl)) (fun _ _ _ _ _ => (pts_one (pw_and (pt_cmpR (eqK K hr) (pe_op op_modN (pv 1) (pv 5)) pe_int (nomark _)) (pw_and1 (pt_val (pe_has D_has_period (hr.mono (by decide)) (pa_cons (pv 0) (pa_cons (pv 5) pa_nil)))))).pt)) (fun _ _ _ _ _ => (pv 5))) pe_int (fun _ _ => rfl))) (pss_cons (ps_set (i := 0) sc_least_form.nd rfl (Or.inr rfl) (pe_has D_with_period (hr.mono (by decide)) (pa_cons (pv 0) (pa_cons (pv 2) pa_nil)))) (pss_cons (ps_set (i := 3) sc_least_form.nd rfl (Or.inr rfl) (pe_callB (lenK K) (by rfl) m_len (by decide +kernel) (pa_cons (fldK K (pv 0) rfl) pa_nil))) (pss_cons (ps_while PassesOwn.never (pw_and (pt_cmpR op_gt (pv 3) pe_int (nomark _)) (pw_and1 (pt_val (pe_has D_is_straight (hr.mono (by decide)) (pa_cons (pv 0) (pa_cons (pe_op op_sub (pv 3) pe_int) pa_nil)))))).pt (pss_one (ps_set (i := 3) sc_least_form.nd rfl (Or.inr rfl) (pe_op op_sub (pv 3) pe_int)))) (pss_cons (ps_setLc (i := 4) (own := [("at", 6)]) (g := gName 6) (tt := tYes) rfl sc_least_form.nd rfl rfl (sw_true rfl rfl rfl (by rfl)) (pi_range1 (by rfl) m_range (pa_cons (pv 2) pa_nil)) (blkOk_by (N := sc_least_form_N) (sc := defScope s_least_form) (by decide +kernel)) (fun _ _ _ _ _ => pg_name (i := 6) sc_least_form.nd rfl (Or.inl rfl)) (fun _ _ _ _ _ => pts_nil) (fun _ _ _ _ _ => (pe_hm M_at (hr.mono (by decide)) (pv 0) (pa_cons (pe_op (addK K) (pv 3) (pv 6)) pa_nil)))) (pss_one (ps_ret (pe_hn N_Row (hr.mono (by decide)) (pa_cons (pe_slice (slK K) (fldK K (pv 0) rfl) po_none (po_some (pv 3))) (pa_cons (pv 4) (pa_cons (pe_lc (own := [("at", 6)]) (g := gName 6) (tt := tYes) rfl sc_least_form.nd (pi_range1 (by rfl) m_range (pa_cons (pv 2) pa_nil)) (blkOk_by (N := sc_least_form_N) (sc := defScope s_least_form) (by decide +kernel)) (fun _ _ _ _ _ => pg_name (i := 6) sc_least_form.nd rfl (Or.inl rfl)) (fun _ _ _ _ _ => pts_nil) (fun _ _ _ _ _ => (pe_has D_step_of (hr.mono (by decide)) (pa_cons (pv 0) (pa_cons (pe_op (addK K) (pv 3) (pv 6)) (pa_cons (pv 2) pa_nil)))))) pa_nil)))))))))))), ?_⟩)
  obtain ⟨v, r, B, rfl, hv, ok, q⟩ := h
  have cp := ok.pos
  have cs' := ok.cs
  have hs' := ok.hs
  refine q_asg (i := 1) (ev_cycLen c (ev_var (i := 0) rfl) hv) fun H1 e1 => ?_
  have hv1 := hv.mono e1
  have one : ∀ i : Nat, (1 : Int) + (i : Nat) = ((i + 1 : Nat) : Int) := fun i => by omega
  have first : (given r.c (fun i => perB r (i + 1)) fun i => V.int ((i + 1 : Nat) : Int))[0]? = some (.int ((perOf r : Nat) : Int)) := by
    obtain ⟨p, l, e⟩ := pers_ne ok
    have e2 : given r.c (fun i => perB r (i + 1)) (fun i => V.int ((i + 1 : Nat) : Int)) = (pers r).map fun n => V.int ((n : Nat) : Int) := by
      unfold given pers
      rw [List.filter_map, List.map_map] <;> rfl
    rw [e2]
    unfold perOf
    rw [e] <;> rfl
  refine q_asg (i := 2) (ev_ixNew (i := 0) (el_lcN2 (j := 5) (lo := 1) (n := r.c) (fun i => perB r (i + 1)) (fun i => .int ((i + 1 : Nat) : Int)) (ea_cons ev_c (ea_cons (ev_is (ev_op (ev_var (i := 1) rfl) ev_c rv_addI) (by rw [Int.add_comm])) ea_nil)) (by omega) (by omega) (fun _ => rfl) (fun i H2 e2 lt => et_is (et_and (a := decide (r.c % (i + 1) = 0)) (b := hasP r (i + 1)) (et_B (ev_is (ev_op (ev_op (ev_var (i := 1) rfl) (ev_var (i := 5) rfl) (rv_I (by omega))) ev_c (rv_eqDat (d := .int _) (e := .int 0) (.int _) (.int _) ⟨rfl, by rfl⟩ ⟨rfl, by rfl⟩ rfl)) ?_)) fun _ => et_B (ev_hasP (hv1.mono e2) ok (Nat.succ_pos i) (ev_var (i := 0) rfl) (ev_is (ev_var (i := 5) rfl) (by rw [one])))) rfl) fun i H2 e2 lt _ => ev_is (ev_var (i := 5) rfl) (by rw [one])) ev_c first) fun H2 e2 => ?_
  · congr 1
    rw [one, Int.fmod_eq_emod_of_nonneg _ (by omega), ← Int.natCast_emod]
    show (((r.c % (i + 1) : Nat) : Int) == 0) = decide (r.c % (i + 1) = 0)
    rw [Bool.eq_iff_iff, beq_iff_eq, decide_eq_true_eq]
    omega
  obtain ⟨g1, g2, g3, g4⟩ := pers_of (perOf_mem ok)
  have okw := withPer_ok ok
  have hv2 := hv1.mono e2
  refine q_asgY (i := 0) (yi_withP hv2 ok (by omega) (fun i hi => by obtain ⟨o, eo, _⟩ := hasP_small ok g1 g3 g4 hi; exact ⟨o, eo⟩) (ev_var (i := 0) rfl) (ev_var (i := 2) rfl)) fun v1 H3 e3 ra => ?_
  generalize hw : withP r (perOf r) = r1 at ra okw
  have h1 : r1.h = r.h := by rw [← hw] <;> rfl
  have c1 : r1.c = perOf r := by rw [← hw]; unfold withP Rw.c; simp
  refine q_asg (i := 3) (ev_headLen c (ev_var (i := 0) rfl) ra) fun H4 e4 => ?_
  have ra4 := ra.mono e4
  have tail : ∀ (m : Nat) (H6 : Hp), Ex H4 H6 → m = downS r1 r.h → tSeq (tAsg (tLc (iRng1 (tCons (tVar 2) tNil)) (gName 6) tYes (tMeth C "at" (spAt K C) [] E0 (tVar 0) (tCons (tOp (rAddX K) (tVar 3) (tVar 6)) tNil)) [6]) (gName 4))
      (tRet (tMake C (spRowInit K C) [] E0 (tCons (tSl (rSlY K) (tFld K (tVar 0) "head") tNoPart (tPart (tVar 3))) (tCons (tVar 4) (tCons (tLc (iRng1 (tCons (tVar 2) tNil)) (gName 6) tYes (tCall (spStep K C) [] E0 (tCons (tVar 0) (tCons (tOp (rAddX K) (tVar 3) (tVar 6)) (tCons (tVar 2) tNil)))) [6]) tNil)))))
      { nx := fun x H' => Q .non H', rt := Q } [some v1, some (.int (r.c : Nat)), some (.int (perOf r : Nat)), some (.int (m : Nat)), none, none, none] H6 := by
    intro m H6 e6 em
    have ra6 := ra4.mono e6
    refine q_asgL (i := 4) (el_lcN (j := 6) (n := perOf r) (fun i => ov (r1.at (m + i))) (ea_cons (ev_var (i := 2) rfl) ea_nil) (by omega) (fun _ => rfl) fun i H7 e7 lt => ev_at (ev_var (i := 0) rfl) (ra6.mono e7) okw (ev_is (ev_op (ev_var (i := 3) rfl) (ev_var (i := 6) rfl) rv_addI) (by rw [Int.natCast_add]))) fun D H7 nD e7 hD => ?_
    have ra7 := ra6.mono e7
    obtain ⟨ph, evh, sqh⟩ := ev_head (σ := [some v1, some (.int (r.c : Nat)), some (.int (perOf r : Nat)), some (.int (m : Nat)), some (.ref D), none, none]) (te := tVar 0) c (ev_var (i := 0) rfl) ra7
    have le := down_le r1 r.h
    have elf : lf r = cutF r1 m := by rw [em, ← hw] <;> rfl
    have st : ∀ i, i < perOf r → ∃ o, r1.stp (m + i) (perOf r) = some o := fun i hi => by
      rw [← c1]
      by_cases h : r1.h ≤ m + i
      · obtain ⟨o, eo, _⟩ := ge_stp okw h
        exact ⟨o, eo⟩
      · obtain ⟨o, eo, _⟩ := str_stp okw (down_str r1 r.h (m + i) (by omega) (by omega))
        exact ⟨o, eo⟩
    refine s_retY (P := RowAt K C (cutF r1 m)) (yi_row (ys_row3 (yi_sqT ((yi_slT evh sqh eo_none (eo_some (ev_var (i := 3) rfl))).imp fun v H8 e8 z => ?_)) (yi_sqE (ev_var (i := 4) rfl) ⟨D, rfl, .inr (sq_of ?_)⟩) (yi_sqL (el_is (el_lcN (j := 6) (n := perOf r) (fun i => sv (r1.stp (m + i) (perOf r))) (ea_cons (ev_var (i := 2) rfl) ea_nil) (by omega) (fun _ => rfl) fun i H8 e8 lt => ev_step (ra7.mono e8) okw (ev_var (i := 0) rfl) (ev_is (ev_op (ev_var (i := 3) rfl) (ev_var (i := 6) rfl) rv_addI) (by rw [Int.natCast_add])) (ev_var (i := 2) rfl)) ?_)))) fun v' H8 e8 rb => q v' H8 ((((e1.trans e2).trans e3).trans e4).trans ((e6.trans e7).trans e8)) (by rw [elf]; exact rb)
    · rw [cut_take, ← List.map_take] at z
      exact z
    · rw [hD]
      unfold cutF
      rw [List.map_map, c1] <;> rfl
    · unfold cutF
      rw [List.map_map, c1]
      refine List.map_congr_left fun i hi => ?_
      obtain ⟨o, eo⟩ := st i (List.mem_range.mp hi)
      show sv (r1.stp (m + i) (perOf r)) = ov ((r1.stp (m + i) (perOf r)).getD none)
      rw [eo] <;> rfl
  refine q_while (fun m σ' H' => σ' = [some v1, some (.int (r.c : Nat)), some (.int (perOf r : Nat)), some (.int (m : Nat)), none, none, none] ∧ Ex H4 H' ∧ m ≤ r.h ∧ downS r1 m = downS r1 r.h) r.h ⟨by rw [← h1] <;> rfl, Ex.refl H4, Nat.le_refl _, rfl⟩ fun m σ' H' z => ?_
  obtain ⟨rfl, e5, lm, dm⟩ := z
  cases m with
  | zero =>
    refine ⟨false, et_is (et_and (a := false) (b := false) (et_B (ev_op (ev_var (i := 3) rfl) ev_c rv_I0)) fun z => (nomatch z)) rfl, fun z => (nomatch z), fun _ H6 e6 => tail 0 H6 (e5.trans e6) dm⟩
  | succ m =>
    have ps : ((m + 1 : Nat) : Int) - 1 = ((m : Nat) : Int) := by omega
    refine ⟨strB r1 m, et_is (et_and (a := true) (b := strB r1 m) (et_B (ev_is (ev_op (ev_var (i := 3) rfl) ev_c rv_I0) (by rw [decide_eq_true (show (0 : Int) < ((m + 1 : Nat) : Int) by omega)]))) fun _ => et_B (ev_str (ra4.mono e5) okw (ev_var (i := 0) rfl) (ev_is (ev_op (ev_var (i := 3) rfl) ev_c rv_I0) (by rw [ps])))) (Bool.true_and _), fun st H6 e6 => ?_, fun st H6 e6 => ?_⟩
    · refine ⟨fun σ2 H' => σ2 = [some v1, some (.int (r.c : Nat)), some (.int (perOf r : Nat)), some (.int (m : Nat)), none, none, none] ∧ Ex H4 H', fun σ2 H' z => ⟨m, Nat.lt_succ_self m, z.1, z.2, by omega, ?_⟩, ?_⟩
      · rw [← dm]
        show _ = if strB r1 m then downS r1 m else m + 1
        rw [if_pos st]
      · exact s_asg (ev_is (ev_op (ev_var (i := 3) rfl) ev_c rv_I0) (by rw [ps])) fun H7 e7 => ⟨rfl, (e5.trans e6).trans e7⟩
    · refine tail (m + 1) H6 (e5.trans e6) ?_
      rw [← dm]
      show _ = if strB r1 m then downS r1 m else m + 1
      rw [st] <;> rfl
abbrev s_flat : Stmt := top 46
abbrev sc_flat_N : List Str := ["early", "values", "value"]
theorem sc_flat : FnScope sc_flat_N ["early", "values"] (defScope s_flat) := ⟨rfl, rfl, rfl, by decide +kernel, rfl, by decide +kernel, by decide +kernel⟩
theorem ok_flat (N_Row : HasN P w K mg base "Row" C 1 ["self", "early", "values", "rises"] (spRowInit K C)) (D_least_form : Has P w K mg base "least_form" 4 ["row"] (spLf K C)) (F : FnP K "flat" s_flat f fd) : FnOk P w K mg base CX0 5 f fd ["early", "values"] (spFlat K C) := by
  refine F.ok sc_flat (fun vs H Q E h => by obtain ⟨v, b, l, m, rfl, _⟩ := h; rfl) (fun cdv A outer s H vs Q E hr h => ⟨_, PSs.nox
    (pss_one (ps_ret (pe_has D_least_form (hr.mono (by decide)) (pa_cons (pe_hn N_Row (hr.mono (by decide)) (pa_cons (pv 0) (pa_cons (pv 1) (pa_cons (pe_lc (own := [("value", 2)]) (g := gName 2) (tt := tYes) rfl sc_flat.nd (pi_list (pv 1)) (blkOk_by (N := sc_flat_N) (sc := defScope s_flat) (by decide +kernel)) (fun _ _ _ _ _ => pg_name (i := 2) sc_flat.nd rfl (Or.inl rfl)) (fun _ _ _ _ _ => pts_nil) (fun _ _ _ _ _ => (pe_ifExp (pt_cmpR op_isN (pv 2) pe_non (nomark _)) pe_non pe_int))) pa_nil)))) pa_nil)))), ?_⟩)
  obtain ⟨v, b, l, m, rfl, hv, hb, m0, l1, m1, q⟩ := h
  have e : given (m.map ov).length (fun _ => true) (fun i => ov ((Ol.g m i).map fun _ => 0)) = (flatR l m).steps.map ov := by
    rw [given_all, List.length_map]
    unfold flatR
    refine List.ext_getElem? fun i => ?_
    rw [List.getElem?_map, List.getElem?_map, List.getElem?_map]
    by_cases h : i < m.length
    · rw [List.getElem?_range h, List.getElem?_eq_getElem h]
      have g : Ol.g m i = m[i] := by
        unfold Ol.g
        rw [List.getD_eq_getElem?_getD, List.getElem?_eq_getElem h] <;> rfl
      show some (ov ((Ol.g m i).map fun _ => 0)) = some (ov ((m[i]).map fun _ => 0))
      rw [g]
    · rw [List.getElem?_eq_none (by simp; omega), List.getElem?_eq_none (by omega)] <;> rfl
  refine s_retY (P := RowAt K C (lf (flatR l m))) (yi_lf (flat_ok m0 l1 m1) (yi_row (ys_row3 (yi_sqE (ev_var (i := 0) rfl) hv) (yi_sqE (ev_var (i := 1) rfl) ⟨b, rfl, .inr hb⟩) (yi_sqL (el_is (el_lcL (j := 2) (fun _ => true) (fun i => ov ((Ol.g m i).map fun _ => 0)) (ev_var (i := 1) rfl) hb (by rw [List.length_map]; omega) (fun _ => rfl) (fun i x H1 e1 hx => et_yes) fun i x H1 e1 hx _ => ?_) e))))) fun v' H' e' ra => q v' H' e' ra
  have lt : i < m.length := by
    have := (List.getElem?_eq_some_iff.mp hx).1
    rwa [List.length_map] at this
  rw [g_get lt] at hx
  obtain rfl : ov (Ol.g m i) = x := Option.some.inj hx
  refine ev_is (ev_ite (b := (Ol.g m i).isNone) (et_is (et_B (ev_op (ev_var (i := 2) rfl) ev_c rv_isN)) ov_isN) (fun _ => ev_c) fun _ => ev_c) ?_
  cases Ol.g m i with
  | none => rfl
  | some j => rfl
end
end K07
set_option Elab.async false
set_option linter.all false
set_option maxRecDepth 100000
set_option maxHeartbeats 4000000
namespace K07
open PySem PySem.Spec PyProof.Rows L2 Evl SwX
section
variable {P : Program} {w : World} {K : PySem.W.Frag} {mg : Str → Option Value} {base : Heap} {f : Addr} {fd : FuncData} {C C0 C10 C14 : Addr}
abbrev s_is_integer : Stmt := top 25
abbrev sc_is_integer_N : List Str := ["value"]
theorem sc_is_integer : FnScope sc_is_integer_N ["value"] (defScope s_is_integer) := ⟨rfl, rfl, rfl, by decide +kernel, rfl, by decide +kernel, by decide +kernel⟩
theorem ok_is_integer (m_isinstance : mg "isinstance" = none) (m_int : mg "int" = none) (m_bool : mg "bool" = none) (F : FnP K "is_integer" s_is_integer f fd) : FnOk P w K mg base CX0 1 f fd ["value"] (spIsIntD K) := by
  refine F.ok sc_is_integer (fun vs H Q E h => by obtain ⟨v, D, rfl, _⟩ := h; rfl) (fun cdv A outer s H vs Q E hr h => ⟨_, PSs.nox
    (pss_one (ps_ret (pe_and (pe_callB (isiK K) (by rfl) m_isinstance (by decide +kernel) (pa_cons (pv 0) (pa_cons (pe_bty (n := "int") m_int) pa_nil))) (pe_one (pe_not (pe_callB (isiK K) (by rfl) m_isinstance (by decide +kernel) (pa_cons (pv 0) (pa_cons (pe_bty (n := "bool") m_bool) pa_nil)))))))), ?_⟩)
  obtain ⟨v, D, rfl, da, q⟩ := h
  exact s_ret (ev_andV (ev_isD (ev_var rfl) (fun H' e => da.mono e) (kit_int D)) fun _ => ev_notV (ev_isD (ev_var rfl) (fun H' e => da.mono e) (kit_bl D))) q
abbrev s_is_between : Stmt := top 26
abbrev sc_is_between_N : List Str := ["value", "low", "high"]
theorem sc_is_between : FnScope sc_is_between_N ["value", "low", "high"] (defScope s_is_between) := ⟨rfl, rfl, rfl, by decide +kernel, rfl, by decide +kernel, by decide +kernel⟩
theorem ok_is_between (D_is_integer : Has P w K mg base "is_integer" 1 ["value"] (spIsIntD K)) (F : FnP K "is_between" s_is_between f fd) : FnOk P w K mg base CX0 2 f fd ["value", "low", "high"] (spBtwO K) := by
  refine F.ok sc_is_between (fun vs H Q E h => by obtain ⟨v, D, lo, hi, rfl, _⟩ := h; rfl) (fun cdv A outer s H vs Q E hr h => ⟨_, PSs.nox
    (pss_one (ps_ret (pe_and (pe_has D_is_integer (hr.mono (by decide)) (pa_cons (pv 0) pa_nil)) (pe_and (pe_cmpR op_ge (pv 0) (pv 1) (nomark _)) (pe_one (pe_or (pe_cmpR op_isN (pv 2) pe_non (nomark _)) (pe_one (pe_cmpR op_le (pv 0) (pv 2) (nomark _))))))))), ?_⟩)
  obtain ⟨v, D, lo, hi, rfl, da, q⟩ := h
  have e1 : Ev (tCall (spIsIntD K) [] E0 (tCons (tVar 0) tNil)) [some v, some (.int lo), some (ov hi)] H (.bl (isInt D && !isBl D)) := ev_call (vs := [v]) (ea_cons (ev_var (i := 0) rfl) ea_nil) fun H1 e1 R k E' => ⟨v, D, rfl, da.mono e1, k⟩
  cases c : isInt D && !isBl D with
  | false =>
    rw [c] at e1
    rw [btwO_no c] at q
    exact s_ret (ev_andV (a := false) (b := false) e1 fun z => nomatch z) q
  | true =>
    rw [c] at e1
    obtain ⟨i, rfl⟩ := int_ofO c
    cases da
    cases hi with
    | none =>
      have e : (true && (decide (lo ≤ i) && (true || false))) = btwO lo none (.int i) := by simp [btwO]
      exact s_ret (ev_is (ev_andV (a := true) (b := decide (lo ≤ i) && (true || false)) e1 fun _ => ev_andV (ev_op (ev_var rfl) (ev_var rfl) rv_I0) fun _ => ev_orV (a := true) (b := false) (ev_op (ev_var rfl) ev_c rv_isN) fun z => nomatch z) (by rw [e])) q
    | some h =>
      have e : (true && (decide (lo ≤ i) && (false || decide (i ≤ h)))) = btwO lo (some h) (.int i) := by simp [btwO]
      exact s_ret (ev_is (ev_andV (a := true) (b := decide (lo ≤ i) && (false || decide (i ≤ h))) e1 fun _ => ev_andV (ev_op (ev_var rfl) (ev_var rfl) rv_I0) fun _ => ev_orV (a := false) (ev_op (ev_var rfl) ev_c rv_isN) fun _ => ev_op (ev_var rfl) (ev_var rfl) rv_I0) (by rw [e])) q
abbrev s_check_number : Stmt := top 27
abbrev sc_check_number_N : List Str := ["value", "low", "high"]
theorem sc_check_number : FnScope sc_check_number_N ["value", "low", "high"] (defScope s_check_number) := ⟨rfl, rfl, rfl, by decide +kernel, rfl, by decide +kernel, by decide +kernel⟩
theorem ok_check_number (X0 : ExH P w K mg base 0 C0) (D_is_between : Has P w K mg base "is_between" 2 ["value", "low", "high"] (spBtwO K)) (F : FnP K "check_number" s_check_number f fd) : FnOk P w K mg base (L2.CX P w) 3 f fd ["value", "low", "high"] (spChkN K C0) := by
  refine F.ok sc_check_number (fun vs H Q E h => by obtain ⟨v, D, lo, hi, rfl, _⟩ := h; rfl) (fun cdv A outer s H vs Q E hr h => ⟨_,
    (pss_one (ps_if (pt_not (pt_val (pe_has D_is_between (hr.mono (by decide)) (pa_cons (pv 0) (pa_cons (pv 1) (pa_cons (pv 2) pa_nil)))))) (pss_one (ps_raise rfl (takes_of rfl rfl rfl rfl) (pmk_new X0.D X0.ty (hr.mono (by decide)) (pa_cons (pv 0) pa_nil)))) pss_nil)), ?_⟩)
  obtain ⟨v, D, lo, hi, rfl, da, q, t⟩ := h
  refine s_when (b := !btwO lo hi D) (et_not (et_B (ev_call (vs := [v, .int lo, ov hi]) (ea_cons (ev_var (i := 0) rfl) (ea_cons (ev_var (i := 1) rfl) (ea_cons (ev_var (i := 2) rfl) ea_nil))) fun H1 e1 R k E' => ⟨v, D, lo, hi, rfl, da.mono e1, k⟩))) (fun z H1 e1 => ?_) fun z H1 e1 => ?_
  · exact raise_1 (K := K) ((t (by simpa using z)).from e1) (ev_var (i := 0) rfl)
  · exact q (by simpa using z) H1 e1
abbrev s_check_members : Stmt := top 51
abbrev sc_check_members_N : List Str := ["members", "at", "member"]
theorem sc_check_members : FnScope sc_check_members_N ["members"] (defScope s_check_members) := ⟨rfl, rfl, rfl, by decide +kernel, rfl, by decide +kernel, by decide +kernel⟩
theorem ok_check_members (X10 : ExH P w K mg base 10 C10) (m_isinstance : mg "isinstance" = none) (m_tuple : mg "tuple" = none) (m_enumerate : mg "enumerate" = none) (g_LARGEST : ∃ t, mg "LARGEST" = some (.int 999 t)) (D_is_between : Has P w K mg base "is_between" 2 ["value", "low", "high"] (spBtwO K)) (F : FnP K "check_members" s_check_members f fd) : FnOk P w K mg base (L2.CX P w) 3 f fd ["members"] (spChkM K C10) := by
  refine F.ok sc_check_members (fun vs H Q E h => by obtain ⟨v, D, rfl, _⟩ := h; rfl) (fun cdv A outer s H vs Q E hr h => ⟨_,
    (pss_cons (ps_if (pt_not (pt_val (pe_callB (isiK K) (by rfl) m_isinstance (by decide +kernel) (pa_cons (pv 0) (pa_cons (pe_bty (n := "tuple") m_tuple) pa_nil))))) (pss_one (ps_raise rfl (takes_of rfl rfl rfl rfl) (pmk_new X10.D X10.ty (hr.mono (by decide)) (pa_cons pe_non pa_nil)))) pss_nil) (pss_one (ps_for (passes_of rfl) rfl (pi_enumT (by rfl) m_enumerate (pa_cons (pv 0) pa_nil)) (pg_tup rfl (pgs_cons (pg_name (i := 1) sc_check_members.nd rfl (Or.inl rfl)) (pgs_cons (pg_name (i := 2) sc_check_members.nd rfl (Or.inl rfl)) pgs_nil))) (pss_one (ps_if (pw_or (pt_not (pt_val (pe_has D_is_between (hr.mono (by decide)) (pa_cons (pv 2) (pa_cons pe_int (pa_cons (pe_gint g_LARGEST) pa_nil)))))) (pw_or1 (pw_and (pt_cmpR op_gt (pv 1) pe_int (nomark _)) (pw_and1 (pt_cmpR op_le (pv 2) (pe_ix (ixK K) (pv 0) (pe_op op_sub (pv 1) pe_int) (fun _ _ => rfl)) (nomark _)))).pt)).pt (pss_one (ps_raise rfl (takes_of rfl rfl rfl rfl) (pmk_new X10.D X10.ty (hr.mono (by decide)) (pa_cons (pv 1) pa_nil)))) pss_nil))))), ?_⟩)
  obtain ⟨v, D, rfl, da, q, t⟩ := h
  have t0 : Ev (tCB (rIsi K) (tCons (tVar 0) (tCons (tC (.ty "tuple")) tNil))) [some v, none, none] H (.bl (isTup D)) := ev_isD (ev_var (i := 0) rfl) (fun H' e => da.mono e) (kit_tup D)
  refine q_when (b := !isTup D) (et_not (et_B t0)) (fun z H1 e1 => ?_) fun z H1 e1 => ?_
  · exact raise_1 (K := K) ((t none (chkM_notup (by simpa using z))).from e1) ev_c
  · obtain ⟨ds, rfl⟩ := tup_ofD (D := D) (by simpa using z)
    obtain ⟨p, xs, rfl, hp, pr⟩ := da_items da
    have ln : xs.length = ds.length := (paired_len pr).symm
    have q' : firstB ds.length (badM ds) = none → ∀ H', Ex H H' → Q .non H' := fun z => q (by show (firstB _ _).map some = none; rw [z]; rfl)
    refine ⟨.ref p, rfl, p, _, rfl, ex_t e1 hp, for_enumT (xs := xs) (fun i σ' H' => (∃ a1 a2, σ' = [some (.ref p), a1, a2]) ∧ Ex H H' ∧ ∀ j, j < i → badM ds j = false) ⟨⟨_, _, rfl⟩, e1, fun j h => absurd h (Nat.not_lt_zero j)⟩ (fun i σ' H' _ z => ex_t z.2.1 hp) (fun i x T σ' H' hx hT z => ?_) fun σ' H' z => q' (firstB_none fun j hj => z.2.2 j (by omega)) _ z.2.1⟩
    obtain ⟨⟨a1, a2, rfl⟩, e, pre⟩ := z
    have lt : i < ds.length := by
      have := (List.getElem?_eq_some_iff.mp hx).1
      omega
    have hd : ds[i]? = some ds[i] := List.getElem?_eq_getElem lt
    obtain ⟨y', hy', dx⟩ := SwX.paired_get pr hd
    rw [hx] at hy'
    cases hy'
    generalize ds[i] = d at hd dx
    refine ⟨T, _, rfl, .inl (.inl upd_same), rfl, _, _, rfl, _, _, rfl, rfl, ?_⟩
    have e' := e.trans (Ex.new (o := .tup [.int (i : Nat), x]) hT)
    have tb : ∀ H2, Ex H H2 → Ev (tCall (spBtwO K) [] E0 (tCons (tVar 2) (tCons (tC (.int 0)) (tCons (tC (.int 999)) tNil)))) [some (.ref p), some (.int (i : Nat)), some x] H2 (.bl (btwO 0 (some 999) d)) := fun H2 e2 => ev_call (vs := [x, .int 0, .int 999]) (ea_cons (ev_var (i := 2) rfl) (ea_cons ev_c (ea_cons ev_c ea_nil))) fun H3 e3 R k E' => ⟨x, d, 0, some 999, rfl, dx.mono (e2.trans e3), k⟩
    refine s_when (b := badM ds i) (et_is (et_or (a := !btwO 0 (some 999) d) (b := decide (0 < i) && leD d (at' ds (i - 1))) (et_not (et_B (tb _ e'))) fun y => ?_) (by unfold badM; rw [at_get hd])) (fun y H2 e2 => ?_) fun y H2 e2 => ⟨⟨_, _, rfl⟩, e'.trans e2, fun j hj => ?_⟩
    · obtain ⟨a, rfl, _, _⟩ := btwO_inv (D := d) (by simpa using y)
      cases dx
      refine et_and (a := decide (0 < i)) (et_B (ev_is (ev_op (ev_var (i := 1) rfl) ev_c rv_I0) (by congr 1; rw [Bool.eq_iff_iff, decide_eq_true_eq, decide_eq_true_eq]; omega))) fun i0 => ?_
      have i0 := of_decide_eq_true i0
      have lt1 : i - 1 < ds.length := by omega
      have z := pre (i - 1) (by omega)
      simp only [badM, Bool.or_eq_false_iff, Bool.not_eq_false'] at z
      obtain ⟨b, eb, _, _⟩ := btwO_inv z.1
      have hb : ds[i - 1]? = some (.int b) := by
        rw [List.getElem?_eq_getElem lt1]
        have := at_get (List.getElem?_eq_getElem lt1)
        rw [← this, eb]
      obtain ⟨y2, hy2, dy⟩ := SwX.paired_get pr hb
      cases dy
      rw [eb]
      exact et_B (ev_op (ev_var (i := 2) rfl) (ev_op (ev_var (i := 0) rfl) (ev_is (ev_op (ev_var (i := 1) rfl) ev_c rv_I0) (show V.int ((i : Int) - 1) = .int ((i - 1 : Nat) : Int) by congr 1; omega)) (rv_ixTn (ex_t e' hp) hy2)) rv_I0)
    · exact raise_1 (K := K) ((t (some i) (by show (firstB _ _).map some = _; rw [firstB_some lt pre y] <;> rfl)).from (e'.trans e2)) (ev_var (i := 1) rfl)
    · rcases Nat.lt_succ_iff_lt_or_eq.mp hj with h | rfl
      · exact pre j h
      · exact y
abbrev s_checked : Stmt := top 55
abbrev sc_checked_N : List Str := ["row"]
theorem sc_checked : FnScope sc_checked_N ["row"] (defScope s_checked) := ⟨rfl, rfl, rfl, by decide +kernel, rfl, by decide +kernel, by decide +kernel⟩
theorem ok_checked (X14 : ExH P w K mg base 14 C14) (g_MOST_TOGETHER : ∃ t, mg "MOST_TOGETHER" = some (.int 1000 t)) (M_length : HasM P w K mg base C "length" 1 ["self"] (spLen K C)) (D_least_form : Has P w K mg base "least_form" 4 ["row"] (spLf K C)) (F : FnP K "checked" s_checked f fd) : FnOk P w K mg base (L2.CX P w) 5 f fd ["row"] (spChecked K C C14) := by
  refine F.ok sc_checked (fun vs H Q E h => by obtain ⟨v, r, B, rfl, _⟩ := h; rfl) (fun cdv A outer s H vs Q E hr h => ⟨_,
    (pss_cons (ps_set (i := 0) sc_checked.nd rfl (Or.inl rfl) (pe_has D_least_form (hr.mono (by decide)) (pa_cons (pv 0) pa_nil))) (pss_cons (ps_if (pt_cmpR op_gt (pe_hm0 M_length (hr.mono (by decide)) (pv 0)) (pe_gint g_MOST_TOGETHER) (nomark _)) (pss_one (ps_raise rfl (takes_of rfl rfl rfl rfl) (pmk_new X14.D X14.ty (hr.mono (by decide)) (pa_cons (pe_gint g_MOST_TOGETHER) pa_nil)))) pss_nil) (pss_one (ps_ret (pv 0))))), ?_⟩)
  obtain ⟨v, r, B, rfl, hv, ok, q, t⟩ := h
  refine q_asgY (i := 0) (yi_lf ok (yi_ev (ev_var (i := 0) rfl) |>.imp fun x H1 e1 z => by rw [z]; exact hv.mono e1)) fun v' H1 e1 ra => ?_
  refine q_when (b := decide ((1000 : Int) < (((lf r).h + (lf r).c : Nat) : Int))) (et_B (ev_op (ev_rlen (ev_var (i := 0) rfl) ra) ev_c rv_I0)) (fun z H2 e2 => ?_) fun z H2 e2 => ?_
  · exact raise_1 (K := K) ((t (by have := of_decide_eq_true z; omega)).from (e1.trans e2)) ev_c
  · exact s_ret (ev_var (i := 0) rfl) fun H3 e3 => q (by have := of_decide_eq_false z; omega) v' H3 ((e1.trans e2).trans e3) (ra.mono (e2.trans e3))
end
end K07
set_option Elab.async false
set_option linter.all false
set_option maxRecDepth 100000
set_option maxHeartbeats 4000000
namespace K07
open PySem PySem.Spec PyProof.Rows L2 Evl SwX
section
variable {P : Program} {w : World} {K : PySem.W.Frag} {mg : Str → Option Value} {base : Heap} {f : Addr} {fd : FuncData} {C C0 C10 C14 : Addr}
abbrev s_row_of : Stmt := top 52
abbrev sc_row_of_N : List Str := ["early", "again", "period", "last", "near", "starts", "numbers", "weight", "is_told", "number", "start"]
theorem sc_row_of : FnScope sc_row_of_N ["early", "again", "period"] (defScope s_row_of) := ⟨rfl, rfl, rfl, by decide +kernel, rfl, by decide +kernel, by decide +kernel⟩
theorem ok_row_of (m_max : mg "max" = none) (m_range : mg "range" = none) (D_flat : Has P w K mg base "flat" 5 ["early", "values"] (spFlat K C)) (F : FnP K "row_of" s_row_of f fd) : FnOk P w K mg base CX0 6 f fd ["early", "again", "period"] (spRowOf K C) := by
  refine F.ok sc_row_of (fun vs H Q E h => by obtain ⟨p, q, es, as, n, rfl, _⟩ := h; rfl) (fun cdv A outer s H vs Q E hr h => ⟨_, PSs.nox
    (pss_cons (ps_set (i := 3) sc_row_of.nd rfl (Or.inl rfl) (pe_op (addK K) (pe_op (addK K) (pe_callB (cr_max rfl) (by rfl) m_max (by decide +kernel) (pa_cons (pe_lst (pa_cons (pe_un un_neg pe_int) (StX.pa_star (pv 0) (StX.pa_star (pv 1) pa_nil)))) pa_nil)) pe_int) (pv 2))) (pss_cons (ps_setDc (i := 4) (own := [("number", 9)]) (g := gName 9) (tt := tYes) rfl sc_row_of.nd rfl rfl (sw_trueD rfl rfl rfl (by rfl)) (pi_tup (pv 0)) (blkOk_by (N := sc_row_of_N) (sc := defScope s_row_of) (by decide +kernel)) (fun _ _ _ _ _ => pg_name (i := 9) sc_row_of.nd rfl (Or.inl rfl)) (fun _ _ _ _ _ => pts_nil) (fun _ _ _ _ _ => (pv 9)) (fun _ _ _ _ _ => pe_bl)) (pss_cons (ps_setDc (i := 5) (own := [("start", 10)]) (g := gName 10) (tt := tYes) rfl sc_row_of.nd rfl rfl (sw_trueD rfl rfl rfl (by rfl)) (pi_tup (pe_revT (pv 1))) (blkOk_by (N := sc_row_of_N) (sc := defScope s_row_of) (by decide +kernel)) (fun _ _ _ _ _ => pg_name (i := 10) sc_row_of.nd rfl (Or.inl rfl)) (fun _ _ _ _ _ => pts_nil) (fun _ _ _ _ _ => (pe_op op_modN (pv 10) (pv 2))) (fun _ _ _ _ _ => (pv 10))) (pss_cons (ps_set (i := 6) sc_row_of.nd rfl (Or.inl rfl) (pe_lst pa_nil)) (pss_cons (ps_for PassesOwn.never rfl (pi_range1 (by rfl) m_range (pa_cons (pv 3) pa_nil)) (pg_name (i := 7) sc_row_of.nd rfl (Or.inl rfl)) (pss_cons (ps_set (i := 8) sc_row_of.nd rfl (Or.inl rfl) (pe_or (pe_cmp (pc_din (Nat.lt_of_le_of_lt (Nat.add_le_add_left (show 1 ≤ 64 by decide) _) hr.units) (pv 7) (pv 4))) (pe_one (pe_cmpR op_le (pe_dget2 (Nat.lt_of_le_of_lt (Nat.add_le_add_left (show 1 ≤ 64 by decide) _) hr.units) (pv 5) (pe_op op_modN (pv 7) (pv 2)) (pv 3) ⟨rfl, rfl, rfl, rfl⟩) (pv 7) (nomark _))))) (pss_one (ps_expr (pe_bm PySem.F.plainAttrs_list PySem.F.slot_list_append PySem.F.type_list_append mt_append (pv 6) (pa_cons (pe_ifExp (pt_val (pv 8)) pe_int pe_non) pa_nil)))))) (pss_one (ps_ret (pe_has D_flat (hr.mono (by decide)) (pa_cons (pe_slice (slK K) (pv 6) po_none (po_some (pe_op op_sub (pv 3) (pv 2)))) (pa_cons (pe_slice (slK K) (pv 6) (po_some (pe_op op_sub (pv 3) (pv 2))) po_none) pa_nil)))))))))), ?_⟩)
  obtain ⟨p, t, es, as, n, rfl, hp, ht, me, ma, n0, n1, q⟩ := h
  have es_few : es.length ≤ 1000 := me.few
  have as_few : as.length ≤ 1000 := ma.few
  have top_le : ups (es ++ as) ≤ 1000 := ups_le fun x hx => by
    rcases List.mem_append.mp hx with h | h
    · have := me.hi x h; omega
    · have := ma.hi x h; omega
  have mx := ups_max (es ++ as)
  have lst : EvL (tLst (tCons (tUn (rU fun i => .int (-i)) (tC (.int 1))) (StX.tStar K (tVar 0) (StX.tStar K (tVar 1) tNil)))) [some (.ref p), some (.ref t), some (natV n), none, none, none, none, none, none, none, none] H ((((-1 : Int) :: (es ++ as).map fun n => ((n : Nat) : Int))).map V.int) := el_is (el_lst (ea_cons (ev_un ev_c ru_neg) (ea_starS (ev_var (i := 0) rfl) ⟨p, rfl, .inl hp⟩ (ea_starS (ev_var (i := 1) rfl) ⟨t, rfl, .inl ht⟩ ea_nil))) (by simp; omega)) (by rw [List.append_nil, ← List.map_append, natv_int] <;> rfl)
  generalize htop : ups (es ++ as) = top at top_le mx
  refine q_asg (i := 3) (v := natV (top + n)) (ev_is (ev_op (ev_op (ev_maxL (K := K) lst mx.1 mx.2) ev_c rv_addI) (ev_var (i := 2) rfl) rv_addI) (by show V.int _ = V.int _; congr 1; omega)) fun H1 e1 => ?_
  refine q_asgY (i := 4) (yi_dcN (K := K) (j := 9) id (fun _ => .bl true) ((yi_ev (ev_var (i := 0) rfl)).imp fun v H2 e2 z => ⟨p, z, ex_t (e1.trans e2) hp⟩) (by omega) (fun _ => rfl) (fun m H2 e2 hm => ev_var rfl) fun m H2 e2 hm => ev_c) fun v2 H2 e2 z => ?_
  obtain ⟨dn, rfl, hdn⟩ := z
  refine q_asgY (i := 5) (yi_dcN (K := K) (ns := as.reverse) (j := 10) (· % n) natV (fun H3 e3 Q' q' => (eu_rev (ev_var (i := 1) rfl) (ex_t (e1.trans e2) ht)) H3 e3 _ fun u H4 _ e4 hu => q' (.ref u) H4 e4 ⟨u, rfl, .inl (.inl (by rw [List.map_reverse]; exact hu))⟩) (by simp; omega) (fun _ => rfl) (fun m H3 e3 hm => ev_is (ev_op (ev_var rfl) (ev_var (i := 2) rfl) (rv_I (by omega))) (by show V.int _ = V.int _; rw [Int.fmod_eq_emod_of_nonneg _ (by omega), ← Int.natCast_emod])) fun m H3 e3 hm => ev_var rfl) fun v3 H3 e3 z => ?_
  obtain ⟨ds, rfl, hds⟩ := z
  refine q_asgL (i := 6) (el_lst ea_nil (by simp)) fun l H4 nl e4 hl => ?_
  have dn4 := e4 _ _ (e3 _ _ hdn)
  have ds4 := e4 _ _ hds
  refine q_forR1 (n := ((top + n : Nat) : Int)) (ea_cons (ev_var (i := 3) rfl) ea_nil) (by omega) (fun i σ' H' => (∃ a7 a8, σ' = [some (.ref p), some (.ref t), some (natV n), some (natV (top + n)), some (.ref dn), some (.ref ds), some (.ref l), a7, a8, none, none]) ∧ H' l = some (.lst ((List.range i).map fun w => ov (told es as n w))) ∧ Ex H3 H') (fun H5 e5 => ⟨⟨_, _, rfl⟩, e5 _ _ hl, e4.trans e5⟩) (fun i σ' H5 hi z => ?_) fun σ' H5 z => ?_
  · obtain ⟨⟨a7, a8, rfl⟩, h5, e5⟩ := z
    have lt : i < top + n := by omega
    refine q_asg (i := 8) (v := .bl (inSet es as n i)) (ev_is (ev_orV (a := decide (i ∈ es)) (b := as.any fun s => decide (s ≤ i) && decide ((i - s) % n = 0)) ?_ fun _ => ?_) (by unfold inSet; rfl)) fun H6 e6 => ?_
    · intro H6 e6 Q' q'
      refine ⟨.int (i : Nat), rfl, .ref dn, rfl, dn, _, rfl, DGet.k (k := .inl ((i : Nat) : Int)) (e6 _ _ (e5 _ _ (e3 _ _ hdn))), ?_⟩
      rw [val_near]
      exact q' H6 (Ex.refl H6)
    · refine ev_is (ev_op (y := natV i) (x := natV (((as.find? fun s => decide (s % n = i % n))).getD (top + n))) ?_ (ev_var (i := 7) rfl) rv_I0) (by rw [← find_any ma.asc lt]; congr 1; rw [Bool.eq_iff_iff, decide_eq_true_eq, decide_eq_true_eq]; omega)
      intro H6 e6 Q' q'
      have d6 := e6 _ _ (e5 _ _ hds)
      have md : ((i : Nat) : Int).fmod (n : Nat) = ((i % n : Nat) : Int) := by rw [Int.fmod_eq_emod_of_nonneg _ (by omega), ← Int.natCast_emod]
      refine ⟨.ref ds, rfl, ds, rfl, .inl ⟨_, .inl d6⟩, .int (i : Nat), rfl, natV n, rfl, _, _, rfl, rfl, (by omega : ((n : Nat) : Int) ≠ 0), natV (top + n), rfl, _, DGet.k (k := .inl (((i : Nat) : Int).fmod (n : Nat))) d6, ?_⟩
      rw [md, val_starts]
      have e : ((as.find? fun s => decide (s % n = i % n)).map natV).getD (natV (top + n)) = natV ((as.find? fun s => decide (s % n = i % n)).getD (top + n)) := by
        cases as.find? fun s => decide (s % n = i % n) with
        | none => rfl
        | some s => rfl
      rw [e]
      exact q' H6 (Ex.refl H6)
    · have h6 := e6 _ _ h5
      refine s_app h6 (ev_var (i := 6) rfl) (v := ov (told es as n i)) (ev_is (ev_ite (b := inSet es as n i) (et_B (ev_var (i := 8) rfl)) (fun _ => ev_c) fun _ => ev_c) (told_ov es as n i)) (by simp; omega) fun H7 e7 => ⟨⟨_, _, rfl⟩, ?_, ?_⟩
      · rw [upd_same, List.range_succ, List.map_append] <;> rfl
      · intro b o hb
        have nb : b ≠ l := fun z => by rw [z, nl] at hb; cases hb
        rw [upd_ne nb]
        exact e7 _ _ (e6 _ _ (e5 _ _ hb))
  · obtain ⟨⟨a7, a8, rfl⟩, h5, e5⟩ := z
    rw [Int.toNat_natCast] at h5
    have cut : ((top + n : Nat) : Int) - (n : Nat) = ((top : Nat) : Int) := by omega
    have hi : Ev (tOp (rI0 fun i j => .int (i - j)) (tVar 3) (tVar 2)) [some (.ref p), some (.ref t), some (natV n), some (natV (top + n)), some (.ref dn), some (.ref ds), some (.ref l), a7, a8, none, none] H5 (.int (top : Nat)) := ev_is (ev_op (ev_var (i := 3) rfl) (ev_var (i := 2) rfl) rv_I0) (by rw [cut])
    have e : rowR es as n = flatR ((List.range top).map (told es as n)) ((List.range n).map fun i => told es as n (top + i)) := by unfold rowR; rw [htop]
    refine s_retY (P := RowAt K C (lf (rowR es as n))) (by rw [e]; exact yi_flat (yi_sqL (el_is (el_slL (ev_var (i := 6) rfl) (sq_of h5) eo_none (eo_some hi)) (by rw [cut_take, ← List.map_take, List.take_range, Nat.min_eq_left (by omega), List.map_map] <;> rfl))) (el_is (el_slL (ev_var (i := 6) rfl) (sq_of h5) (eo_some hi) eo_none) (by rw [cut_drop, ← List.map_drop, List.map_map]; exact drop_range _ _ _)) (by simp; omega) (by simp; omega) (by simp; omega)) fun v' H6 e6 ra => q v' H6 ((((e1.trans e2).trans e3).trans e5).trans e6) ra
end
end K07
set_option Elab.async false
set_option linter.all false
set_option maxRecDepth 100000
set_option maxHeartbeats 4000000
namespace K07
open PySem PySem.Spec PyProof.Rows L2 Evl SwX
section
variable {P : Program} {w : World} {K : PySem.W.Frag} {mg : Str → Option Value} {base : Heap} {f : Addr} {fd : FuncData} {C C0 C10 C14 : Addr}
abbrev s_members_from : Stmt := top 57
abbrev sc_members_from_N : List Str := ["row", "first", "last", "number"]
theorem sc_members_from : FnScope sc_members_from_N ["row", "first", "last"] (defScope s_members_from) := ⟨rfl, rfl, rfl, by decide +kernel, rfl, by decide +kernel, by decide +kernel⟩
theorem ok_members_from (m_range : mg "range" = none) (M_at : HasM P w K mg base C "at" 1 ["self", "weight"] (spAt K C)) (F : FnP K "members_from" s_members_from f fd) : FnOk P w K mg base CX0 2 f fd ["row", "first", "last"] (spMem K C) := by
  refine F.ok sc_members_from (fun vs H Q E h => by obtain ⟨v, r, a, b, B, rfl, _⟩ := h; rfl) (fun cdv A outer s H vs Q E hr h => ⟨_, PSs.nox
    (pss_one (ps_ret (pe_lc (own := [("number", 3)]) (g := gName 3) rfl sc_members_from.nd (pi_range2 (by rfl) m_range (pa_cons (pv 1) (pa_cons (pv 2) pa_nil))) (blkOk_by (N := sc_members_from_N) (sc := defScope s_members_from) (by decide +kernel)) (fun _ _ _ _ _ => pg_name (i := 3) sc_members_from.nd rfl (Or.inl rfl)) (fun _ _ _ _ _ => (pts_one (pt_cmpR op_notN (pe_hm M_at (hr.mono (by decide)) (pv 0) (pa_cons (pv 3) pa_nil)) pe_non (nomark _)))) (fun _ _ _ _ _ => (pv 3))))), ?_⟩)
  obtain ⟨v, r, a, b, B, rfl, hv, ok, ha, hb, q⟩ := h
  have eb : (natV b : V) = .int ((a : Int) + ((b - a : Nat) : Int)) := by show V.int _ = V.int _; congr 1; omega
  refine (el_lcN2 (j := 3) (lo := (a : Int)) (n := b - a) (fun i => (r.at (a + i)).isSome) (fun i => natV (a + i)) (ea_cons (ev_var (i := 1) rfl) (ea_cons (ev_is (ev_var (i := 2) rfl) eb) ea_nil)) (by omega) (by omega) (fun _ => rfl) (fun i H1 e1 lt => et_is (et_B (ev_op (ev_at (w := a + i) (ev_var (i := 0) rfl) (hv.mono e1) ok (ev_is (ev_var (i := 3) rfl) (by rw [Int.natCast_add]))) ev_c rv_notN)) (by rw [ov_isN]; cases r.at (a + i) <;> rfl)) fun i H1 e1 lt _ => ev_is (ev_var (i := 3) rfl) (by show V.int _ = V.int _; rw [Int.natCast_add])) H (Ex.refl H) _ fun u H1 n1 e1 hu => q u H1 n1 e1 (by rw [hu]; unfold given memL; rw [List.map_map] <;> rfl)
abbrev s_text_of_row : Stmt := top 58
abbrev sc_text_of_row_N : List Str := ["row", "first", "again", "words", "number"]
theorem sc_text_of_row : FnScope sc_text_of_row_N ["row"] (defScope s_text_of_row) := ⟨rfl, rfl, rfl, by decide +kernel, rfl, by decide +kernel, by decide +kernel⟩
theorem ok_text_of_row (c : RowC K C) (m_len : mg "len" = none) (m_str : mg "str" = none) (M_length : HasM P w K mg base C "length" 1 ["self"] (spLen K C)) (D_members_from : Has P w K mg base "members_from" 2 ["row", "first", "last"] (spMem K C)) (F : FnP K "text_of_row" s_text_of_row f fd) : FnOk P w K mg base CX0 3 f fd ["row"] (spTextR K C) := by
  refine F.ok sc_text_of_row (fun vs H Q E h => by obtain ⟨v, r, B, rfl, _⟩ := h; rfl) (fun cdv A outer s H vs Q E hr h => ⟨_, PSs.nox
    (pss_cons (ps_set (i := 1) sc_text_of_row.nd rfl (Or.inl rfl) (pe_callB (lenK K) (by rfl) m_len (by decide +kernel) (pa_cons (fldK K (pv 0) rfl) pa_nil))) (pss_cons (ps_set (i := 2) sc_text_of_row.nd rfl (Or.inl rfl) (pe_has D_members_from (hr.mono (by decide)) (pa_cons (pv 0) (pa_cons (pv 1) (pa_cons (pe_hm0 M_length (hr.mono (by decide)) (pv 0)) pa_nil))))) (pss_cons (ps_setLc (i := 3) (own := [("number", 4)]) (g := gName 4) (tt := tYes) rfl sc_text_of_row.nd rfl rfl (sw_true rfl rfl rfl (by rfl)) (pi_list (pe_has D_members_from (hr.mono (by decide)) (pa_cons (pv 0) (pa_cons pe_int (pa_cons (pv 1) pa_nil))))) (blkOk_by (N := sc_text_of_row_N) (sc := defScope s_text_of_row) (by decide +kernel)) (fun _ _ _ _ _ => pg_name (i := 4) sc_text_of_row.nd rfl (Or.inl rfl)) (fun _ _ _ _ _ => pts_nil) (fun _ _ _ _ _ => (pe_callTy call_strY (by rfl) m_str (by decide +kernel) (pa_cons (pv 4) pa_nil)))) (pss_cons (ps_if (pt_cmpR (neK K hr) (pv 2) (pe_lst pa_nil) (nomark _)) (pss_one (ps_set (i := 3) sc_text_of_row.nd rfl (Or.inl rfl) (pe_lst (StX.pa_star (pv 3) (pa_cons pe_str (StX.pa_star (pe_lc (own := [("number", 4)]) (g := gName 4) (tt := tYes) rfl sc_text_of_row.nd (pi_list (pv 2)) (blkOk_by (N := sc_text_of_row_N) (sc := defScope s_text_of_row) (by decide +kernel)) (fun _ _ _ _ _ => pg_name (i := 4) sc_text_of_row.nd rfl (Or.inl rfl)) (fun _ _ _ _ _ => pts_nil) (fun _ _ _ _ _ => (pe_callTy call_strY (by rfl) m_str (by decide +kernel) (pa_cons (pv 4) pa_nil)))) (pa_cons pe_str (pa_cons (pe_callTy call_strY (by rfl) m_str (by decide +kernel) (pa_cons (pe_callB (lenK K) (by rfl) m_len (by decide +kernel) (pa_cons (fldK K (pv 0) rfl) pa_nil)) pa_nil)) pa_nil)))))))) pss_nil) (pss_one (ps_ret (pe_ifExp (pt_cmpR (neK K hr) (pv 3) (pe_lst pa_nil) (nomark _)) (pe_join pe_str (pv 3)) pe_str))))))), ?_⟩)
  obtain ⟨v, r, B, rfl, hv, ok, le, q⟩ := h
  have s1 : ("then" : Str) = SX.S thenL := by decide +kernel
  have s2 : ("by" : Str) = SX.S byL := by decide +kernel
  have s3 : (" " : Str) = SX.S [32] := by decide +kernel
  have s4 : ("none" : Str) = SX.S noneL := by decide +kernel
  rw [s1, s2, s3, s4]
  have cs' := ok.cs
  have small : ∀ n ∈ memL r r.h (r.h + r.c), n ≤ 9999 := fun n hn => by have := memL_lt hn; omega
  have small0 : ∀ n ∈ memL r 0 r.h, n ≤ 9999 := fun n hn => by have := memL_lt hn; omega
  have la := memL_len r r.h (r.h + r.c)
  have l0 := memL_len r 0 r.h
  refine q_asg (i := 1) (ev_headLen c (ev_var (i := 0) rfl) hv) fun H1 e1 => ?_
  have hv1 := hv.mono e1
  refine q_asgL (i := 2) (el_mem (a := r.h) (b := r.h + r.c) hv1 ok (by omega) (by omega) (ev_var (i := 0) rfl) (ev_var (i := 1) rfl) (ev_rlen (ev_var (i := 0) rfl) hv1)) fun D H2 nD e2 hD => ?_
  have hv2 := hv1.mono e2
  refine q_asgL (i := 3) (xs := ((memL r 0 r.h).map TL.numL).map fun x => .str (SX.S x)) (el_is (el_lcNL (K := K) (j := 4) (fun _ => true) (fun i => .str (SX.S (TL.numL ((memL r 0 r.h).getD i 0)))) (el_mem (a := 0) (b := r.h) hv2 ok (by omega) (by omega) (ev_var (i := 0) rfl) ev_c (ev_var (i := 1) rfl)) (by simp; omega) (fun _ => rfl) (fun i x H3 e3 hx => et_yes) fun i x H3 e3 hx _ => ?_) ?_) fun D2 H3 nD2 e3 hD2 => ?_
  · obtain ⟨n, hn, rfl⟩ := nat_get hx
    rw [List.getD_eq_getElem?_getD, hn]
    exact ev_strN (ev_var (i := 4) rfl) (by have := small0 n (List.mem_of_getElem? hn); show n ≤ 100000; omega)
  · exact words_given _
  have words0 : ∀ x ∈ (memL r 0 r.h).map TL.numL, x.length ≤ 4 := fun x hx => by
    obtain ⟨n, hn, rfl⟩ := List.mem_map.mp hx
    exact numL_small (small0 n hn)
  have daD : ∀ H', Ex H3 H' → Da K H' (.ref D) (.list ((memL r r.h (r.h + r.c)).map fun n => .int (n : Nat))) := fun H' e' => da_list (e' _ _ (e3 _ _ hD)) (da_nats _)
  -- the end
  have fin : ∀ (ws : List (List Nat)) (p : Addr) (H4 : Hp), Ex H3 H4 → H4 p = some (.lst (ws.map fun x => .str (SX.S x))) → wordsS (memL r 0 r.h) (memL r r.h (r.h + r.c)) r.c = ws → (∀ x ∈ ws, WordOk x) → ws.length ≤ 3000 →
      ∀ a4, (tRet (tIf (tTest (tOp (fun x y H Q => rNe x y H Q ∨ rEqDat K not x y H Q) (tVar 3) (tLst tNil))) (tM1 (rJoin K) (tC (.str (SX.S [32]))) (tVar 3)) (tC (.str (SX.S noneL))))) { nx := fun _ H' => Q .non H', rt := Q } [some v, some (natV r.h), some (.ref D), some (.ref p), a4] H4 := by
    intro ws p H4 e4 hp ew wl wn a4
    refine s_ret (v := .str (SX.S (textR r))) (ev_if (b := !decide (ws = [])) (et_B (ev_opL (ev_var (i := 3) rfl) (el_lst ea_nil (by simp)) fun u H5 hu e5 => rv_neDat (d := .list (ws.map fun x => .str (SX.S x))) (e := .list []) (da_list (e5 _ _ hp) (da_strs ws)) (da_list hu .nil) (pl_atmL fun x hx => atm_word (wl x hx)) ⟨rfl, by decide⟩ (by rw [eqv_nilL, Bool.eq_iff_iff, decide_eq_true_eq, decide_eq_true_eq, List.map_eq_nil_iff]))) (fun z => ?_) fun z => ?_) fun H5 e5 => q H5 ((((e1.trans e2).trans e3).trans e4).trans e5)
    · have e : textR r = TL.joinL [32] ws := by unfold textR textS; rw [ew, if_neg (by simpa using z)]
      rw [e]
      exact ev_joinW (B := 10) ev_c (ev_var (i := 3) rfl) (.inl (sq_of (by rw [hp, List.map_map] <;> rfl))) (fun x hx => (wl x hx).1) ⟨by decide, by omega, by decide⟩
    · have e : textR r = noneL := by unfold textR textS; rw [ew, if_pos (by simpa using z)]
      rw [e]
      exact ev_c
  have wok := words_ok (es := memL r 0 r.h) (as := memL r r.h (r.h + r.c)) (p := r.c) small0 small (by omega)
  have wlen := words_len (memL r 0 r.h) (memL r r.h (r.h + r.c)) r.c
  refine q_if (b := !decide (memL r r.h (r.h + r.c) = [])) (et_B (ev_opL (ev_var (i := 2) rfl) (el_lst ea_nil (by simp)) fun u H4 hu e4 => rv_neDat (d := .list ((memL r r.h (r.h + r.c)).map fun n => .int (n : Nat))) (e := .list []) (daD _ e4) (da_list hu .nil) (pl_atmL fun n _ => ⟨rfl, Nat.le_refl _, rfl⟩) ⟨rfl, by decide⟩ (by rw [eqv_nilL, Bool.eq_iff_iff, decide_eq_true_eq, decide_eq_true_eq, List.map_eq_nil_iff]))) (fun z H4 e4 => ?_) fun z H4 e4 => ?_
  · have ne : memL r r.h (r.h + r.c) ≠ [] := by simpa using z
    have ew : wordsS (memL r 0 r.h) (memL r r.h (r.h + r.c)) r.c = (memL r 0 r.h).map TL.numL ++ ([thenL] ++ (memL r r.h (r.h + r.c)).map TL.numL ++ [byL, TL.numL r.c]) := by unfold wordsS; rw [if_neg ne]
    have hv4 := hv2.mono (e3.trans e4)
    have hD4 := e4 _ _ (e3 _ _ hD)
    have hD24 := e4 _ _ hD2
    refine s_asgL (i := 3) (xs := (wordsS (memL r 0 r.h) (memL r r.h (r.h + r.c)) r.c).map fun x => .str (SX.S x)) (el_is (el_lst (ea_starS (ev_var (i := 3) rfl) ⟨D2, rfl, .inr (sq_of hD24)⟩ (ea_cons ev_c (ea_starL (el_is (el_lcL (K := K) (j := 4) (fun _ => true) (fun i => .str (SX.S (TL.numL ((memL r r.h (r.h + r.c)).getD i 0)))) (ev_var (i := 2) rfl) (sq_of hD4) (by simp; omega) (fun _ => rfl) (fun i x H5 e5 hx => et_yes) fun i x H5 e5 hx _ => ?_) (words_given _)) (ea_cons ev_c (ea_cons (ev_strN (ev_cycLen c (ev_var (i := 0) rfl) hv4) (by omega)) ea_nil))))) (by simp; omega)) (by rw [ew]; simp)) fun p H5 n5 e5 h5 => fin _ p H5 (e4.trans e5) h5 rfl wok (by omega) _
    obtain ⟨n, hn, rfl⟩ := nat_get hx
    rw [List.getD_eq_getElem?_getD, hn]
    exact ev_strN (ev_var (i := 4) rfl) (by have := small n (List.mem_of_getElem? hn); show n ≤ 100000; omega)
  · have em : memL r r.h (r.h + r.c) = [] := by simpa using z
    have ew : wordsS (memL r 0 r.h) (memL r r.h (r.h + r.c)) r.c = (memL r 0 r.h).map TL.numL := by unfold wordsS; rw [if_pos em, List.append_nil]
    exact fin _ D2 H4 e4 (e4 _ _ hD2) ew (by rw [← ew]; exact wok) (by simp; omega) _
end
end K07
set_option Elab.async false
set_option linter.all false
set_option maxRecDepth 100000
set_option maxHeartbeats 4000000
namespace K07
open PySem PySem.Spec PyProof.Rows L2 Evl SwX
section
variable {P : Program} {w : World} {K : PySem.W.Frag} {mg : Str → Option Value} {base : Heap} {f : Addr} {fd : FuncData} {Cw Cr C0 C10 C14 : Addr}
abbrev s_W_init : Stmt := inClass (top 62) 0
abbrev sc_W_init_N : List Str := ["self", "early", "again", "period"]
theorem sc_W_init : FnScope sc_W_init_N ["self", "early", "again", "period"] (defScope s_W_init) := ⟨rfl, rfl, rfl, by decide +kernel, rfl, by decide +kernel, by decide +kernel⟩
theorem ok_W_init {dvs : List V} (c : SetC K Cw Cr) (g_MOST_TOGETHER : ∃ t, mg "MOST_TOGETHER" = some (.int 1000 t)) (D_check_members : HasE P w K mg base "check_members" 3 ["members"] (spChkM K C10)) (D_check_number : HasE P w K mg base "check_number" 3 ["value", "low", "high"] (spChkN K C0)) (D_checked : HasE P w K mg base "checked" 5 ["row"] (spChecked K Cr C14)) (D_row_of : Has P w K mg base "row_of" 6 ["early", "again", "period"] (spRowOf K Cr)) (F : FnM K "__init__" "Weights.__init__" s_W_init dvs f fd) : FnOk P w K mg base (L2.CX P w) 7 f fd ["self", "early", "again", "period"] (spWInit K Cw Cr C0 C10 C14) := by
  refine F.ok sc_W_init (fun vs H Q E h => by obtain ⟨a, dx, v1, v2, v3, D1, D2, D3, rfl, _⟩ := h; rfl) (fun cdv A outer s H vs Q E hr h => ⟨_,
    (pss_cons (ps_expr (pe_hasE D_check_members (hr.mono (by decide)) (pass_E (takes_of rfl rfl rfl rfl) fun _ _ _ _ z => z) (pa_cons (pv 1) pa_nil))) (pss_cons (ps_expr (pe_hasE D_check_members (hr.mono (by decide)) (pass_E (takes_of rfl rfl rfl rfl) fun _ _ _ _ z => z) (pa_cons (pv 2) pa_nil))) (pss_cons (ps_expr (pe_hasE D_check_number (hr.mono (by decide)) (pass_E (takes_of rfl rfl rfl rfl) fun _ _ _ _ z => z) (pa_cons (pv 3) (pa_cons pe_int (pa_cons (pe_gint g_MOST_TOGETHER) pa_nil))))) (pss_one (ps_fld (pv 0) (pe_hasE D_checked (hr.mono (by decide)) (pass_E (takes_of rfl rfl rfl rfl) fun _ _ _ _ z => z) (pa_cons (pe_has D_row_of (hr.mono (by decide)) (pa_cons (pv 1) (pa_cons (pv 2) (pa_cons (pv 3) pa_nil)))) pa_nil)) rfl))))), ?_⟩)
  obtain ⟨a, dx, v1, v2, v3, D1, D2, D3, rfl, h0, d1, d2, d3, t1, t2, t3, q⟩ := h
  refine ⟨v1, rfl, v1, D1, rfl, d1.mono less_ex, fun c1 H1 e1 => ?_, t1⟩
  refine ⟨v2, rfl, v2, D2, rfl, d2.mono (less_ex.trans e1), fun c2 H2 e2 => ?_, fun r z => (t2 c1 r z).from e1⟩
  have E2 := e1.trans e2
  refine ⟨v3, rfl, v3, D3, 1, some 1000, rfl, d3.mono (less_ex.trans E2), fun c3 H3 e3 => ?_, fun z => (t3 c1 c2 z).from E2⟩
  have E3 := E2.trans e3
  obtain ⟨es, rfl, me⟩ := chkM_none c1
  obtain ⟨as, rfl, ma⟩ := chkM_none c2
  obtain ⟨i, rfl, i0, i1⟩ := btwO_inv c3
  obtain ⟨n, rfl⟩ := Int.eq_ofNat_of_zero_le (show 0 ≤ i by omega)
  obtain ⟨t4, q⟩ := q es as n rfl rfl rfl me ma (by omega) (by omega)
  obtain ⟨p1, rfl, s1⟩ := da_natI d1
  obtain ⟨p2, rfl, s2⟩ := da_natI d2
  cases d3
  refine ⟨.ref p1, rfl, .ref p2, rfl, natV n, rfl, p1, p2, es, as, n, rfl, ex_t (less_ex.trans E3) s1, ex_t (less_ex.trans E3) s2, me, ma, by omega, by omega, fun v' H4 e4 ra => ?_⟩
  have ok := lf_ok (rowR_ok me ma (by omega) (by omega) : RwOk 0 (rowR es as n))
  refine ⟨v', lf (rowR es as n), 0, rfl, ra, ok, fun le v2 H5 e5 rb => ?_, fun gt => (t4 gt).from (E3.trans e4)⟩
  have E5 := (E3.trans e4).trans e5
  refine ⟨.ref a, rfl, a, Cw, dx, [], rfl, E5 _ _ h0, c.o.cls, c.n1, by simp, ?_⟩
  have E6 : Ex (less a H) (upd H5 a (.ins Cw dx (putF "told" v2 []))) := less_upd (less_ex.trans E5)
  exact q le _ E6 ⟨a, dx, v2, rfl, upd_same, row_upd (E5 _ _ h0) rb⟩
end
end K07
set_option Elab.async false
set_option linter.all false
set_option maxRecDepth 100000
set_option maxHeartbeats 4000000
namespace K07
open PySem PySem.Spec PyProof.Rows L2 Evl SwX
section
variable {P : Program} {w : World} {K : PySem.W.Frag} {mg : Str → Option Value} {base : Heap} {f : Addr} {fd : FuncData} {Cw Cr C0 C10 C14 : Addr}
abbrev s_W_early : Stmt := inClass (top 62) 2
abbrev sc_W_early_N : List Str := ["self"]
theorem sc_W_early : FnScope sc_W_early_N ["self"] (defScope s_W_early) := ⟨rfl, rfl, rfl, by decide +kernel, rfl, by decide +kernel, by decide +kernel⟩
theorem ok_W_early (c : SetC K Cw Cr) (m_len : mg "len" = none) (F : FnM K "early" "Weights.early" s_W_early [] f fd) : FnOk P w K mg base CX0 1 f fd ["self"] (spSetN K Cw Cr fun r => natV r.h) := by
  refine F.ok sc_W_early (fun vs H Q E h => by obtain ⟨v, r, B, rfl, _⟩ := h; rfl) (fun cdv A outer s H vs Q E hr h => ⟨_, PSs.nox
    (pss_one (ps_ret (pe_callB (lenK K) (by rfl) m_len (by decide +kernel) (pa_cons (fldK K (fldK K (pv 0) rfl) rfl) pa_nil)))), ?_⟩)
  obtain ⟨v, r, B, rfl, hv, ok, le, q⟩ := h
  obtain ⟨x, ex, ra⟩ := ev_told (σ := [some v]) (te := tVar 0) c (ev_var (i := 0) rfl) hv
  exact s_ret (ev_headLen c.r ex ra) q
abbrev s_W_period : Stmt := inClass (top 62) 3
abbrev sc_W_period_N : List Str := ["self"]
theorem sc_W_period : FnScope sc_W_period_N ["self"] (defScope s_W_period) := ⟨rfl, rfl, rfl, by decide +kernel, rfl, by decide +kernel, by decide +kernel⟩
theorem ok_W_period (c : SetC K Cw Cr) (m_len : mg "len" = none) (F : FnM K "period" "Weights.period" s_W_period [] f fd) : FnOk P w K mg base CX0 1 f fd ["self"] (spSetN K Cw Cr fun r => natV r.c) := by
  refine F.ok sc_W_period (fun vs H Q E h => by obtain ⟨v, r, B, rfl, _⟩ := h; rfl) (fun cdv A outer s H vs Q E hr h => ⟨_, PSs.nox
    (pss_one (ps_ret (pe_callB (lenK K) (by rfl) m_len (by decide +kernel) (pa_cons (fldK K (fldK K (pv 0) rfl) rfl) pa_nil)))), ?_⟩)
  obtain ⟨v, r, B, rfl, hv, ok, le, q⟩ := h
  obtain ⟨x, ex, ra⟩ := ev_told (σ := [some v]) (te := tVar 0) c (ev_var (i := 0) rfl) hv
  exact s_ret (ev_cycLen c.r ex ra) q
abbrev s_W_contains : Stmt := inClass (top 62) 10
abbrev sc_W_contains_N : List Str := ["self", "value"]
theorem sc_W_contains : FnScope sc_W_contains_N ["self", "value"] (defScope s_W_contains) := ⟨rfl, rfl, rfl, by decide +kernel, rfl, by decide +kernel, by decide +kernel⟩
theorem ok_W_contains (c : SetC K Cw Cr) (M_at : HasM P w K mg base Cr "at" 1 ["self", "weight"] (spAt K Cr)) (D_is_integer : Has P w K mg base "is_integer" 1 ["value"] (spIsIntD K)) (F : FnM K "__contains__" "Weights.__contains__" s_W_contains [] f fd) : FnOk P w K mg base CX0 2 f fd ["self", "value"] (spSetIn K Cw Cr) := by
  refine F.ok sc_W_contains (fun vs H Q E h => by obtain ⟨v, x, r, D, B, rfl, _⟩ := h; rfl) (fun cdv A outer s H vs Q E hr h => ⟨_, PSs.nox
    (pss_one (ps_ret (pe_and (pe_has D_is_integer (hr.mono (by decide)) (pa_cons (pv 1) pa_nil)) (pe_and (pe_cmpR op_ge (pv 1) pe_int (nomark _)) (pe_one (pe_cmpR op_notN (pe_hm M_at (hr.mono (by decide)) (fldK K (pv 0) rfl) (pa_cons (pv 1) pa_nil)) pe_non (nomark _))))))), ?_⟩)
  obtain ⟨v, x, r, D, B, rfl, hv, ok, da, q⟩ := h
  have e1 : Ev (tCall (spIsIntD K) [] E0 (tCons (tVar 1) tNil)) [some v, some x] H (.bl (isInt D && !isBl D)) := ev_call (vs := [x]) (ea_cons (ev_var (i := 1) rfl) ea_nil) fun H1 e1 R k E' => ⟨x, D, rfl, da.mono e1, k⟩
  cases cc : isInt D && !isBl D with
  | false =>
    rw [cc] at e1
    have e2 : inW r D = false := by cases D <;> first | rfl | simp [SwX.isInt, isBl] at cc
    rw [e2] at q
    exact s_ret (ev_andV (a := false) (b := false) e1 fun z => nomatch z) q
  | true =>
    rw [cc] at e1
    obtain ⟨i, rfl⟩ := int_ofO cc
    cases da
    refine s_ret (v := .bl (inW r (.int i))) (ev_is (ev_andV (a := true) (b := decide (0 ≤ i) && (r.at i.toNat).isSome) e1 fun _ => ev_andV (ev_op (ev_var (i := 1) rfl) ev_c rv_I0) fun z => ?_) (by rw [Bool.true_and] <;> rfl)) q
    have i0 : 0 ≤ i := of_decide_eq_true z
    obtain ⟨y, ey, ra⟩ := ev_told (σ := [some v, some (.int i)]) (te := tVar 0) c (ev_var (i := 0) rfl) hv
    exact ev_is (ev_op (ev_at (w := i.toNat) ey ra ok (ev_is (ev_var (i := 1) rfl) (by rw [Int.toNat_of_nonneg i0]))) ev_c rv_notN) (by rw [ov_isN]; cases r.at i.toNat <;> rfl)
abbrev s_W_onward : Stmt := inClass (top 62) 5
abbrev sc_W_onward_N : List Str := ["self", "weight", "last", "number"]
theorem sc_W_onward : FnScope sc_W_onward_N ["self", "weight"] (defScope s_W_onward) := ⟨rfl, rfl, rfl, by decide +kernel, rfl, by decide +kernel, by decide +kernel⟩
theorem ok_W_onward (c : SetC K Cw Cr) (m_max : mg "max" = none) (m_range : mg "range" = none) (S : SetIn P w K mg base Cw Cr) (P_early : HasP P w K mg base Cw "early" 1 ["self"] (spSetN K Cw Cr fun r => natV r.h)) (P_period : HasP P w K mg base Cw "period" 1 ["self"] (spSetN K Cw Cr fun r => natV r.c)) (D_check_number : HasE P w K mg base "check_number" 3 ["value", "low", "high"] (spChkN K C0)) (F : FnM K "onward" "Weights.onward" s_W_onward [] f fd) : FnOk P w K mg base CX0 4 f fd ["self", "weight"] (spOnw K Cw Cr) := by
  refine F.ok sc_W_onward (fun vs H Q E h => by obtain ⟨v, r, a, B, rfl, _⟩ := h; rfl) (fun cdv A outer s H vs Q E hr h => ⟨_, PSs.nox
    (pss_cons (ps_expr (pe_hasE D_check_number (hr.mono (by decide)) passE0 (pa_cons (pv 1) (pa_cons pe_int (pa_cons pe_non pa_nil))))) (pss_cons (ps_set (i := 2) sc_W_onward.nd rfl (Or.inl rfl) (pe_op (addK K) (pe_callB (call_max2 rfl) (by rfl) m_max (by decide +kernel) (pa_cons (pv 1) (pa_cons (pe_hp P_early (hr.mono (by decide)) (pv 0)) pa_nil))) (pe_hp P_period (hr.mono (by decide)) (pv 0)))) (pss_cons (ps_for PassesOwn.never rfl (pi_range2 (by rfl) m_range (pa_cons (pv 1) (pa_cons (pv 2) pa_nil))) (pg_name (i := 3) sc_W_onward.nd rfl (Or.inl rfl)) (pss_one (ps_if (pt_cmpR (setIn K S (hr.mono (by decide))) (pv 3) (pv 0) rfl) (pss_one (ps_ret (pv 3))) pss_nil))) (pss_one (ps_ret pe_non))))), ?_⟩)
  obtain ⟨v, r, a, B, rfl, hv, ok, le, la, q⟩ := h
  have hs' := ok.hs
  have cs' := ok.cs
  refine ⟨natV a, rfl, natV a, .int (a : Int), 0, none, rfl, .int _, fun _ H1 e1 => ?_, fun z => ?_⟩
  · have hv1 := hv.mono e1
    refine q_asg (i := 2) (v := natV (max a r.h + r.c)) (ev_is (ev_op (ev_max2' (ev_var (i := 1) rfl) (ev_spN (ev_var (i := 0) rfl) hv1 ok le)) (ev_spN (ev_var (i := 0) rfl) hv1 ok le) rv_addI) (by show V.int _ = V.int _; rw [Int.natCast_add])) fun H2 e2 => ?_
    have hv2 := hv1.mono e2
    have E2 := e1.trans e2
    have mx : max a r.h ≤ 40000 := Nat.max_le.mpr ⟨la, by omega⟩
    refine q_forR2 (lo := (a : Int)) (n := ((max a r.h + r.c : Nat) : Int)) (ea_cons (ev_var (i := 1) rfl) (ea_cons (ev_var (i := 2) rfl) ea_nil)) (by omega) (fun i σ' H' => (∃ a3, σ' = [some v, some (natV a), some (natV (max a r.h + r.c)), a3]) ∧ Ex H2 H' ∧ ∀ j, j < i → (r.at (a + j)).isSome = false) (fun H3 e3 => ⟨⟨_, rfl⟩, e3, fun j h => absurd h (Nat.not_lt_zero j)⟩) (fun i σ' H3 lt z => ?_) fun σ' H3 z => ?_
    · obtain ⟨⟨a3, rfl⟩, e3, pre⟩ := z
      have ei : inW r (.int ((a : Int) + (i : Int))) = (r.at (a + i)).isSome := by
        show (decide (0 ≤ (a : Int) + (i : Int)) && (r.at ((a : Int) + (i : Int)).toNat).isSome) = _
        rw [decide_eq_true (by omega), Bool.true_and, show ((a : Int) + (i : Int)).toNat = a + i by omega]
      refine s_when (b := inW r (.int ((a : Int) + (i : Int)))) (et_B (ev_op (ev_var (i := 3) rfl) (ev_var (i := 0) rfl) (rv_setIn (hv2.mono e3) ok (.int _)))) (fun z H4 e4 => ?_) fun z H4 e4 => ⟨⟨_, rfl⟩, e3.trans e4, fun j hj => ?_⟩
      · rw [ei] at z
        have e := onw_some (w := a) (i := i) (by omega) z pre
        refine s_ret (v := ov (onI r a)) (ev_is (ev_var (i := 3) rfl) (by unfold onI; rw [e]; show V.int _ = V.int _; congr 1)) fun H5 e5 => q H5 ((E2.trans e3).trans (e4.trans e5))
      · rcases Nat.lt_succ_iff_lt_or_eq.mp hj with h | rfl
        · exact pre j h
        · rw [ei] at z
          exact z
    · obtain ⟨⟨a3, rfl⟩, e3, pre⟩ := z
      have e := onw_none (r := r) (w := a) fun j hj => pre j (by omega)
      exact s_ret (v := ov (onI r a)) (ev_is ev_c (by unfold onI; rw [e] <;> rfl)) fun H5 e5 => q H5 ((E2.trans e3).trans e5)
  · have : btwO 0 none (.int (a : Int)) = true := by simp [btwO]
    rw [this] at z
    cases z
abbrev s_W_first : Stmt := inClass (top 62) 4
abbrev sc_W_first_N : List Str := ["self"]
theorem sc_W_first : FnScope sc_W_first_N ["self"] (defScope s_W_first) := ⟨rfl, rfl, rfl, by decide +kernel, rfl, by decide +kernel, by decide +kernel⟩
theorem ok_W_first (c : SetC K Cw Cr) (M_onward : HasM P w K mg base Cw "onward" 4 ["self", "weight"] (spOnw K Cw Cr)) (F : FnM K "first" "Weights.first" s_W_first [] f fd) : FnOk P w K mg base CX0 5 f fd ["self"] (spSetN K Cw Cr fun r => ov (onI r 0)) := by
  refine F.ok sc_W_first (fun vs H Q E h => by obtain ⟨v, r, B, rfl, _⟩ := h; rfl) (fun cdv A outer s H vs Q E hr h => ⟨_, PSs.nox
    (pss_one (ps_ret (pe_hm M_onward (hr.mono (by decide)) (pv 0) (pa_cons pe_int pa_nil)))), ?_⟩)
  obtain ⟨v, r, B, rfl, hv, ok, le, q⟩ := h
  have hv' := hv
  obtain ⟨a, dx, x, rfl, h1, _⟩ := hv
  exact s_ret (ev_hm (vs := [.int 0]) (ev_var (i := 0) rfl) h1 (by rfl) (ea_cons ev_c ea_nil) fun H1 Q1 e1 k => ⟨.ref a, r, 0, B, rfl, hv'.mono e1, ok, le, Nat.zero_le _, k⟩) q
abbrev s_W_eq : Stmt := inClass (top 62) 17
abbrev sc_W_eq_N : List Str := ["self", "other"]
theorem sc_W_eq : FnScope sc_W_eq_N ["self", "other"] (defScope s_W_eq) := ⟨rfl, rfl, rfl, by decide +kernel, rfl, by decide +kernel, by decide +kernel⟩
theorem ok_W_eq (c : SetC K Cw Cr) (gW : mg "Weights" = some (.ref Cw)) (m_isinstance : mg "isinstance" = none) (M_key : HasM P w K mg base Cr "key" 1 ["self"] (spKey K Cr)) (F : FnM K "__eq__" "Weights.__eq__" s_W_eq [] f fd) : FnOk P w K mg base CX0 2 f fd ["self", "other"] (spSetEq K Cw Cr) := by
  refine F.ok sc_W_eq (fun vs H Q E h => by obtain ⟨v, u, r, s2, B, rfl, _⟩ := h; rfl) (fun cdv A outer s H vs Q E hr h => ⟨_, PSs.nox
    (pss_one (ps_ret (pe_and (pe_callB (isiK K) (by rfl) m_isinstance (by decide +kernel) (pa_cons (pv 1) (pa_cons (pe_own gW) pa_nil))) (pe_one (pe_cmpR (eqK K hr) (pe_hm0 M_key (hr.mono (by decide)) (fldK K (pv 0) rfl)) (pe_hm0 M_key (hr.mono (by decide)) (fldK K (pv 1) rfl)) (nomark _)))))), ?_⟩)
  obtain ⟨v, u, r, s', B, rfl, hv, hu, ok, ok', q⟩ := h
  obtain ⟨x, ex, ra⟩ := ev_told (σ := [some v, some u]) (te := tVar 0) c (ev_var (i := 0) rfl) hv
  obtain ⟨y, ey, rb⟩ := ev_told (σ := [some v, some u]) (te := tVar 1) c (ev_var (i := 1) rfl) hu
  refine s_ret (v := .bl (decide (r = s'))) (ev_is (ev_andV (a := true) (b := decide (r = s')) (ev_isOwn c.o (ev_var (i := 1) rfl) hu.is) fun _ => ev_keyEq ex ey ra rb ok ok') (by rw [Bool.true_and])) q
abbrev s_W_bool : Stmt := inClass (top 62) 18
abbrev sc_W_bool_N : List Str := ["self"]
theorem sc_W_bool : FnScope sc_W_bool_N ["self"] (defScope s_W_bool) := ⟨rfl, rfl, rfl, by decide +kernel, rfl, by decide +kernel, by decide +kernel⟩
theorem ok_W_bool (c : SetC K Cw Cr) (M_first : HasM P w K mg base Cw "first" 5 ["self"] (spSetN K Cw Cr fun r => ov (onI r 0))) (F : FnM K "__bool__" "Weights.__bool__" s_W_bool [] f fd) : FnOk P w K mg base CX0 6 f fd ["self"] (spSetN K Cw Cr fun r => .bl (onw r 0).isSome) := by
  refine F.ok sc_W_bool (fun vs H Q E h => by obtain ⟨v, r, B, rfl, _⟩ := h; rfl) (fun cdv A outer s H vs Q E hr h => ⟨_, PSs.nox
    (pss_one (ps_ret (pe_cmpR op_notN (pe_hm0 M_first (hr.mono (by decide)) (pv 0)) pe_non (nomark _)))), ?_⟩)
  obtain ⟨v, r, B, rfl, hv, ok, le, q⟩ := h
  exact s_ret (ev_is (ev_op (ev_spM (g := fun r => ov (onI r 0)) (ev_var (i := 0) rfl) hv ok le (by decide)) ev_c rv_notN) (by show V.bl _ = V.bl _; rw [ov_isN]; unfold onI; cases onw r 0 <;> rfl)) q
abbrev s_W_str : Stmt := inClass (top 62) 19
abbrev sc_W_str_N : List Str := ["self"]
theorem sc_W_str : FnScope sc_W_str_N ["self"] (defScope s_W_str) := ⟨rfl, rfl, rfl, by decide +kernel, rfl, by decide +kernel, by decide +kernel⟩
theorem ok_W_str (c : SetC K Cw Cr) (m_str : mg "str" = none) (D_text_of_row : Has P w K mg base "text_of_row" 3 ["row"] (spTextR K Cr)) (F : FnM K "__str__" "Weights.__str__" s_W_str [] f fd) : FnOk P w K mg base CX0 4 f fd ["self"] (spSetN K Cw Cr fun r => .str (SX.S (textR r))) := by
  refine F.ok sc_W_str (fun vs H Q E h => by obtain ⟨v, r, B, rfl, _⟩ := h; rfl) (fun cdv A outer s H vs Q E hr h => ⟨_, PSs.nox
    (pss_one (ps_ret (pe_callTy call_strY (by rfl) m_str (by decide +kernel) (pa_cons (pe_has D_text_of_row (hr.mono (by decide)) (pa_cons (fldK K (pv 0) rfl) pa_nil)) pa_nil)))), ?_⟩)
  obtain ⟨v, r, B, rfl, hv, ok, le, q⟩ := h
  obtain ⟨x, ex, ra⟩ := ev_told (σ := [some v]) (te := tVar 0) c (ev_var (i := 0) rfl) hv
  exact s_ret (ev_strS (ev_textR ex ra ok le)) q
abbrev s_W_repr : Stmt := inClass (top 62) 20
abbrev sc_W_repr_N : List Str := ["self"]
theorem sc_W_repr : FnScope sc_W_repr_N ["self"] (defScope s_W_repr) := ⟨rfl, rfl, rfl, by decide +kernel, rfl, by decide +kernel, by decide +kernel⟩
theorem ok_W_repr (c : SetC K Cw Cr) (D_text_of_row : Has P w K mg base "text_of_row" 3 ["row"] (spTextR K Cr)) (F : FnM K "__repr__" "Weights.__repr__" s_W_repr [] f fd) : FnOk P w K mg base CX0 4 f fd ["self"] (spSetN K Cw Cr fun r => .str (SX.S (reprS r))) := by
  refine F.ok sc_W_repr (fun vs H Q E h => by obtain ⟨v, r, B, rfl, _⟩ := h; rfl) (fun cdv A outer s H vs Q E hr h => ⟨_, PSs.nox
    (pss_one (ps_ret (pe_joined (PJ.cons pe_str (PJ.cons (pe_fmt (pe_has D_text_of_row (hr.mono (by decide)) (pa_cons (fldK K (pv 0) rfl) pa_nil))) PJ.nil))))), ?_⟩)
  obtain ⟨v, r, B, rfl, hv, ok, le, q⟩ := h
  obtain ⟨x, ex, ra⟩ := ev_told (σ := [some v]) (te := tVar 0) c (ev_var (i := 0) rfl) hv
  have k1 : ("Weights " : Str) = SX.S [87, 101, 105, 103, 104, 116, 115, 32] := by decide +kernel
  rw [k1]
  exact s_ret (js_wr ex ra ok le) q
end
end K07
set_option Elab.async false
set_option linter.all false
set_option maxRecDepth 100000
set_option maxHeartbeats 4000000
namespace K07
open PySem PySem.Spec PyProof.Rows L2 Evl SwX
section
variable {P : Program} {w : World} {K : PySem.W.Frag} {mg : Str → Option Value} {base : Heap} {f : Addr} {fd : FuncData}
abbrev s__law_rising : Stmt := top 70
abbrev sc__law_rising_N : List Str := ["_law_purse_here", "_law_many", "_law_high", "_law_k"]
theorem sc__law_rising : FnScope sc__law_rising_N ["_law_purse_here", "_law_many", "_law_high"] (defScope s__law_rising) := ⟨rfl, rfl, rfl, by decide +kernel, rfl, by decide +kernel, by decide +kernel⟩
theorem ok_rising (m_range : mg "range" = none) (m_set : mg "set" = none) (m_sorted : mg "sorted" = none) (m_tuple : mg "tuple" = none) (D__law_draw : Has P w K mg base "_law_draw" 1 ["_law_purse_here", "_law_many"] spDraw) (F : FnP K "_law_rising" s__law_rising f fd) : FnOk P w K mg base CX0 2 f fd ["_law_purse_here", "_law_many", "_law_high"] spRising := by
  refine F.ok sc__law_rising (fun vs H Q E h => by obtain ⟨a, m, h, rfl, _⟩ := h; rfl) (fun cdv A outer s H vs Q E hr h => ⟨_, PSs.nox
    (pss_one (ps_ret (pe_callTy call_tuple_of (by rfl) m_tuple (by decide +kernel) (pa_cons (pe_callB (cr_sortedSet rfl) (by rfl) m_sorted (by decide +kernel) (pa_cons (pe_callTy (cr_setL rfl) (by rfl) m_set (by decide +kernel) (pa_cons (pe_lc (own := [("_law_k", 3)]) (g := gName 3) (tt := tYes) rfl sc__law_rising.nd (pi_range1 (by rfl) m_range (pa_cons (pe_has D__law_draw (hr.mono (by decide)) (pa_cons (pv 0) (pa_cons (pe_op (addK K) (pv 1) pe_int) pa_nil))) pa_nil)) (blkOk_by (N := sc__law_rising_N) (sc := defScope s__law_rising) (by decide +kernel)) (fun _ _ _ _ _ => pg_name (i := 3) sc__law_rising.nd rfl (Or.inl rfl)) (fun _ _ _ _ _ => pts_nil) (fun _ _ _ _ _ => (pe_has D__law_draw (hr.mono (by decide)) (pa_cons (pv 0) (pa_cons (pv 2) pa_nil))))) pa_nil)) pa_nil)) pa_nil)))), ?_⟩)
  obtain ⟨a, m, hi, rfl, pu, hm, h0, h1, q⟩ := h
  refine rising_of (K := K) (a := a) (G := less a H) (high := hi) (m := m) (w := w) (drl_lc less_at (Dr.imp (dr_draw (m := ((m + 1 : Nat) : Int)) less_at rfl (ev_is (ev_op (ev_var (i := 1) rfl) ev_c rv_addI) (by show V.int _ = V.int _; congr 1)) (by omega) (by omega)) fun v z => ?_) (by omega) (fun _ => rfl) fun i G' n' g' => dr_draw n' rfl (ev_var (i := 2) rfl) (by omega) (by omega)) (by omega) less_ex pu _ fun ns q1 H1 rs l hq ne e1 p1 => q ns q1 H1 rs l hq ne e1 p1
  obtain ⟨k, rfl, k0, k1⟩ := z
  exact ⟨k, rfl, k0, by omega⟩
abbrev s__law_model : Stmt := top 71
abbrev sc__law_model_N : List Str := ["_law_heads", "_law_tails", "_law_size", "_law_begin", "_law_marks", "_law_at", "_law_start"]
theorem sc__law_model : FnScope sc__law_model_N ["_law_heads", "_law_tails", "_law_size"] (defScope s__law_model) := ⟨rfl, rfl, rfl, by decide +kernel, rfl, by decide +kernel, by decide +kernel⟩
theorem ok_model (m_range : mg "range" = none) (m_max : mg "max" = none) (m_list : mg "list" = none) (F : FnP K "_law_model" s__law_model f fd) : FnOk P w K mg base CX0 1 f fd ["_law_heads", "_law_tails", "_law_size"] (spModel K) := by
  refine F.ok sc__law_model (fun vs H Q E h => by obtain ⟨p, q, es, as, n, hi, rfl, _⟩ := h; rfl) (fun cdv A outer s H vs Q E hr h => ⟨_, PSs.nox
    (pss_cons (ps_set (i := 3) sc__law_model.nd rfl (Or.inl rfl) (pe_op (addK K) pe_int (pe_callB (cr_max rfl) (by rfl) m_max (by decide +kernel) (pa_cons (pe_op (addK K) (pe_op (addK K) (pe_lst (pa_cons pe_int pa_nil)) (pe_callTy call_list_of (by rfl) m_list (by decide +kernel) (pa_cons (pv 0) pa_nil))) (pe_callTy call_list_of (by rfl) m_list (by decide +kernel) (pa_cons (pv 1) pa_nil))) pa_nil)))) (pss_cons (ps_set (i := 4) sc__law_model.nd rfl (Or.inl rfl) (pe_op op_rep (pe_lst (pa_cons pe_bl pa_nil)) (pe_op (addK K) (pv 3) (pv 2)))) (pss_cons (ps_for PassesOwn.never rfl (pi_tup (pv 0)) (pg_name (i := 5) sc__law_model.nd rfl (Or.inl rfl)) (pss_one (ps_asg pe_bl (pg_sub (pv 4) (pv 5) set_list)))) (pss_cons (ps_for PassesOwn.never rfl (pi_tup (pv 1)) (pg_name (i := 6) sc__law_model.nd rfl (Or.inl rfl)) (pss_one (ps_for PassesOwn.never rfl (pi_range3 (by rfl) m_range (pa_cons (pv 6) (pa_cons (pe_op (addK K) (pv 3) (pv 2)) (pa_cons (pv 2) pa_nil)))) (pg_name (i := 5) sc__law_model.nd rfl (Or.inl rfl)) (pss_one (ps_asg pe_bl (pg_sub (pv 4) (pv 5) set_list)))))) (pss_one (ps_ret (pe_tup (pa_cons (pe_slice (slK K) (pv 4) po_none (po_some (pv 3))) (pa_cons (pe_slice (slK K) (pv 4) (po_some (pv 3)) po_none) pa_nil))))))))), ?_⟩)
  obtain ⟨p, t, es, as, n, hi, rfl, hp, ht, re, ra, hh, n0, n1, q⟩ := h
  have ne : 0 < hi ∨ (es = [] ∧ as = []) := by
    by_cases h : 0 < hi
    · exact .inl h
    · have e0 : hi = 0 := by omega
      subst e0
      exact .inr ⟨List.eq_nil_of_length_eq_zero (by have := re.few; omega), List.eq_nil_of_length_eq_zero (by have := ra.few; omega)⟩
  have ble : modB es as ≤ 2000 := by
    rcases ne with h | ⟨rfl, rfl⟩
    · exact Nat.le_trans (modB_le re ra h) hh
    · decide
  have b1 : 1 ≤ modB es as := Nat.le_max_left _ _
  have ub : ups (es ++ as) ≤ modB es as := Nat.le_max_right _ _
  have lte : ∀ x ∈ es, x < modB es as := fun x hx => Nat.lt_of_lt_of_le (ups_lt (List.mem_append_left _ hx)) ub
  have lta : ∀ x ∈ as, x < modB es as := fun x hx => Nat.lt_of_lt_of_le (ups_lt (List.mem_append_right _ hx)) ub
  have le1 := re.few
  have le2 := ra.few
  have mx := modB_max es as
  generalize hb : modB es as = b at ble b1 ub lte lta mx q
  refine q_asg (i := 3) (v := natV b) (ev_is (ev_op ev_c (ev_maxL (K := K) (ns := (0 : Int) :: (es ++ as).map fun n => ((n : Nat) : Int)) (el_is (el_addX (el_addX (el_lst (ea_cons ev_c ea_nil) (by simp)) (el_listE (ev_var (i := 0) rfl) ⟨p, rfl, .inl hp⟩) (by simp; omega)) (el_listE (ev_var (i := 1) rfl) ⟨t, rfl, .inl ht⟩) (by simp; omega)) (by rw [List.append_assoc, ← List.map_append, natv_int] <;> rfl)) mx.1 mx.2) rv_addI) (by show V.int _ = V.int _; congr 1; omega)) fun H1 e1 => ?_
  refine q_asgL (i := 4) (xs := (List.range (b + n)).map fun _ => .bl false) (el_is (el_rep (n := b + n) (el_lst (ea_cons ev_c ea_nil) (by simp)) (ev_is (ev_op (ev_var (i := 3) rfl) (ev_var (i := 2) rfl) rv_addI) (by show V.int _ = V.int _; rw [Int.natCast_add])) (by omega)) (by rw [List.map_const', List.length_range])) fun D H2 nD e2 hD => ?_
  have E2 := e1.trans e2
  refine ⟨.ref p, rfl, p, rfl, ⟨_, ex_t E2 hp⟩, for_tup (xs := es.map natV) (fun i σ' H' => (∃ a5, σ' = [some (.ref p), some (.ref t), some (natV n), some (natV b), some (.ref D), a5, none]) ∧ H' D = some (.lst ((List.range (b + n)).map fun w => .bl (decide (w ∈ es.take i)))) ∧ Ex H1 H') ⟨⟨_, rfl⟩, by rw [hD]; simp, e2⟩ (fun i σ' H' _ z => ex_t (e1.trans z.2.2) hp) (fun i x σ' H' hx z => ?_) fun σ' H' z => ?_⟩
  · obtain ⟨⟨a5, rfl⟩, h4, e4⟩ := z
    obtain ⟨m, hm, rfl⟩ := nat_get hx
    have mlt := lte m (List.mem_of_getElem? hm)
    refine s_setL (j := m) h4 ev_c (ev_var (i := 4) rfl) (ev_var (i := 5) rfl) (by simp; omega) fun H5 e5 => ⟨⟨_, rfl⟩, ?_, ?_⟩
    · rw [upd_same, set_marks, List.take_succ, hm]
      congr 2
      refine marks_congr fun w _ => ?_
      rw [Bool.eq_iff_iff]
      simp
    · intro bb o hbb
      have nb : bb ≠ D := fun z => by rw [z, nD] at hbb; cases hbb
      rw [upd_ne nb]
      exact e5 _ _ (e4 _ _ hbb)
  obtain ⟨⟨a5, rfl⟩, h4, e4⟩ := z
  rw [List.length_map, List.take_length] at h4
  refine ⟨.ref t, rfl, t, rfl, ⟨_, ex_t (e1.trans e4) ht⟩, for_tup (xs := as.map natV) (fun i σ' H' => (∃ a5 a6, σ' = [some (.ref p), some (.ref t), some (natV n), some (natV b), some (.ref D), a5, a6]) ∧ H' D = some (.lst ((List.range (b + n)).map fun w => .bl (inSet es (as.take i) n w))) ∧ Ex H1 H') ⟨⟨_, _, rfl⟩, by rw [h4]; unfold inSet; simp, e4⟩ (fun i σ' H' _ z => ex_t (e1.trans z.2.2) ht) (fun i x σ' H' hx z => ?_) fun σ' H' z => ?_⟩
  · obtain ⟨⟨a5, a6, rfl⟩, h5, e5⟩ := z
    obtain ⟨s0, hs0, rfl⟩ := nat_get hx
    have slt := lta s0 (List.mem_of_getElem? hs0)
    refine s_forR3 (lo := (s0 : Nat)) (hi := (b + n : Nat)) (c := (n : Nat)) (n := (b + n - s0 - 1) / n + 1) (ea_cons (ev_var (i := 6) rfl) (ea_cons (ev_is (ev_op (ev_var (i := 3) rfl) (ev_var (i := 2) rfl) rv_addI) (by show V.int _ = V.int _; rw [Int.natCast_add])) (ea_cons (ev_var (i := 2) rfl) ea_nil))) (rgc_up (by omega) n0 (by omega) (by omega)) (fun j σ' H'' => (∃ a5, σ' = [some (.ref p), some (.ref t), some (natV n), some (natV b), some (.ref D), a5, some (natV s0)]) ∧ H'' D = some (.lst ((List.range (b + n)).map fun w => .bl (inSet es (as.take i) n w || hits s0 n j w))) ∧ Ex H1 H'') (fun H6 e6 => ⟨⟨_, rfl⟩, by rw [e6 _ _ h5]; simp [hits], e5.trans e6⟩) (fun j σ' H'' lj z => ?_) fun σ' H'' z => ?_
    · obtain ⟨⟨a5, rfl⟩, h7, e7⟩ := z
      have jlt : s0 + j * n < b + n := by
        have h1 : j ≤ (b + n - s0 - 1) / n := by omega
        have h2 := Nat.mul_le_mul_right n h1
        have h3 := Nat.div_mul_le_self (b + n - s0 - 1) n
        omega
      have ej : ((s0 : Nat) : Int) + ((j : Nat) : Int) * ((n : Nat) : Int) = ((s0 + j * n : Nat) : Int) := by rw [Int.natCast_add, Int.natCast_mul]
      refine s_setL (j := s0 + j * n) h7 ev_c (ev_var (i := 4) rfl) (ev_is (ev_var (i := 5) rfl) (by rw [ej])) (by simp; omega) fun H8 e8 => ⟨⟨_, rfl⟩, ?_, ?_⟩
      · rw [upd_same, set_marks]
        congr 2
        refine marks_congr fun w _ => ?_
        rw [hits_succ, Bool.or_assoc]
      · intro bb o hbb
        have nb : bb ≠ D := fun z => by rw [z, nD] at hbb; cases hbb
        rw [upd_ne nb]
        exact e8 _ _ (e7 _ _ hbb)
    · obtain ⟨⟨a5, rfl⟩, h7, e7⟩ := z
      refine ⟨⟨_, _, rfl⟩, ?_, e7⟩
      rw [h7, List.take_succ, hs0]
      congr 2
      refine marks_congr fun w hw => ?_
      rw [hits_all n0 (by omega) hw]
      unfold inSet
      rw [Bool.or_assoc]
      congr 1
      simp
  · obtain ⟨⟨a5, a6, rfl⟩, h5, e5⟩ := z
    rw [List.length_map, List.take_length] at h5
    refine s_retTupY (ys_LL (xs := (List.range b).map fun i => .bl (inSet es as n i)) (ys := (List.range n).map fun i => .bl (inSet es as n (b + i))) (el_is (el_slL (ev_var (i := 4) rfl) (sq_of h5) eo_none (eo_some (ev_var (i := 3) rfl))) (by rw [cut_take, ← List.map_take, List.take_range, Nat.min_eq_left (by omega)])) (el_is (el_slL (ev_var (i := 4) rfl) (sq_of h5) (eo_some (ev_var (i := 3) rfl)) eo_none) (by rw [cut_drop, ← List.map_drop, drop_range]))) ?_ ?_ fun l u H6 e6 z hu => ?_
    · rintro l H6 H7 e ⟨d1, d2, rfl, h1, h2⟩
      exact ⟨d1, d2, rfl, e _ _ h1, e _ _ h2⟩
    · rintro l H6 ⟨d1, d2, rfl, _⟩
      exact (show 2 ≤ 1000 by decide)
    · obtain ⟨d1, d2, rfl, h1, h2⟩ := z
      exact q (.ref u) H6 ((e1.trans e5).trans e6) ⟨u, d1, d2, rfl, hu, h1, h2⟩
end
end K07
set_option Elab.async false
set_option linter.all false
set_option maxRecDepth 100000
set_option maxHeartbeats 4000000
namespace K07
open PySem PySem.Spec PyProof.Rows L2 Evl SwX
section
variable {P : Program} {w : World} {K : PySem.W.Frag} {mg : Str → Option Value} {base : Heap} {f : Addr} {fd : FuncData} {C Cw Cr : Addr}
theorem ok_is_integerI (c : OwnC K Cw) (kI : PySem.W.kitOne K (.ref Cw) (.type "int") = some false) (m_isinstance : mg "isinstance" = none) (m_int : mg "int" = none) (m_bool : mg "bool" = none) (F : FnP K "is_integer" s_is_integer f fd) : FnOk P w K mg base CX0 1 f fd ["value"] (spIsIntI Cw) := by
  refine F.ok sc_is_integer (fun vs H Q E h => by obtain ⟨v, rfl, _⟩ := h; rfl) (fun cdv A outer s H vs Q E hr h => ⟨_, PSs.nox
    (pss_one (ps_ret (pe_and (pe_callB (isiK K) (by rfl) m_isinstance (by decide +kernel) (pa_cons (pv 0) (pa_cons (pe_bty (n := "int") m_int) pa_nil))) (pe_one (pe_not (pe_callB (isiK K) (by rfl) m_isinstance (by decide +kernel) (pa_cons (pv 0) (pa_cons (pe_bty (n := "bool") m_bool) pa_nil)))))))), ?_⟩)
  obtain ⟨a, rfl, i, q⟩ := h
  exact s_ret (ev_is (ev_andV (a := false) (b := false) (ev_isOwnT c kI (ev_var (i := 0) rfl) i) fun z => nomatch z) rfl) q
/-- one promise: both ways -/
def spIsIntX (K : PySem.W.Frag) (Cw : Addr) : Sp := fun vs H Q E => spIsIntD K vs H Q E ∨ spIsIntI Cw vs H Q E
theorem ok_is_integerX {n : Nat} (h1 : FnOk P w K mg base CX0 n f fd ["value"] (spIsIntD K)) (h2 : FnOk P w K mg base CX0 n f fd ["value"] (spIsIntI Cw)) : FnOk P w K mg base CX0 n f fd ["value"] (spIsIntX K Cw) := by
  obtain ⟨a1, a2⟩ := h1
  obtain ⟨b1, b2⟩ := h2
  refine ⟨fun vs H Q E h => ?_, fun A outer s H args us vs Q E hr e0 env bind hsp => ?_⟩
  · rcases h with h | h
    · exact a1 vs H Q E h
    · exact b1 vs H Q E h
  · rcases hsp with h | h
    · exact a2 A outer s H args us vs Q E hr e0 env bind h
    · exact b2 A outer s H args us vs Q E hr e0 env bind h
theorem ok_W_containsX (c : SetC K Cw Cr) (M_at : HasM P w K mg base Cr "at" 1 ["self", "weight"] (spAt K Cr)) (D_is_integer : Has P w K mg base "is_integer" 1 ["value"] (spIsIntX K Cw)) (F : FnM K "__contains__" "Weights.__contains__" s_W_contains [] f fd) : FnOk P w K mg base CX0 2 f fd ["self", "value"] (spSetInX K Cw Cr) := by
  refine F.ok sc_W_contains (fun vs H Q E h => by
    rcases h with h | h
    · obtain ⟨v, x, r, D, B, rfl, _⟩ := h; rfl
    · obtain ⟨v, r, b, rfl, _⟩ := h; rfl) (fun cdv A outer s H vs Q E hr h => ⟨_, PSs.nox
    (pss_one (ps_ret (pe_and (pe_has D_is_integer (hr.mono (by decide)) (pa_cons (pv 1) pa_nil)) (pe_and (pe_cmpR op_ge (pv 1) pe_int (nomark _)) (pe_one (pe_cmpR op_notN (pe_hm M_at (hr.mono (by decide)) (fldK K (pv 0) rfl) (pa_cons (pv 1) pa_nil)) pe_non (nomark _))))))), ?_⟩)
  rcases h with h | h
  · obtain ⟨v, x, r, D, B, rfl, hv, ok, da, q⟩ := h
    have e1 : Ev (tCall (spIsIntX K Cw) [] E0 (tCons (tVar 1) tNil)) [some v, some x] H (.bl (SwX.isInt D && !isBl D)) := ev_call (vs := [x]) (ea_cons (ev_var (i := 1) rfl) ea_nil) fun H1 e1 R k E' => .inl ⟨x, D, rfl, da.mono e1, k⟩
    cases cc : SwX.isInt D && !isBl D with
    | false =>
      rw [cc] at e1
      have e2 : inW r D = false := by cases D <;> first | rfl | simp [SwX.isInt, isBl] at cc
      rw [e2] at q
      exact s_ret (ev_andV (a := false) (b := false) e1 fun z => nomatch z) q
    | true =>
      rw [cc] at e1
      obtain ⟨i, rfl⟩ := int_ofO cc
      cases da
      refine s_ret (v := .bl (inW r (.int i))) (ev_is (ev_andV (a := true) (b := decide (0 ≤ i) && (r.at i.toNat).isSome) e1 fun _ => ev_andV (ev_op (ev_var (i := 1) rfl) ev_c rv_I0) fun z => ?_) (by rw [Bool.true_and] <;> rfl)) q
      have i0 : 0 ≤ i := of_decide_eq_true z
      obtain ⟨y, ey, ra⟩ := ev_told (σ := [some v, some (.int i)]) (te := tVar 0) c (ev_var (i := 0) rfl) hv
      exact ev_is (ev_op (ev_at (w := i.toNat) ey ra ok (ev_is (ev_var (i := 1) rfl) (by rw [Int.toNat_of_nonneg i0]))) ev_c rv_notN) (by rw [ov_isN]; cases r.at i.toNat <;> rfl)
  · obtain ⟨v, r, b, rfl, hv, i, q⟩ := h
    have e1 : Ev (tCall (spIsIntX K Cw) [] E0 (tCons (tVar 1) tNil)) [some v, some (.ref b)] H (.bl false) := ev_call (vs := [.ref b]) (ea_cons (ev_var (i := 1) rfl) ea_nil) fun H1 e1 R k E' => .inr ⟨b, rfl, isI_mono e1 i, k⟩
    exact s_ret (ev_andV (a := false) (b := false) e1 fun z => nomatch z) q
end
end K07
set_option Elab.async false
set_option linter.all false
set_option maxRecDepth 100000
set_option maxHeartbeats 4000000
namespace K07
open PySem PySem.Spec PyProof.Rows L2 Evl SwX
open LamX (Tabs ExtN TabB GivesTo tLam lamCx lamEnv LamS)
theorem fn_imp {P : Program} {w : World} {K : PySem.W.Frag} {mg : Str → Option Value} {base : Heap} {CX : CXT} {n : Nat} {f : Addr} {fd : FuncData} {ps : List Str} {s1 s2 : Sp} (F : FnOk P w K mg base CX n f fd ps s1) (i : ∀ vs H Q E, s2 vs H Q E → s1 vs H Q E) : FnOk P w K mg base CX n f fd ps s2 :=
  ⟨fun vs H Q E h => F.len vs H Q E (i _ _ _ _ h), fun A outer s H args us vs Q E hr e0 env bind h => F.run A outer s H args us vs Q E hr e0 env bind (i _ _ _ _ h)⟩
section
variable {σ : L2.St} {H : Hp} {D : Ends} {tz : TS}
theorem s_forR2W {ta : TA} {tu : TS} {j : Nat} {lo hi : Int} {n : Nat} (h : EvA ta σ H [.int lo, .int hi]) (e : (hi - lo).toNat = n) (Pv : Nat → L2.St → Hp → Prop) (h0 : ∀ H1, Ex H H1 → Pv 0 σ H1)
    (hs : ∀ (i : Nat) σ' H', i < n → Pv i σ' H' → tu { D with nx := Pv (i + 1), ct := Pv (i + 1), bk := D.nx } (σ'.set j (some (.int (lo + (i : Int))))) H') (hd : ∀ σ' H', Pv n σ' H' → D.nx σ' H') : tFor (iRng2W ta) (gName j) tu D σ H :=
  h H (Ex.refl H) _ fun H1 e1 => ⟨lo, hi, rfl, by rw [e]; exact for_range (lo := lo) (n := n) Pv (h0 H1 e1) (fun i σ' H' lt p => hs i σ' H' lt p) hd⟩
theorem q_forR2W {ta : TA} {tu : TS} {j : Nat} {lo hi : Int} {n : Nat} (h : EvA ta σ H [.int lo, .int hi]) (e : (hi - lo).toNat = n) (Pv : Nat → L2.St → Hp → Prop) (h0 : ∀ H1, Ex H H1 → Pv 0 σ H1)
    (hs : ∀ (i : Nat) σ' H', i < n → Pv i σ' H' → tu { D with nx := Pv (i + 1), ct := Pv (i + 1), bk := tz D } (σ'.set j (some (.int (lo + (i : Int))))) H') (hd : ∀ σ' H', Pv n σ' H' → tz D σ' H') : tSeq (tFor (iRng2W ta) (gName j) tu) tz D σ H :=
  s_forR2W (D := { D with nx := tz D }) h e Pv h0 hs hd
theorem ev_lenEL {K : PySem.W.Frag} {te : TE} {xs : List V} (h : EvL te σ H xs) : Ev (tCB (rLenY K) (tCons te tNil)) σ H (.int (xs.length : Int)) := fun H1 e1 Q q => h H1 e1 _ fun p H2 n2 e2 h2 => .inl ⟨p, xs, rfl, .inl (sq_of h2), q H2 e2⟩
end
theorem q_par2N {σ : L2.St} {H : Hp} {D : Ends} {tz : TS} {i j : Nat} {ta tb : TE} {x y : V} (h1 : Ev ta σ H x) (h2 : ∀ H1, Ex H H1 → Ev tb σ H1 y) (k : ∀ H1, Ex H H1 → tz D ((σ.set i (some x)).set j (some y)) H1) : tSeq (tPar i j (tCons ta (tCons tb tNil))) tz D σ H :=
  h1 H (Ex.refl H) _ fun H1 e1 => h2 H1 e1 H1 (Ex.refl H1) _ fun H2 e2 => ⟨x, y, rfl, k H2 (e1.trans e2)⟩
/-! ### what is no integer from 0 on -/
def NoNum (K : PySem.W.Frag) (Cw : Addr) (v : V) (H : Hp) : Prop := (∃ D, Da K H v D ∧ btwO 0 none D = false) ∨ ∃ a, v = .ref a ∧ IsI H a Cw
theorem NoNum.mono {K : PySem.W.Frag} {Cw : Addr} {v : V} {H H' : Hp} (h : NoNum K Cw v H) (e : Ex H H') : NoNum K Cw v H' := h.imp (fun ⟨D, da, b⟩ => ⟨D, da.mono e, b⟩) fun ⟨a, r, i⟩ => ⟨a, r, isI_mono e i⟩
def spBtwNo (K : PySem.W.Frag) (Cw : Addr) : Sp := fun vs H Q _ => ∃ v, vs = [v, .int 0, .non] ∧ NoNum K Cw v H ∧ ∀ H', Ex H H' → Q (.bl false) H'
def spBtwI (Cw : Addr) : Sp := fun vs H Q _ => ∃ a : Addr, vs = [.ref a, .int 0, .non] ∧ IsI H a Cw ∧ ∀ H', Ex H H' → Q (.bl false) H'
def spChkNo (K : PySem.W.Frag) (Cw C0 : Addr) : Sp := fun vs H Q E => ∃ v, vs = [v, .int 0, .non] ∧ NoNum K Cw v H ∧ Thr E C0 "given" H v
def spNoW (K : PySem.W.Frag) (Cw C0 : Addr) : Sp := fun vs H Q E => ∃ v x, vs = [v, x] ∧ NoNum K Cw x H ∧ Thr E C0 "given" H x
def spOnwW (K : PySem.W.Frag) (Cw Cr : Addr) : Sp := fun vs H Q _ => ∃ (v : V) (r : Rw) (w : Nat) (B : Int), vs = [v, natV w] ∧ SetAt K Cw Cr r v H ∧ RwOk B r ∧ r.h + r.c ≤ 1000 ∧ ∀ H', Ex H H' → Q (ov (onI r w)) H'
/-- how many members are less than w -/
def belR (r : Rw) (w : Nat) : Nat := if w ≤ r.h then (memL r 0 w).length else (w - r.h) / r.c * (memL r r.h (r.h + r.c)).length + (memL r 0 (r.h + (w - r.h) % r.c)).length
def spBel (K : PySem.W.Frag) (Cw Cr : Addr) : Sp := fun vs H Q _ => ∃ (v : V) (r : Rw) (w : Nat) (B : Int), vs = [v, natV w] ∧ SetAt K Cw Cr r v H ∧ RwOk B r ∧ r.h + r.c ≤ 1000 ∧ ∀ H', Ex H H' → Q (natV (belR r w)) H'
section
variable {P : Program} {w : World} {K : PySem.W.Frag} {mg : Str → Option Value} {base : Heap} {f : Addr} {fd : FuncData} {Cw Cr C0 : Addr}
theorem ok_is_betweenI (D_is_integer : Has P w K mg base "is_integer" 1 ["value"] (spIsIntI Cw)) (F : FnP K "is_between" s_is_between f fd) : FnOk P w K mg base CX0 2 f fd ["value", "low", "high"] (spBtwI Cw) := by
  refine F.ok sc_is_between (fun vs H Q E h => by obtain ⟨v, rfl, _⟩ := h; rfl) (fun cdv A outer s H vs Q E hr h => ⟨_, PSs.nox
    (pss_one (ps_ret (pe_and (pe_has D_is_integer (hr.mono (by decide)) (pa_cons (pv 0) pa_nil)) (pe_and (pe_cmpR op_ge (pv 0) (pv 1) (nomark _)) (pe_one (pe_or (pe_cmpR op_isN (pv 2) pe_non (nomark _)) (pe_one (pe_cmpR op_le (pv 0) (pv 2) (nomark _))))))))), ?_⟩)
  obtain ⟨a, rfl, i, q⟩ := h
  exact s_ret (ev_andV (a := false) (b := false) (ev_call (vs := [.ref a]) (ea_cons (ev_var (i := 0) rfl) ea_nil) fun H1 e1 R k E' => ⟨a, rfl, isI_mono e1 i, k⟩) fun z => nomatch z) q
theorem ok_is_betweenNo (h1 : FnOk P w K mg base CX0 2 f fd ["value", "low", "high"] (spBtwO K)) (h2 : FnOk P w K mg base CX0 2 f fd ["value", "low", "high"] (spBtwI Cw)) : FnOk P w K mg base CX0 2 f fd ["value", "low", "high"] (spBtwNo K Cw) := fn_imp (ok_or h1 h2) fun vs H Q E h => by
  obtain ⟨v, rfl, ⟨D, da, b⟩ | ⟨a, rfl, i⟩, q⟩ := h
  · exact .inl ⟨v, D, 0, none, rfl, da, by rw [b]; exact q⟩
  · exact .inr ⟨a, rfl, i, q⟩
theorem ok_check_no (X0 : ExH P w K mg base 0 C0) (D_is_between : Has P w K mg base "is_between" 2 ["value", "low", "high"] (spBtwNo K Cw)) (F : FnP K "check_number" s_check_number f fd) : FnOk P w K mg base (L2N.CX P w) 3 f fd ["value", "low", "high"] (spChkNo K Cw C0) := by
  refine F.ok sc_check_number (fun vs H Q E h => by obtain ⟨v, rfl, _⟩ := h; rfl) (fun cdv A outer s H vs Q E hr h => ⟨_,
    (pss_one (ps_if (pt_not (pt_val (pe_has D_is_between (hr.mono (by decide)) (pa_cons (pv 0) (pa_cons (pv 1) (pa_cons (pv 2) pa_nil)))))) (pss_one (L2N.ps_raise rfl (L2N.takes_of rfl rfl rfl rfl) (pmk_newN X0.D X0.ty (hr.mono (by decide)) (pa_cons (pv 0) pa_nil)))) pss_nil)), ?_⟩)
  obtain ⟨v, rfl, no, t⟩ := h
  exact s_when (b := !false) (et_not (et_B (ev_call (vs := [v, .int 0, .non]) (ea_cons (ev_var (i := 0) rfl) (ea_cons (ev_var (i := 1) rfl) (ea_cons (ev_var (i := 2) rfl) ea_nil))) fun H1 e1 R k E' => ⟨v, rfl, no.mono e1, k⟩))) (fun z H1 e1 => raise_1 (K := K) (t.from e1) (ev_var (i := 0) rfl)) fun z => nomatch z
theorem ok_W_onwardW (c : SetC K Cw Cr) (m_max : mg "max" = none) (m_range : mg "range" = none) (S : SetIn P w K mg base Cw Cr) (P_early : HasP P w K mg base Cw "early" 1 ["self"] (spSetN K Cw Cr fun r => natV r.h)) (P_period : HasP P w K mg base Cw "period" 1 ["self"] (spSetN K Cw Cr fun r => natV r.c)) (D_check_number : HasE P w K mg base "check_number" 3 ["value", "low", "high"] (spChkN K C0)) (F : FnM K "onward" "Weights.onward" s_W_onward [] f fd) : FnOk P w K mg base CX0 4 f fd ["self", "weight"] (spOnwW K Cw Cr) := by
  refine F.ok sc_W_onward (fun vs H Q E h => by obtain ⟨v, r, a, B, rfl, _⟩ := h; rfl) (fun cdv A outer s H vs Q E hr h => ⟨_, PSs.nox
    (pss_cons (ps_expr (pe_hasE D_check_number (hr.mono (by decide)) passE0 (pa_cons (pv 1) (pa_cons pe_int (pa_cons pe_non pa_nil))))) (pss_cons (ps_set (i := 2) sc_W_onward.nd rfl (Or.inl rfl) (pe_op (addK K) (pe_callB (call_max2 rfl) (by rfl) m_max (by decide +kernel) (pa_cons (pv 1) (pa_cons (pe_hp P_early (hr.mono (by decide)) (pv 0)) pa_nil))) (pe_hp P_period (hr.mono (by decide)) (pv 0)))) (pss_cons (ps_for PassesOwn.never rfl (pi_range2W (by rfl) m_range (pa_cons (pv 1) (pa_cons (pv 2) pa_nil))) (pg_name (i := 3) sc_W_onward.nd rfl (Or.inl rfl)) (pss_one (ps_if (pt_cmpR (setIn K S (hr.mono (by decide))) (pv 3) (pv 0) rfl) (pss_one (ps_ret (pv 3))) pss_nil))) (pss_one (ps_ret pe_non))))), ?_⟩)
  obtain ⟨v, r, a, B, rfl, hv, ok, le, q⟩ := h
  have hs' := ok.hs
  have cs' := ok.cs
  refine ⟨natV a, rfl, natV a, .int (a : Int), 0, none, rfl, .int _, fun _ H1 e1 => ?_, fun z => ?_⟩
  · have hv1 := hv.mono e1
    refine q_asg (i := 2) (v := natV (max a r.h + r.c)) (ev_is (ev_op (ev_max2' (ev_var (i := 1) rfl) (ev_spN (ev_var (i := 0) rfl) hv1 ok le)) (ev_spN (ev_var (i := 0) rfl) hv1 ok le) rv_addI) (by show V.int _ = V.int _; rw [Int.natCast_add])) fun H2 e2 => ?_
    have hv2 := hv1.mono e2
    have E2 := e1.trans e2
    refine q_forR2W (lo := (a : Int)) (hi := ((max a r.h + r.c : Nat) : Int)) (n := max a r.h + r.c - a) (ea_cons (ev_var (i := 1) rfl) (ea_cons (ev_var (i := 2) rfl) ea_nil)) (by omega) (fun i σ' H' => (∃ a3, σ' = [some v, some (natV a), some (natV (max a r.h + r.c)), a3]) ∧ Ex H2 H' ∧ ∀ j, j < i → (r.at (a + j)).isSome = false) (fun H3 e3 => ⟨⟨_, rfl⟩, e3, fun j h => absurd h (Nat.not_lt_zero j)⟩) (fun i σ' H3 lt z => ?_) fun σ' H3 z => ?_
    · obtain ⟨⟨a3, rfl⟩, e3, pre⟩ := z
      have ei : inW r (.int ((a : Int) + (i : Int))) = (r.at (a + i)).isSome := by
        show (decide (0 ≤ (a : Int) + (i : Int)) && (r.at ((a : Int) + (i : Int)).toNat).isSome) = _
        rw [decide_eq_true (by omega), Bool.true_and, show ((a : Int) + (i : Int)).toNat = a + i by omega]
      refine s_when (b := inW r (.int ((a : Int) + (i : Int)))) (et_B (ev_op (ev_var (i := 3) rfl) (ev_var (i := 0) rfl) (rv_setIn (hv2.mono e3) ok (.int _)))) (fun z H4 e4 => ?_) fun z H4 e4 => ⟨⟨_, rfl⟩, e3.trans e4, fun j hj => ?_⟩
      · rw [ei] at z
        have e := onw_some (w := a) (i := i) (by omega) z pre
        refine s_ret (v := ov (onI r a)) (ev_is (ev_var (i := 3) rfl) (by unfold onI; rw [e]; show V.int _ = V.int _; congr 1)) fun H5 e5 => q H5 ((E2.trans e3).trans (e4.trans e5))
      · rcases Nat.lt_succ_iff_lt_or_eq.mp hj with h | rfl
        · exact pre j h
        · rw [ei] at z
          exact z
    · obtain ⟨⟨a3, rfl⟩, e3, pre⟩ := z
      have e := onw_none (r := r) (w := a) fun j hj => pre j (by omega)
      exact s_ret (v := ov (onI r a)) (ev_is ev_c (by unfold onI; rw [e] <;> rfl)) fun H5 e5 => q H5 ((E2.trans e3).trans e5)
  · have : btwO 0 none (.int (a : Int)) = true := by simp [btwO]
    rw [this] at z
    cases z
/-- refused, whatever stands behind -/
theorem ok_W_onwardNo (D_check_number : HasEN P w K mg base "check_number" 3 ["value", "low", "high"] (spChkNo K Cw C0)) (F : FnM K "onward" "Weights.onward" s_W_onward [] f fd) : FnOk P w K mg base (L2N.CX P w) 4 f fd ["self", "weight"] (spNoW K Cw C0) := by
  refine F.ok sc_W_onward (fun vs H Q E h => by obtain ⟨v, x, rfl, _⟩ := h; rfl) (fun cdv A outer s H vs Q E hr h => ⟨_,
    (pss_cons (ps_expr (pe_hasEN D_check_number (hr.mono (by decide)) (pass_EN (L2N.takes_of rfl rfl rfl rfl) fun _ _ _ _ z => z) (pa_cons (pv 1) (pa_cons pe_int (pa_cons pe_non pa_nil))))) SwX.pss_never), ?_⟩)
  obtain ⟨v, x, rfl, no, t⟩ := h
  exact ⟨x, rfl, x, rfl, no, t⟩
abbrev s_W_firstW : Stmt := inClass (top 62) 4
abbrev sc_W_firstW_N : List Str := ["self"]
theorem sc_W_firstW : FnScope sc_W_firstW_N ["self"] (defScope s_W_firstW) := ⟨rfl, rfl, rfl, by decide +kernel, rfl, by decide +kernel, by decide +kernel⟩
theorem ok_W_firstW (c : SetC K Cw Cr) (M_onward : HasM P w K mg base Cw "onward" 4 ["self", "weight"] (spOnwW K Cw Cr)) (F : FnM K "first" "Weights.first" s_W_firstW [] f fd) : FnOk P w K mg base CX0 5 f fd ["self"] (spSetN K Cw Cr fun r => ov (onI r 0)) := by
  refine F.ok sc_W_firstW (fun vs H Q E h => by obtain ⟨v, r, B, rfl, _⟩ := h; rfl) (fun cdv A outer s H vs Q E hr h => ⟨_, PSs.nox
    (pss_one (ps_ret (pe_hm M_onward (hr.mono (by decide)) (pv 0) (pa_cons pe_int pa_nil)))), ?_⟩)
  obtain ⟨v, r, B, rfl, hv, ok, le, q⟩ := h
  have hv' := hv
  obtain ⟨a, dx, x, rfl, h1, _⟩ := hv
  exact s_ret (ev_hm (vs := [.int 0]) (ev_var (i := 0) rfl) h1 (by rfl) (ea_cons ev_c ea_nil) fun H1 Q1 e1 k => ⟨.ref a, r, 0, B, rfl, hv'.mono e1, ok, le, k⟩) q
abbrev s_W_below : Stmt := inClass (top 62) 6
abbrev sc_W_below_N : List Str := ["self", "weight", "first", "period", "turns", "rest", "each"]
theorem sc_W_below : FnScope sc_W_below_N ["self", "weight"] (defScope s_W_below) := ⟨rfl, rfl, rfl, by decide +kernel, rfl, by decide +kernel, by decide +kernel⟩
theorem ok_W_below (c : SetC K Cw Cr) (m_len : mg "len" = none) (m_divmod : mg "divmod" = none) (P_early : HasP P w K mg base Cw "early" 1 ["self"] (spSetN K Cw Cr fun r => natV r.h)) (P_period : HasP P w K mg base Cw "period" 1 ["self"] (spSetN K Cw Cr fun r => natV r.c)) (D_members_from : Has P w K mg base "members_from" 2 ["row", "first", "last"] (spMem K Cr)) (D_check_number : HasE P w K mg base "check_number" 3 ["value", "low", "high"] (spChkN K C0)) (F : FnM K "below" "Weights.below" s_W_below [] f fd) : FnOk P w K mg base CX0 4 f fd ["self", "weight"] (spBel K Cw Cr) := by
  refine F.ok sc_W_below (fun vs H Q E h => by obtain ⟨v, r, a, B, rfl, _⟩ := h; rfl) (fun cdv A outer s H vs Q E hr h => ⟨_, PSs.nox
    (pss_cons (ps_expr (pe_hasE D_check_number (hr.mono (by decide)) passE0 (pa_cons (pv 1) (pa_cons pe_int (pa_cons pe_non pa_nil))))) (pss_cons (ps_par (i := 2) (j := 3) (by rfl) sc_W_below.nd rfl rfl (by decide) rfl rfl (pa_cons (pe_hp P_early (hr.mono (by decide)) (pv 0)) (pa_cons (pe_hp P_period (hr.mono (by decide)) (pv 0)) pa_nil)) (by rfl)) (pss_cons (ps_if (pt_cmpR op_le (pv 1) (pv 2) (nomark _)) (pss_one (ps_ret (pe_callB (lenK K) (by rfl) m_len (by decide +kernel) (pa_cons (pe_has D_members_from (hr.mono (by decide)) (pa_cons (fldK K (pv 0) rfl) (pa_cons pe_int (pa_cons (pv 1) pa_nil)))) pa_nil)))) pss_nil) (pss_cons (ps_asg (pe_callB call_divmodW (by rfl) m_divmod (by decide +kernel) (pa_cons (pe_op op_sub (pv 1) (pv 2)) (pa_cons (pv 3) pa_nil))) (pg_tup rfl (pgs_cons (pg_name (i := 4) sc_W_below.nd rfl (Or.inl rfl)) (pgs_cons (pg_name (i := 5) sc_W_below.nd rfl (Or.inl rfl)) pgs_nil)))) (pss_cons (ps_set (i := 6) sc_W_below.nd rfl (Or.inl rfl) (pe_callB (lenK K) (by rfl) m_len (by decide +kernel) (pa_cons (pe_has D_members_from (hr.mono (by decide)) (pa_cons (fldK K (pv 0) rfl) (pa_cons (pv 2) (pa_cons (pe_op (addK K) (pv 2) (pv 3)) pa_nil)))) pa_nil))) (pss_one (ps_ret (pe_op (addK K) (pe_op op_mul (pv 4) (pv 6)) (pe_callB (lenK K) (by rfl) m_len (by decide +kernel) (pa_cons (pe_has D_members_from (hr.mono (by decide)) (pa_cons (fldK K (pv 0) rfl) (pa_cons pe_int (pa_cons (pe_op (addK K) (pv 2) (pv 5)) pa_nil)))) pa_nil)))))))))), ?_⟩)
  obtain ⟨v, r, a, B, rfl, hv, ok, le, q⟩ := h
  have hs' := ok.hs
  have cs' := ok.cs
  have cp := ok.pos
  refine ⟨natV a, rfl, natV a, .int (a : Int), 0, none, rfl, .int _, fun _ H1 e1 => ?_, fun z => ?_⟩
  · have hv1 := hv.mono e1
    refine q_par2N (ev_spN (ev_var (i := 0) rfl) hv1 ok le) (fun H2 e2 => ev_spN (ev_var (i := 0) rfl) (hv1.mono e2) ok le) fun H2 e2 => ?_
    have hv2 := hv1.mono e2
    have E2 := e1.trans e2
    refine q_when (b := decide ((a : Int) ≤ (r.h : Nat))) (et_B (ev_op (ev_var (i := 1) rfl) (ev_var (i := 2) rfl) rv_I0)) (fun z H3 e3 => ?_) fun z H3 e3 => ?_
    · have z := of_decide_eq_true z
      obtain ⟨x, ex, ra⟩ := ev_told (σ := [some v, some (natV a), some (natV r.h), some (natV r.c), none, none, none]) (te := tVar 0) c (ev_var (i := 0) rfl) (hv2.mono e3)
      refine s_ret (ev_is (ev_lenEL (el_mem (a := 0) (b := a) ra ok (by omega) (by omega) ex ev_c (ev_var (i := 1) rfl))) (by rw [List.length_map])) fun H4 e4 => ?_
      have e : belR r a = (memL r 0 a).length := by unfold belR; rw [if_pos (by omega)]
      rw [← e]
      exact q H4 ((E2.trans e3).trans e4)
    · have z := of_decide_eq_false z
      have i0 : (a : Int) - (r.h : Nat) = ((a - r.h : Nat) : Int) := by omega
      refine q_asgNN (i := 4) (j := 5) (x := .int (((a - r.h) / r.c : Nat) : Int)) (y := .int (((a - r.h) % r.c : Nat) : Int)) (eu_is (eu_divmod (i := ((a - r.h : Nat) : Int)) (j := (r.c : Nat)) (ev_is (ev_op (ev_var (i := 1) rfl) (ev_var (i := 2) rfl) rv_I0) (by rw [i0])) (ev_var (i := 3) rfl) (pylong_small (by omega) (by omega))) (by rw [Int.natCast_ediv, Int.natCast_emod])) fun H4 e4 => ?_
      have hv4 := hv2.mono (e3.trans e4)
      have lt : (a - r.h) % r.c < r.c := Nat.mod_lt _ cp
      have eb : belR r a = (a - r.h) / r.c * (memL r r.h (r.h + r.c)).length + (memL r 0 (r.h + (a - r.h) % r.c)).length := by unfold belR; rw [if_neg (by omega)]
      have lm := memL_len r r.h (r.h + r.c)
      generalize (a - r.h) / r.c = tn at eb ⊢
      generalize (a - r.h) % r.c = rs at lt eb ⊢
      obtain ⟨x, ex, ra⟩ := ev_told (σ := [some v, some (natV a), some (natV r.h), some (natV r.c), some (.int (tn : Int)), some (.int (rs : Int)), none]) (te := tVar 0) c (ev_var (i := 0) rfl) hv4
      refine q_asg (i := 6) (v := natV (memL r r.h (r.h + r.c)).length) (ev_is (ev_lenEL (el_mem (a := r.h) (b := r.h + r.c) ra ok (by omega) (by omega) ex (ev_var (i := 2) rfl) (ev_is (ev_op (ev_var (i := 2) rfl) (ev_var (i := 3) rfl) rv_addI) (by show V.int _ = V.int _; rw [Int.natCast_add])))) (by rw [List.length_map])) fun H5 e5 => ?_
      obtain ⟨x, ex, ra⟩ := ev_told (σ := [some v, some (natV a), some (natV r.h), some (natV r.c), some (.int (tn : Int)), some (.int (rs : Int)), some (natV (memL r r.h (r.h + r.c)).length)]) (te := tVar 0) c (ev_var (i := 0) rfl) (hv4.mono e5)
      refine s_ret (v := natV (belR r a)) (ev_is (ev_op (ev_op (ev_var (i := 4) rfl) (ev_var (i := 6) rfl) (rv_I (Or.inr (by omega)))) (ev_lenEL (el_mem (a := 0) (b := r.h + rs) ra ok (by omega) (by omega) ex ev_c (ev_is (ev_op (ev_var (i := 2) rfl) (ev_var (i := 5) rfl) rv_addI) (by show V.int _ = V.int _; rw [Int.natCast_add])))) rv_addI) (by rw [eb, List.length_map]; show V.int _ = V.int _; rw [Int.natCast_add, Int.natCast_mul])) fun H6 e6 => q H6 (((E2.trans e3).trans e4).trans (e5.trans e6))
  · have : btwO 0 none (.int (a : Int)) = true := by simp [btwO]
    rw [this] at z
    cases z
theorem ok_W_belowNo (D_check_number : HasEN P w K mg base "check_number" 3 ["value", "low", "high"] (spChkNo K Cw C0)) (F : FnM K "below" "Weights.below" s_W_below [] f fd) : FnOk P w K mg base (L2N.CX P w) 4 f fd ["self", "weight"] (spNoW K Cw C0) := by
  refine F.ok sc_W_below (fun vs H Q E h => by obtain ⟨v, x, rfl, _⟩ := h; rfl) (fun cdv A outer s H vs Q E hr h => ⟨_,
    (pss_cons (ps_expr (pe_hasEN D_check_number (hr.mono (by decide)) (pass_EN (L2N.takes_of rfl rfl rfl rfl) fun _ _ _ _ z => z) (pa_cons (pv 1) (pa_cons pe_int (pa_cons pe_non pa_nil))))) SwX.pss_never), ?_⟩)
  obtain ⟨v, x, rfl, no, t⟩ := h
  exact ⟨x, rfl, x, rfl, no, t⟩
end
end K07
set_option Elab.async false
set_option linter.all false
set_option maxRecDepth 100000
set_option maxHeartbeats 4000000
namespace K07
open PySem PySem.Spec PyProof.Rows L2 Evl SwX
open L2H
theorem hotX {X : Cx} {p : Addr × Obj} (h : Hot1 X.A p) (m : p ∈ X.pn) : HotC X := ⟨p, h, m⟩
section
variable {P : Program} {w : World} {K : PySem.W.Frag} {mg : Str → Option Value} {base : Heap} {f : Addr} {fd : FuncData} {C Cw Cr : Addr}
theorem ok_Row_atH (c : RowC K C) (m_len : mg "len" = none) (m_divmod : mg "divmod" = none) (F : FnM K "at" "Row.at" s_Row_at [] f fd) : FnH P w K mg base CX0 1 f fd ["self", "weight"] (spAt K C) := by
  refine SwX.FunD.okH F sc_Row_at (fun vs H Q E h => by obtain ⟨v, r, wt, B, rfl, _⟩ := h; rfl) (fun cdv A outer s H vs Q E pH hot hr h => ⟨_, PSs.nox
    (pss_cons (ps_if (pt_cmpR op_lt (pv 1) (pe_callB (lenK K) (by rfl) m_len (by decide +kernel) (pa_cons (fldK K (pv 0) rfl) pa_nil)) (nomark _)) (pss_one (ps_ret (pe_ix (ixK K) (fldK K (pv 0) rfl) (pv 1) (fun _ _ => rfl)))) pss_nil) (pss_cons (ps_asg (pe_callB call_divmodW (by rfl) m_divmod (by decide +kernel) (pa_cons (pe_op op_sub (pv 1) (pe_callB (lenK K) (by rfl) m_len (by decide +kernel) (pa_cons (fldK K (pv 0) rfl) pa_nil))) (pa_cons (pe_callB (lenK K) (by rfl) m_len (by decide +kernel) (pa_cons (fldK K (pv 0) rfl) pa_nil)) pa_nil))) (pg_tupH (hotX (p := pH) (by exact ⟨hot.1, hot.2⟩) (by exact List.mem_cons_self)) (pgs_cons (pg_name (i := 2) sc_Row_at.nd rfl (Or.inl rfl)) (pgs_cons (pg_name (i := 3) sc_Row_at.nd rfl (Or.inl rfl)) pgs_nil)))) (pss_one (ps_ret (pe_ifExp (pt_cmpR op_isN (pe_ix (ixK K) (fldK K (pv 0) rfl) (pv 3) (fun _ _ => rfl)) pe_non (nomark _)) pe_non (pe_op (addK K) (pe_ix (ixK K) (fldK K (pv 0) rfl) (pv 3) (fun _ _ => rfl)) (pe_op op_mul (pv 2) (pe_ix (ixK K) (fldK K (pv 0) rfl) (pv 3) (fun _ _ => rfl))))))))), ?_⟩)
  obtain ⟨v, r, wt, B, rfl, hv, ok, q⟩ := h
  obtain ⟨a, dx, p, t, s', rfl, h0, h1, h2, h3⟩ := hv
  have fh : ∀ {σ : L2.St} {H' : Hp}, Ex H H' → σ[0]? = some (some (.ref a)) → Ev (tFld K (tVar 0) "head") σ H' (.ref p) := fun e z => ev_fld c.cls c.n1 (ev_var z) (e _ _ h0) rfl
  have fc : ∀ {σ : L2.St} {H' : Hp}, Ex H H' → σ[0]? = some (some (.ref a)) → Ev (tFld K (tVar 0) "cycle") σ H' (.ref t) := fun e z => ev_fld c.cls c.n2 (ev_var z) (e _ _ h0) rfl
  have fs : ∀ {σ : L2.St} {H' : Hp}, Ex H H' → σ[0]? = some (some (.ref a)) → Ev (tFld K (tVar 0) "steps") σ H' (.ref s') := fun e z => ev_fld c.cls c.n3 (ev_var z) (e _ _ h0) rfl
  refine q_when (b := decide ((wt : Int) < (r.head.map ov).length)) (et_B (ev_op (ev_var (i := 1) rfl) (ev_lenL (fh (Ex.refl H) rfl) (.inr h1)) rv_I0)) (fun lt H1 e1 => ?_) fun ge H1 e1 => ?_
  · have lt' : wt < r.head.length := by
      rw [List.length_map] at lt
      have := of_decide_eq_true lt
      omega
    have e0 : ov (r.at wt) = ov (Ol.g r.head wt) := by rw [Rw.at_lt lt']
    refine s_ret (ev_ixO (fh e1 rfl) (ev_var (i := 1) rfl) (ex_t e1 h1) lt') fun H2 e2 => ?_
    rw [← e0]
    exact q H2 (e1.trans e2)
  · have ge' : ¬ wt < r.h := fun z => by
      rw [List.length_map] at ge
      have := of_decide_eq_false ge
      exact this (by have : r.h = r.head.length := rfl; omega)
    have i0 : (wt : Int) - ((r.head.map ov).length : Nat) = ((wt - r.h : Nat) : Int) := by
      rw [List.length_map]
      show (wt : Int) - (r.h : Nat) = _
      omega
    have lc : ((r.cycle.map ov).length : Nat) = r.c := List.length_map _
    have cp := ok.pos
    have cs' := ok.cs
    refine q_asgNN (i := 2) (j := 3) (x := .int (((wt - r.h) / r.c : Nat) : Int)) (y := .int (((wt - r.h) % r.c : Nat) : Int)) (eu_is (eu_divmod (i := ((wt - r.h : Nat) : Int)) (j := (r.c : Nat)) (ev_is (ev_op (ev_var (i := 1) rfl) (ev_lenL (fh e1 rfl) (.inr (ex_t e1 h1))) rv_I0) (by rw [i0])) (ev_is (ev_lenL (fc e1 rfl) (.inr (ex_t e1 h2))) (by rw [lc])) (pylong_small (by omega) (by omega))) (by rw [Int.natCast_ediv, Int.natCast_emod])) fun H2 e2 => ?_
    have E2 := e1.trans e2
    have lt : (wt - r.h) % r.c < r.c := Nat.mod_lt _ cp
    generalize hj : (wt - r.h) % r.c = j at lt ⊢
    generalize ht : (wt - r.h) / r.c = tn
    have e0 : r.at wt = farV tn (Ol.g r.cycle j) (Ol.g r.steps j) := by
      rw [Rw.at_ge ge', hj, ht]
    have ec : Ev (tOp (rIx K) (tFld K (tVar 0) "cycle") (tVar 3)) [some (.ref a), some (.int (wt : Int)), some (.int (tn : Int)), some (.int (j : Int))] H2 (ov (Ol.g r.cycle j)) := ev_ixO (fc E2 rfl) (ev_var (i := 3) rfl) (ex_t E2 h2) lt
    have es : Ev (tOp (rIx K) (tFld K (tVar 0) "steps") (tVar 3)) [some (.ref a), some (.int (wt : Int)), some (.int (tn : Int)), some (.int (j : Int))] H2 (ov (Ol.g r.steps j)) := ev_ixO (fs E2 rfl) (ev_var (i := 3) rfl) (ex_t E2 h3) (by rw [ok.len]; exact lt)
    have both := ok.both j lt
    cases cv : Ol.g r.cycle j with
    | none =>
      rw [cv] at ec e0
      refine s_ret (ev_if (b := true) (et_B (ev_op ec ev_c rv_isN)) (fun _ => ev_c) fun z => nomatch z) fun H3 e3 => ?_
      have z := q H3 (E2.trans e3)
      rw [e0] at z
      exact z
    | some x =>
      rw [cv] at ec e0
      cases sv : Ol.g r.steps j with
      | none =>
        rw [cv, sv] at both
        cases both.mpr rfl
      | some y =>
        rw [sv] at es e0
        have sm := ok.small j y sv
        refine s_ret (ev_if (b := false) (et_B (ev_op ec ev_c rv_isN)) (fun z => nomatch z) fun _ => ev_op ec (ev_op (ev_var (i := 2) rfl) es (rv_I (Or.inr (by have := ok.big; omega)))) rv_addI) fun H3 e3 => ?_
        have z := q H3 (E2.trans e3)
        rw [e0] at z
        exact z
theorem ok_Row_lengthH (c : RowC K C) (m_len : mg "len" = none) (F : FnM K "length" "Row.length" s_Row_length [] f fd) : FnH P w K mg base CX0 1 f fd ["self"] (spLen K C) := by
  refine SwX.FunD.okH F sc_Row_length (fun vs H Q E h => by obtain ⟨v, r, rfl, _⟩ := h; rfl) (fun cdv A outer s H vs Q E pH hot hr h => ⟨_, PSs.nox
    (pss_one (ps_ret (pe_op (addK K) (pe_callB (lenK K) (by rfl) m_len (by decide +kernel) (pa_cons (fldK K (pv 0) rfl) pa_nil)) (pe_callB (lenK K) (by rfl) m_len (by decide +kernel) (pa_cons (fldK K (pv 0) rfl) pa_nil))))), ?_⟩)
  obtain ⟨v, r, rfl, hv, q⟩ := h
  exact s_ret (ev_is (ev_op (ev_headLen c (ev_var (i := 0) rfl) hv) (ev_cycLen c (ev_var (i := 0) rfl) hv) rv_addI) (by rw [Int.natCast_add])) q
theorem ok_members_fromH (m_range : mg "range" = none) (M_at : HasMH P w K mg base C "at" 1 ["self", "weight"] (spAt K C)) (F : FnP K "members_from" s_members_from f fd) : FnH P w K mg base CX0 2 f fd ["row", "first", "last"] (spMem K C) := by
  refine SwX.FunD.okH F sc_members_from (fun vs H Q E h => by obtain ⟨v, r, a, b, B, rfl, _⟩ := h; rfl) (fun cdv A outer s H vs Q E pH hot hr h => ⟨_, PSs.nox
    (pss_one (ps_ret (pe_lcH (own := [("number", 3)]) (g := gName 3) (hotX (p := pH) (by exact ⟨hot.1, hot.2⟩) (by exact List.mem_cons_self)) sc_members_from.nd (pi_range2H (by rfl) m_range (pa_cons (pv 1) (pa_cons (pv 2) pa_nil))) (blkOk_by (N := sc_members_from_N) (sc := defScope s_members_from) (by decide +kernel)) (fun _ _ _ _ _ => pg_name (i := 3) sc_members_from.nd rfl (Or.inl rfl)) (fun _ _ _ _ _ => (pts_one (pt_cmpR op_notN (pe_hmH (hotX (p := pH) (by exact ⟨hot.1, hot.2⟩) (by exact List.mem_cons_self)) M_at (hr.mono (by decide)) (pv 0) (pa_cons (pv 3) pa_nil)) pe_non (nomark _)))) (fun _ _ _ _ _ => (pv 3))))), ?_⟩)
  obtain ⟨v, r, a, b, B, rfl, hv, ok, ha, hb, q⟩ := h
  have eb : (natV b : V) = .int ((a : Int) + ((b - a : Nat) : Int)) := by show V.int _ = V.int _; congr 1; omega
  refine (el_lcN2 (j := 3) (lo := (a : Int)) (n := b - a) (fun i => (r.at (a + i)).isSome) (fun i => natV (a + i)) (ea_cons (ev_var (i := 1) rfl) (ea_cons (ev_is (ev_var (i := 2) rfl) eb) ea_nil)) (by omega) (by omega) (fun _ => rfl) (fun i H1 e1 lt => et_is (et_B (ev_op (ev_at (w := a + i) (ev_var (i := 0) rfl) (hv.mono e1) ok (ev_is (ev_var (i := 3) rfl) (by rw [Int.natCast_add]))) ev_c rv_notN)) (by rw [ov_isN]; cases r.at (a + i) <;> rfl)) fun i H1 e1 lt _ => ev_is (ev_var (i := 3) rfl) (by show V.int _ = V.int _; rw [Int.natCast_add])) H (Ex.refl H) _ fun u H1 n1 e1 hu => q u H1 n1 e1 (by rw [hu]; unfold given memL; rw [List.map_map] <;> rfl)
theorem ok_text_of_rowH (c : RowC K C) (m_len : mg "len" = none) (m_str : mg "str" = none) (M_length : HasMH P w K mg base C "length" 1 ["self"] (spLen K C)) (D_members_from : HasH P w K mg base "members_from" 2 ["row", "first", "last"] (spMem K C)) (F : FnP K "text_of_row" s_text_of_row f fd) : FnH P w K mg base CX0 3 f fd ["row"] (spTextR K C) := by
  refine SwX.FunD.okH F sc_text_of_row (fun vs H Q E h => by obtain ⟨v, r, B, rfl, _⟩ := h; rfl) (fun cdv A outer s H vs Q E pH hot hr h => ⟨_, PSs.nox
    (pss_cons (ps_set (i := 1) sc_text_of_row.nd rfl (Or.inl rfl) (pe_callB (lenK K) (by rfl) m_len (by decide +kernel) (pa_cons (fldK K (pv 0) rfl) pa_nil))) (pss_cons (ps_set (i := 2) sc_text_of_row.nd rfl (Or.inl rfl) (pe_hasH (hotX (p := pH) (by exact ⟨hot.1, hot.2⟩) (by exact List.mem_cons_self)) D_members_from (hr.mono (by decide)) (pa_cons (pv 0) (pa_cons (pv 1) (pa_cons (pe_hm0H (hotX (p := pH) (by exact ⟨hot.1, hot.2⟩) (by exact List.mem_cons_self)) M_length (hr.mono (by decide)) (pv 0)) pa_nil))))) (pss_cons (ps_setLcH (i := 3) (own := [("number", 4)]) (g := gName 4) (tt := tYes) (hotX (p := pH) (by exact ⟨hot.1, hot.2⟩) (by exact List.mem_cons_self)) sc_text_of_row.nd rfl rfl (sw_true rfl rfl rfl (by rfl)) (pi_listH (pe_hasH (hotX (p := pH) (by exact ⟨hot.1, hot.2⟩) (by exact List.mem_cons_self)) D_members_from (hr.mono (by decide)) (pa_cons (pv 0) (pa_cons pe_int (pa_cons (pv 1) pa_nil))))) (blkOk_by (N := sc_text_of_row_N) (sc := defScope s_text_of_row) (by decide +kernel)) (fun _ _ _ _ _ => pg_name (i := 4) sc_text_of_row.nd rfl (Or.inl rfl)) (fun _ _ _ _ _ => pts_nil) (fun _ _ _ _ _ => (pe_callTy call_strY (by rfl) m_str (by decide +kernel) (pa_cons (pv 4) pa_nil)))) (pss_cons (ps_if (pt_cmpR (neKH K hr) (pv 2) (pe_lst pa_nil) (nomark _)) (pss_one (ps_set (i := 3) sc_text_of_row.nd rfl (Or.inl rfl) (pe_lst (StX.pa_star (pv 3) (pa_cons pe_str (StX.pa_star (pe_lcH (own := [("number", 4)]) (g := gName 4) (tt := tYes) (hotX (p := pH) (by exact ⟨hot.1, hot.2⟩) (by exact List.mem_cons_self)) sc_text_of_row.nd (pi_listH (pv 2)) (blkOk_by (N := sc_text_of_row_N) (sc := defScope s_text_of_row) (by decide +kernel)) (fun _ _ _ _ _ => pg_name (i := 4) sc_text_of_row.nd rfl (Or.inl rfl)) (fun _ _ _ _ _ => pts_nil) (fun _ _ _ _ _ => (pe_callTy call_strY (by rfl) m_str (by decide +kernel) (pa_cons (pv 4) pa_nil)))) (pa_cons pe_str (pa_cons (pe_callTy call_strY (by rfl) m_str (by decide +kernel) (pa_cons (pe_callB (lenK K) (by rfl) m_len (by decide +kernel) (pa_cons (fldK K (pv 0) rfl) pa_nil)) pa_nil)) pa_nil)))))))) pss_nil) (pss_one (ps_ret (pe_ifExp (pt_cmpR (neKH K hr) (pv 3) (pe_lst pa_nil) (nomark _)) (pe_join pe_str (pv 3)) pe_str))))))), ?_⟩)
  obtain ⟨v, r, B, rfl, hv, ok, le, q⟩ := h
  have s1 : ("then" : Str) = SX.S thenL := by decide +kernel
  have s2 : ("by" : Str) = SX.S byL := by decide +kernel
  have s3 : (" " : Str) = SX.S [32] := by decide +kernel
  have s4 : ("none" : Str) = SX.S noneL := by decide +kernel
  rw [s1, s2, s3, s4]
  have cs' := ok.cs
  have small : ∀ n ∈ memL r r.h (r.h + r.c), n ≤ 9999 := fun n hn => by have := memL_lt hn; omega
  have small0 : ∀ n ∈ memL r 0 r.h, n ≤ 9999 := fun n hn => by have := memL_lt hn; omega
  have la := memL_len r r.h (r.h + r.c)
  have l0 := memL_len r 0 r.h
  refine q_asg (i := 1) (ev_headLen c (ev_var (i := 0) rfl) hv) fun H1 e1 => ?_
  have hv1 := hv.mono e1
  refine q_asgL (i := 2) (el_mem (a := r.h) (b := r.h + r.c) hv1 ok (by omega) (by omega) (ev_var (i := 0) rfl) (ev_var (i := 1) rfl) (ev_rlen (ev_var (i := 0) rfl) hv1)) fun D H2 nD e2 hD => ?_
  have hv2 := hv1.mono e2
  refine q_asgL (i := 3) (xs := ((memL r 0 r.h).map TL.numL).map fun x => .str (SX.S x)) (el_is (el_lcNL (K := K) (j := 4) (fun _ => true) (fun i => .str (SX.S (TL.numL ((memL r 0 r.h).getD i 0)))) (el_mem (a := 0) (b := r.h) hv2 ok (by omega) (by omega) (ev_var (i := 0) rfl) ev_c (ev_var (i := 1) rfl)) (by simp; omega) (fun _ => rfl) (fun i x H3 e3 hx => et_yes) fun i x H3 e3 hx _ => ?_) ?_) fun D2 H3 nD2 e3 hD2 => ?_
  · obtain ⟨n, hn, rfl⟩ := nat_get hx
    rw [List.getD_eq_getElem?_getD, hn]
    exact ev_strN (ev_var (i := 4) rfl) (by have := small0 n (List.mem_of_getElem? hn); show n ≤ 100000; omega)
  · exact words_given _
  have words0 : ∀ x ∈ (memL r 0 r.h).map TL.numL, x.length ≤ 4 := fun x hx => by
    obtain ⟨n, hn, rfl⟩ := List.mem_map.mp hx
    exact numL_small (small0 n hn)
  have daD : ∀ H', Ex H3 H' → Da K H' (.ref D) (.list ((memL r r.h (r.h + r.c)).map fun n => .int (n : Nat))) := fun H' e' => da_list (e' _ _ (e3 _ _ hD)) (da_nats _)
  -- the end
  have fin : ∀ (ws : List (List Nat)) (p : Addr) (H4 : Hp), Ex H3 H4 → H4 p = some (.lst (ws.map fun x => .str (SX.S x))) → wordsS (memL r 0 r.h) (memL r r.h (r.h + r.c)) r.c = ws → (∀ x ∈ ws, WordOk x) → ws.length ≤ 3000 →
      ∀ a4, (tRet (tIf (tTest (tOp (fun x y H Q => rNe x y H Q ∨ rEqDat K not x y H Q) (tVar 3) (tLst tNil))) (tM1 (rJoin K) (tC (.str (SX.S [32]))) (tVar 3)) (tC (.str (SX.S noneL))))) { nx := fun _ H' => Q .non H', rt := Q } [some v, some (natV r.h), some (.ref D), some (.ref p), a4] H4 := by
    intro ws p H4 e4 hp ew wl wn a4
    refine s_ret (v := .str (SX.S (textR r))) (ev_if (b := !decide (ws = [])) (et_B (ev_opL (ev_var (i := 3) rfl) (el_lst ea_nil (by simp)) fun u H5 hu e5 => rv_neDat (d := .list (ws.map fun x => .str (SX.S x))) (e := .list []) (da_list (e5 _ _ hp) (da_strs ws)) (da_list hu .nil) (pl_atmL fun x hx => atm_word (wl x hx)) ⟨rfl, by decide⟩ (by rw [eqv_nilL, Bool.eq_iff_iff, decide_eq_true_eq, decide_eq_true_eq, List.map_eq_nil_iff]))) (fun z => ?_) fun z => ?_) fun H5 e5 => q H5 ((((e1.trans e2).trans e3).trans e4).trans e5)
    · have e : textR r = TL.joinL [32] ws := by unfold textR textS; rw [ew, if_neg (by simpa using z)]
      rw [e]
      exact ev_joinW (B := 10) ev_c (ev_var (i := 3) rfl) (.inl (sq_of (by rw [hp, List.map_map] <;> rfl))) (fun x hx => (wl x hx).1) ⟨by decide, by omega, by decide⟩
    · have e : textR r = noneL := by unfold textR textS; rw [ew, if_pos (by simpa using z)]
      rw [e]
      exact ev_c
  have wok := words_ok (es := memL r 0 r.h) (as := memL r r.h (r.h + r.c)) (p := r.c) small0 small (by omega)
  have wlen := words_len (memL r 0 r.h) (memL r r.h (r.h + r.c)) r.c
  refine q_if (b := !decide (memL r r.h (r.h + r.c) = [])) (et_B (ev_opL (ev_var (i := 2) rfl) (el_lst ea_nil (by simp)) fun u H4 hu e4 => rv_neDat (d := .list ((memL r r.h (r.h + r.c)).map fun n => .int (n : Nat))) (e := .list []) (daD _ e4) (da_list hu .nil) (pl_atmL fun n _ => ⟨rfl, Nat.le_refl _, rfl⟩) ⟨rfl, by decide⟩ (by rw [eqv_nilL, Bool.eq_iff_iff, decide_eq_true_eq, decide_eq_true_eq, List.map_eq_nil_iff]))) (fun z H4 e4 => ?_) fun z H4 e4 => ?_
  · have ne : memL r r.h (r.h + r.c) ≠ [] := by simpa using z
    have ew : wordsS (memL r 0 r.h) (memL r r.h (r.h + r.c)) r.c = (memL r 0 r.h).map TL.numL ++ ([thenL] ++ (memL r r.h (r.h + r.c)).map TL.numL ++ [byL, TL.numL r.c]) := by unfold wordsS; rw [if_neg ne]
    have hv4 := hv2.mono (e3.trans e4)
    have hD4 := e4 _ _ (e3 _ _ hD)
    have hD24 := e4 _ _ hD2
    refine s_asgL (i := 3) (xs := (wordsS (memL r 0 r.h) (memL r r.h (r.h + r.c)) r.c).map fun x => .str (SX.S x)) (el_is (el_lst (ea_starS (ev_var (i := 3) rfl) ⟨D2, rfl, .inr (sq_of hD24)⟩ (ea_cons ev_c (ea_starL (el_is (el_lcL (K := K) (j := 4) (fun _ => true) (fun i => .str (SX.S (TL.numL ((memL r r.h (r.h + r.c)).getD i 0)))) (ev_var (i := 2) rfl) (sq_of hD4) (by simp; omega) (fun _ => rfl) (fun i x H5 e5 hx => et_yes) fun i x H5 e5 hx _ => ?_) (words_given _)) (ea_cons ev_c (ea_cons (ev_strN (ev_cycLen c (ev_var (i := 0) rfl) hv4) (by omega)) ea_nil))))) (by simp; omega)) (by rw [ew]; simp)) fun p H5 n5 e5 h5 => fin _ p H5 (e4.trans e5) h5 rfl wok (by omega) _
    obtain ⟨n, hn, rfl⟩ := nat_get hx
    rw [List.getD_eq_getElem?_getD, hn]
    exact ev_strN (ev_var (i := 4) rfl) (by have := small n (List.mem_of_getElem? hn); show n ≤ 100000; omega)
  · have em : memL r r.h (r.h + r.c) = [] := by simpa using z
    have ew : wordsS (memL r 0 r.h) (memL r r.h (r.h + r.c)) r.c = (memL r 0 r.h).map TL.numL := by unfold wordsS; rw [if_pos em, List.append_nil]
    exact fin _ D2 H4 e4 (e4 _ _ hD2) ew (by rw [← ew]; exact wok) (by simp; omega) _
theorem ok_W_reprH (c : SetC K Cw Cr) (D_text_of_row : HasH P w K mg base "text_of_row" 3 ["row"] (spTextR K Cr)) (F : FnM K "__repr__" "Weights.__repr__" s_W_repr [] f fd) : FnH P w K mg base CX0 4 f fd ["self"] (spSetN K Cw Cr fun r => .str (SX.S (reprS r))) := by
  refine SwX.FunD.okH F sc_W_repr (fun vs H Q E h => by obtain ⟨v, r, B, rfl, _⟩ := h; rfl) (fun cdv A outer s H vs Q E pH hot hr h => ⟨_, PSs.nox
    (pss_one (ps_ret (pe_joined (PJ.cons pe_str (PJ.cons (pe_fmt (pe_hasH (hotX (p := pH) (by exact ⟨hot.1, hot.2⟩) (by exact List.mem_cons_self)) D_text_of_row (hr.mono (by decide)) (pa_cons (fldK K (pv 0) rfl) pa_nil))) PJ.nil))))), ?_⟩)
  obtain ⟨v, r, B, rfl, hv, ok, le, q⟩ := h
  obtain ⟨x, ex, ra⟩ := ev_told (σ := [some v]) (te := tVar 0) c (ev_var (i := 0) rfl) hv
  have k1 : ("Weights " : Str) = SX.S [87, 101, 105, 103, 104, 116, 115, 32] := by decide +kernel
  rw [k1]
  exact s_ret (js_wr ex ra ok le) q
end
end K07
set_option Elab.async false
set_option linter.all false
set_option maxRecDepth 100000
set_option maxHeartbeats 4000000
namespace K07
open PySem PySem.Spec PyProof.Rows L2 Evl SwX
section
variable {P : Program} {w : World} {K : PySem.W.Frag} {mg : Str → Option Value} {base : Heap} {f : Addr} {fd : FuncData} {rs : List Nat} {C : Nat → Addr} {WV WN NA : Addr}
abbrev s__law_fault : Stmt := top 67
abbrev sc__law_fault_N : List Str := ["_law_e", "_law_sorts", "_law_bases", "_law_own", "_law_at"]
theorem sc__law_fault : FnScope sc__law_fault_N ["_law_e"] (defScope s__law_fault) := ⟨rfl, rfl, rfl, by decide +kernel, rfl, by decide +kernel, by decide +kernel⟩
theorem ok_fault (c : Cl P w K mg base rs C WV WN NA) (F : FnP K "_law_fault" s__law_fault f fd) (m_isinstance : mg "isinstance" = none) (m_ValueError : mg "ValueError" = none) (m_LookupError : mg "LookupError" = none) (m_ArithmeticError : mg "ArithmeticError" = none) : FnC P w K mg base 1 f fd ["_law_e"] (spFaultC rs C) := by
  refine SwX.FunD.okC F sc__law_fault (fun a C0 d vs H Q E h => by obtain ⟨i, fs, _, _, rfl, _⟩ := h; rfl) (fun cdv A outer s H vs Q E a C0 d oe hr hd h => ⟨_, PSs.nox
    (pss_cons (ps_set (i := 1) sc__law_fault.nd rfl (Or.inl rfl) (pe_lst (pa_cons (pe_callB (call_isP hd) (by rfl) m_isinstance (by decide +kernel) (pa_cons (pv 0) (pa_cons (pe_own (c.g 0 (by decide))) pa_nil))) (pa_cons (pe_callB (call_isP hd) (by rfl) m_isinstance (by decide +kernel) (pa_cons (pv 0) (pa_cons (pe_own (c.g 1 (by decide))) pa_nil))) (pa_cons (pe_callB (call_isP hd) (by rfl) m_isinstance (by decide +kernel) (pa_cons (pv 0) (pa_cons (pe_own (c.g 2 (by decide))) pa_nil))) pa_nil))))) (pss_cons (ps_set (i := 1) sc__law_fault.nd rfl (Or.inl rfl) (pe_op op_addA (pv 1) (pe_lst (pa_cons (pe_callB (call_isP hd) (by rfl) m_isinstance (by decide +kernel) (pa_cons (pv 0) (pa_cons (pe_own (c.g 3 (by decide))) pa_nil))) (pa_cons (pe_callB (call_isP hd) (by rfl) m_isinstance (by decide +kernel) (pa_cons (pv 0) (pa_cons (pe_own (c.g 4 (by decide))) pa_nil))) (pa_cons (pe_callB (call_isP hd) (by rfl) m_isinstance (by decide +kernel) (pa_cons (pv 0) (pa_cons (pe_own (c.g 5 (by decide))) pa_nil))) pa_nil)))))) (pss_cons (ps_set (i := 1) sc__law_fault.nd rfl (Or.inl rfl) (pe_op op_addA (pv 1) (pe_lst (pa_cons (pe_callB (call_isP hd) (by rfl) m_isinstance (by decide +kernel) (pa_cons (pv 0) (pa_cons (pe_own (c.g 6 (by decide))) pa_nil))) (pa_cons (pe_callB (call_isP hd) (by rfl) m_isinstance (by decide +kernel) (pa_cons (pv 0) (pa_cons (pe_own (c.g 7 (by decide))) pa_nil))) (pa_cons (pe_callB (call_isP hd) (by rfl) m_isinstance (by decide +kernel) (pa_cons (pv 0) (pa_cons (pe_own (c.g 8 (by decide))) pa_nil))) pa_nil)))))) (pss_cons (ps_set (i := 1) sc__law_fault.nd rfl (Or.inl rfl) (pe_op op_addA (pv 1) (pe_lst (pa_cons (pe_callB (call_isP hd) (by rfl) m_isinstance (by decide +kernel) (pa_cons (pv 0) (pa_cons (pe_own (c.g 9 (by decide))) pa_nil))) (pa_cons (pe_callB (call_isP hd) (by rfl) m_isinstance (by decide +kernel) (pa_cons (pv 0) (pa_cons (pe_own (c.g 10 (by decide))) pa_nil))) (pa_cons (pe_callB (call_isP hd) (by rfl) m_isinstance (by decide +kernel) (pa_cons (pv 0) (pa_cons (pe_own (c.g 11 (by decide))) pa_nil))) pa_nil)))))) (pss_cons (ps_set (i := 1) sc__law_fault.nd rfl (Or.inl rfl) (pe_op op_addA (pv 1) (pe_lst (pa_cons (pe_callB (call_isP hd) (by rfl) m_isinstance (by decide +kernel) (pa_cons (pv 0) (pa_cons (pe_own (c.g 12 (by decide))) pa_nil))) (pa_cons (pe_callB (call_isP hd) (by rfl) m_isinstance (by decide +kernel) (pa_cons (pv 0) (pa_cons (pe_own (c.g 13 (by decide))) pa_nil))) (pa_cons (pe_callB (call_isP hd) (by rfl) m_isinstance (by decide +kernel) (pa_cons (pv 0) (pa_cons (pe_own (c.g 14 (by decide))) pa_nil))) pa_nil)))))) (pss_cons (ps_set (i := 1) sc__law_fault.nd rfl (Or.inl rfl) (pe_op op_addA (pv 1) (pe_lst (pa_cons (pe_callB (call_isP hd) (by rfl) m_isinstance (by decide +kernel) (pa_cons (pv 0) (pa_cons (pe_own (c.g 15 (by decide))) pa_nil))) (pa_cons (pe_callB (call_isP hd) (by rfl) m_isinstance (by decide +kernel) (pa_cons (pv 0) (pa_cons (pe_own (c.g 16 (by decide))) pa_nil))) pa_nil))))) (pss_cons (ps_set (i := 2) sc__law_fault.nd rfl (Or.inl rfl) (pe_lst (pa_cons (pe_callB (call_isP hd) (by rfl) m_isinstance (by decide +kernel) (pa_cons (pv 0) (pa_cons (pe_own c.gWV) pa_nil))) (pa_cons (pe_callB (call_isP hd) (by rfl) m_isinstance (by decide +kernel) (pa_cons (pv 0) (pa_cons (pe_own c.gWN) pa_nil))) (pa_cons (pe_callB (call_isP hd) (by rfl) m_isinstance (by decide +kernel) (pa_cons (pv 0) (pa_cons (pe_own c.gNA) pa_nil))) pa_nil))))) (pss_cons (ps_set (i := 3) sc__law_fault.nd rfl (Or.inl rfl) (pe_lst (pa_cons (pe_callB (call_isP hd) (by rfl) m_isinstance (by decide +kernel) (pa_cons (pv 0) (pa_cons (pe_bty (n := "ValueError") m_ValueError) pa_nil))) (pa_cons (pe_callB (call_isP hd) (by rfl) m_isinstance (by decide +kernel) (pa_cons (pv 0) (pa_cons (pe_bty (n := "LookupError") m_LookupError) pa_nil))) (pa_cons (pe_callB (call_isP hd) (by rfl) m_isinstance (by decide +kernel) (pa_cons (pv 0) (pa_cons (pe_bty (n := "ArithmeticError") m_ArithmeticError) pa_nil))) pa_nil))))) (pss_cons (ps_if (pw_or (pt_cmpR (op_neH hr) (pe_bm PySem.F.plainAttrs_list PySem.F.slot_list_count PySem.F.type_list_count (mt_countH hr) (pv 1) (pa_cons pe_bl pa_nil)) pe_int (nomark _)) (pw_or1 (pt_cmpR (op_neH hr) (pv 3) (pv 2) (nomark _)))).pt (pss_one (ps_ret (pe_un un_neg pe_int))) pss_nil) (pss_cons (ps_set (i := 4) sc__law_fault.nd rfl (Or.inl rfl) (pe_bm PySem.F.plainAttrs_list PySem.F.slot_list_index PySem.F.type_list_index mt_index (pv 1) (pa_cons pe_bl pa_nil))) (pss_one (ps_ret (pe_ifExp (pt_cmpR (op_eqH hr) (pv 2) (pe_lst (pa_cons (pe_cmpR op_lt (pv 4) pe_int (nomark _)) (pa_cons (pe_chain op_lt op_lt pe_int (pv 4) pe_int) (pa_cons (pe_cmpR op_gt (pv 4) pe_int (nomark _)) pa_nil)))) (nomark _)) (pv 4) (pe_un un_neg pe_int)))))))))))))), ?_⟩)
  obtain ⟨i, fs, hi, rfl, rfl, hx, q⟩ := h
  have hj := c.lt i hi
  have I : ∀ (j : Nat), j < 17 → ∀ {σ : L2.St} {H1 : Hp}, σ[0]? = some (some (.ref a)) → Ex H H1 → Ev (tCB (rIsP K a (C i) d) (tCons (tVar 0) (tCons (tC (.ref (C j))) tNil))) σ H1 (.bl (decide (i = j))) := fun j hj σ H1 h0 e => ev_isP (ev_var h0) ev_c (hx.mono e) (c.T i hi) (.own _) (c.kit i hi j hj)
  refine q_asgY (P := LstOf Tru _) (yi_lst tru_mono (ys_cons tru_mono (yi_tru (I 0 (by decide) rfl (Ex.refl _))) (ys_cons tru_mono (yi_tru (I 1 (by decide) rfl (Ex.refl _))) (ys_cons tru_mono (yi_tru (I 2 (by decide) rfl (Ex.refl _))) ys_nil))) (by simp)) fun v1 H1 e1 p1 => ?_
  refine q_asgY (P := LstOf Tru _) (yi_cat tru_mono (yi_var rfl fun H9 e9 => p1.mono tru_mono e9) (yi_lst tru_mono (ys_cons tru_mono (yi_tru (I 3 (by decide) rfl (e1))) (ys_cons tru_mono (yi_tru (I 4 (by decide) rfl (e1))) (ys_cons tru_mono (yi_tru (I 5 (by decide) rfl (e1))) ys_nil))) (by simp)) (by simp)) fun v2 H2 e2 p2 => ?_
  refine q_asgY (P := LstOf Tru _) (yi_cat tru_mono (yi_var rfl fun H9 e9 => p2.mono tru_mono e9) (yi_lst tru_mono (ys_cons tru_mono (yi_tru (I 6 (by decide) rfl ((e1).trans e2))) (ys_cons tru_mono (yi_tru (I 7 (by decide) rfl ((e1).trans e2))) (ys_cons tru_mono (yi_tru (I 8 (by decide) rfl ((e1).trans e2))) ys_nil))) (by simp)) (by simp)) fun v3 H3 e3 p3 => ?_
  refine q_asgY (P := LstOf Tru _) (yi_cat tru_mono (yi_var rfl fun H9 e9 => p3.mono tru_mono e9) (yi_lst tru_mono (ys_cons tru_mono (yi_tru (I 9 (by decide) rfl (((e1).trans e2).trans e3))) (ys_cons tru_mono (yi_tru (I 10 (by decide) rfl (((e1).trans e2).trans e3))) (ys_cons tru_mono (yi_tru (I 11 (by decide) rfl (((e1).trans e2).trans e3))) ys_nil))) (by simp)) (by simp)) fun v4 H4 e4 p4 => ?_
  refine q_asgY (P := LstOf Tru _) (yi_cat tru_mono (yi_var rfl fun H9 e9 => p4.mono tru_mono e9) (yi_lst tru_mono (ys_cons tru_mono (yi_tru (I 12 (by decide) rfl ((((e1).trans e2).trans e3).trans e4))) (ys_cons tru_mono (yi_tru (I 13 (by decide) rfl ((((e1).trans e2).trans e3).trans e4))) (ys_cons tru_mono (yi_tru (I 14 (by decide) rfl ((((e1).trans e2).trans e3).trans e4))) ys_nil))) (by simp)) (by simp)) fun v5 H5 e5 p5 => ?_
  refine q_asgY (P := LstOf Tru _) (yi_cat tru_mono (yi_var rfl fun H9 e9 => p5.mono tru_mono e9) (yi_lst tru_mono (ys_cons tru_mono (yi_tru (I 15 (by decide) rfl (((((e1).trans e2).trans e3).trans e4).trans e5))) (ys_cons tru_mono (yi_tru (I 16 (by decide) rfl (((((e1).trans e2).trans e3).trans e4).trans e5))) ys_nil)) (by simp)) (by simp)) fun v6 H6 e6 p6 => ?_
  have e6' : Ex H H6 := (((((e1).trans e2).trans e3).trans e4).trans e5).trans e6
  obtain ⟨p, rfl, hp⟩ := p6.trus
  have hp : H6 p = some (.lst ((sortsB i).map V.bl)) := hp
  refine q_asgY (P := LstOf Tru (basesB i)) (yi_lst tru_mono (ys_cons tru_mono (yi_tru (ev_isP (ev_var rfl) ev_c (hx.mono e6') (c.T i hi) (.own _) (c.kWV i hi))) (ys_cons tru_mono (yi_tru (ev_isP (ev_var rfl) ev_c (hx.mono e6') (c.T i hi) (.own _) (c.kWN i hi))) (ys_cons tru_mono (yi_tru (ev_isP (ev_var rfl) ev_c (hx.mono e6') (c.T i hi) (.own _) (c.kNA i hi))) ys_nil))) (by unfold basesB; simp)) fun v7 H7 e7 p7 => ?_
  refine q_asgY (P := LstOf Tru (basesB i)) (yi_lst tru_mono (ys_cons tru_mono (yi_tru (ev_isP (ev_var rfl) ev_c (hx.mono (e6'.trans e7)) (c.T i hi) (.ty _) (c.kVE i hi))) (ys_cons tru_mono (yi_tru (ev_isP (ev_var rfl) ev_c (hx.mono (e6'.trans e7)) (c.T i hi) (.ty _) (c.kLE i hi))) (ys_cons tru_mono (yi_tru (ev_isP (ev_var rfl) ev_c (hx.mono (e6'.trans e7)) (c.T i hi) (.ty _) (c.kAE i hi))) ys_nil))) (by unfold basesB; simp)) fun v8 H8 e8 p8 => ?_
  obtain ⟨b, rfl, hb⟩ := (p7.mono tru_mono e8).trus
  obtain ⟨o, rfl, ho⟩ := p8.trus
  have hp8 := e8 _ _ (e7 _ _ hp)
  obtain ⟨sh, eq⟩ := bases_ok i
  refine q_when (b := false) (et_is (et_or (a := false) (b := false) (et_B (ev_is (ev_op (rc_count (ev_var rfl) (sq_of hp8) ev_c) ev_c (rv_l (rv_ne rfl))) (by rw [sorts_count i (by omega)]; rfl))) fun _ => et_B (ev_is (ev_op (ev_var rfl) (ev_var rfl) (rv_neTru ho hb sh sh eq)) rfl)) rfl) (fun z => nomatch z) fun _ H9 e9 => ?_
  refine q_asg (v := .int (i : Nat)) (rc_index (ev_var rfl) (sq_of (e9 _ _ hp8)) ev_c (sorts_at i (by omega)) (sorts_before i (by omega))) fun H10 e10 => ?_
  refine s_ret (ev_if (b := true) (et_B (ev_eqTru (cs := basesB i) (ev_var rfl) (e10 _ _ (e9 _ _ hb)) (yi_lst tru_mono (ys_cons tru_mono (yi_tru (ev_op (ev_var rfl) ev_c rv_I0)) (ys_cons tru_mono (yi_tru (ev_chainI (f := fun a b => decide (a < b)) (g := fun a b => decide (a < b)) ev_c (ev_var rfl) ev_c)) (ys_cons tru_mono (yi_tru (ev_op (ev_var rfl) ev_c rv_I0)) ys_nil))) (by unfold basesB; simp)) sh sh eq)) (fun _ => ev_var rfl) (fun z => nomatch z)) fun H11 e11 => q _ (((((e6'.trans e7).trans e8).trans e9).trans e10).trans e11)
abbrev s__law_kept : Stmt := top 68
abbrev sc__law_kept_N : List Str := ["_law_e", "_law_at"]
theorem sc__law_kept : FnScope sc__law_kept_N ["_law_e", "_law_at"] (defScope s__law_kept) := ⟨rfl, rfl, rfl, by decide +kernel, rfl, by decide +kernel, by decide +kernel⟩
theorem ok_kept (c : Cl P w K mg base rs C WV WN NA) (F : FnP K "_law_kept" s__law_kept f fd) : FnC P w K mg base 1 f fd ["_law_e", "_law_at"] (spKeptC rs C) := by
  refine SwX.FunD.okC F sc__law_kept (fun a C0 d vs H Q E h => by obtain ⟨i, v, _, _, rfl, _⟩ := h; rfl) (fun cdv A outer s H vs Q E a C0 d oe hr hd h => ⟨_, PSs.nox
    (pss_cons (ps_if (pt_cmpR op_in_seq (pv 1) (pe_lst (pa_cons pe_int (pa_cons pe_int (pa_cons pe_int (pa_cons pe_int (pa_cons pe_int pa_nil)))))) rfl) (pss_one (ps_ret (pe_lst (pa_cons (pe_fldP hd (pv 0)) pa_nil)))) pss_nil) (pss_cons (ps_if (pt_cmpR (op_eqH hr) (pv 1) pe_int (nomark _)) (pss_one (ps_ret (pe_lst (pa_cons (pe_fldP hd (pv 0)) pa_nil)))) pss_nil) (pss_cons (ps_if (pt_cmpR (op_eqH hr) (pv 1) pe_int (nomark _)) (pss_one (ps_ret (pe_lst (pa_cons (pe_fldP hd (pv 0)) (pa_cons (pe_fldP hd (pv 0)) pa_nil))))) pss_nil) (pss_one (ps_ret (pe_ifExp (pt_cmpR op_in_seq (pv 1) (pe_lst (pa_cons (pe_un un_neg pe_int) (pa_cons pe_int pa_nil))) rfl) (pe_lst pa_nil) (pe_lst (pa_cons (pe_fldP hd (pv 0)) pa_nil)))))))), ?_⟩)
  obtain ⟨i, v, hi, rfl, rfl, hx, q⟩ := h
  have hj := c.lt i hi
  have le := kd_le i hj
  have fr := c.fr i hi
  refine q_when (b := decide (exKd i = 1)) (et_is (et_B (ev_opL (ev_var rfl) (el_lst (ea_cons ev_c (ea_cons ev_c (ea_cons ev_c (ea_cons ev_c (ea_cons ev_c ea_nil))))) (by simp)) fun p H1 h1 _ => rv_isL (sq_of h1) rfl rfl)) (kd1 i hj)) (fun z H1 e1 => ?_) fun z1 H1 e1 => ?_
  · have z := of_decide_eq_true z
    have y : exFld i = "index" := by simp only [exFld, z]
    rw [y] at hx fr
    exact s_retL (el_lst (ea_cons (ev_fldP (ev_var rfl) (hx.mono e1) (c.T i hi) fr rfl) ea_nil) (by simp)) fun p H2 n2 e2 h2 => q p H2 (fresh_back e1 n2) (e1.trans e2) h2
  refine q_when (b := decide (exKd i = 2)) (et_is (et_B (ev_op (ev_var rfl) ev_c (rv_l (rv_eq rfl)))) (kd2 i hj)) (fun z H2 e2 => ?_) fun z2 H2 e2 => ?_
  · have z := of_decide_eq_true z
    have y : exFld i = "limit" := by simp only [exFld, z]
    rw [y] at hx fr
    exact s_retL (el_lst (ea_cons (ev_fldP (ev_var rfl) (hx.mono (e1.trans e2)) (c.T i hi) fr rfl) ea_nil) (by simp)) fun p H3 n3 e3 h3 => q p H3 (fresh_back (e1.trans e2) n3) ((e1.trans e2).trans e3) h3
  refine q_when (b := false) (et_is (et_B (ev_op (ev_var rfl) ev_c (rv_l (rv_eq rfl)))) (kd4 i hj)) (fun z => nomatch z) fun z3 H3 e3 => ?_
  have y1 := of_decide_eq_false z1
  have y2 := of_decide_eq_false z2
  have y : exFld i = "given" := by
    have y0 : exKd i = 0 := by omega
    simp only [exFld, y0]
  rw [y] at hx fr
  refine s_retL (xs := [v]) (el_ifY (b := false) (et_is (et_B (ev_opL (ev_var rfl) (el_lst (ea_cons (ev_un ev_c ru_neg) (ea_cons ev_c ea_nil)) (by simp)) fun p H1 h1 _ => rv_isL (sq_of h1) rfl rfl)) (kd3 i hj)) (fun z => nomatch z) (fun _ => el_lst (ea_cons (ev_fldP (ev_var rfl) (hx.mono ((e1.trans e2).trans e3)) (c.T i hi) fr rfl) ea_nil) (by simp))) fun p H4 n4 e4 h4 => q p H4 (fresh_back ((e1.trans e2).trans e3) n4) (((e1.trans e2).trans e3).trans e4) h4
end
end K07
set_option Elab.async false
set_option linter.all false
set_option maxRecDepth 100000
set_option maxHeartbeats 4000000
namespace K07
open PySem PySem.Spec PyProof.Rows L2 Evl SwX
abbrev s__law_caught : Stmt := top 69
abbrev sc__law_caught_N : List Str := ["_law_act", "_law_told", "_law_e", "_law_at"]
theorem sc__law_caught : FnScope sc__law_caught_N ["_law_act"] (defScope s__law_caught) := ⟨rfl, rfl, rfl, by decide +kernel, rfl, by decide +kernel, by decide +kernel⟩
/-- what the suite does with an exception of the class at c0 -/
def tSuite (rs : List Nat) (C : Nat → Addr) (rrL : List V → Hp → VK → Prop) (a c0 : Addr) (d : Option Addr) : TS :=
  tSeq (tAsg (tCall (spFaultC rs C a c0 d) [] E0 (tCons (tVar 2) tNil)) (gName 3)) (tRet (tLst (tCons (tVar 3) (tCons (tCB rrL (tCons (tCall (spKeptC rs C a c0 d) [] E0 (tCons (tVar 2) (tCons (tVar 3) tNil))) tNil)) tNil))))
def tSuiteV (rs : List Nat) (C : Nat → Addr) (rrL : List V → Hp → VK → Prop) (a : Addr) (cls : Value) (d : Option Addr) : TS := fun D σ H => ∃ c0, cls = .ref c0 ∧ tSuite rs C rrL a c0 d D σ H
/-- how repr reads while an exception is handled -/
def ReprRuleH (P : Program) (w : World) (K : PySem.W.Frag) (mg : Str → Option Value) (base : Heap) (j : Nat) (rr : List V → Hp → VK → Prop) : Prop := ∀ Y : Cx, Y.prog = P → Y.w = w → Y.K = K → Y.mg = mg → Y.base = base → Calm Y.A → L2H.RoomH j Y.A → L2H.HotC Y → CallR Y (.builtin "repr") rr
theorem four {σ : L2.St} (h : σ.length = 4) : ∃ a b c d, σ = [a, b, c, d] := match σ, h with
  | [a, b, c, d], _ => ⟨a, b, c, d, rfl⟩
theorem caught_gives {X : Cx} {k : Nat} {rs : List Nat} {C : Nat → Addr} {WV WN NA : Addr} {rrL rr : List V → Hp → VK → Prop} (c : Cl X.prog X.w X.K X.mg X.base rs C WV WN NA) (D_fault : HasC X.prog X.w X.K X.mg X.base "_law_fault" 1 ["_law_e"] (spFaultC rs C)) (D_kept : HasC X.prog X.w X.K X.mg X.base "_law_kept" 1 ["_law_e", "_law_at"] (spKeptC rs C))
    (hk : 5 ≤ k + 1) (RRL : ReprRuleH X.prog X.w X.K X.mg X.base 5 rrL) (m_repr : X.mg "repr" = none) (hr : Room (k + 2) X.A) (calm : Calm X.A) (RR : ∀ Y : Cx, Y.prog = X.prog → Y.w = X.w → Y.K = X.K → Y.mg = X.mg → Y.base = X.base → Calm Y.A → Room (k + 1) Y.A → CallR Y (.builtin "repr") rr) (g : Addr) (cdv : Value) (q : Str) :
    GivesToN X sc__law_caught_N "_law_caught" (defScope s__law_caught) g cdv (defBody s__law_caught) "_law_act" q (TTo rs C rrL rr) := by
  intro f c' s H Q tl act hc h
  have hr' := hr.deeper (envOfC "_law_caught" (defScope s__law_caught) s.heap.objs.size g cdv)
  have hH : L2H.RoomH (k + 1) (X.A.deeper (envOfC "_law_caught" (defScope s__law_caught) s.heap.objs.size g cdv)) := L2H.roomH_of hr'
  refine ⟨_, PSs.nox (pss_cons (ps_try_asNT (X := (cxOf C8.CX0 X.prog X.w X.K X.mg X.base sc__law_caught_N "_law_caught" (defScope s__law_caught) g cdv X.A X.stack s H C8.E0).nox) (i := 2) (cs := [.ref WV, .ref WN, .ref NA]) (ts := tSuiteV rs C rrL) (tb := fun W D σ H => ∃ (Ech : XK) (P : VK), (∀ cls d σ' H', Ech cls d H' → W cls d σ' H') ∧ σ[0]? = some (some (.ref f)) ∧ H c' = some (LamX.CodeO c' q) ∧ tl Ech H P ∧ ∀ v H', P v H' → D.nx (σ.set 1 (some v)) H')
      rfl rfl sc__law_caught.nd rfl rfl (clsT3 ⟨rfl, by decide, .inl c.gWV⟩ ⟨rfl, by decide, .inl c.gWN⟩ ⟨rfl, by decide, .inl c.gNA⟩) (fun W pn xe tk po => ?body) (fun a oe cls d pn zc dat => ?suite))
      (pss_one (ps_ret (pe_lst (pa_cons pe_str (pa_cons (pe_callB (RR _ rfl rfl rfl rfl rfl calm hr') (by rfl) m_repr (by decide +kernel) (pa_cons (pv 1) pa_nil)) pa_nil)))))), ?_⟩
  case body =>
    refine ⟨fun pins s' σ H' D I h' => ?_⟩
    obtain ⟨Ech, P, hW, h1, h2, h3, h4⟩ := h'
    exact (pss_one (ps_set (i := 1) sc__law_caught.nd rfl (Or.inl rfl) (pe_mono (act W pn xe Ech _ _ tk hW)))).run pins s' σ H' D I ⟨P, ⟨h1, h2, h3⟩, h4⟩
  case suite =>
    refine ⟨fun pins s' σ H' D I h' => ?_⟩
    obtain ⟨c0, e, h'⟩ := h'
    subst e
    have held : Held (((cxOf C8.CX0 X.prog X.w X.K X.mg X.base sc__law_caught_N "_law_caught" (defScope s__law_caught) g cdv X.A X.stack s H C8.E0).nox).suite a ((a, oe) :: pn)) a c0 d := ⟨oe, List.mem_cons_self, zc.zc, dat⟩
    have hot : L2H.HotC (((cxOf C8.CX0 X.prog X.w X.K X.mg X.base sc__law_caught_N "_law_caught" (defScope s__law_caught) g cdv X.A X.stack s H C8.E0).nox).suite a ((a, oe) :: pn)) := by
      obtain ⟨vs2, d2⟩ := dat
      exact ⟨(a, oe), ⟨rfl, vs2, d2, zc.2.2 vs2 d2⟩, List.mem_cons_self⟩
    have hS : L2H.RoomH (k + 1) (((cxOf C8.CX0 X.prog X.w X.K X.mg X.base sc__law_caught_N "_law_caught" (defScope s__law_caught) g cdv X.A X.stack s H C8.E0).nox).suite a ((a, oe) :: pn)).A := ⟨hH.dp, hH.un⟩
    exact (pss_cons (ps_set (i := 3) sc__law_caught.nd rfl (Or.inl rfl) (pe_hasC (X := ((cxOf C8.CX0 X.prog X.w X.K X.mg X.base sc__law_caught_N "_law_caught" (defScope s__law_caught) g cdv X.A X.stack s H C8.E0).nox).suite a ((a, oe) :: pn)) D_fault held (hS.mono (by omega)) (pa_cons (pv 2) pa_nil)))
      (pss_one (ps_ret (pe_lst (pa_cons (pv 3) (pa_cons (pe_callB (RRL _ rfl rfl rfl rfl rfl calm (hS.mono hk) hot) (by rfl) m_repr (by decide +kernel) (pa_cons (pe_hasC (X := ((cxOf C8.CX0 X.prog X.w X.K X.mg X.base sc__law_caught_N "_law_caught" (defScope s__law_caught) g cdv X.A X.stack s H C8.E0).nox).suite a ((a, oe) :: pn)) D_kept held (hS.mono (by omega)) (pa_cons (pv 2) (pa_cons (pv 3) pa_nil))) pa_nil)) pa_nil)))))).run pins s' σ H' D I h'
  refine ⟨Thrown rs C fun i v H' => ∀ p H1, Ex H' H1 → H1 p = some (.lst [v]) → rrL [.ref p] H1 fun x H2 => ([V.int (i : Nat), x] : List V).length ≤ sizeLine ∧ ∀ q, H2 q = none → Q (.ref q) (upd H2 q (.lst [.int (i : Nat), x])), _, fun cls d σ' H' hth => ?_, rfl, hc, h, fun v H' hp => ?_⟩
  · obtain ⟨i, v, hi, rfl, hf, fin⟩ := hth
    refine ⟨c.hit i hi, fun a na len => ⟨C i, rfl, ?_⟩⟩
    obtain ⟨x0, x1, x2, x3, rfl⟩ := four len
    refine q_asg (v := .int (i : Nat)) (ev_call (vs := [.ref a]) (ea_cons (ev_var rfl) ea_nil) fun H1 e1 R k E' => ⟨i, _, hi, rfl, rfl, hf.mono e1, k⟩) fun H1 e1 => ?_
    exact ⟨_, rfl, _, rfl, _, rfl, i, v, hi, rfl, rfl, hf.mono e1, fun p H3 n3 e3 h3 => fin p H3 (e1.trans e3) h3⟩
  · exact ⟨v, rfl, hp⟩

open LamX (Tabs ExtN TabB GivesTo tLam lamCx lamEnv LamS)
/-- _law_caught and what it calls -/
structure Caught (P : Program) (w : World) (K : PySem.W.Frag) (mg : Str → Option Value) (base : Heap) (rs : List Nat) (C : Nat → Addr) (WV WN NA : Addr) : Prop where
  cl : Cl P w K mg base rs C WV WN NA
  fault : HasC P w K mg base "_law_fault" 1 ["_law_e"] (spFaultC rs C)
  kept : HasC P w K mg base "_law_kept" 1 ["_law_e", "_law_at"] (spKeptC rs C)
  sys : SysIn K
  rep : mg "repr" = none
  ex : ∃ g fd, FunD K "_law_caught" "_law_caught" (defArgs s__law_caught) (defBody s__law_caught) (defScope s__law_caught) [] [] g fd ∧ mg "_law_caught" = some (.ref g)
/-- how repr reads, anywhere -/
def ReprRule (P : Program) (w : World) (K : PySem.W.Frag) (mg : Str → Option Value) (base : Heap) (j : Nat) (rr : List V → Hp → VK → Prop) : Prop := ∀ Y : Cx, Y.prog = P → Y.w = w → Y.K = K → Y.mg = mg → Y.base = base → Calm Y.A → Room j Y.A → CallR Y (.builtin "repr") rr
theorem pe_caught {X : Cx} {rs : List Nat} {C : Nat → Addr} {WV WN NA : Addr} {rrL rr : List V → Hp → VK → Prop} {c P0 : Addr} {T : List (Addr × Str)} {params : Arguments} {body : Expr} {scope : Scope} {t : XK → TE} {p lpos pos : Pos} (G : Caught X.prog X.w X.K X.mg X.base rs C WV WN NA) (RRL : ReprRuleH X.prog X.w X.K X.mg X.base 5 rrL) (RR : ReprRule X.prog X.w X.K X.mg X.base 5 rr) (hr : Room 11 X.A) (calm : Calm X.A)
    (TB : TabB X.base X.mg c P0) (hcode : X.env.code = .ref c) (hmT : (P0, X.env.qual ++ "<lambda>") ∈ T) (hu : ∀ p ∈ T, p.1 = P0 → p.2 = X.env.qual ++ "<lambda>") (Ls : LamS X.env.scope scope)
    (hbody : ∀ (A : Around) (outer : List Env) (s : Shared) (H : Hp) (E : XK) (f c' : Addr), Room 9 (A.deeper (lamEnv X scope s.heap.objs.size f c')) → PE (lamCxN X A outer s H E scope f c') body (t E))
    (hg : Gl X "_law_caught" := by rfl) (hdef : defaultsOf params X.env = ([], []) := by rfl)
    (hbind : ∀ (q : Str) (cl : List (Str × Addr)) (pm cv ctv : Value), bindArgs (PySem.W.kla_fn "<lambda>" q params body scope cl pm cv ctv) ⟨[], []⟩ = pure [] := by intros; rfl) :
    PE X (.Call (.Name "_law_caught" p) [.Lambda params body scope lpos] [] pos) (tLam T (TTo rs C rrL rr) t) := by
  obtain ⟨g, fd, F, hm⟩ := G.ex
  have hb := FunD.bindsN (ps := ["_law_act"]) F fun _ _ _ _ _ _ us hl => match us, hl with | [_], _ => rfl
  have hk := F.kp
  obtain ⟨oc, od, dV, kV, doc, pm, an, cdv, ct, osl, rfl, lk, hcd, _, _⟩ := F.ex
  exact pe_lamcallN (k := 9) (t := t) hg hm hk lk hcd hb sc__law_caught rfl (Or.inl rfl) (caught_gives (k := 9) G.cl G.fault G.kept (by decide) RRL G.rep hr calm (fun Y h1 h2 h3 h4 h5 cm r => RR Y h1 h2 h3 h4 h5 cm (r.mono (by decide))) g cdv _) TB hcode hmT hu hr Ls hdef hbind hbody
section
variable {X : Cx} {rs : List Nat} {C : Nat → Addr} {Cc WV WN NA : Addr} {rr : List V → Hp → VK → Prop} {c P0 : Addr} {T : List (Addr × Str)} {scope : Scope} {e : Expr} {es : List Expr} {kws : List (Keyword)} {t tk : TA} {p lpos pos p' pos' : Pos}
end
end K07
set_option Elab.async false
set_option linter.all false
set_option maxRecDepth 100000
set_option maxHeartbeats 4000000
namespace K07
open PySem PySem.Spec PyProof.Rows L2 Evl SwX
/-! ### members counted, plain -/
def cnt (g : Nat → Bool) (a n : Nat) : Nat := ((List.range n).filter fun i => g (a + i)).length
theorem cnt_add (g : Nat → Bool) (a m : Nat) : ∀ n, cnt g a (m + n) = cnt g a m + cnt g (a + m) n
  | 0 => by simp [cnt]
  | n + 1 => by
    have ih := cnt_add g a m n
    unfold cnt at ih ⊢
    rw [← Nat.add_assoc, List.range_succ, List.filter_append, List.length_append, ih, List.range_succ, List.filter_append, List.length_append, Nat.add_assoc]
    congr 2
    simp only [List.filter_cons, List.filter_nil, Nat.add_assoc]
    split <;> rfl
theorem cnt_cong {f g : Nat → Bool} {a b n : Nat} (h : ∀ i, i < n → f (a + i) = g (b + i)) : cnt f a n = cnt g b n := by
  unfold cnt
  congr 1
  exact List.filter_congr fun i hi => h i (List.mem_range.mp hi)
theorem cnt_shift {g : Nat → Bool} {c b : Nat} (e : EvP g c b) (q n : Nat) : cnt g (b + q * c) n = cnt g b n := cnt_cong fun i _ => by
  have := e.mul q (b + i) (Nat.le_add_right _ _)
  rw [← this]
  congr 1
  omega
theorem cnt_turns {g : Nat → Bool} {c b : Nat} (e : EvP g c b) : ∀ q, cnt g b (q * c) = q * cnt g b c
  | 0 => by simp [cnt]
  | q + 1 => by rw [Nat.succ_mul, cnt_add, cnt_turns e q, cnt_shift e, Nat.succ_mul]
theorem cnt_far {g : Nat → Bool} {c b w : Nat} (e : EvP g c b) (h : b ≤ w) : cnt g 0 w = cnt g 0 b + (w - b) / c * cnt g b c + cnt g b ((w - b) % c) := by
  have e1 : w = b + ((w - b) / c * c + (w - b) % c) := by
    have := Nat.div_add_mod (w - b) c
    rw [Nat.mul_comm] at this
    omega
  generalize (w - b) / c = q at e1 ⊢
  generalize (w - b) % c = s at e1 ⊢
  rw [e1, cnt_add, Nat.zero_add, cnt_add, cnt_turns e, cnt_shift e, Nat.add_assoc]
theorem zo_some (g : Nat → Bool) (i : Nat) : (zo g i).isSome = g i := by
  unfold zo
  cases g i <;> rfl
theorem mem_cnt {g : Nat → Bool} {r : Rw} (F : Flat g r) (a b : Nat) : (memL r a b).length = cnt g a (b - a) := by
  unfold memL cnt
  rw [List.length_map]
  congr 1
  exact List.filter_congr fun i _ => by rw [F.at_, zo_some]
theorem bel_cnt {g : Nat → Bool} {r : Rw} (F : Flat g r) (w : Nat) : belR r w = cnt g 0 w := by
  unfold belR
  by_cases h : w ≤ r.h
  · rw [if_pos h, mem_cnt F, Nat.sub_zero]
  · rw [if_neg h, mem_cnt F, mem_cnt F, cnt_far F.per (show r.h ≤ w by omega), Nat.sub_zero, cnt_add, Nat.zero_add, Nat.add_sub_cancel_left]
    omega
/-! ### the least member from w on -/
def lstL (g : Nat → Bool) (w : Nat) : Option Nat → Prop
  | some n => w ≤ n ∧ g n = true ∧ ∀ j, w ≤ j → j < n → g j = false
  | none => ∀ j, w ≤ j → g j = false
theorem lst_one {g : Nat → Bool} {w : Nat} : ∀ {o p : Option Nat}, lstL g w o → lstL g w p → o = p
  | none, none, _, _ => rfl
  | none, some n, h, k => by
    have := h n k.1
    rw [k.2.1] at this
    cases this
  | some m, none, h, k => by
    have := k m h.1
    rw [h.2.1] at this
    cases this
  | some m, some n, h, k => by
    by_cases c : m < n
    · have := k.2.2 m h.1 c
      rw [h.2.1] at this
      cases this
    · by_cases c2 : n < m
      · have := h.2.2 n k.1 c2
        rw [k.2.1] at this
        cases this
      · rw [show m = n by omega]
theorem win {g : Nat → Bool} {c b w N : Nat} (e : EvP g c b) (c0 : 0 < c) (hN : max w b + c ≤ w + N) : ∀ (n j : Nat), j ≤ n → w ≤ j → g j = true → ∃ i, i < N ∧ g (w + i) = true := by
  have m1 := Nat.le_max_left w b
  have m2 := Nat.le_max_right w b
  intro n
  induction n with
  | zero => intro j h1 h2 h3; exact ⟨0, by omega, by rw [show w + 0 = j by omega]; exact h3⟩
  | succ n ih =>
    intro j h1 h2 h3
    by_cases c1 : j < w + N
    · exact ⟨j - w, by omega, by rw [show w + (j - w) = j by omega]; exact h3⟩
    · have z := e (j - c) (by omega)
      rw [show j - c + c = j by omega, h3] at z
      exact ih (j - c) (by omega) (by omega) z.symm
theorem lst_find {g : Nat → Bool} {c b w N : Nat} (e : EvP g c b) (c0 : 0 < c) (hN : max w b + c ≤ w + N) : lstL g w (((List.range N).map fun i => w + i).find? g) := by
  rw [List.find?_map]
  cases h : (List.range N).find? (g ∘ fun i => w + i) with
  | some i =>
    obtain ⟨h1, k, hk, rfl, h2⟩ := List.find?_eq_some_iff_getElem.mp h
    refine ⟨by simp, by simpa using h1, fun j hj hl => ?_⟩
    simp only [List.getElem_range] at hl
    have hk' : k < N := by simpa using hk
    have z := h2 (j - w) (by omega)
    simp only [List.getElem_range, Function.comp, Bool.not_eq_true'] at z
    rw [show w + (j - w) = j by omega] at z
    simpa using z
  | none =>
    intro j hj
    have z := List.find?_eq_none.mp h
    cases q : g j with
    | false => rfl
    | true =>
      obtain ⟨i, h1, h2⟩ := win e c0 hN j j (Nat.le_refl _) hj q
      exact absurd h2 (by simpa using z i (List.mem_range.mpr h1))
/-- what the law's own walk finds -/
def onG (g : Nat → Bool) (b c w : Nat) : Option Nat := ((List.range (b + c)).map fun i => w + i).find? g
theorem on_same {g : Nat → Bool} {r : Rw} {b c : Nat} (F : Flat g r) (e : EvP g c b) (c0 : 0 < c) (w : Nat) : onw r w = onG g b c w := by
  have cp := F.ok.pos
  refine lst_one (g := g) (w := w) ?_ (lst_find e c0 (by rcases Nat.le_total w b with h | h <;> simp [Nat.max_eq_left, Nat.max_eq_right, h] <;> omega))
  have m1 := Nat.le_max_left w r.h
  have z := lst_find (N := max w r.h + r.c - w) (w := w) F.per cp (by omega)
  unfold onw
  have e2 : (fun i => (r.at i).isSome) = g := funext fun i => by rw [F.at_, zo_some]
  rw [e2]
  exact z
theorem onG_some {g : Nat → Bool} {b c w i : Nat} (hi : i < b + c) (h : g (w + i) = true) (no : ∀ j, j < i → g (w + j) = false) : onG g b c w = some (w + i) := by
  unfold onG
  have e : (List.range (b + c)).find? (g ∘ fun i => w + i) = some i := List.find?_eq_some_iff_getElem.mpr ⟨h, i, by simpa using hi, by simp, fun j hj => by simpa using no j hj⟩
  rw [List.find?_map, e] <;> rfl
theorem onG_none {g : Nat → Bool} {b c w : Nat} (no : ∀ j, j < b + c → g (w + j) = false) : onG g b c w = none := by
  unfold onG
  rw [List.find?_map, List.find?_eq_none.mpr fun j hj => by simpa using no j (List.mem_range.mp hj)] <;> rfl
/-! ### the law's own functions -/
section
variable {P : Program} {w : World} {K : PySem.W.Frag} {mg : Str → Option Value} {base : Heap} {f : Addr} {fd : FuncData}
def spHas : Sp := fun vs H Q _ => ∃ (v : V) (g : Nat → Bool) (b c n : Nat), vs = [v, natV n] ∧ ModAt g b c v H ∧ b ≤ 4000 ∧ 0 < c ∧ c ≤ 4000 ∧ EvP g c b ∧ ∀ H', Ex H H' → Q (.bl (g n)) H'
def spOnL : Sp := fun vs H Q _ => ∃ (v : V) (g : Nat → Bool) (b c n : Nat), vs = [v, natV n] ∧ ModAt g b c v H ∧ b ≤ 4000 ∧ 0 < c ∧ c ≤ 4000 ∧ EvP g c b ∧ ∀ H', Ex H H' → Q (ov ((onG g b c n).map fun n => ((n : Nat) : Int))) H'
def spBelL : Sp := fun vs H Q _ => ∃ (v : V) (g : Nat → Bool) (b c n : Nat), vs = [v, natV n] ∧ ModAt g b c v H ∧ b ≤ 4000 ∧ 0 < c ∧ c ≤ 4000 ∧ EvP g c b ∧ ∀ H', Ex H H' → Q (natV (cnt g 0 n)) H'
def spFarN : Sp := fun vs H Q _ => ∃ a : Addr, vs = [.ref a] ∧ Pur H a ∧ ∀ (n : Nat) H', n < 10 ^ 39 → Ex (less a H) H' → Pur H' a → Q (natV n) H'
theorem mod_up {g : Nat → Bool} {b c : Nat} {v : V} {H H' : Hp} (h : ModAt g b c v H) (e : Ex H H') : ModAt g b c v H' := by
  obtain ⟨t, d1, d2, rfl, h0, h1, h2⟩ := h
  exact ⟨t, d1, d2, rfl, e _ _ h0, e _ _ h1, e _ _ h2⟩
abbrev s__law_has : Stmt := top 72
abbrev sc__law_has_N : List Str := ["_law_model_here", "_law_spot", "_law_begin"]
theorem sc__law_has : FnScope sc__law_has_N ["_law_model_here", "_law_spot"] (defScope s__law_has) := ⟨rfl, rfl, rfl, by decide +kernel, rfl, by decide +kernel, by decide +kernel⟩
theorem ok_has (m_len : mg "len" = none) (m_int : mg "int" = none) (F : FnP K "_law_has" s__law_has f fd) : FnOk P w K mg base CX0 1 f fd ["_law_model_here", "_law_spot"] spHas := by
  refine F.ok sc__law_has (fun vs H Q E h => by obtain ⟨v, g, b, c, n, rfl, _⟩ := h; rfl) (fun cdv A outer s H vs Q E hr h => ⟨_, PSs.nox
    (pss_cons (ps_set (i := 2) sc__law_has.nd rfl (Or.inl rfl) (pe_callB (lenK K) (by rfl) m_len (by decide +kernel) (pa_cons (pe_ix (ixK K) (pv 0) pe_int (fun _ _ => rfl)) pa_nil))) (pss_one (ps_ret (pe_ifExp (pt_cmpR op_lt (pv 1) (pv 2) (nomark _)) (pe_ix (ixK K) (pe_ix (ixK K) (pv 0) pe_int (fun _ _ => rfl)) (pv 1) (fun _ _ => rfl)) (pe_ix (ixK K) (pe_ix (ixK K) (pv 0) pe_int (fun _ _ => rfl)) (pe_op op_modN (pe_callTy call_int1 (by rfl) m_int (by decide +kernel) (pa_cons (pe_op op_sub (pv 1) (pv 2)) pa_nil)) (pe_callB (lenK K) (by rfl) m_len (by decide +kernel) (pa_cons (pe_ix (ixK K) (pv 0) pe_int (fun _ _ => rfl)) pa_nil))) (fun _ _ => rfl)))))), ?_⟩)
  obtain ⟨v, g, b, c, n, rfl, hv, hb, c0, hc, e, q⟩ := h
  obtain ⟨t, d1, d2, rfl, h0, h1, h2⟩ := hv
  have e0 : ∀ {σ : L2.St} {H' : Hp}, Ex H H' → σ[0]? = some (some (.ref t)) → Ev (tOp (rIx K) (tVar 0) (tC (.int 0))) σ H' (.ref d1) := fun e' z => ev_op (ev_var z) ev_c (rv_ixTn (i := 0) (.inl (.inl (e' _ _ h0))) rfl)
  have e1 : ∀ {σ : L2.St} {H' : Hp}, Ex H H' → σ[0]? = some (some (.ref t)) → Ev (tOp (rIx K) (tVar 0) (tC (.int 1))) σ H' (.ref d2) := fun e' z => ev_op (ev_var z) ev_c (rv_ixTn (i := 1) (.inl (.inl (e' _ _ h0))) rfl)
  have lb : ((List.range b).map fun i => V.bl (g i)).length = b := by simp
  have lc : ((List.range c).map fun i => V.bl (g (b + i))).length = c := by simp
  refine q_asg (i := 2) (v := natV b) (ev_is (ev_lenL (e0 (Ex.refl H) rfl) (.inl (sq_of h1))) (by rw [lb])) fun H1 x1 => ?_
  refine s_ret (v := .bl (g n)) (ev_if (b := decide ((n : Int) < (b : Nat))) (et_B (ev_op (ev_var (i := 1) rfl) (ev_var (i := 2) rfl) rv_I0)) (fun z => ?_) fun z => ?_) fun H2 x2 => q H2 (x1.trans x2)
  · have z := of_decide_eq_true z
    exact ev_op (e0 x1 rfl) (ev_var (i := 1) rfl) (rv_ixLn (i := n) (sq_of (x1 _ _ h1)) (by rw [List.getElem?_map, List.getElem?_range (by omega)] <;> rfl))
  · have z := of_decide_eq_false z
    have lt : (n - b) % c < c := Nat.mod_lt _ c0
    have ei : (((n : Int) - (b : Nat)).fmod ((c : Nat) : Int)) = (((n - b) % c : Nat) : Int) := by
      rw [Int.fmod_eq_emod_of_nonneg _ (by omega), show (n : Int) - (b : Nat) = ((n - b : Nat) : Int) by omega, ← Int.natCast_emod]
    refine ev_op (e1 x1 rfl) (ev_is (ev_op (ev_int1 (ev_op (ev_var (i := 1) rfl) (ev_var (i := 2) rfl) rv_I0)) (ev_is (ev_lenL (e1 x1 rfl) (.inl (sq_of (x1 _ _ h2)))) (by rw [lc])) (rv_I (by omega))) (by rw [ei])) (rv_ixLn (i := (n - b) % c) (sq_of (x1 _ _ h2)) ?_)
    rw [List.getElem?_map, List.getElem?_range lt]
    show some (V.bl (g (b + (n - b) % c))) = _
    rw [e.mod (Nat.le_refl b), show b + (n - b) = n by omega]
theorem ev_has {g : Nat → Bool} {b c n : Nat} {v : V} {σ : L2.St} {H : Hp} {ta tb : TE} (hv : ModAt g b c v H) (hb : b ≤ 4000) (c0 : 0 < c) (hc : c ≤ 4000) (e : EvP g c b) (h1 : Ev ta σ H v) (h2 : Ev tb σ H (natV n)) : Ev (tCall spHas [] E0 (tCons ta (tCons tb tNil))) σ H (.bl (g n)) :=
  ev_call (vs := [v, natV n]) (ea_cons h1 (ea_cons h2 ea_nil)) fun H1 e1 R k E' => ⟨v, g, b, c, n, rfl, (mod_up hv e1), hb, c0, hc, e, k⟩
abbrev s__law_far : Stmt := top 73
abbrev sc__law_far_N : List Str := ["_law_purse_here"]
theorem sc__law_far : FnScope sc__law_far_N ["_law_purse_here"] (defScope s__law_far) := ⟨rfl, rfl, rfl, by decide +kernel, rfl, by decide +kernel, by decide +kernel⟩
theorem ok_far (D__law_draw : Has P w K mg base "_law_draw" 1 ["_law_purse_here", "_law_many"] spDraw) (F : FnP K "_law_far" s__law_far f fd) : FnOk P w K mg base CX0 2 f fd ["_law_purse_here"] spFarN := by
  refine F.ok sc__law_far (fun vs H Q E h => by obtain ⟨a, rfl, _⟩ := h; rfl) (fun cdv A outer s H vs Q E hr h => ⟨_, PSs.nox
    (pss_one (ps_ret (pe_op (addK K) (pe_ix (ixK K) (pe_lst (pa_cons (pe_op op_pow pe_int pe_int) (pa_cons (pe_op op_pow pe_int pe_int) (pa_cons (pe_op op_pow pe_int pe_int) (pa_cons (pe_op op_pow pe_int pe_int) pa_nil))))) (pe_has D__law_draw (hr.mono (by decide)) (pa_cons (pv 0) (pa_cons pe_int pa_nil))) (fun _ _ => rfl)) (pe_has D__law_draw (hr.mono (by decide)) (pa_cons (pv 0) (pa_cons pe_int pa_nil)))))), ?_⟩)
  obtain ⟨a, rfl, p0, q⟩ := h
  have t4 : CPow 10 4 := by unfold CPow; omega
  have t12 : CPow 10 12 := by unfold CPow; omega
  have t20 : CPow 10 20 := by unfold CPow; omega
  have t38 : CPow 10 38 := by unfold CPow; omega
  refine s_retDr (a := a) (G := less a H) (P := fun v => ∃ n : Nat, v = natV n ∧ n < 10 ^ 39) (dr_op (P1 := fun v => ∃ i : Int, v = .int i ∧ 0 ≤ i ∧ i ≤ 10 ^ 38) (P2 := fun v => ∃ k : Int, v = .int k ∧ 0 ≤ k ∧ k < 5040) ((dr_pickK (K := K) less_at (el_lst (ea_cons (ev_op ev_c ev_c (rv_I t4)) (ea_cons (ev_op ev_c ev_c (rv_I t12)) (ea_cons (ev_op ev_c ev_c (rv_I t20)) (ea_cons (ev_op ev_c ev_c (rv_I t38)) ea_nil)))) (by simp)) fun G1 n1 _ => dr_draw (m := 4) n1 rfl ev_c (by decide) (by decide)).imp fun v hv => ?_) (dr_draw (m := 5040) less_at rfl ev_c (by decide) (by decide)) fun x y hx hy => ?_) less_ex p0 fun v H1 hv e1 p1 => ?_
  · simp only [List.mem_cons, List.not_mem_nil, or_false] at hv
    rcases hv with rfl | rfl | rfl | rfl <;> exact ⟨_, rfl, by decide, by decide⟩
  · obtain ⟨i, rfl, i0, i1⟩ := hx
    obtain ⟨k, rfl, k0, k1⟩ := hy
    exact ⟨.int (i + k), ⟨(i + k).toNat, by show V.int _ = V.int _; congr 1; omega, by omega⟩, fun H => rv_addI⟩
  · obtain ⟨n, rfl, lt⟩ := hv
    exact q n H1 lt e1 p1
abbrev s__law_onward : Stmt := top 74
abbrev sc__law_onward_N : List Str := ["_law_model_here", "_law_spot", "_law_step"]
theorem sc__law_onward : FnScope sc__law_onward_N ["_law_model_here", "_law_spot"] (defScope s__law_onward) := ⟨rfl, rfl, rfl, by decide +kernel, rfl, by decide +kernel, by decide +kernel⟩
theorem ok_lonward (m_len : mg "len" = none) (m_range : mg "range" = none) (D__law_has : Has P w K mg base "_law_has" 1 ["_law_model_here", "_law_spot"] spHas) (F : FnP K "_law_onward" s__law_onward f fd) : FnOk P w K mg base CX0 2 f fd ["_law_model_here", "_law_spot"] spOnL := by
  refine F.ok sc__law_onward (fun vs H Q E h => by obtain ⟨v, g, b, c, n, rfl, _⟩ := h; rfl) (fun cdv A outer s H vs Q E hr h => ⟨_, PSs.nox
    (pss_cons (ps_for PassesOwn.never rfl (pi_range1 (by rfl) m_range (pa_cons (pe_op (addK K) (pe_callB (lenK K) (by rfl) m_len (by decide +kernel) (pa_cons (pe_ix (ixK K) (pv 0) pe_int (fun _ _ => rfl)) pa_nil)) (pe_callB (lenK K) (by rfl) m_len (by decide +kernel) (pa_cons (pe_ix (ixK K) (pv 0) pe_int (fun _ _ => rfl)) pa_nil))) pa_nil)) (pg_name (i := 2) sc__law_onward.nd rfl (Or.inl rfl)) (pss_one (ps_if (pt_val (pe_has D__law_has (hr.mono (by decide)) (pa_cons (pv 0) (pa_cons (pe_op (addK K) (pv 1) (pv 2)) pa_nil)))) (pss_one (ps_ret (pe_op (addK K) (pv 1) (pv 2)))) pss_nil))) (pss_one (ps_ret pe_non))), ?_⟩)
  obtain ⟨v, g, b, c, n, rfl, hv, hb, c0, hc, e, q⟩ := h
  have hv0 := hv
  obtain ⟨t, d1, d2, rfl, h0, h1, h2⟩ := hv
  have lb : ((List.range b).map fun i => V.bl (g i)).length = b := by simp
  have lc : ((List.range c).map fun i => V.bl (g (b + i))).length = c := by simp
  refine q_forR1 (n := ((b + c : Nat) : Int)) (ea_cons (ev_is (ev_op (ev_lenL (ev_op (ev_var (i := 0) rfl) ev_c (rv_ixTn (i := 0) (.inl (.inl h0)) rfl)) (.inl (sq_of h1))) (ev_lenL (ev_op (ev_var (i := 0) rfl) ev_c (rv_ixTn (i := 1) (.inl (.inl h0)) rfl)) (.inl (sq_of h2))) rv_addI) (by rw [lb, lc]; show V.int _ = V.int _; rw [Int.natCast_add])) ea_nil) (by omega) (fun i σ' H' => (∃ x2, σ' = [some (.ref t), some (natV n), x2]) ∧ Ex H H' ∧ ∀ j, j < i → g (n + j) = false) (fun H1 e1 => ⟨⟨_, rfl⟩, e1, fun j h => absurd h (Nat.not_lt_zero j)⟩) (fun i σ' H1 lt z => ?_) fun σ' H1 z => ?_
  · obtain ⟨⟨x2, rfl⟩, e1, pre⟩ := z
    have ad : ∀ {σ : L2.St} {H' : Hp}, σ[1]? = some (some (natV n)) → σ[2]? = some (some (.int (i : Int))) → Ev (tOp (rAddX K) (tVar 1) (tVar 2)) σ H' (natV (n + i)) := fun a b => ev_is (ev_op (ev_var a) (ev_var b) rv_addI) (by show V.int _ = V.int _; rw [Int.natCast_add])
    refine s_when (b := g (n + i)) (et_B (ev_has (mod_up hv0 e1) hb c0 hc e (ev_var (i := 0) rfl) (ad rfl rfl))) (fun z H2 e2 => ?_) fun z H2 e2 => ⟨⟨_, rfl⟩, e1.trans e2, fun j hj => ?_⟩
    · have e3 := onG_some (b := b) (c := c) (w := n) (i := i) (by omega) z pre
      exact s_ret (v := ov ((onG g b c n).map fun n => ((n : Nat) : Int))) (ev_is (ad rfl rfl) (by rw [e3] <;> rfl)) fun H3 e4 => q H3 ((e1.trans e2).trans e4)
    · rcases Nat.lt_succ_iff_lt_or_eq.mp hj with h | rfl
      · exact pre j h
      · exact z
  · obtain ⟨⟨x2, rfl⟩, e1, pre⟩ := z
    have e3 := onG_none (g := g) (b := b) (c := c) (w := n) fun j hj => pre j (by omega)
    exact s_ret (v := ov ((onG g b c n).map fun n => ((n : Nat) : Int))) (ev_is ev_c (by rw [e3] <;> rfl)) fun H2 e2 => q H2 (e1.trans e2)
end
section
variable {K : PySem.W.Frag}
theorem ev_sumN {σ : L2.St} {H : Hp} {te : TE} {ns : List Nat} (h : EvL te σ H (ns.map natV)) : Ev (tCB (rSum K) (tCons te tNil)) σ H (.int (ns.sum : Nat)) := fun H1 e1 Q q =>
  h H1 e1 _ fun p H2 n2 e2 hp => ⟨p, ns.map fun n => ((n : Nat) : Int), rfl, sq_of (by rw [hp, List.map_map] <;> rfl), by
    have e : (ns.map fun n => ((n : Nat) : Int)).sum = ((ns.sum : Nat) : Int) := by
      clear h hp q
      induction ns with
      | nil => rfl
      | cons a l ih => simp only [List.map_cons, List.sum_cons, ih, Int.natCast_add]
    rw [e]
    exact q H2 e2⟩
end
section
variable {P : Program} {w : World} {K : PySem.W.Frag} {mg : Str → Option Value} {base : Heap} {f : Addr} {fd : FuncData}
theorem ones_sum {l : List Nat} : (l.map fun _ => 1).sum = l.length := by
  induction l with
  | nil => rfl
  | cons x l ih => rw [List.map_cons, List.sum_cons, ih, List.length_cons]; omega
theorem count_range (g : Nat → Bool) (a : Nat) : ∀ n, ((List.range n).map fun i => g (a + i)).count true = cnt g a n
  | 0 => rfl
  | n + 1 => by
    have ih := count_range g a n
    unfold cnt at ih ⊢
    rw [List.range_succ, List.map_append, List.count_append, ih, List.filter_append, List.length_append]
    congr 1
    cases h : g (a + n) <;> simp [h]
theorem rc_countE {K : PySem.W.Frag} {σ : L2.St} {H : Hp} {bs : List Bool} {b : Bool} {to te : TE} (ho : EvL to σ H (bs.map V.bl)) (he : ∀ H1, Ex H H1 → Ev te σ H1 (.bl b)) : Ev (tBM K "list" (rCountB K) to (tCons te tNil)) σ H (.int (bs.count b : Nat)) := fun H1 e1 Q q =>
  ho H1 e1 _ fun p H2 n2 e2 h2 => (rc_count (K := K) (to := fun _ H Q => Q (.ref p) H) (te := te) (H := H2) (σ := σ) (fun H3 e3 Q k => k H3 (Ex.refl H3)) (sq_of h2) (he H2 (e1.trans e2))) H2 (Ex.refl H2) Q fun H3 e3 => q H3 (e2.trans e3)
abbrev s__law_below : Stmt := top 75
abbrev sc__law_below_N : List Str := ["_law_model_here", "_law_spot", "_law_head", "_law_cycle", "_law_turns", "_law_rest", "_law_at"]
theorem sc__law_below : FnScope sc__law_below_N ["_law_model_here", "_law_spot"] (defScope s__law_below) := ⟨rfl, rfl, rfl, by decide +kernel, rfl, by decide +kernel, by decide +kernel⟩
theorem ok_lbelow (m_len : mg "len" = none) (m_range : mg "range" = none) (m_sum : mg "sum" = none) (m_divmod : mg "divmod" = none) (F : FnP K "_law_below" s__law_below f fd) : FnOk P w K mg base CX0 1 f fd ["_law_model_here", "_law_spot"] spBelL := by
  refine F.ok sc__law_below (fun vs H Q E h => by obtain ⟨v, g, b, c, n, rfl, _⟩ := h; rfl) (fun cdv A outer s H vs Q E hr h => ⟨_, PSs.nox
    (pss_cons (ps_asg (pv 0) (pg_tup rfl (pgs_cons (pg_name (i := 2) sc__law_below.nd rfl (Or.inr rfl)) (pgs_cons (pg_name (i := 3) sc__law_below.nd rfl (Or.inl rfl)) pgs_nil)))) (pss_cons (ps_if (pt_cmpR op_le (pv 1) (pe_callB (lenK K) (by rfl) m_len (by decide +kernel) (pa_cons (pv 2) pa_nil)) (nomark _)) (pss_one (ps_ret (pe_callB (cr_sum rfl) (by rfl) m_sum (by decide +kernel) (pa_cons (pe_lc (own := [("_law_at", 6)]) (g := gName 6) rfl sc__law_below.nd (pi_range1 (by rfl) m_range (pa_cons (pv 1) pa_nil)) (blkOk_by (N := sc__law_below_N) (sc := defScope s__law_below) (by decide +kernel)) (fun _ _ _ _ _ => pg_name (i := 6) sc__law_below.nd rfl (Or.inl rfl)) (fun _ _ _ _ _ => (pts_one (pt_val (pe_ix (ixK K) (pv 2) (pv 6) (fun _ _ => rfl))))) (fun _ _ _ _ _ => pe_int)) pa_nil)))) pss_nil) (pss_cons (ps_asg (pe_callB call_divmodW (by rfl) m_divmod (by decide +kernel) (pa_cons (pe_op op_sub (pv 1) (pe_callB (lenK K) (by rfl) m_len (by decide +kernel) (pa_cons (pv 2) pa_nil))) (pa_cons (pe_callB (lenK K) (by rfl) m_len (by decide +kernel) (pa_cons (pv 3) pa_nil)) pa_nil))) (pg_tup rfl (pgs_cons (pg_name (i := 4) sc__law_below.nd rfl (Or.inl rfl)) (pgs_cons (pg_name (i := 5) sc__law_below.nd rfl (Or.inl rfl)) pgs_nil)))) (pss_one (ps_ret (pe_op (addK K) (pe_op (addK K) (pe_bm PySem.F.plainAttrs_list PySem.F.slot_list_count PySem.F.type_list_count (mt_countB hr) (pv 2) (pa_cons pe_bl pa_nil)) (pe_op op_mul (pv 4) (pe_bm PySem.F.plainAttrs_list PySem.F.slot_list_count PySem.F.type_list_count (mt_countB hr) (pv 3) (pa_cons pe_bl pa_nil)))) (pe_bm PySem.F.plainAttrs_list PySem.F.slot_list_count PySem.F.type_list_count (mt_countB hr) (pe_slice (slK K) (pv 3) po_none (po_some (pv 5))) (pa_cons pe_bl pa_nil)))))))), ?_⟩)
  obtain ⟨v, g, b, c, n, rfl, hv, hb, c0, hc, e, q⟩ := h
  obtain ⟨t, d1, d2, rfl, h0, h1, h2⟩ := hv
  have lb : ((List.range b).map fun i => V.bl (g i)).length = b := by simp
  have lc : ((List.range c).map fun i => V.bl (g (b + i))).length = c := by simp
  have bl1 : ((List.range b).map fun i => V.bl (g i)) = ((List.range b).map fun i => g (0 + i)).map V.bl := by rw [List.map_map]; exact List.map_congr_left fun i _ => by simp
  have bl2 : ((List.range c).map fun i => V.bl (g (b + i))) = ((List.range c).map fun i => g (b + i)).map V.bl := by rw [List.map_map] <;> rfl
  refine q_asgNT (K := K) (i := 2) (j := 3) (ev_var (i := 0) rfl) (.inl (.inl h0)) fun H1 e1 => ?_
  have g1 := e1 _ _ h1
  have g2 := e1 _ _ h2
  refine q_when (b := decide ((n : Int) ≤ (b : Nat))) (et_B (ev_op (ev_var (i := 1) rfl) (ev_is (ev_lenL (ev_var (i := 2) rfl) (.inl (sq_of g1))) (by rw [lb])) rv_I0)) (fun z H2 e2 => ?_) fun z H2 e2 => ?_
  · have z := of_decide_eq_true z
    have g1' := e2 _ _ g1
    refine s_ret (v := natV (cnt g 0 n)) (ev_is (ev_sumN (ns := ((List.range n).filter fun i => g (0 + i)).map fun _ => 1) (el_is (el_lcR1 (j := 6) (n := (n : Int)) (fun i => g (0 + i)) (fun _ => .int 1) (ea_cons (ev_var (i := 1) rfl) ea_nil) (by omega) (fun _ => rfl) (fun i H3 e3 lt => et_B (ev_op (ev_var (i := 2) rfl) (ev_var (i := 6) rfl) (rv_ixLn (i := i) (sq_of (e3 _ _ g1')) (by rw [bl1, List.map_map, List.getElem?_map, List.getElem?_range (by omega)] <;> rfl)))) fun i H3 e3 lt _ => ev_c) (by unfold given; rw [List.map_map, Int.toNat_natCast] <;> rfl))) (by rw [ones_sum] <;> rfl)) fun H3 e3 => q H3 ((e1.trans e2).trans e3)
  · have z := of_decide_eq_false z
    have i0 : (n : Int) - (b : Nat) = ((n - b : Nat) : Int) := by omega
    have E2 := e1.trans e2
    refine q_asgNN (i := 4) (j := 5) (x := .int (((n - b) / c : Nat) : Int)) (y := .int (((n - b) % c : Nat) : Int)) (eu_is (eu_divmod (i := ((n - b : Nat) : Int)) (j := (c : Nat)) (ev_is (ev_op (ev_var (i := 1) rfl) (ev_is (ev_lenL (ev_var (i := 2) rfl) (.inl (sq_of (e2 _ _ g1)))) (by rw [lb])) rv_I0) (by rw [i0])) (ev_is (ev_lenL (ev_var (i := 3) rfl) (.inl (sq_of (e2 _ _ g2)))) (by rw [lc])) (pylong_small (by omega) (by omega))) (by rw [Int.natCast_ediv, Int.natCast_emod])) fun H3 e3 => ?_
    have k1 : H3 d1 = some (.lst (((List.range b).map fun i => g (0 + i)).map V.bl)) := by rw [← bl1]; exact e3 _ _ (e2 _ _ g1)
    have k2 : H3 d2 = some (.lst (((List.range c).map fun i => g (b + i)).map V.bl)) := by rw [← bl2]; exact e3 _ _ (e2 _ _ g2)
    have far := cnt_far e (show b ≤ n by omega)
    have lt : (n - b) % c < c := Nat.mod_lt _ c0
    have c1 : cnt g b c ≤ c := by unfold cnt; exact Nat.le_trans (List.length_filter_le _ _) (by simp)
    generalize (n - b) / c = tn at far ⊢
    generalize (n - b) % c = rs at far lt ⊢
    have tk : ((List.range c).map fun i => g (b + i)).take rs = (List.range rs).map fun i => g (b + i) := by rw [← List.map_take, List.take_range, Nat.min_eq_left (by omega)]
    refine s_ret (v := natV (cnt g 0 n)) (ev_is (ev_op (ev_op (rc_count (b := true) (ev_var (i := 2) rfl) (sq_of k1) ev_c) (ev_op (ev_var (i := 4) rfl) (rc_count (b := true) (ev_var (i := 3) rfl) (sq_of k2) ev_c) (rv_I (Or.inr (by rw [count_range]; omega)))) rv_addI) (rc_countE (b := true) (bs := (List.range rs).map fun i => g (b + i)) (el_is (el_slL (ev_var (i := 3) rfl) (sq_of k2) eo_none (eo_some (ev_var (i := 5) rfl))) (by rw [cut_take, ← List.map_take, tk])) fun H4 e4 => ev_c) rv_addI) (by rw [far, count_range, count_range, count_range]; show V.int _ = V.int _; rw [Int.natCast_add, Int.natCast_add, Int.natCast_mul])) fun H4 e4 => q H4 ((E2.trans e3).trans e4)
end
end K07
set_option Elab.async false
set_option linter.all false
set_option maxRecDepth 100000
set_option maxHeartbeats 4000000
namespace K07
open PySem PySem.Spec PyProof.Rows L2 Evl SwX
open LamX (Tabs ExtN TabB GivesTo tLam lamCx lamEnv LamS)
theorem join_mem (c : Nat) : ∀ (a : List (List Nat)) (d : Nat), d ∈ TL.joinL [c] a → d = c ∨ ∃ l ∈ a, d ∈ l
  | [], d, h => nomatch h
  | [p], d, h => .inr ⟨p, List.mem_cons_self, h⟩
  | p :: q :: r, d, h => by
    have h : d ∈ p ++ ([c] ++ TL.joinL [c] (q :: r)) := h
    rcases List.mem_append.mp h with h | h
    · exact .inr ⟨p, List.mem_cons_self, h⟩
    · rcases List.mem_append.mp h with h | h
      · exact .inl (List.mem_singleton.mp h)
      · rcases join_mem c (q :: r) d h with z | ⟨l, hl, z⟩
        · exact .inl z
        · exact .inr ⟨l, List.mem_cons_of_mem _ hl, z⟩
section
variable {K : PySem.W.Frag} {T : List (Addr × Str)} {rs : List Nat} {Cn : Nat → Addr} {C C1 : Addr} {rr : List V → Hp → VK → Prop} {t : XK → TE} {sp : Sp} {σ : L2.St} {H H' : Hp} {i j : Nat} {v : V} {z : Str} {q : Addr} {tu tz : TS} {D : Ends} {te tl : TE}
theorem yi_imp {P R : V → Hp → Prop} (h : Yi te σ H P) (i : ∀ v H', P v H' → R v H') : Yi te σ H R := fun H1 e1 Q q => h H1 e1 Q fun v H2 e2 p => q v H2 e2 (i v H2 p)
theorem yi_da {d : PyData} (h : Ev te σ H v) (q : ∀ G, Da K G v d) : Yi te σ H fun v H' => Da K H' v d := yi_imp (yi_ev h) fun x H' e => by
  subst e
  exact q _
theorem yi_at {P : V → Hp → Prop} (h : Ev te σ H v) (q : ∀ H', Ex H H' → P v H') : Yi te σ H P := fun H1 e1 Q k => h H1 e1 _ fun H2 e2 => k v H2 e2 (q H2 (e1.trans e2))
theorem two_pl {n : Int} (lay : (PyData.str z).canLay0 = true) : Pl (.list [.int n, .str z]) := by
  refine ⟨rfl, shaped_of ?_ (by rw [dep_l]; simp [PyData.depthAll, PyData.depth])⟩
  simp only [PyData.canLay0, PyData.canLayAll0] at lay ⊢
  simp [lay]
theorem two_eqv {n : Int} : PyData.eqv (.list [.int n, .str z]) (.list [.int n, .str z]) = true := by simp [PyData.eqv, PyData.eqvAll]
theorem two_da {n : Int} {p : Addr} (h : H p = some (.lst [.int n, .str z])) : Da K H (.ref p) (.list [.int n, .str z]) := da_list h (.cons (.int _) (.cons (.str _) .nil))
theorem q_thrNe (tabs : Tabs T H) (hi : i ∈ rs) (run : ∀ (E : XK) H1 Q', ExtN H H1 → Thr E (Cn i) (exFld i) H1 v → t E σ H1 Q') (rep : ∀ H1, ExtN H H1 → RepZ K C sp v H1 z) (lay : (PyData.str z).canLay0 = true)
    (hj : σ[j]? = some (some (.ref q))) (hq : H q = some (.lst [.int (i : Nat), .str z])) (k : ∀ H2, ExtN H H2 → Tabs T H2 → tz D σ H2) :
    tSeq (tIfS (tTest (tOp (fun x y H Q => rNe x y H Q ∨ rEqDat K not x y H Q) (tLam T (TTo rs Cn (rReprO K C sp) rr) t) (tVar j))) tu tNext) tz D σ H :=
  lam_thrO tabs hi run rep fun p H2 ext tabs2 hp => ⟨.ref q, hj, rv_neDat (K := K) (b := true) (two_da hp) (two_da (ext _ _ hq fun _ w => nomatch w)) (two_pl lay) (two_pl lay) two_eqv H2 (Ex.refl H2) _ fun H3 e3 => ⟨false, rfl, k H3 (ext.trans (LamX.ExtN.of e3)) (tabs2.ext e3)⟩⟩
theorem s_thrNe (tabs : Tabs T H) (hi : i ∈ rs) (run : ∀ (E : XK) H1 Q', ExtN H H1 → Thr E (Cn i) (exFld i) H1 v → t E σ H1 Q') (rep : ∀ H1, ExtN H H1 → RepZ K C sp v H1 z) (lay : (PyData.str z).canLay0 = true)
    (hj : σ[j]? = some (some (.ref q))) (hq : H q = some (.lst [.int (i : Nat), .str z])) (k : ∀ H2, ExtN H H2 → Tabs T H2 → D.nx σ H2) :
    (tIfS (tTest (tOp (fun x y H Q => rNe x y H Q ∨ rEqDat K not x y H Q) (tLam T (TTo rs Cn (rReprO K C sp) rr) t) (tVar j))) tu tNext) D σ H :=
  lam_thrO tabs hi run rep fun p H2 ext tabs2 hp => ⟨.ref q, hj, rv_neDat (K := K) (b := true) (two_da hp) (two_da (ext _ _ hq fun _ w => nomatch w)) (two_pl lay) (two_pl lay) two_eqv H2 (Ex.refl H2) _ fun H3 e3 => ⟨false, rfl, k H3 (ext.trans (LamX.ExtN.of e3)) (tabs2.ext e3)⟩⟩
theorem q_forX {α : Type} {F : α → V → Hp → Prop} {is : List α} (mx : ∀ d v H H', ExtN H H' → F d v H → F d v H') (h : Yi tl σ H (LstOf F is)) (tabs : Tabs T H) (Pv : L2.St → Prop) (h0 : Pv σ)
    (hs : ∀ d x σ' H', d ∈ is → F d x H' → ExtN H H' → Tabs T H' → Pv σ' → ∀ N : L2.St → Hp → Prop, (∀ σ3 H3, Pv σ3 → ExtN H' H3 → Tabs T H3 → N σ3 H3) → tu { D with nx := N, ct := N, bk := tz D } (σ'.set j (some x)) H')
    (hd : ∀ σ' H', Pv σ' → ExtN H H' → Tabs T H' → tz D σ' H') : tSeq (tFor (iList K tl) (gName j) tu) tz D σ H := h H (Ex.refl H) _ fun x H1 e1 l => by
  obtain ⟨p, vs, rfl, hp, q⟩ := l
  have X1 := LamX.ExtN.of e1
  refine ⟨p, rfl, ⟨vs, sq_of hp⟩, for_list (fun i σ' H' => Pv σ' ∧ ExtN H1 H' ∧ Tabs T H') ⟨h0, LamX.ExtN.of (Ex.refl H1), tabs.ext e1⟩ (fun i σ' H' _ z => sq_of (z.2.1 _ _ hp fun _ w => nomatch w)) (fun i x σ' H' hx z => ?_) fun σ' H' z => ?_⟩
  · have lt : i < is.length := by
      have := (List.getElem?_eq_some_iff.mp hx).1
      rw [← paired_len q] at this
      exact this
    have e2 : is[i]? = some is[i] := by simp [lt]
    obtain ⟨y, e3, f⟩ := SwX.paired_get q e2
    rw [hx] at e3
    cases e3
    exact hs is[i] x σ' H' (List.getElem_mem lt) (mx _ _ _ _ z.2.1 f) (X1.trans z.2.1) z.2.2 z.1 _ fun σ3 H3 y1 y2 y3 => ⟨y1, z.2.1.trans y2, y3⟩
  · exact hd σ' H' z.1 (X1.trans z.2.1) z.2.2
end
/-! ### the own set told -/
theorem list1 (l : List Nat) : listText [SX.S l] = SX.S ([91] ++ l ++ [93]) := by
  have e1 : ("[" : Str) = SX.S [91] := by decide +kernel
  have e2 : ("]" : Str) = SX.S [93] := by decide +kernel
  have e3 : ("" : Str) = SX.S [] := by decide +kernel
  show ("[" : Str) ++ ("" : Str) ++ SX.S l ++ ("]" : Str) = _
  rw [e1, e2, e3]
  simp only [SX.S_cat, List.append_nil]
theorem textR_lt {r : Rw} {B : Int} (ok : RwOk B r) (le : r.h + r.c ≤ 1000) : ∀ c ∈ textR r, c < 1000 := by
  obtain ⟨h1, h2⟩ := textR_words ok le
  intro c hc
  unfold textR textS at hc
  split at hc
  · revert c; decide
  · rcases join_mem 32 _ c hc with rfl | ⟨l, hl, z⟩
    · decide
    · exact (h1 l hl).2 c z
def ownZ (r : Rw) : Str := listText [SX.S (reprS r)]
theorem ownZ_lay {r : Rw} {B : Int} (ok : RwOk B r) (le : r.h + r.c ≤ 1000) : (PyData.str (ownZ r)).canLay0 = true := by
  unfold ownZ
  rw [list1]
  refine word_lay fun c hc => ?_
  have z := textR_lt ok le
  unfold reprS at hc
  simp only [List.mem_append, List.mem_cons, List.not_mem_nil, or_false] at hc
  rcases hc with (rfl | h) | rfl
  · decide
  · rcases h with h | h
    · omega
    · exact z c h
  · decide
theorem ownZ_len {r : Rw} {B : Int} (ok : RwOk B r) (le : r.h + r.c ≤ 1000) : (ownZ r).length ≤ sizeLine := by
  unfold ownZ
  have z := textR_len ok le
  rw [list1, SX.S_len]
  refine sz_of ?_
  unfold reprS
  simp only [List.length_append, List.length_cons, List.length_nil]
  omega
/-! ### what is no weight -/
def oddD : List PyData := [.none, .int (-1), .bool true, .bool false, .str "3", .str "", .tuple [.int 1], .list [], .dict [], .int (-(10 ^ 30))]
def odds : List (Option PyData) := oddD.map some ++ [none]
def OddF (K : PySem.W.Frag) (Cw Cr : Addr) (r : Rw) : Option PyData → V → Hp → Prop
  | some D, v, H => Da K H v D
  | none, v, H => SetAt K Cw Cr r v H
def oddZ (r : Rw) : Option PyData → Str
  | some D => PyData.shown (.list [D])
  | none => ownZ r
section
variable {K : PySem.W.Frag} {Cw Cr C0 : Addr} {H H' : Hp} {v : V} {σ : L2.St} {te : TE} {ta : TA} {r : Rw} {B : Int}
theorem set_extN (e : ExtN H H') (h : SetAt K Cw Cr r v H) : SetAt K Cw Cr r v H' := by
  obtain ⟨a, dx, x, rfl, h1, a2, dx2, p, q, s, rfl, g1, g2, g3, g4⟩ := h
  exact ⟨a, dx, _, rfl, e _ _ h1 (fun _ z => nomatch z), a2, dx2, p, q, s, rfl, e _ _ g1 (fun _ z => nomatch z), ex_t (bare_ext e) (sqt_bare g2), ex_t (bare_ext e) (sqt_bare g3), ex_t (bare_ext e) (sqt_bare g4)⟩
theorem oddF_ext (d : Option PyData) (v : V) (H H' : Hp) (e : ExtN H H') (h : OddF K Cw Cr r d v H) : OddF K Cw Cr r d v H' := by
  cases d with
  | some D => exact Da.mono (bare_ext e) (Da.bare h)
  | none => exact set_extN e h
theorem oddF_mono (d : Option PyData) (v : V) (H H' : Hp) (e : Ex H H') (h : OddF K Cw Cr r d v H) : OddF K Cw Cr r d v H' := oddF_ext d v H H' (LamX.ExtN.of e) h
def sayB (D : PyData) : Bool := (PyData.list [D]).showable && decide ((PyData.list [D]).depth ≤ 180) && decide ((PyData.list [D]).shown.length ≤ 1000) && !btwO 0 none D
theorem odd_say : ∀ D, some D ∈ odds → sayB D = true ∧ (PyData.str (PyData.shown (.list [D]))).canLay0 = true := by
  have h : oddD.all (fun D => sayB D && (PyData.str (PyData.shown (.list [D]))).canLay0) = true := by decide +kernel
  intro D hD
  have hm : D ∈ oddD := by
    unfold odds at hD
    rcases List.mem_append.mp hD with z | z
    · obtain ⟨x, hx, e⟩ := List.mem_map.mp z
      cases e
      exact hx
    · cases List.mem_singleton.mp z
  have z := List.all_eq_true.mp h D hm
  simpa only [Bool.and_eq_true] using z
theorem odd_lay (ok : RwOk B r) (le : r.h + r.c ≤ 1000) : ∀ d ∈ odds, (PyData.str (oddZ r d)).canLay0 = true := by
  intro d h
  cases d with
  | some D => exact (odd_say D h).2
  | none => exact ownZ_lay ok le
theorem odd_rep (ok : RwOk B r) (le : r.h + r.c ≤ 1000) {d : Option PyData} (hd : d ∈ odds) (h : OddF K Cw Cr r d v H) : RepZ K Cw (spSetN K Cw Cr fun r => .str (SX.S (reprS r))) v H (oddZ r d) := by
  cases d with
  | some D =>
    have z := (odd_say D hd).1
    simp only [sayB, Bool.and_eq_true, decide_eq_true_eq] at z
    exact .inl ⟨D, h, z.1.1.1, z.1.1.2, Nat.le_trans z.1.2 (by decide), rfl⟩
  | none =>
    have h' : SetAt K Cw Cr r v H := h
    obtain ⟨a, rfl, ia⟩ := h'.is
    exact .inr ⟨a, SX.S (reprS r), rfl, ia, fun H1 Q e q => ⟨.ref a, r, B, rfl, h'.mono e, ok, le, q⟩, ownZ_len ok le, rfl⟩
theorem odd_no {d : Option PyData} (hd : d ∈ odds) (h : OddF K Cw Cr r d v H) : NoNum K Cw v H := by
  cases d with
  | some D =>
    have z := (odd_say D hd).1
    simp only [sayB, Bool.and_eq_true, Bool.not_eq_true'] at z
    exact .inl ⟨D, h, z.2⟩
  | none =>
    have h' : SetAt K Cw Cr r v H := h
    exact .inr h'.is
theorem yi_tupD {xs : List V} {ds : List PyData} (h : EvA ta σ H xs) (p : ∀ H', Paired (fun d v => Da K H' v d) ds xs) (l : xs.length ≤ 1000) : Yi (tTup ta) σ H fun v H' => Da K H' v (.tuple ds) := fun H1 e1 Q q => (eu_tup h (by omega) : EvU _ σ H xs) H1 e1 _ fun u H2 n2 e2 h2 => q _ H2 e2 (da_tuple (.inl (.inl h2)) (p H2))
theorem yi_lstD {xs : List V} {ds : List PyData} (h : EvA ta σ H xs) (p : ∀ H', Paired (fun d v => Da K H' v d) ds xs) (l : xs.length ≤ 1000) : Yi (tLst ta) σ H fun v H' => Da K H' v (.list ds) := fun H1 e1 Q q => (el_lst h (by omega) : EvL _ σ H xs) H1 e1 _ fun u H2 n2 e2 h2 => q _ H2 e2 (da_list h2 (p H2))
theorem yi_dicD : Yi tDNewK σ H fun v H' => Da K H' v (.dict []) := fun H1 e1 Q q c hc => q (.ref c) _ (Ex.new hc) (.dic (kvs := []) (ds := []) (by rw [upd_same]) rfl (fun i kv d e => by simp at e))
theorem ev_reprZ {z : Str} {sp : Sp} {tl : TE} (h : EvL tl σ H [v]) (r : RepZ K C sp v H z) : Ev (tCB (rReprO K C sp) (tCons tl tNil)) σ H (.str z) := fun H1 e1 Q q => h H1 e1 _ fun p H2 n2 e2 h2 => r.run (e1.trans e2) h2 fun H3 e3 => q H3 (e2.trans e3)
theorem no_on {E : XK} {ta : TE} {tb : TA} {m : Str} {w : V} (nm : m ≠ "told") (h : Ev ta σ H v) (hv : SetAt K Cw Cr r v H) (ha : EvA tb σ H [w]) (no : NoNum K Cw w H) (t : Thr E C0 "given" H w) {Q : VK} : tMeth Cw m (spNoW K Cw C0) [] E ta tb σ H Q := h H (Ex.refl H) _ fun H1 e1 => by
  obtain ⟨a, dx, x, rfl, h1, _⟩ := hv
  exact ⟨a, dx, _, rfl, e1 _ _ h1, by rw [List.lookup_cons, show (m == ("told" : Str)) = false from by simpa using nm] <;> rfl, ha H1 e1 _ fun H2 e2 => ⟨.ref a, w, rfl, no.mono (e1.trans e2), t.from (e1.trans e2)⟩⟩
theorem no_onK {E : XK} {ta : TE} {tb : TA} {m : Str} {w : V} (nm : m ≠ "told") (h : Ev ta σ H v) (hv : SetAt K Cw Cr r v H) (ha : EvA tb σ H [w]) (no : NoNum K Cw w H) (t : Thr E C0 "given" H w) {Q : VK} : tMethKw Cw m (spNoW K Cw C0) E ta tb σ H Q := h H (Ex.refl H) _ fun H1 e1 => by
  obtain ⟨a, dx, x, rfl, h1, _⟩ := hv
  exact ⟨a, dx, _, rfl, e1 _ _ h1, by rw [List.lookup_cons, show (m == ("told" : Str)) = false from by simpa using nm] <;> rfl, ha H1 e1 _ fun H2 e2 => ⟨rfl, .ref a, w, rfl, no.mono (e1.trans e2), t.from (e1.trans e2)⟩⟩
end
section
variable {P : Program} {w : World} {K : PySem.W.Frag} {mg : Str → Option Value} {base : Heap} {f : Addr} {fd : FuncData} {rs : List Nat} {Cn : Nat → Addr} {WV WN NA : Addr} {Cw Cr P0 : Addr} {T : List (Addr × Str)}
def spRefused (K : PySem.W.Frag) (Cw Cr : Addr) (T : List (Addr × Str)) : Sp := fun vs H Q _ => ∃ (v : V) (r : Rw) (B : Int), vs = [v] ∧ SetAt K Cw Cr r v H ∧ RwOk B r ∧ r.h + r.c ≤ 1000 ∧ Tabs T H ∧ ∀ H', ExtN H H' → Tabs T H' → Q (.bl true) H'
abbrev s__law_refused : Stmt := top 76
abbrev sc__law_refused_N : List Str := ["_law_one", "_law_thing", "_law_due"]
theorem sc__law_refused : FnScope sc__law_refused_N ["_law_one"] (defScope s__law_refused) := ⟨rfl, rfl, rfl, by decide +kernel, rfl, by decide +kernel, by decide +kernel⟩
def qRf : Str := (envOfC "_law_refused" (defScope s__law_refused) 0 0 .none).qual ++ "<lambda>"
theorem ok_refused (G : Caught P w K mg base rs Cn WV WN NA) (h0 : 0 ∈ rs) (RRL : ReprRuleH P w K mg base 5 (rReprO K Cw (spSetN K Cw Cr fun r => .str (SX.S (reprS r))))) (RR : ReprRule P w K mg base 5 (rReprO K Cw (spSetN K Cw Cr fun r => .str (SX.S (reprS r))))) (m_repr : mg "repr" = none)
    (N_onward : HasMX (L2N.CX P w) P w K mg base Cw "onward" 4 ["self", "weight"] (spNoW K Cw (Cn 0))) (N_belowK : HasMK (L2N.CX P w) P w K mg base Cw "below" 4 ["self", "weight"] "weight" (spNoW K Cw (Cn 0)))
    (TB : TabB base mg (codeAt K f) P0) (hmT : (P0, qRf) ∈ T) (hu : ∀ p ∈ T, p.1 = P0 → p.2 = qRf) (F : FnP K "_law_refused" s__law_refused f fd) : FnG P w K mg base CX0 12 f fd ["_law_one"] (spRefused K Cw Cr T) := by
  refine SwX.FunD.okT F sc__law_refused (fun vs H Q E h => by obtain ⟨v, r, B, rfl, _⟩ := h; rfl) (fun A outer s H vs Q E hr calm h => ⟨_, PSs.nox
    (pss_cons (ps_for PassesOwn.never rfl (pi_list (pe_lst (pa_cons pe_non (pa_cons (pe_un un_neg pe_int) (pa_cons pe_bl (pa_cons pe_bl (pa_cons pe_str (pa_cons pe_str (pa_cons (pe_tup (pa_cons pe_int pa_nil)) (pa_cons (pe_lst pa_nil) (pa_cons pe_dnewK (pa_cons (pe_un un_neg (pe_op op_pow pe_int pe_int)) (pa_cons (pv 0) pa_nil))))))))))))) (pg_name (i := 1) sc__law_refused.nd rfl (Or.inr rfl)) (pss_cons (ps_set (i := 2) sc__law_refused.nd rfl (Or.inl rfl) (pe_lst (pa_cons pe_int (pa_cons (pe_callB (RR _ rfl rfl rfl rfl rfl calm (hr.mono (by decide))) (by rfl) m_repr (by decide +kernel) (pa_cons (pe_lst (pa_cons (pv 1) pa_nil)) pa_nil)) pa_nil)))) (pss_cons (ps_if (pt_cmpR (neK K hr) (pe_caught G RRL RR (hr.mono (by decide)) calm TB rfl hmT hu (LamX.lamS_by (sc := defScope s__law_refused) (by decide +kernel)) (by intro A outer s H E f c1 hr2; exact (pe_hmX N_onward (hr2.mono (by decide)) lam_passN (pv 0) (pa_cons (pv 1) pa_nil)))) (pv 2) (nomark _)) (pss_one (ps_ret pe_bl)) pss_nil) (pss_one (ps_if (pt_cmpR (neK K hr) (pe_caught G RRL RR (hr.mono (by decide)) calm TB rfl hmT hu (LamX.lamS_by (sc := defScope s__law_refused) (by decide +kernel)) (by intro A outer s H E f c1 hr2; exact (pe_hmK N_belowK (hr2.mono (by decide)) lam_passN (pv 0) (pk_cons (pv 1) pk_nil)))) (pv 2) (nomark _)) (pss_one (ps_ret pe_bl)) pss_nil))))) (pss_one (ps_ret pe_bl))), ?_⟩)
  obtain ⟨v, r, B, rfl, hv, ok, le, tabs, q⟩ := h
  have cp : CPow 10 30 := by unfold CPow; omega
  refine q_forX (F := OddF K Cw Cr r) (is := odds) oddF_ext (yi_lst oddF_mono (ys_cons oddF_mono (yi_da ev_c fun _ => .non) (ys_cons oddF_mono (yi_da (ev_un ev_c (ru_neg (i := 1))) fun _ => .int _) (ys_cons oddF_mono (yi_da ev_c fun _ => .bl _) (ys_cons oddF_mono (yi_da ev_c fun _ => .bl _) (ys_cons oddF_mono (yi_da ev_c fun _ => .str _) (ys_cons oddF_mono (yi_da ev_c fun _ => .str _) (ys_cons oddF_mono (yi_tupD (ea_cons ev_c ea_nil) (fun _ => .cons (.int _) .nil) (by simp)) (ys_cons oddF_mono (yi_lstD ea_nil (fun _ => .nil) (by simp)) (ys_cons oddF_mono yi_dicD (ys_cons oddF_mono (yi_da (ev_un (ev_op ev_c ev_c (rv_I cp)) ru_neg) fun _ => .int _) (ys_cons oddF_mono (yi_at (ev_var (i := 0) rfl) fun G e => hv.mono e) ys_nil))))))))))) (by simp [odds, oddD])) tabs (fun σ' => ∃ x1 x2, σ' = [some v, x1, x2]) ⟨_, _, rfl⟩ (fun d x σ' H1 hd ho x1 tabs1 hP N hN => ?_) fun σ' H1 hP x1 tabs1 => ?_
  · obtain ⟨y1, y2, rfl⟩ := hP
    have hv1 := set_extN x1 hv
    refine q_asgL (xs := [.int (0 : Nat), .str (oddZ r d)]) (el_lst (ea_cons ev_c (ea_cons (ev_reprZ (el_lst (ea_cons (ev_var (i := 1) rfl) ea_nil) (by simp)) (odd_rep ok le hd ho)) ea_nil)) (by simp)) fun pd H2 n2 e2 h2 => ?_
    have ho2 := oddF_mono _ _ _ _ e2 ho
    have hv2 := hv1.mono e2
    refine q_thrNe (z := oddZ r d) (v := x) (j := 2) (tabs1.ext e2) h0 (fun E H3 Q' x3 t => no_on (by decide) (ev_var (i := 0) rfl) (set_extN x3 hv2) (ea_cons (ev_var (i := 1) rfl) ea_nil) (odd_no hd (oddF_ext _ _ _ _ x3 ho2)) t) (fun H3 x3 => odd_rep ok le hd (oddF_ext _ _ _ _ x3 ho2)) (odd_lay ok le d hd) rfl h2 fun H3 x3 tabs3 => ?_
    have ho3 := oddF_ext _ _ _ _ x3 ho2
    have hv3 := set_extN x3 hv2
    refine s_thrNe (z := oddZ r d) (v := x) (j := 2) tabs3 h0 (fun E H4 Q' x4 t => no_onK (by decide) (ev_var (i := 0) rfl) (set_extN x4 hv3) (ea_cons (ev_var (i := 1) rfl) ea_nil) (odd_no hd (oddF_ext _ _ _ _ x4 ho3)) t) (fun H4 x4 => odd_rep ok le hd (oddF_ext _ _ _ _ x4 ho3)) (odd_lay ok le d hd) rfl (x3 _ _ h2 fun _ w => nomatch w) fun H4 x4 tabs4 => ?_
    exact hN _ _ ⟨_, _, rfl⟩ (((LamX.ExtN.of e2).trans x3).trans x4) tabs4
  · obtain ⟨y1, y2, rfl⟩ := hP
    exact s_ret ev_c fun H2 e2 => q H2 (x1.trans (LamX.ExtN.of e2)) (tabs1.ext e2)
end
end K07
set_option Elab.async false
set_option linter.all false
set_option maxRecDepth 100000
set_option maxHeartbeats 4000000
namespace K07
open PySem PySem.Spec PyProof.Rows L2 Evl SwX
open LamX (Tabs ExtN TabB GivesTo tLam lamCx lamEnv LamS)
/-! ### repr of an integer, or None -/
def rReprI : List V → Hp → VK → Prop := fun xs H Q => ∃ o : Option Int, xs = [ov o] ∧ (∀ i, o = some i → i.natAbs.log2 < 1920) ∧ Q (.str (match o with | none => "None" | some i => toString i)) H
theorem call_reprI {X : Cx} : CallR X (.builtin "repr") rReprI := by
  intro pins s σ H xs us Q I r h
  obtain ⟨o, rfl, lt, q⟩ := h
  obtain ⟨u, rfl, ru⟩ := Vals.one r
  cases o with
  | none =>
    obtain rfl : u = Value.none := ru
    exact PySem.P.repr_of_none ⟨.str _, H, I.tok _, ⟨_, rfl⟩, q⟩
  | some i =>
    obtain ⟨t, rfl⟩ : ∃ t, u = .int i t := ru
    exact PySem.P.repr_of_int (lt i rfl) ⟨.str _, H, I.tok _, ⟨_, rfl⟩, q⟩
def reprT : Option Int → Str
  | none => "None"
  | some i => toString i
section
variable {K : PySem.W.Frag} {Cw Cr : Addr} {sp : Sp} {σ : L2.St} {H : Hp} {G : Hp} {a : Addr} {te ta tb tc : TE} {t : TA} {D : Ends} {tz : TS} {v : V} {r : Rw} {B : Int} {g : Nat → Bool} {b c : Nat}
theorem ev_reprI {o : Option Int} (h : Ev te σ H (ov o)) (lt : ∀ i, o = some i → i.natAbs.log2 < 1920) : Ev (tCB rReprI (tCons te tNil)) σ H (.str (reprT o)) := fun H1 e1 Q q => h H1 e1 _ fun H2 e2 => ⟨o, rfl, lt, by cases o <;> exact q H2 e2⟩
theorem ev_reprLO {tl : TE} {xs : List V} {ds : List PyData} {n w : Nat} (h : EvL tl σ H xs) (da : ∀ H1, Ex H H1 → Paired (fun d v => Da K H1 v d) ds xs) (g : Good (.list ds) n w) (hn : n ≤ 180) (hw : w ≤ 100000) : Ev (tCB (rReprO K C sp) (tCons tl tNil)) σ H (.str (PyData.shown (.list ds))) := fun H1 e1 Q q =>
  h H1 e1 _ fun p H2 n2 e2 h2 => .inl (.inl ⟨p, .list ds, rfl, da_list h2 (da H2 (e1.trans e2)), g.sh, Nat.le_trans g.dp hn, g.len hw, q H2 e2⟩)
theorem q_par2 {i j : Nat} {ta tb : TE} {tz : TS} {D : Ends} {σ : L2.St} {H : Hp} {P R : V → Hp → Prop} (h1 : Yi ta σ H P) (h2 : ∀ H1, Ex H H1 → Yi tb σ H1 R) (k : ∀ v w H1 H2, P v H1 → Ex H H1 → Ex H1 H2 → R w H2 → tz D ((σ.set i (some v)).set j (some w)) H2) : tSeq (tPar i j (tCons ta (tCons tb tNil))) tz D σ H :=
  h1 H (Ex.refl H) _ fun v H1 e1 c1 => h2 H1 e1 H1 (Ex.refl H1) _ fun w H2 e2 c2 => ⟨v, w, rfl, k v w H1 H2 c1 e1 e2 c2⟩
theorem dr_pickX {xs : List V} {l : Addr} {ta tb : TE} (n : G a = none) (ha : Ev ta σ G (.ref l)) (hl : G l = some (.lst xs)) (hb : ∀ G', G' a = none → Ex G G' → Dr a tb σ G' fun v => ∃ k, v = .int k ∧ 0 ≤ k ∧ k < xs.length) : Dr a (tOp (rIx K) ta tb) σ G fun v => v ∈ xs := fun H1 e p Q q =>
  ha H1 e _ fun H2 e2 => by
    have ne : l ≠ a := fun w => by rw [w, n] at hl; cases hl
    refine hb (less a H2) less_at (ex_less n (e.trans e2)) H2 less_ex (p.keep e2) _ fun k H3 pk e3 p3 => ?_
    obtain ⟨k, rfl, k0, k1⟩ := pk
    obtain ⟨v, hv, hv2⟩ := atI_nat k0 k1
    exact .inl ⟨l, xs, k, v, rfl, rfl, sq_of (e3 _ _ (by rw [less_ne ne]; exact e2 _ _ (e _ _ hl))), hv, q v H3 (List.mem_of_getElem? hv2) ((ex_less n (e.trans e2)).trans e3) p3⟩
/-! ### lists of weights beside the purse -/
def big : Nat := 10 ^ 40
def LstB (a : Addr) (lo m : Nat) (v : V) (H : Hp) : Prop := ∃ (p : Addr) (ns : List Nat), v = .ref p ∧ p ≠ a ∧ H p = some (.lst (ns.map natV)) ∧ (lo ≤ ns.length ∧ ns.length ≤ m) ∧ ∀ n ∈ ns, n < big
def DrB (a : Addr) (te : TE) (σ : L2.St) (G : Hp) (lo m : Nat) : Prop := ∀ H1, Ex G H1 → Pur H1 a → ∀ Q : VK, (∀ v H2, LstB a lo m v H2 → Ex G H2 → Pur H2 a → Q v H2) → te σ H1 Q
theorem lstB_ex {lo m : Nat} {H H' : Hp} (e : Ex (less a H) H') (h : LstB a lo m v H) : LstB a lo m v H' := by
  obtain ⟨p, ns, rfl, ne, hp, l, lt⟩ := h
  exact ⟨p, ns, rfl, ne, e _ _ (by rw [less_ne ne]; exact hp), l, lt⟩
theorem drB_ev {lo m : Nat} {ns : List Nat} (n : G a = none) (h : EvL te σ G (ns.map natV)) (l : lo ≤ ns.length ∧ ns.length ≤ m) (lt : ∀ n ∈ ns, n < big) : DrB a te σ G lo m := fun H1 e p Q q =>
  h H1 e _ fun x H2 n2 e2 h2 => q _ H2 ⟨x, ns, rfl, p.ne n2, h2, l, lt⟩ (e.trans e2) (p.keep e2)
theorem drB_cat {lo m k : Nat} (small : m + k ≤ 100000) (n : G a = none) (h1 : DrB a ta σ G lo m) (h2 : ∀ G', G' a = none → Ex G G' → DrB a tb σ G' 0 k) : DrB a (tOp (rAddX K) ta tb) σ G lo (m + k) := fun H1 e p Q q =>
  h1 H1 e p _ fun v H2 lv e2 p2 => h2 (less a H2) less_at (ex_less n e2) H2 less_ex p2 _ fun w H3 lw e3 p3 => by
    obtain ⟨x, ns, rfl, nx, hx, lx, bx⟩ := lstB_ex e3 lv
    obtain ⟨y, ms, rfl, ny, hy, ly, by_⟩ := lw
    refine .inr (.inl ⟨x, y, ns.map natV, ms.map natV, rfl, rfl, hx, hy, sz_of (by rw [List.length_map, List.length_map]; omega), fun c hc => ?_⟩)
    have ec := Ex.new (o := .lst (ns.map natV ++ ms.map natV)) hc
    refine q _ _ ⟨c, ns ++ ms, rfl, p3.ne hc, by rw [upd_same, List.map_append], ⟨by rw [List.length_append]; omega, by rw [List.length_append]; omega⟩, fun n hn => (List.mem_append.mp hn).elim (bx n) (by_ n)⟩ (((ex_less n e2).trans e3).trans ec) (p3.keep ec)
theorem drB_var {lo m i : Nat} {p : Addr} {ns : List Nat} (n : G a = none) (hi : σ[i]? = some (some (.ref p))) (hp : G p = some (.lst (ns.map natV))) (l : lo ≤ ns.length ∧ ns.length ≤ m) (lt : ∀ n ∈ ns, n < big) : DrB a (tVar i) σ G lo m := fun H1 e pu Q q =>
  ⟨_, hi, q _ H1 ⟨p, ns, rfl, fun z => (by rw [z, n] at hp; cases hp), e _ _ hp, l, lt⟩ e pu⟩
theorem q_asgB {lo m i : Nat} (h : DrB a te σ G lo m) (e : Ex G H) (p : Pur H a) (k : ∀ (q : Addr) (ns : List Nat) (H1 : Hp), H1 q = some (.lst (ns.map natV)) → q ≠ a → (lo ≤ ns.length ∧ ns.length ≤ m) → (∀ n ∈ ns, n < big) → Ex G H1 → Pur H1 a → tz D (σ.set i (some (.ref q))) H1) : tSeq (tAsg te (gName i)) tz D σ H :=
  h H e p _ fun v H1 lv e1 p1 => by
    obtain ⟨q, ns, rfl, ne, hq, l, lt⟩ := lv
    exact k q ns H1 hq ne l lt e1 p1
/-- [x, far, far] -/
theorem drB_far {x : Nat} {E : XK} (n : G a = none) (lt : x < big) (h : Ev te σ G (natV x)) (h0 : σ[0]? = some (some (.ref a))) : DrB a (tLst (tCons te (tCons (tCall spFarN [] E (tCons (tVar 0) tNil)) (tCons (tCall spFarN [] E (tCons (tVar 0) tNil)) tNil)))) σ G 0 3 := fun H1 e p Q q =>
  h H1 e _ fun H2 e2 => ⟨_, h0, a, rfl, p.keep e2, fun y H3 ly e3 p3 => ⟨_, h0, a, rfl, p3, fun z H4 lz e4 p4 => ⟨show 3 ≤ sizeLine by decide, fun c hc => by
    have ec := Ex.new (o := .lst [natV x, natV y, natV z]) hc
    have E4 : Ex G H4 := (ex_less n (e.trans e2)).trans ((less_step e3).trans e4)
    refine q _ _ ⟨c, [x, y, z], rfl, p4.ne hc, upd_same, ⟨Nat.zero_le _, by simp⟩, fun n hn => ?_⟩ (E4.trans ec) (p4.keep ec)
    simp only [List.mem_cons, List.not_mem_nil, or_false] at hn
    have b39 : (10 : Nat) ^ 39 < big := by decide
    rcases hn with rfl | rfl | rfl
    · exact lt
    · omega
    · omega⟩⟩⟩
theorem el_listRg {n : Nat} (hn : n ≤ 1000) (h : Ev te σ H (.int (n : Int))) : EvL (tLstRg (tRg1 te)) σ H ((List.range n).map natV) := fun H1 e1 Q q => h H1 e1 _ fun H2 e2 => ⟨_, rfl, RgOk.of_le (by decide) (by omega) (by decide) (by omega), fun c hc => q c _ (fresh_back e2 hc) (e2.trans (Ex.new hc)) (by rw [upd_same]; unfold rgV; simp only [Int.sub_zero, Int.toNat_natCast, Int.zero_add])⟩
end
def optI : Option Int → PyData
  | none => .none
  | some i => .int i
section
variable {K : PySem.W.Frag} {Cw Cr : Addr} {sp : Sp} {σ : L2.St} {H : Hp} {G : Hp} {a : Addr} {te ta tb tc : TE} {t : TA} {D : Ends} {tz : TS} {v : V} {r : Rw} {B : Int} {g : Nat → Bool} {b c : Nat}
/-! ### what is told at a place -/
def dueD (g : Nat → Bool) (b c n : Nat) : List PyData := [optI ((onG g b c n).map fun n => ((n : Nat) : Int)), .int (cnt g 0 n : Nat)]
theorem due_good {n : Nat} (hb : b ≤ 4000) (hc : c ≤ 4000) (hn : n < big) : Good (.list (dueD g b c n)) 2 1000 := by
  have b1 : cnt g 0 n ≤ n := by unfold cnt; exact Nat.le_trans (List.length_filter_le _ _) (by simp)
  have b2 : big + 8000 < 10 ^ 41 := by decide
  have g2 : Good (.int (cnt g 0 n : Nat)) 0 137 := good_int (by omega)
  have g1 : Good (optI ((onG g b c n).map fun n => ((n : Nat) : Int))) 0 137 := by
    cases h : onG g b c n with
    | none => exact ⟨rfl, Nat.le_refl _, rfl, by decide⟩
    | some m =>
      have lt : m < n + (b + c) := by
        unfold onG at h
        have hm := List.mem_of_find?_eq_some h
        obtain ⟨i, hi, rfl⟩ := List.mem_map.mp hm
        have := List.mem_range.mp hi
        omega
      show Good (.int ((m : Nat) : Int)) 0 137
      exact good_int (by omega)
  exact (good_list (goodA_cons (w1 := 137) (w2 := 138) (w := 1000) g1 (goodA_cons (w1 := 137) (w2 := 0) g2 goodA_nil (by decide)) (by decide))).le (by decide) (Nat.le_refl _)
theorem due_da (H : Hp) (n : Nat) : Paired (fun d v => Da K H v d) (dueD g b c n) [ov ((onG g b c n).map fun n => ((n : Nat) : Int)), natV (cnt g 0 n)] := by
  refine .cons ?_ (.cons (.int _) .nil)
  cases onG g b c n with
  | none => exact .non
  | some m => exact .int _
theorem on_ov {n : Nat} (F : Flat g r) (e : EvP g c b) (c0 : 0 < c) : ov (onI r n) = ov ((onG g b c n).map fun n => ((n : Nat) : Int)) := by
  unfold onI
  rw [on_same F e c0]
theorem yi_model {es as : List Nat} {n hi : Nat} {p q : Addr} (re : Rise hi es) (ra : Rise hi as) (h1 : hi ≤ 2000) (n0 : 0 < n) (n1 : n ≤ 2000) (h : EvA t σ H [.ref p, .ref q, natV n]) (hp : SqT K H p (es.map natV)) (hq : SqT K H q (as.map natV)) : Yi (tCall (spModel K) [] E0 t) σ H (ModAt (inSet es as n) (modB es as) n) := fun H1 e1 Q k =>
  h H1 e1 _ fun H2 e2 => ⟨p, q, es, as, n, hi, rfl, ex_t (e1.trans e2) hp, ex_t (e1.trans e2) hq, re, ra, h1, n0, n1, fun v H3 e3 m => k v H3 (e2.trans e3) m⟩
theorem bl_no {l : List Nat} {g : Nat → Bool} : ∀ x y z : Int, HO.lst (l.map fun i => V.bl (g i)) ≠ .lst [.int x, .int y, .int z] := fun x y z e => by
  injection e with e
  have m : V.int x ∈ l.map fun i => V.bl (g i) := by rw [e]; exact List.mem_cons_self
  obtain ⟨i, _, h⟩ := List.mem_map.mp m
  cases h
theorem mod_less (p : Pur H a) (h : ModAt g b c v H) : ModAt g b c v (less a H) := by
  obtain ⟨t, d1, d2, rfl, h0, h1, h2⟩ := h
  refine ⟨t, d1, d2, rfl, ?_, ?_, ?_⟩
  · rw [less_ne (p.other h0 fun _ _ _ e => nomatch e)]; exact h0
  · rw [less_ne (p.other h1 bl_no)]; exact h1
  · rw [less_ne (p.other h2 (bl_no (g := fun i => g (b + i))))]; exact h2
theorem setAt_less {v : V} (p : Pur H a) (s : SetAt K Cw Cr r v H) : SetAt K Cw Cr r v (SwX.less a H) := by
  obtain ⟨x, y, z, hp, _⟩ := id p
  obtain ⟨b, dx, u, rfl, h1, c, dy, q1, q2, q3, rfl, h2, h3, h4, h5⟩ := s
  exact ⟨b, dx, _, rfl, by rw [less_ne (fun w => by rw [w, hp] at h1; cases h1)]; exact h1, c, dy, q1, q2, q3, rfl, by rw [less_ne (fun w => by rw [w, hp] at h2; cases h2)]; exact h2, sqt_less h3 p, sqt_less h4 p, sqt_less h5 p⟩
theorem ev_onL {n : Nat} (hv : ModAt g b c v H) (hb : b ≤ 4000) (c0 : 0 < c) (hc : c ≤ 4000) (e : EvP g c b) (h1 : Ev ta σ H v) (h2 : Ev tb σ H (natV n)) : Ev (tCall spOnL [] E0 (tCons ta (tCons tb tNil))) σ H (ov ((onG g b c n).map fun n => ((n : Nat) : Int))) :=
  ev_call (vs := [v, natV n]) (ea_cons h1 (ea_cons h2 ea_nil)) fun H1 e1 R k E' => ⟨v, g, b, c, n, rfl, mod_up hv e1, hb, c0, hc, e, k⟩
theorem ev_belL {n : Nat} (hv : ModAt g b c v H) (hb : b ≤ 4000) (c0 : 0 < c) (hc : c ≤ 4000) (e : EvP g c b) (h1 : Ev ta σ H v) (h2 : Ev tb σ H (natV n)) : Ev (tCall spBelL [] E0 (tCons ta (tCons tb tNil))) σ H (natV (cnt g 0 n)) :=
  ev_call (vs := [v, natV n]) (ea_cons h1 (ea_cons h2 ea_nil)) fun H1 e1 R k E' => ⟨v, g, b, c, n, rfl, mod_up hv e1, hb, c0, hc, e, k⟩
theorem ev_mW {n : Nat} {m : Str} {sp : Sp} {x y : V} (nm : m ≠ "told") (hv : SetAt K Cw Cr r v H) (h1 : Ev ta σ H v) (h2 : Ev tb σ H x) (k : ∀ H1 Q, Ex H H1 → (∀ H2, Ex H1 H2 → Q y H2) → sp [v, x] H1 Q E0) : Ev (tMeth Cw m sp [] E0 ta (tCons tb tNil)) σ H y := by
  have hv' := hv
  obtain ⟨a, dx, z, rfl, g1, _⟩ := hv
  exact ev_hm h1 g1 (by rw [List.lookup_cons, show (m == ("told" : Str)) = false from by simpa using nm] <;> rfl) (ea_cons h2 ea_nil) fun H1 Q e q => k H1 Q e q
theorem ev_mK {n : Nat} {m : Str} {sp : Sp} {x y : V} (nm : m ≠ "told") (hv : SetAt K Cw Cr r v H) (h1 : Ev ta σ H v) (h2 : Ev tb σ H x) (k : ∀ H1 Q, Ex H H1 → (∀ H2, Ex H1 H2 → Q y H2) → sp [v, x] H1 Q E0) : Ev (tMethKw Cw m sp E0 ta (tCons tb tNil)) σ H y := fun H1 e1 Q q => h1 H1 e1 _ fun H2 e2 => by
  obtain ⟨a, dx, z, rfl, g1, _⟩ := hv
  exact ⟨a, dx, _, rfl, e2 _ _ (e1 _ _ g1), by rw [List.lookup_cons, show (m == ("told" : Str)) = false from by simpa using nm] <;> rfl, h2 H2 (e1.trans e2) _ fun H3 e3 => ⟨rfl, k H3 Q ((e1.trans e2).trans e3) fun H4 e4 => q H4 ((e2.trans e3).trans e4)⟩⟩
end
def spRight (T : List (Addr × Str)) : Sp := fun vs H Q _ => ∃ a : Addr, vs = [.ref a] ∧ Pur H a ∧ Tabs T H ∧ ∀ H', ExL a H H' → Tabs T H' → Q (.bl true) H'
section
variable {P : Program} {w : World} {K : PySem.W.Frag} {mg : Str → Option Value} {base : Heap} {f : Addr} {fd : FuncData} {Cw Cr C0 C10 C14 : Addr} {T : List (Addr × Str)}
abbrev s__law_right : Stmt := top 77
abbrev sc__law_right_N : List Str := ["_law_purse_here", "_law_turn", "_law_high", "_law_wide", "_law_heads", "_law_tails", "_law_size", "_law_model_here", "_law_one", "_law_begin", "_law_places", "_law_place", "_law_due"]
theorem sc__law_right : FnScope sc__law_right_N ["_law_purse_here"] (defScope s__law_right) := ⟨rfl, rfl, rfl, by decide +kernel, rfl, by decide +kernel, by decide +kernel⟩
theorem ok_right (RR : ReprRule P w K mg base 5 (rReprO K Cw (spSetN K Cw Cr fun r => .str (SX.S (reprS r))))) (m_range : mg "range" = none) (m_len : mg "len" = none) (m_list : mg "list" = none) (m_max : mg "max" = none) (m_repr : mg "repr" = none)
    (D__law_draw : Has P w K mg base "_law_draw" 1 ["_law_purse_here", "_law_many"] spDraw) (D__law_rising : Has P w K mg base "_law_rising" 2 ["_law_purse_here", "_law_many", "_law_high"] spRising) (N_Weights : HasNE P w K mg base "Weights" Cw 7 ["self", "early", "again", "period"] (spWInit K Cw Cr C0 C10 C14)) (D__law_model : Has P w K mg base "_law_model" 1 ["_law_heads", "_law_tails", "_law_size"] (spModel K))
    (D__law_far : Has P w K mg base "_law_far" 2 ["_law_purse_here"] spFarN) (D__law_onward : Has P w K mg base "_law_onward" 2 ["_law_model_here", "_law_spot"] spOnL) (D__law_below : Has P w K mg base "_law_below" 1 ["_law_model_here", "_law_spot"] spBelL)
    (M_onward : HasM P w K mg base Cw "onward" 4 ["self", "weight"] (spOnwW K Cw Cr)) (M_below : HasM P w K mg base Cw "below" 4 ["self", "weight"] (spBel K Cw Cr)) (M_first : HasM P w K mg base Cw "first" 5 ["self"] (spSetN K Cw Cr fun r => ov (onI r 0))) (K_onward : HasMK CX0 P w K mg base Cw "onward" 4 ["self", "weight"] "weight" (spOnwW K Cw Cr)) (K_below : HasMK CX0 P w K mg base Cw "below" 4 ["self", "weight"] "weight" (spBel K Cw Cr))
    (D__law_refused : HasG P w K mg base "_law_refused" 12 ["_law_one"] (spRefused K Cw Cr T)) (F : FnP K "_law_right" s__law_right f fd) : FnG P w K mg base CX0 13 f fd ["_law_purse_here"] (spRight T) := by
  refine SwX.FunD.okT F sc__law_right (fun vs H Q E h => by obtain ⟨a, rfl, _⟩ := h; rfl) (fun A outer s H vs Q E hr calm h => ⟨_, PSs.nox
    (pss_cons (ps_for PassesOwn.never rfl (pi_range1 (by rfl) m_range (pa_cons pe_int pa_nil)) (pg_name (i := 1) sc__law_right.nd rfl (Or.inl rfl)) (pss_cons (ps_par (i := 2) (j := 3) (by rfl) sc__law_right.nd rfl rfl (by decide) rfl rfl (pa_cons (pe_ix (ixK K) (pe_lst (pa_cons pe_int (pa_cons pe_int (pa_cons pe_int pa_nil)))) (pe_has D__law_draw (hr.mono (by decide)) (pa_cons (pv 0) (pa_cons pe_int pa_nil))) (fun _ _ => rfl)) (pa_cons (pe_ix (ixK K) (pe_lst (pa_cons pe_int (pa_cons pe_int (pa_cons pe_int pa_nil)))) (pe_has D__law_draw (hr.mono (by decide)) (pa_cons (pv 0) (pa_cons pe_int pa_nil))) (fun _ _ => rfl)) pa_nil)) (by rfl)) (pss_cons (ps_par (i := 4) (j := 5) (by rfl) sc__law_right.nd rfl rfl (by decide) rfl rfl (pa_cons (pe_has D__law_rising (hr.mono (by decide)) (pa_cons (pv 0) (pa_cons pe_int (pa_cons (pv 2) pa_nil)))) (pa_cons (pe_has D__law_rising (hr.mono (by decide)) (pa_cons (pv 0) (pa_cons pe_int (pa_cons (pv 2) pa_nil)))) pa_nil)) (by rfl)) (pss_cons (ps_set (i := 6) sc__law_right.nd rfl (Or.inl rfl) (pe_op (addK K) pe_int (pe_has D__law_draw (hr.mono (by decide)) (pa_cons (pv 0) (pa_cons (pv 3) pa_nil))))) (pss_cons (ps_par (i := 7) (j := 8) (by rfl) sc__law_right.nd rfl rfl (by decide) rfl rfl (pa_cons (pe_has D__law_model (hr.mono (by decide)) (pa_cons (pv 4) (pa_cons (pv 5) (pa_cons (pv 6) pa_nil)))) (pa_cons (pe_hnE N_Weights (hr.mono (by decide)) passE0 (pa_cons (pv 4) (pa_cons (pv 5) (pa_cons (pv 6) pa_nil)))) pa_nil)) (by rfl)) (pss_cons (ps_set (i := 9) sc__law_right.nd rfl (Or.inl rfl) (pe_callB (lenK K) (by rfl) m_len (by decide +kernel) (pa_cons (pe_ix (ixK K) (pv 7) pe_int (fun _ _ => rfl)) pa_nil))) (pss_cons (ps_set (i := 10) sc__law_right.nd rfl (Or.inl rfl) (pe_op (addK K) (pe_listRg rfl (by rfl) m_list (prg_1 (by rfl) m_range pe_int)) (pe_lst (pa_cons (pe_callB (call_max2 rfl) (by rfl) m_max (by decide +kernel) (pa_cons pe_int (pa_cons (pe_op op_sub (pv 9) pe_int) pa_nil))) (pa_cons (pv 9) (pa_cons (pe_op (addK K) (pv 9) pe_int) (pa_cons (pe_op op_sub (pe_op (addK K) (pv 9) (pv 6)) pe_int) (pa_cons (pe_op (addK K) (pv 9) (pv 6)) pa_nil)))))))) (pss_cons (ps_set (i := 10) sc__law_right.nd rfl (Or.inl rfl) (pe_op (addK K) (pe_op (addK K) (pe_op (addK K) (pv 10) (pe_lst (pa_cons (pe_op (addK K) (pv 9) (pe_op op_mul pe_int (pv 6))) (pa_cons (pe_has D__law_far (hr.mono (by decide)) (pa_cons (pv 0) pa_nil)) (pa_cons (pe_has D__law_far (hr.mono (by decide)) (pa_cons (pv 0) pa_nil)) pa_nil))))) (pe_callTy call_list_of (by rfl) m_list (by decide +kernel) (pa_cons (pv 4) pa_nil))) (pe_callTy call_list_of (by rfl) m_list (by decide +kernel) (pa_cons (pv 5) pa_nil)))) (pss_cons (ps_for PassesOwn.never rfl (pi_list (pv 10)) (pg_name (i := 11) sc__law_right.nd rfl (Or.inl rfl)) (pss_cons (ps_set (i := 12) sc__law_right.nd rfl (Or.inl rfl) (pe_callB (RR _ rfl rfl rfl rfl rfl calm (hr.mono (by decide))) (by rfl) m_repr (by decide +kernel) (pa_cons (pe_lst (pa_cons (pe_has D__law_onward (hr.mono (by decide)) (pa_cons (pv 7) (pa_cons (pv 11) pa_nil))) (pa_cons (pe_has D__law_below (hr.mono (by decide)) (pa_cons (pv 7) (pa_cons (pv 11) pa_nil))) pa_nil))) pa_nil))) (pss_one (ps_if (pt_cmpR (neK K hr) (pe_callB (RR _ rfl rfl rfl rfl rfl calm (hr.mono (by decide))) (by rfl) m_repr (by decide +kernel) (pa_cons (pe_lst (pa_cons (pe_hm M_onward (hr.mono (by decide)) (pv 8) (pa_cons (pv 11) pa_nil)) (pa_cons (pe_hm M_below (hr.mono (by decide)) (pv 8) (pa_cons (pv 11) pa_nil)) pa_nil))) pa_nil)) (pv 12) (nomark _)) (pss_one (ps_ret pe_bl)) pss_nil)))) (pss_cons (ps_set (i := 11) sc__law_right.nd rfl (Or.inl rfl) (pe_ix (ixK K) (pv 10) (pe_has D__law_draw (hr.mono (by decide)) (pa_cons (pv 0) (pa_cons (pe_callB (lenK K) (by rfl) m_len (by decide +kernel) (pa_cons (pv 10) pa_nil)) pa_nil))) (fun _ _ => rfl))) (pss_cons (ps_set (i := 12) sc__law_right.nd rfl (Or.inl rfl) (pe_callB (RR _ rfl rfl rfl rfl rfl calm (hr.mono (by decide))) (by rfl) m_repr (by decide +kernel) (pa_cons (pe_lst (pa_cons (pe_has D__law_onward (hr.mono (by decide)) (pa_cons (pv 7) (pa_cons (pv 11) pa_nil))) (pa_cons (pe_has D__law_below (hr.mono (by decide)) (pa_cons (pv 7) (pa_cons (pv 11) pa_nil))) pa_nil))) pa_nil))) (pss_cons (ps_if (pt_cmpR (neK K hr) (pe_callB (RR _ rfl rfl rfl rfl rfl calm (hr.mono (by decide))) (by rfl) m_repr (by decide +kernel) (pa_cons (pe_lst (pa_cons (pe_hmK K_onward (hr.mono (by decide)) pass0 (pv 8) (pk_cons (pv 11) pk_nil)) (pa_cons (pe_hmK K_below (hr.mono (by decide)) pass0 (pv 8) (pk_cons (pv 11) pk_nil)) pa_nil))) pa_nil)) (pv 12) (nomark _)) (pss_one (ps_ret pe_bl)) pss_nil) (pss_one (ps_if (pw_or (pt_cmpR (neK K hr) (pe_callB call_reprI (by rfl) m_repr (by decide +kernel) (pa_cons (pe_hm0 M_first (hr.mono (by decide)) (pv 8)) pa_nil)) (pe_callB call_reprI (by rfl) m_repr (by decide +kernel) (pa_cons (pe_has D__law_onward (hr.mono (by decide)) (pa_cons (pv 7) (pa_cons pe_int pa_nil))) pa_nil)) (nomark _)) (pw_or1 (pt_not (pt_val (pe_hasG D__law_refused (hr.mono (by decide)) calm (pa_cons (pv 8) pa_nil)))))).pt (pss_one (ps_ret pe_bl)) pss_nil)))))))))))))) (pss_one (ps_ret pe_bl))), ?_⟩)
  obtain ⟨a, rfl, p0, tabs0, q⟩ := h
  refine q_forR1 (ea_cons ev_c ea_nil) (by decide) (fun i σ' H' => (∃ x1 x2 x3 x4 x5 x6 x7 x8 x9 x10 x11 x12, σ' = [some (.ref a), x1, x2, x3, x4, x5, x6, x7, x8, x9, x10, x11, x12]) ∧ Pur H' a ∧ Tabs T H' ∧ ExL a H H') (fun H1 e1 => ⟨⟨_, _, _, _, _, _, _, _, _, _, _, _, rfl⟩, p0.keep e1, tabs0.ext e1, exl_of (less_ex.trans e1)⟩) (fun i σ' H1 hi z => ?_) fun σ' H' z => s_ret ev_c fun H2 e2 => q H2 (z.2.2.2.trans (exl_of (less_ex.trans e2))) (z.2.2.1.ext e2)
  obtain ⟨⟨o1, o2, o3, o4, o5, o6, o7, o8, o9, o10, o11, o12, rfl⟩, p1, tabs1, far1⟩ := z
  refine q_parDr (i := 2) (j := 3) (a := a) (G := less a H1) (dr_pickK (K := K) less_at (el_lst (ea_cons ev_c (ea_cons ev_c (ea_cons ev_c ea_nil))) (by simp)) fun G1 n1 _ => dr_draw (m := 3) n1 rfl ev_c (by decide) (by decide)) (dr_pickK (K := K) less_at (el_lst (ea_cons ev_c (ea_cons ev_c (ea_cons ev_c ea_nil))) (by simp)) fun G1 n1 _ => dr_draw (m := 3) n1 rfl ev_c (by decide) (by decide)) less_ex p1 fun v1 v2 H2 hv1 hv2 e2 p2 => ?_
  obtain ⟨hi, rfl, hi0, hi1⟩ : ∃ m : Nat, v1 = natV m ∧ 0 < m ∧ m ≤ 200 := by
    simp only [List.mem_cons, List.not_mem_nil, or_false] at hv1
    rcases hv1 with rfl | rfl | rfl
    · exact ⟨10, rfl, by decide, by decide⟩
    · exact ⟨60, rfl, by decide, by decide⟩
    · exact ⟨200, rfl, by decide, by decide⟩
  obtain ⟨wd, rfl, wd0, wd1⟩ : ∃ m : Nat, v2 = natV m ∧ 0 < m ∧ m ≤ 100 := by
    simp only [List.mem_cons, List.not_mem_nil, or_false] at hv2
    rcases hv2 with rfl | rfl | rfl
    · exact ⟨5, rfl, by decide, by decide⟩
    · exact ⟨30, rfl, by decide, by decide⟩
    · exact ⟨100, rfl, by decide, by decide⟩
  refine ⟨.ref a, rfl, natV hi, rfl, a, 5, hi, rfl, p2, by decide, hi0, by omega, fun es p H3 re le hp nep e3 p3 => ?_⟩
  refine ⟨.ref a, rfl, natV hi, rfl, a, 3, hi, rfl, p3, by decide, hi0, by omega, fun as t H4 ra la ht net e4 p4 => ?_⟩
  refine ⟨.ref p, .ref t, rfl, ?_⟩
  have hp4 := e4 _ _ (show less a H3 p = _ by rw [less_ne nep]; exact hp)
  refine q_asgDr (i := 6) (a := a) (G := less a H4) (P := fun v => ∃ m : Nat, v = natV m ∧ 0 < m ∧ m ≤ 100) (dr_op (P1 := fun v => v = .int 1) (dr_ev ev_c rfl) (dr_draw (m := (wd : Nat)) less_at rfl (ev_var (i := 3) rfl) (by omega) (by omega)) fun x y hx hy => ?_) less_ex p4 fun v H5 pv e5 p5 => ?_
  · subst hx
    obtain ⟨k, rfl, k0, k1⟩ := hy
    exact ⟨.int (1 + k), ⟨(1 + k).toNat, by show V.int _ = V.int _; congr 1; omega, by omega, by omega⟩, fun H => rv_addI⟩
  obtain ⟨n, rfl, n0, n1⟩ := pv
  have hp5 := e5 _ _ (show less a H4 p = _ by rw [less_ne nep]; exact hp4)
  have ht5 := e5 _ _ (show less a H4 t = _ by rw [less_ne net]; exact ht)
  have tabs5 : Tabs T H5 := tabs_less (tabs_less (tabs_less (tabs_less tabs1 p1 e2) p2 e3) p3 e4) p4 e5
  have far5 : ExL a H H5 := (((far1.trans (exl_of e2)).trans (exl_of e3)).trans (exl_of e4)).trans (exl_of e5)
  clear tabs1 far1 e2 e3 e4 e5 p1 p2 p3 p4 hp hp4 ht hv1 hv2
  have me := re.mem (by omega)
  have ma := ra.mem (by omega)
  have ub : ups (es ++ as) ≤ hi := ups_le fun x hx => by
    rcases List.mem_append.mp hx with h | h
    · exact re.lt x h
    · exact ra.lt x h
  obtain ⟨Fl, Ls⟩ := setR_flat me ma n0 (show n ≤ 1000 by omega)
  obtain ⟨rh, rc⟩ := setR_le me ma n0 (show n ≤ 1000 by omega)
  have small : (setR es as n).h + (setR es as n).c ≤ 1000 := by omega
  have b1 : modB es as ≤ hi := modB_le re ra hi0
  have b0 : 1 ≤ modB es as := Nat.le_max_left _ _
  have per : EvP (inSet es as n) n (modB es as) := (inSet_per (es := es) (as := as) (n := n)).up (Nat.le_max_right _ _)
  have okR := Fl.ok
  refine q_par2 (i := 7) (j := 8) (P := ModAt (inSet es as n) (modB es as) n) (R := SetAt K Cw Cr (setR es as n)) (yi_model re ra (by omega) n0 (by omega) (ea_cons (ev_var (i := 4) rfl) (ea_cons (ev_var (i := 5) rfl) (ea_cons (ev_var (i := 6) rfl) ea_nil))) (.inl (.inl hp5)) (.inl (.inl ht5))) (fun H6 e6 => yi_set (ys_ea (ea_cons (ev_var (i := 4) rfl) (ea_cons (ev_var (i := 5) rfl) (ea_cons (ev_var (i := 6) rfl) ea_nil))) fun H' e' => ⟨p, t, rfl, .inl (.inl (e' _ _ (e6 _ _ hp5))), .inl (.inl (e' _ _ (e6 _ _ ht5)))⟩) me ma n0 (by omega) small) fun md one H6 H7 hm e6 e7 ho => ?_
  have hm7 := mod_up hm e7
  have E7 := e6.trans e7
  have p7 := p5.keep E7
  have hp7 := E7 _ _ hp5
  have ht7 := E7 _ _ ht5
  have tabs7 := tabs5.ext E7
  have far7 : ExL a H H7 := far5.trans (exl_of (less_ex.trans E7))
  clear hm e6 e7 E7 p5 hp5 ht5 tabs5 far5
  generalize hb : modB es as = b at b1 b0 per hm7
  generalize hg : inSet es as n = g at Fl Ls per hm7
  generalize hr : setR es as n = r at Fl Ls okR ho rh rc small
  have hb4 : b ≤ 4000 := by omega
  have n4 : n ≤ 4000 := by omega
  have hm0 := hm7
  obtain ⟨t7, d1, d2, rfl, m0, m1, m2⟩ := hm7
  have lb : ((List.range b).map fun i => V.bl (g i)).length = b := by simp
  refine q_asg (i := 9) (v := natV b) (ev_is (ev_lenL (ev_op (ev_var (i := 7) rfl) ev_c (rv_ixTn (i := 0) (.inl (.inl m0)) rfl)) (.inl (sq_of m1))) (by rw [lb])) fun H8 e8 => ?_
  have p8 := p7.keep e8
  have few : ∀ x ∈ es ++ as, x < big := fun x hx => by
    have b9 : 1000 < big := by decide
    rcases List.mem_append.mp hx with h | h
    · have := re.lt x h; omega
    · have := ra.lt x h; omega
  have g1k : 1000 < big := by decide
  have iv : ∀ (x y : Nat), V.int ((x : Int) + (y : Int)) = natV (x + y) := fun x y => by show V.int _ = V.int _; rw [Int.natCast_add]
  refine q_asgB (i := 10) (a := a) (G := less a H8) (lo := 31) (m := 36) (drB_cat (m := 31) (k := 5) (by decide) less_at (drB_ev (ns := List.range 31) less_at (el_listRg (n := 31) (by decide) ev_c) (by simp) fun x hx => by have := List.mem_range.mp hx; omega) fun G' n' g' => drB_ev (ns := [b - 1, b, b + 1, b + n - 1, b + n]) n' (el_lst (ea_cons (ev_is (ev_max2' (a := 0) (b := b - 1) ev_c (ev_is (ev_op (ev_var (i := 9) rfl) ev_c rv_I0) (show V.int ((b : Int) - 1) = natV (b - 1) by show V.int _ = V.int _; congr 1; omega))) (by rw [Nat.zero_max])) (ea_cons (ev_var (i := 9) rfl) (ea_cons (ev_is (ev_op (ev_var (i := 9) rfl) ev_c rv_addI) (iv b 1)) (ea_cons (ev_is (ev_op (ev_is (ev_op (ev_var (i := 9) rfl) (ev_var (i := 6) rfl) rv_addI) (iv b n)) ev_c rv_I0) (show V.int (((b + n : Nat) : Int) - 1) = natV (b + n - 1) by show V.int _ = V.int _; congr 1; omega)) (ea_cons (ev_is (ev_op (ev_var (i := 9) rfl) (ev_var (i := 6) rfl) rv_addI) (iv b n)) ea_nil))))) (by simp)) (by simp) fun x hx => by
    simp only [List.mem_cons, List.not_mem_nil, or_false] at hx
    rcases hx with rfl | rfl | rfl | rfl | rfl <;> omega) less_ex p8 fun l1 ns1 H9 hl1 nl1 le1 lt1 e9 p9 => ?_
  have hp9 := e9 _ _ (show less a H8 p = _ by rw [less_ne nep]; exact e8 _ _ hp7)
  have ht9 := e9 _ _ (show less a H8 t = _ by rw [less_ne net]; exact e8 _ _ ht7)
  have gp : ∀ {G' : Hp} {q : Addr} {o : HO}, Ex (less a H9) G' → q ≠ a → H9 q = some o → G' q = some o := fun e ne h => e _ _ (by rw [less_ne ne]; exact h)
  refine q_asgB (i := 10) (a := a) (G := less a H9) (lo := 31) (m := 36 + 3 + 5 + 3) (drB_cat (m := 36 + 3 + 5) (k := 3) (by decide) less_at (drB_cat (m := 36 + 3) (k := 5) (by decide) less_at (drB_cat (m := 36) (k := 3) (by decide) less_at (drB_var less_at rfl (by rw [less_ne nl1]; exact hl1) le1 lt1) fun G' n' g' => drB_far n' (show b + 2 * n < big by omega) (ev_is (ev_op (ev_var (i := 9) rfl) (ev_op ev_c (ev_var (i := 6) rfl) (rv_I (.inl (by decide)))) rv_addI) (by show V.int _ = V.int _; rw [Int.natCast_add, Int.natCast_mul] <;> rfl)) rfl) fun G' n' g' => drB_ev (ns := es) n' (el_listE (ev_var (i := 4) rfl) ⟨p, rfl, .inl (.inl (.inl (gp g' nep hp9)))⟩) ⟨Nat.zero_le _, le⟩ fun x hx => few x (List.mem_append_left _ hx)) fun G' n' g' => drB_ev (ns := as) n' (el_listE (ev_var (i := 5) rfl) ⟨t, rfl, .inl (.inl (.inl (gp g' net ht9)))⟩) ⟨Nat.zero_le _, la⟩ fun x hx => few x (List.mem_append_right _ hx)) less_ex p9 fun l2 ns2 H10 hl2 nl2 le2 lt2 e10 p10 => ?_
  have hm10 : ModAt g b n (.ref t7) H10 := mod_up (mod_less p9 (mod_up (mod_less p8 (mod_up hm0 e8)) e9)) e10
  have ho10 : SetAt K Cw Cr r one H10 := (setAt_less p9 ((setAt_less p8 (ho.mono e8)).mono e9)).mono e10
  have tabs10 : Tabs T H10 := tabs_less (tabs_less (tabs7.ext e8) p8 e9) p9 e10
  have far10 : ExL a H H10 := ((far7.trans (exl_of (less_ex.trans e8))).trans (exl_of e9)).trans (exl_of e10)
  clear hm0 ho tabs7 far7 e8 e9 e10 p7 p8 p9 hp7 ht7 hp9 ht9 gp m0 m1 m2 lb
  have due : ∀ {σ : L2.St} {m : Nat} {H' : Hp}, Ex H10 H' → m < big → σ[7]? = some (some (.ref t7)) → σ[11]? = some (some (natV m)) → Ev (tCB (rReprO K Cw (spSetN K Cw Cr fun r => .str (SX.S (reprS r)))) (tCons (tLst (tCons (tCall spOnL [] E0 (tCons (tVar 7) (tCons (tVar 11) tNil))) (tCons (tCall spBelL [] E0 (tCons (tVar 7) (tCons (tVar 11) tNil))) tNil))) tNil)) σ H' (.str (PyData.shown (.list (dueD g b n m)))) := fun e lt h7 h11 =>
    ev_reprLO (ds := dueD g b n _) (el_lst (ea_cons (ev_onL (mod_up hm10 e) hb4 n0 n4 per (ev_var h7) (ev_var h11)) (ea_cons (ev_belL (mod_up hm10 e) hb4 n0 n4 per (ev_var h7) (ev_var h11)) ea_nil)) (by simp)) (fun _ _ => due_da _ _) (due_good hb4 n4 lt) (by decide) (by decide)
  refine q_forLn (j := 11) (ev_var (i := 10) rfl) (sq_of hl2) (fun k σ' H' => (∃ x11 x12, σ' = [some (.ref a), some (.int (i : Int)), some (natV hi), some (natV wd), some (.ref p), some (.ref t), some (natV n), some (.ref t7), some one, some (natV b), some (.ref l2), x11, x12]) ∧ Ex H10 H') (fun H1 e1 => ⟨⟨_, _, rfl⟩, e1⟩) (fun k σ' H' _ z => sq_of (z.2 _ _ hl2)) (fun k x σ' H11 hx z => ?_) fun σ' H11 z => ?_
  · obtain ⟨⟨x11, x12, rfl⟩, e11⟩ := z
    obtain ⟨m, hmm, rfl⟩ := nat_get hx
    have mlt := lt2 m (List.mem_of_getElem? hmm)
    refine q_asg (i := 12) (due e11 mlt rfl rfl) fun H12 e12 => ?_
    have ho12 := ho10.mono (e11.trans e12)
    refine s_when (b := !true) (et_B (ev_is (ev_op (ev_reprLO (ds := dueD g b n m) (el_lst (ea_cons (ev_is (ev_mW (n := m) (by decide) ho12 (ev_var (i := 8) rfl) (ev_var (i := 11) rfl) fun H1 Q e k => ⟨one, r, m, 0, rfl, ho12.mono e, okR, small, k⟩) (on_ov Fl per n0)) (ea_cons (ev_is (ev_mW (n := m) (by decide) ho12 (ev_var (i := 8) rfl) (ev_var (i := 11) rfl) fun H1 Q e k => ⟨one, r, m, 0, rfl, ho12.mono e, okR, small, k⟩) (by rw [bel_cnt Fl])) ea_nil)) (by simp)) (fun _ _ => due_da _ _) (due_good hb4 n4 mlt) (by decide) (by decide)) (ev_var (i := 12) rfl) (rv_l (rv_ne rfl))) (by simp))) (fun z => nomatch z) fun _ H13 e13 => ?_
    exact ⟨⟨_, _, rfl⟩, (e11.trans e12).trans e13⟩
  obtain ⟨⟨x11, x12, rfl⟩, e11⟩ := z
  have p11 := p10.keep e11
  have hl11 : less a H11 l2 = some (.lst (ns2.map natV)) := by rw [less_ne nl2]; exact e11 _ _ hl2
  refine q_asgDr (i := 11) (a := a) (G := less a H11) (P := fun v => v ∈ ns2.map natV) (dr_pickX (K := K) less_at (ev_var (i := 10) rfl) hl11 fun G' n' g' => dr_draw (m := ns2.length) n' rfl (ev_is (ev_lenL (ev_var (i := 10) rfl) (.inl (sq_of (g' _ _ hl11)))) (by rw [List.length_map])) (by omega) (by omega) |>.imp fun v hv => by rw [List.length_map]; exact hv) less_ex p11 fun v H12 hv e12 p12 => ?_
  obtain ⟨m, hmm, rfl⟩ := List.mem_map.mp hv
  have mlt := lt2 m hmm
  have hm12 : ModAt g b n (.ref t7) H12 := mod_up (mod_less p11 (mod_up hm10 e11)) e12
  have ho12 : SetAt K Cw Cr r one H12 := (setAt_less p11 (ho10.mono e11)).mono e12
  have tabs12 : Tabs T H12 := tabs_less (tabs10.ext e11) p11 e12
  have far12 : ExL a H H12 := (far10.trans (exl_of (less_ex.trans e11))).trans (exl_of e12)
  refine q_asg (i := 12) (ev_reprLO (ds := dueD g b n m) (el_lst (ea_cons (ev_onL hm12 hb4 n0 n4 per (ev_var (i := 7) rfl) (ev_var (i := 11) rfl)) (ea_cons (ev_belL hm12 hb4 n0 n4 per (ev_var (i := 7) rfl) (ev_var (i := 11) rfl)) ea_nil)) (by simp)) (fun _ _ => due_da _ _) (due_good hb4 n4 mlt) (by decide) (by decide)) fun H13 e13 => ?_
  have ho13 := ho12.mono e13
  refine q_when (b := !true) (et_B (ev_is (ev_op (ev_reprLO (ds := dueD g b n m) (el_lst (ea_cons (ev_is (ev_mK (n := m) (by decide) ho13 (ev_var (i := 8) rfl) (ev_var (i := 11) rfl) fun H1 Q e k => ⟨one, r, m, 0, rfl, ho13.mono e, okR, small, k⟩) (on_ov Fl per n0)) (ea_cons (ev_is (ev_mK (n := m) (by decide) ho13 (ev_var (i := 8) rfl) (ev_var (i := 11) rfl) fun H1 Q e k => ⟨one, r, m, 0, rfl, ho13.mono e, okR, small, k⟩) (by rw [bel_cnt Fl])) ea_nil)) (by simp)) (fun _ _ => due_da _ _) (due_good hb4 n4 mlt) (by decide) (by decide)) (ev_var (i := 12) rfl) (rv_l (rv_ne rfl))) (by simp))) (fun z => nomatch z) fun _ H14 e14 => ?_
  have ho14 := ho13.mono e14
  have hm14 := mod_up hm12 (e13.trans e14)
  have lt0 : ∀ x, ((onG g b n 0).map fun n => ((n : Nat) : Int)) = some x → x.natAbs.log2 < 1920 := fun x hx => by
    cases h : onG g b n 0 with
    | none => rw [h] at hx; cases hx
    | some y =>
      rw [h] at hx
      cases hx
      have ly : y < b + n := by
        unfold onG at h
        have hmem := List.mem_of_find?_eq_some h
        obtain ⟨j, hj, rfl⟩ := List.mem_map.mp hmem
        have := List.mem_range.mp hj
        omega
      have l2 : y.log2 < 13 ∨ y = 0 := by
        by_cases z : y = 0
        · exact .inr z
        · exact .inl ((Nat.log2_lt z).mpr (by omega))
      show y.log2 < 1920
      rcases l2 with z | rfl
      · omega
      · decide
  refine (et_B (ev_is (ev_op (ev_reprI (o := (onG g b n 0).map fun n => ((n : Nat) : Int)) (ev_is (ev_spM (g := fun r => ov (onI r 0)) (ev_var (i := 8) rfl) ho14 okR small (by decide)) (on_ov Fl per n0)) lt0) (ev_reprI (o := (onG g b n 0).map fun n => ((n : Nat) : Int)) (ev_onL (n := 0) hm14 hb4 n0 n4 per (ev_var (i := 7) rfl) ev_c) lt0) (rv_l (rv_ne rfl))) (show _ = V.bl false by simp)) : EvT _ _ H14 false) H14 (Ex.refl H14) _ fun H15 e15 => ?_
  have tabs15 : Tabs T H15 := tabs12.ext ((e13.trans e14).trans e15)
  have p15 := p12.keep ((e13.trans e14).trans e15)
  have far15 : ExL a H H15 := far12.trans (exl_of (less_ex.trans ((e13.trans e14).trans e15)))
  exact ⟨_, rfl, one, r, 0, rfl, ho14.mono e15, okR, small, tabs15, fun H16 x16 t16 => ⟨true, rfl, ⟨⟨_, _, _, _, _, _, _, _, _, _, _, _, rfl⟩, p15.ext x16, t16, far15.trans (exl_ext x16)⟩⟩⟩
end
end K07
set_option Elab.async false
set_option linter.all false
set_option maxRecDepth 100000
set_option maxHeartbeats 4000000
namespace K07
open PySem PySem.Spec PyProof.Rows L2 Evl SwX
open LamX (Tabs ExtN TabB)
section
variable {P : Program} {w : World} {K : PySem.W.Frag} {mg : Str → Option Value} {base : Heap} {f : Addr} {fd : FuncData} {T : List (Addr × Str)}
abbrev s_law : Stmt := top 78
abbrev sc_law_N : List Str := ["_law_script", "_law_k"]
theorem sc_law : FnScope sc_law_N ["_law_script"] (defScope s_law) := ⟨rfl, rfl, rfl, by decide +kernel, rfl, by decide +kernel, by decide +kernel⟩
theorem ok_law (D__law_seed : Has P w K mg base "_law_seed" 1 ["_law_script", "_law_k"] (spSeed K)) (D__law_purse : Has P w K mg base "_law_purse" 1 ["_law_number"] spPurse) (D__law_right : HasG P w K mg base "_law_right" 13 ["_law_purse_here"] (spRight T))
    (m_len : mg "len" = none) (m_all : mg "all" = none) (m_range : mg "range" = none) (m_max : mg "max" = none) (m_min : mg "min" = none) (F : FnP K "law" s_law f fd) : FnG P w K mg base CX0 (13 + 1) f fd ["_law_script"] (spLawT K T) := by
  refine SwX.FunD.okG F sc_law (fun vs H Q E h => by obtain ⟨a, ns, rfl, _⟩ := h; rfl) (fun cdv A outer s H vs Q E hr calm h => ⟨_, PSs.nox
    (pss_one (ps_ret (pe_callB (cr_all rfl) (by rfl) m_all (by decide +kernel) (pa_cons (pe_lc (own := [("_law_k", 1)]) (g := gName 1) (tt := tYes) rfl sc_law.nd (pi_range1 (by rfl) m_range (pa_cons (pe_callB (call_max2 rfl) (by rfl) m_max (by decide +kernel) (pa_cons pe_int (pa_cons (pe_callB (call_min2 rfl) (by rfl) m_min (by decide +kernel) (pa_cons (pe_callB (lenK K) (by rfl) m_len (by decide +kernel) (pa_cons (pv 0) pa_nil)) (pa_cons pe_int pa_nil))) pa_nil))) pa_nil)) (blkOk_by (N := sc_law_N) (sc := defScope s_law) (by decide +kernel)) (fun _ _ _ _ _ => pg_name (i := 1) sc_law.nd rfl (Or.inl rfl)) (fun _ _ _ _ _ => pts_nil) (fun _ _ _ _ _ => (pe_hasG D__law_right (hr.mono (by decide)) calm (pa_cons (pe_has D__law_purse (hr.mono (by decide)) (pa_cons (pe_has D__law_seed (hr.mono (by decide)) (pa_cons (pv 0) (pa_cons (pv 1) pa_nil))) pa_nil)) pa_nil)))) pa_nil)))), ?_⟩)
  obtain ⟨a, ns, rfl, hS, tabs, q⟩ := h
  have small := turns_ok (hi := 4) (by decide) ns
  refine s_allR (K := K) (ea_cons (ev_is (ev_max2 ev_c (ev_min2 (ev_lenL (ev_var (i := 0) rfl) (.inl hS)) ev_c)) (by rw [List.length_map]; rfl)) ea_nil : EvA _ (L2.start sc_law_N [.ref a]) H [.int (turnsL 4 ns)]) ⟨small.1, by omega⟩ (fun D i H' => H' D = some (.lst (List.replicate i (.bl true))) ∧ SqL K (less D H') a (ns.map V.int) ∧ Tabs T H') (fun H3 D e3 hD => ⟨upd_same, by rw [less_upd_same]; exact ex_l (ex_less hD (Ex.refl H3)) (ex_l e3 hS), tabs.ext (e3.trans (Ex.new hD))⟩) (fun D i H4 hi p => ?_) fun D H4 p => ?_
  · obtain ⟨p1, p2, p3⟩ := p
    refine ⟨rfl, .ref a, rfl, .int (0 + (i : Int)), rfl, a, ns, _, rfl, ex_l less_ex p2, by omega, by omega, fun n H5 e5 => ⟨n, rfl, fun b H6 hb e6 pu6 => ⟨b, rfl, pu6, (p3.ext e5).ext e6, fun H7 far7 tabs7 => ?_⟩⟩⟩
    have x7 : ExtN H5 H7 := ext_fresh hb e6 far7
    refine ⟨List.replicate i (.bl true), x7 _ _ (e5 _ _ p1) (fun _ z => nomatch z), ?_, ?_, ?_, ?_⟩
    · rw [List.length_replicate]
      exact Nat.lt_of_lt_of_le (show i < 6 by omega) (by decide)
    · rw [upd_same, List.replicate_succ']
    · rw [less_upd_same]
      exact sql_ext p2 (extn_less ((LamX.ExtN.of e5).trans x7))
    · exact tabs_mut tabs7 (x7 _ _ (e5 _ _ p1) fun _ z => nomatch z)
  · refine ⟨List.replicate (turnsL 4 ns).toNat true, .inl (.inl (by rw [p.1, List.map_replicate])), ?_⟩
    rw [show (List.replicate (turnsL 4 ns).toNat true).all id = true by simp]
    exact q H4
end
end K07
set_option Elab.async false
set_option linter.all false
set_option maxRecDepth 100000
set_option maxHeartbeats 0
namespace K07
open PySem PySem.Spec PyProof.Rows L2 SwX
abbrev R : PySem.W.OpenRow := PySem.W.OpenLaw.row PySem.Challenge.rw_sealedweights_k07_first_onward_and_below
def dL (x : Str) (i : Nat) : He5.DefA := ⟨fun K => He.ga K x, x, x, defArgs (top i), defBody (top i), defScope (top i), [], []⟩
def dM (c m q : Str) (i j : Nat) (ds : List He.Dv) : He5.DefA := ⟨fun K => He.ma K (He.ga K c) m, m, q, defArgs (inClass (top i) j), defBody (inClass (top i) j), defScope (inClass (top i) j), ds, []⟩
def dR (c m q : Str) (i j : Nat) : He5.DefA := ⟨fun K => He5.wf K (He.ga K c) "classmethod" m, m, q, defArgs (inClass (top i) j), defBody (inClass (top i) j), defScope (inClass (top i) j), [], []⟩
def dP (c m q : Str) (i j : Nat) : He5.DefA := ⟨fun K => He5.wf K (He.ga K c) "property" m, m, q, defArgs (inClass (top i) j), defBody (inClass (top i) j), defScope (inClass (top i) j), [], []⟩
def fn : List He5.DefA := [dL "is_integer" 25, dL "is_between" 26, dL "check_number" 27, dL "step_of" 33, dL "has_period" 34, dL "with_period" 35, dL "is_straight" 36, dL "least_form" 37, dL "flat" 46, dL "check_members" 51, dL "row_of" 52, dL "checked" 55, dL "members_from" 57, dL "text_of_row" 58, dL "_law_seed" 64, dL "_law_purse" 65, dL "_law_draw" 66, dL "_law_fault" 67, dL "_law_kept" 68, dL "_law_caught" 69, dL "_law_rising" 70, dL "_law_model" 71, dL "_law_has" 72, dL "_law_far" 73, dL "_law_onward" 74, dL "_law_below" 75, dL "_law_refused" 76, dL "_law_right" 77, dL "law" 78, dM "InvalidNumber" "__init__" "InvalidNumber.__init__" 3 0 [], dM "InvalidMembers" "__init__" "InvalidMembers.__init__" 13 0 [], dM "TooMany" "__init__" "TooMany.__init__" 19 0 [], dM "Row" "__init__" "Row.__init__" 32 0 [], dM "Row" "at" "Row.at" 32 1 [], dM "Row" "rise_at" "Row.rise_at" 32 2 [], dM "Row" "length" "Row.length" 32 3 [], dM "Row" "key" "Row.key" 32 4 [], dM "Weights" "__init__" "Weights.__init__" 62 0 [.adr (He.dflAt ("Weights", some "__init__") 0), .int 1], dM "Weights" "onward" "Weights.onward" 62 5 [], dM "Weights" "first" "Weights.first" 62 4 [], dM "Weights" "below" "Weights.below" 62 6 [], dM "Weights" "__contains__" "Weights.__contains__" 62 10 [], dM "Weights" "__repr__" "Weights.__repr__" 62 20 [], dP "Weights" "early" "Weights.early" 62 2, dP "Weights" "period" "Weights.period" 62 3]
def fa : List He.Fa := [.glo "is_integer", .glo "is_between", .glo "check_number", .glo "step_of", .glo "has_period", .glo "with_period", .glo "is_straight", .glo "least_form", .glo "flat", .glo "check_members", .glo "row_of", .glo "checked", .glo "members_from", .glo "text_of_row", .glo "_law_seed", .glo "_law_purse", .glo "_law_draw", .glo "_law_fault", .glo "_law_kept", .glo "_law_caught", .glo "_law_rising", .glo "_law_model", .glo "_law_has", .glo "_law_far", .glo "_law_onward", .glo "_law_below", .glo "_law_refused", .glo "_law_right", .glo "law", .glo "InvalidNumber", .glo "InvalidText", .glo "InvalidName", .glo "InvalidIndex", .glo "InvalidClaim", .glo "InvalidThing", .glo "NotACatalogue", .glo "NotWeights", .glo "InvalidKinds", .glo "InvalidRecipes", .glo "InvalidMembers", .glo "InvalidRows", .glo "UnknownName", .glo "InUse", .glo "TooMany", .glo "NothingToUndo", .glo "Broken", .glo "WrongValue", .glo "WrongName", .glo "NoAnswer", .glo "Row", .glo "Weights", .free "len", .free "str", .free "repr", .free "isinstance", .free "range", .free "all", .free "max", .free "min", .free "int", .free "bool", .free "list", .free "tuple", .free "enumerate", .free "divmod", .free "set", .free "sorted", .free "sum", .free "ValueError", .free "LookupError", .free "ArithmeticError", .int "MOST_TOGETHER" 1000, .str "DIGITS" "0123456789", .cls "Row", .noat "Row" "head", .noat "Row" "cycle", .noat "Row" "steps", .meth "Row" "at", .meth "Row" "rise_at", .meth "Row" "length", .meth "Row" "key", .mkr "Row", .cls "Weights", .noat "Weights" "told", .meth "Weights" "onward", .meth "Weights" "first", .meth "Weights" "below", .meth "Weights" "__contains__", .meth "Weights" "__repr__", .mkr "Weights", .int "LARGEST" 999]
def tf : TfZ := [fun K => He.ga K "_law_refused"]
def chk (K : PySem.W.Frag) : Bool := ownB K (He.ga K "Weights") && (propB K (He.ga K "Weights") "early" && (propB K (He.ga K "Weights") "period" && (decide (PySem.W.kitOne K (.ref (He.ga K "Weights")) (.type "int") = some false) && (clsZ K [0, 10, 14]))))
def gl1 : List PySem.Str := ["is_integer", "is_between", "check_number", "step_of", "has_period", "with_period", "is_straight", "least_form", "flat", "check_members", "row_of", "checked", "members_from", "text_of_row", "_law_seed", "_law_purse", "_law_draw", "_law_fault", "_law_kept", "_law_caught"]
def gl2 : List PySem.Str := ["_law_rising", "_law_model", "_law_has", "_law_far", "_law_onward", "_law_below", "_law_refused", "_law_right", "law", "InvalidNumber", "InvalidText", "InvalidName", "InvalidIndex", "InvalidClaim", "InvalidThing", "NotACatalogue", "NotWeights", "InvalidKinds", "InvalidRecipes", "InvalidMembers"]
def gl3 : List PySem.Str := ["InvalidRows", "UnknownName", "InUse", "TooMany", "NothingToUndo", "Broken", "WrongValue", "WrongName", "NoAnswer", "Row", "Weights"]
def gl : List PySem.Str := gl1 ++ (gl2 ++ (gl3))
abbrev hk : PySem.W.Hook := hookN 4 gl fa fn tf chk
def ob (s : PySem.W.SharedT) : AlZ := obsN 4 gl fa fn tf chk (HandSHeadRun.getT s)
theorem ob_eq (s : PySem.W.SharedT) : ob s = hk.obs s.abs := obsN_eq (HandSHeadRun.getT_eq s)
def names1 : List PySem.Str := ["_wall", "__name__", "WrongValue", "InvalidNumber", "InvalidText", "InvalidName", "InvalidIndex", "InvalidClaim", "InvalidThing", "NotACatalogue", "NotWeights", "InvalidKinds", "InvalidRecipes", "InvalidMembers", "InvalidRows", "WrongName", "UnknownName", "InUse", "NoAnswer", "TooMany"]
def names2 : List PySem.Str := ["NothingToUndo", "Broken", "MOST_TOGETHER", "DIGITS", "is_integer", "is_between", "check_number", "number_of", "common_divisor", "common_multiple", "Row", "step_of", "has_period", "with_period", "is_straight", "least_form", "greater", "greatest_of", "Bundle", "Join"]
def names3 : List PySem.Str := ["Pair", "joined", "summed", "both", "flat", "is_in", "combined", "LARGEST", "check_members", "row_of", "weights_of_row", "zeros", "checked", "check_weights", "members_from", "text_of_row", "numbers_in", "parts_of_words", "set_told", "Weights"]
def names4 : List PySem.Str := ["_law_seed", "_law_purse", "_law_draw", "_law_fault", "_law_kept", "_law_caught", "_law_rising", "_law_model", "_law_has", "_law_far", "_law_onward", "_law_below", "_law_refused", "_law_right"]
def names : List PySem.Str := names1 ++ (names2 ++ (names3 ++ (names4)))
theorem run (w : World) : HandSHeadRun.RunEq R (PySem.W.view R.prog [78]) hk ob 20000 names w := by
  intro os
  kernel_rfl
end K07
set_option Elab.async false
set_option linter.all false
set_option maxRecDepth 100000
set_option maxHeartbeats 0
namespace K07
open PySem PySem.Spec PyProof.Rows L2 SwX
section
variable {P : Program} {w : World} {K : PySem.W.Frag} {h : Heap} {mg : Str → Option Value} {base : Heap} {f : Addr} {fd : FuncData}
theorem sci_0 : FnScope ["self", "given"] ["self", "given"] (defScope (inClass (top 3) 0)) := ⟨rfl, rfl, rfl, by decide +kernel, rfl, by decide +kernel, by decide +kernel⟩
theorem has_0 {C : Addr} (T : Oex K C) (n : Free K C "given") (i : Ini K C f) (F : FunD K "__init__" "InvalidNumber.__init__" (defArgs (inClass (top 3) 0)) (defBody (inClass (top 3) 0)) (defScope (inClass (top 3) 0)) [] [] f fd) (m : mg "InvalidNumber" = some (.ref C)) : HasX P w K mg base "InvalidNumber" 1 C 1 ["given"] (fun us ws => us ++ ws.reverse) (spIni1 C "given") := by
  refine ⟨f, fd, ["self", "given"], T, i, F.ok sci_0 (fun vs H Q E h => by obtain ⟨a, v, rfl, _⟩ := h; rfl) (fun cdv A outer s H vs Q E hr h => ⟨_, PSs.nox
    (pss_one (ps_setX (pv 0) (pv 1))), ?_⟩), m, kbn_of F 2 [] (fun us ws => us ++ ws.reverse) (fun r z => r.append (vals_rev z)) (fun _ _ _ _ _ _ us ws h1 h2 => match us, ws, h1, h2 with | [_, _], [], _, _ => rfl) |> kbn_pos, kbn_of F 1 ["given"] (fun us ws => us ++ ws.reverse) (fun r z => r.append (vals_rev z)) (fun _ _ _ _ _ _ us ws h1 h2 => match us, ws, h1, h2 with | [_], [_], _, _ => rfl)⟩
  obtain ⟨a, v, rfl, h, q⟩ := h
  exact body_ini1 T n rfl rfl h q
theorem sci_10 : FnScope ["self", "index"] ["self", "index"] (defScope (inClass (top 13) 0)) := ⟨rfl, rfl, rfl, by decide +kernel, rfl, by decide +kernel, by decide +kernel⟩
theorem has_10 {C : Addr} (T : Oex K C) (n : Free K C "index") (i : Ini K C f) (F : FunD K "__init__" "InvalidMembers.__init__" (defArgs (inClass (top 13) 0)) (defBody (inClass (top 13) 0)) (defScope (inClass (top 13) 0)) [] [] f fd) (m : mg "InvalidMembers" = some (.ref C)) : HasX P w K mg base "InvalidMembers" 1 C 1 ["index"] (fun us ws => us ++ ws.reverse) (spIni1 C "index") := by
  refine ⟨f, fd, ["self", "index"], T, i, F.ok sci_10 (fun vs H Q E h => by obtain ⟨a, v, rfl, _⟩ := h; rfl) (fun cdv A outer s H vs Q E hr h => ⟨_, PSs.nox
    (pss_one (ps_setX (pv 0) (pv 1))), ?_⟩), m, kbn_of F 2 [] (fun us ws => us ++ ws.reverse) (fun r z => r.append (vals_rev z)) (fun _ _ _ _ _ _ us ws h1 h2 => match us, ws, h1, h2 with | [_, _], [], _, _ => rfl) |> kbn_pos, kbn_of F 1 ["index"] (fun us ws => us ++ ws.reverse) (fun r z => r.append (vals_rev z)) (fun _ _ _ _ _ _ us ws h1 h2 => match us, ws, h1, h2 with | [_], [_], _, _ => rfl)⟩
  obtain ⟨a, v, rfl, h, q⟩ := h
  exact body_ini1 T n rfl rfl h q
theorem sci_14 : FnScope ["self", "limit"] ["self", "limit"] (defScope (inClass (top 19) 0)) := ⟨rfl, rfl, rfl, by decide +kernel, rfl, by decide +kernel, by decide +kernel⟩
theorem has_14 {C : Addr} (T : Oex K C) (n : Free K C "limit") (i : Ini K C f) (F : FunD K "__init__" "TooMany.__init__" (defArgs (inClass (top 19) 0)) (defBody (inClass (top 19) 0)) (defScope (inClass (top 19) 0)) [] [] f fd) (m : mg "TooMany" = some (.ref C)) : HasX P w K mg base "TooMany" 1 C 1 ["limit"] (fun us ws => us ++ ws.reverse) (spIni1 C "limit") := by
  refine ⟨f, fd, ["self", "limit"], T, i, F.ok sci_14 (fun vs H Q E h => by obtain ⟨a, v, rfl, _⟩ := h; rfl) (fun cdv A outer s H vs Q E hr h => ⟨_, PSs.nox
    (pss_one (ps_setX (pv 0) (pv 1))), ?_⟩), m, kbn_of F 2 [] (fun us ws => us ++ ws.reverse) (fun r z => r.append (vals_rev z)) (fun _ _ _ _ _ _ us ws h1 h2 => match us, ws, h1, h2 with | [_, _], [], _, _ => rfl) |> kbn_pos, kbn_of F 1 ["limit"] (fun us ws => us ++ ws.reverse) (fun r z => r.append (vals_rev z)) (fun _ _ _ _ _ _ us ws h1 h2 => match us, ws, h1, h2 with | [_], [_], _, _ => rfl)⟩
  obtain ⟨a, v, rfl, h, q⟩ := h
  exact body_ini1 T n rfl rfl h q
def T (K : PySem.W.Frag) : List (Addr × Str) := [((ctZ K (He.ga K "_law_refused")).2, qRf)]
def cs (K : PySem.W.Frag) : List (Addr × Addr) := [ctZ K (He.ga K "_law_refused")]
theorem facts {f : Addr} (X : K.In h) (G : h.Ns mainGlobals mg) (hfa : mg ("law" : Str) = some (.ref f)) (c : SaysZ fa fn tf chk h K) :
    ∃ (K : PySem.W.Frag) (fd : FuncData) (sp : Sp) (cs : List (Addr × Addr)), K.In h ∧ (∀ p ∈ cs, h.get? p.2 = some tab0) ∧ (∀ p ∈ cs, K.lookup p.2 = none) ∧ (∀ p ∈ cs, PySem.W.CodeHd h p.1 p.2) ∧ (∀ (s : Shared) (u : Value), BindsTo s fd ⟨[u], []⟩ [("_law_script", u)]) ∧
        (∀ (H : Hp) (a : Addr) (ns : List Int), ns.length ≤ 63 → (∀ p ∈ cs, H p.2 = some (.tbl #[])) → SqL K H a (ns.map V.int) → sp [.ref a] H (fun v _ => v = .bl true) fun _ _ _ => False) ∧
        ∀ base : Heap, K.In base → base.Ns mainGlobals mg → (∀ p ∈ cs, LamX.TabB base mg p.1 p.2) → FnG P w K mg base CX0 14 f fd ["_law_script"] sp := by
  obtain ⟨sys, ck, sd, hd, ot, em⟩ := c
  unfold chk at ck
  simp only [Bool.and_eq_true] at ck
  obtain ⟨c0, c1, c2, c3, c4⟩ := ck
  obtain ⟨fd0, F0⟩ := sd.def_ 0 (d := dL "is_integer" 25) rfl
  obtain ⟨fd1, F1⟩ := sd.def_ 1 (d := dL "is_between" 26) rfl
  obtain ⟨fd2, F2⟩ := sd.def_ 2 (d := dL "check_number" 27) rfl
  obtain ⟨fd3, F3⟩ := sd.def_ 3 (d := dL "step_of" 33) rfl
  obtain ⟨fd4, F4⟩ := sd.def_ 4 (d := dL "has_period" 34) rfl
  obtain ⟨fd5, F5⟩ := sd.def_ 5 (d := dL "with_period" 35) rfl
  obtain ⟨fd6, F6⟩ := sd.def_ 6 (d := dL "is_straight" 36) rfl
  obtain ⟨fd7, F7⟩ := sd.def_ 7 (d := dL "least_form" 37) rfl
  obtain ⟨fd8, F8⟩ := sd.def_ 8 (d := dL "flat" 46) rfl
  obtain ⟨fd9, F9⟩ := sd.def_ 9 (d := dL "check_members" 51) rfl
  obtain ⟨fd10, F10⟩ := sd.def_ 10 (d := dL "row_of" 52) rfl
  obtain ⟨fd11, F11⟩ := sd.def_ 11 (d := dL "checked" 55) rfl
  obtain ⟨fd12, F12⟩ := sd.def_ 12 (d := dL "members_from" 57) rfl
  obtain ⟨fd13, F13⟩ := sd.def_ 13 (d := dL "text_of_row" 58) rfl
  obtain ⟨fd14, F14⟩ := sd.def_ 14 (d := dL "_law_seed" 64) rfl
  obtain ⟨fd15, F15⟩ := sd.def_ 15 (d := dL "_law_purse" 65) rfl
  obtain ⟨fd16, F16⟩ := sd.def_ 16 (d := dL "_law_draw" 66) rfl
  obtain ⟨fd17, F17⟩ := sd.def_ 17 (d := dL "_law_fault" 67) rfl
  obtain ⟨fd18, F18⟩ := sd.def_ 18 (d := dL "_law_kept" 68) rfl
  obtain ⟨fd19, F19⟩ := sd.def_ 19 (d := dL "_law_caught" 69) rfl
  obtain ⟨fd20, F20⟩ := sd.def_ 20 (d := dL "_law_rising" 70) rfl
  obtain ⟨fd21, F21⟩ := sd.def_ 21 (d := dL "_law_model" 71) rfl
  obtain ⟨fd22, F22⟩ := sd.def_ 22 (d := dL "_law_has" 72) rfl
  obtain ⟨fd23, F23⟩ := sd.def_ 23 (d := dL "_law_far" 73) rfl
  obtain ⟨fd24, F24⟩ := sd.def_ 24 (d := dL "_law_onward" 74) rfl
  obtain ⟨fd25, F25⟩ := sd.def_ 25 (d := dL "_law_below" 75) rfl
  obtain ⟨fd26, F26⟩ := sd.def_ 26 (d := dL "_law_refused" 76) rfl
  obtain ⟨fd27, F27⟩ := sd.def_ 27 (d := dL "_law_right" 77) rfl
  obtain ⟨fd28, F28⟩ := sd.def_ 28 (d := dL "law" 78) rfl
  obtain ⟨fd29, F29⟩ := sd.def_ 29 (d := dM "InvalidNumber" "__init__" "InvalidNumber.__init__" 3 0 []) rfl
  obtain ⟨fd30, F30⟩ := sd.def_ 30 (d := dM "InvalidMembers" "__init__" "InvalidMembers.__init__" 13 0 []) rfl
  obtain ⟨fd31, F31⟩ := sd.def_ 31 (d := dM "TooMany" "__init__" "TooMany.__init__" 19 0 []) rfl
  obtain ⟨fd32, F32⟩ := sd.def_ 32 (d := dM "Row" "__init__" "Row.__init__" 32 0 []) rfl
  obtain ⟨fd33, F33⟩ := sd.def_ 33 (d := dM "Row" "at" "Row.at" 32 1 []) rfl
  obtain ⟨fd34, F34⟩ := sd.def_ 34 (d := dM "Row" "rise_at" "Row.rise_at" 32 2 []) rfl
  obtain ⟨fd35, F35⟩ := sd.def_ 35 (d := dM "Row" "length" "Row.length" 32 3 []) rfl
  obtain ⟨fd36, F36⟩ := sd.def_ 36 (d := dM "Row" "key" "Row.key" 32 4 []) rfl
  obtain ⟨fd37, F37⟩ := sd.def_ 37 (d := dM "Weights" "__init__" "Weights.__init__" 62 0 [.adr (He.dflAt ("Weights", some "__init__") 0), .int 1]) rfl
  obtain ⟨fd38, F38⟩ := sd.def_ 38 (d := dM "Weights" "onward" "Weights.onward" 62 5 []) rfl
  obtain ⟨fd39, F39⟩ := sd.def_ 39 (d := dM "Weights" "first" "Weights.first" 62 4 []) rfl
  obtain ⟨fd40, F40⟩ := sd.def_ 40 (d := dM "Weights" "below" "Weights.below" 62 6 []) rfl
  obtain ⟨fd41, F41⟩ := sd.def_ 41 (d := dM "Weights" "__contains__" "Weights.__contains__" 62 10 []) rfl
  obtain ⟨fd42, F42⟩ := sd.def_ 42 (d := dM "Weights" "__repr__" "Weights.__repr__" 62 20 []) rfl
  obtain ⟨fd43, F43⟩ := sd.def_ 43 (d := dP "Weights" "early" "Weights.early" 62 2) rfl
  obtain ⟨fd44, F44⟩ := sd.def_ 44 (d := dP "Weights" "period" "Weights.period" 62 3) rfl
  have k_is_integer := He.glo_ok X G (sd.fact 0 (f := .glo "is_integer") rfl)
  have k_is_between := He.glo_ok X G (sd.fact 1 (f := .glo "is_between") rfl)
  have k_check_number := He.glo_ok X G (sd.fact 2 (f := .glo "check_number") rfl)
  have k_step_of := He.glo_ok X G (sd.fact 3 (f := .glo "step_of") rfl)
  have k_has_period := He.glo_ok X G (sd.fact 4 (f := .glo "has_period") rfl)
  have k_with_period := He.glo_ok X G (sd.fact 5 (f := .glo "with_period") rfl)
  have k_is_straight := He.glo_ok X G (sd.fact 6 (f := .glo "is_straight") rfl)
  have k_least_form := He.glo_ok X G (sd.fact 7 (f := .glo "least_form") rfl)
  have k_flat := He.glo_ok X G (sd.fact 8 (f := .glo "flat") rfl)
  have k_check_members := He.glo_ok X G (sd.fact 9 (f := .glo "check_members") rfl)
  have k_row_of := He.glo_ok X G (sd.fact 10 (f := .glo "row_of") rfl)
  have k_checked := He.glo_ok X G (sd.fact 11 (f := .glo "checked") rfl)
  have k_members_from := He.glo_ok X G (sd.fact 12 (f := .glo "members_from") rfl)
  have k_text_of_row := He.glo_ok X G (sd.fact 13 (f := .glo "text_of_row") rfl)
  have k__law_seed := He.glo_ok X G (sd.fact 14 (f := .glo "_law_seed") rfl)
  have k__law_purse := He.glo_ok X G (sd.fact 15 (f := .glo "_law_purse") rfl)
  have k__law_draw := He.glo_ok X G (sd.fact 16 (f := .glo "_law_draw") rfl)
  have k__law_fault := He.glo_ok X G (sd.fact 17 (f := .glo "_law_fault") rfl)
  have k__law_kept := He.glo_ok X G (sd.fact 18 (f := .glo "_law_kept") rfl)
  have k__law_caught := He.glo_ok X G (sd.fact 19 (f := .glo "_law_caught") rfl)
  have k__law_rising := He.glo_ok X G (sd.fact 20 (f := .glo "_law_rising") rfl)
  have k__law_model := He.glo_ok X G (sd.fact 21 (f := .glo "_law_model") rfl)
  have k__law_has := He.glo_ok X G (sd.fact 22 (f := .glo "_law_has") rfl)
  have k__law_far := He.glo_ok X G (sd.fact 23 (f := .glo "_law_far") rfl)
  have k__law_onward := He.glo_ok X G (sd.fact 24 (f := .glo "_law_onward") rfl)
  have k__law_below := He.glo_ok X G (sd.fact 25 (f := .glo "_law_below") rfl)
  have k__law_refused := He.glo_ok X G (sd.fact 26 (f := .glo "_law_refused") rfl)
  have k__law_right := He.glo_ok X G (sd.fact 27 (f := .glo "_law_right") rfl)
  have k_law := He.glo_ok X G (sd.fact 28 (f := .glo "law") rfl)
  have k_InvalidNumber := He.glo_ok X G (sd.fact 29 (f := .glo "InvalidNumber") rfl)
  have k_InvalidText := He.glo_ok X G (sd.fact 30 (f := .glo "InvalidText") rfl)
  have k_InvalidName := He.glo_ok X G (sd.fact 31 (f := .glo "InvalidName") rfl)
  have k_InvalidIndex := He.glo_ok X G (sd.fact 32 (f := .glo "InvalidIndex") rfl)
  have k_InvalidClaim := He.glo_ok X G (sd.fact 33 (f := .glo "InvalidClaim") rfl)
  have k_InvalidThing := He.glo_ok X G (sd.fact 34 (f := .glo "InvalidThing") rfl)
  have k_NotACatalogue := He.glo_ok X G (sd.fact 35 (f := .glo "NotACatalogue") rfl)
  have k_NotWeights := He.glo_ok X G (sd.fact 36 (f := .glo "NotWeights") rfl)
  have k_InvalidKinds := He.glo_ok X G (sd.fact 37 (f := .glo "InvalidKinds") rfl)
  have k_InvalidRecipes := He.glo_ok X G (sd.fact 38 (f := .glo "InvalidRecipes") rfl)
  have k_InvalidMembers := He.glo_ok X G (sd.fact 39 (f := .glo "InvalidMembers") rfl)
  have k_InvalidRows := He.glo_ok X G (sd.fact 40 (f := .glo "InvalidRows") rfl)
  have k_UnknownName := He.glo_ok X G (sd.fact 41 (f := .glo "UnknownName") rfl)
  have k_InUse := He.glo_ok X G (sd.fact 42 (f := .glo "InUse") rfl)
  have k_TooMany := He.glo_ok X G (sd.fact 43 (f := .glo "TooMany") rfl)
  have k_NothingToUndo := He.glo_ok X G (sd.fact 44 (f := .glo "NothingToUndo") rfl)
  have k_Broken := He.glo_ok X G (sd.fact 45 (f := .glo "Broken") rfl)
  have k_WrongValue := He.glo_ok X G (sd.fact 46 (f := .glo "WrongValue") rfl)
  have k_WrongName := He.glo_ok X G (sd.fact 47 (f := .glo "WrongName") rfl)
  have k_NoAnswer := He.glo_ok X G (sd.fact 48 (f := .glo "NoAnswer") rfl)
  have k_Row := He.glo_ok X G (sd.fact 49 (f := .glo "Row") rfl)
  have k_Weights := He.glo_ok X G (sd.fact 50 (f := .glo "Weights") rfl)
  have m_len := He.free_ok X G (sd.fact 51 (f := .free "len") rfl)
  have m_str := He.free_ok X G (sd.fact 52 (f := .free "str") rfl)
  have m_repr := He.free_ok X G (sd.fact 53 (f := .free "repr") rfl)
  have m_isinstance := He.free_ok X G (sd.fact 54 (f := .free "isinstance") rfl)
  have m_range := He.free_ok X G (sd.fact 55 (f := .free "range") rfl)
  have m_all := He.free_ok X G (sd.fact 56 (f := .free "all") rfl)
  have m_max := He.free_ok X G (sd.fact 57 (f := .free "max") rfl)
  have m_min := He.free_ok X G (sd.fact 58 (f := .free "min") rfl)
  have m_int := He.free_ok X G (sd.fact 59 (f := .free "int") rfl)
  have m_bool := He.free_ok X G (sd.fact 60 (f := .free "bool") rfl)
  have m_list := He.free_ok X G (sd.fact 61 (f := .free "list") rfl)
  have m_tuple := He.free_ok X G (sd.fact 62 (f := .free "tuple") rfl)
  have m_enumerate := He.free_ok X G (sd.fact 63 (f := .free "enumerate") rfl)
  have m_divmod := He.free_ok X G (sd.fact 64 (f := .free "divmod") rfl)
  have m_set := He.free_ok X G (sd.fact 65 (f := .free "set") rfl)
  have m_sorted := He.free_ok X G (sd.fact 66 (f := .free "sorted") rfl)
  have m_sum := He.free_ok X G (sd.fact 67 (f := .free "sum") rfl)
  have m_ValueError := He.free_ok X G (sd.fact 68 (f := .free "ValueError") rfl)
  have m_LookupError := He.free_ok X G (sd.fact 69 (f := .free "LookupError") rfl)
  have m_ArithmeticError := He.free_ok X G (sd.fact 70 (f := .free "ArithmeticError") rfl)
  have g_MOST_TOGETHER := He.int_ok X G (sd.fact 71 (f := .int "MOST_TOGETHER" 1000) rfl)
  have g_DIGITS := He.str_ok X G (sd.fact 72 (f := .str "DIGITS" "0123456789") rfl)
  have cls_Row := He.cls_ok (sd.fact 73 (f := .cls "Row") rfl)
  have n_Row_head := He.noat_ok (sd.fact 74 (f := .noat "Row" "head") rfl)
  have n_Row_cycle := He.noat_ok (sd.fact 75 (f := .noat "Row" "cycle") rfl)
  have n_Row_steps := He.noat_ok (sd.fact 76 (f := .noat "Row" "steps") rfl)
  have t_Row_at := He.meth_ok (sd.fact 77 (f := .meth "Row" "at") rfl)
  have t_Row_rise_at := He.meth_ok (sd.fact 78 (f := .meth "Row" "rise_at") rfl)
  have t_Row_length := He.meth_ok (sd.fact 79 (f := .meth "Row" "length") rfl)
  have t_Row_key := He.meth_ok (sd.fact 80 (f := .meth "Row" "key") rfl)
  have mk_Row := He.mkr_ok (sd.fact 81 (f := .mkr "Row") rfl)
  have cls_Weights := He.cls_ok (sd.fact 82 (f := .cls "Weights") rfl)
  have n_Weights_told := He.noat_ok (sd.fact 83 (f := .noat "Weights" "told") rfl)
  have t_Weights_onward := He.meth_ok (sd.fact 84 (f := .meth "Weights" "onward") rfl)
  have t_Weights_first := He.meth_ok (sd.fact 85 (f := .meth "Weights" "first") rfl)
  have t_Weights_below := He.meth_ok (sd.fact 86 (f := .meth "Weights" "below") rfl)
  have t_Weights___contains__ := He.meth_ok (sd.fact 87 (f := .meth "Weights" "__contains__") rfl)
  have t_Weights___repr__ := He.meth_ok (sd.fact 88 (f := .meth "Weights" "__repr__") rfl)
  have mk_Weights := He.mkr_ok (sd.fact 89 (f := .mkr "Weights") rfl)
  have g_LARGEST := He.int_ok X G (sd.fact 90 (f := .int "LARGEST" 999) rfl)
  have e := hfa.symm.trans k_law
  cases e
  have b := FunD.bindsA (ps := ["_law_script"]) F28 fun _ _ _ _ _ _ us hl => match us, hl with | [_], _ => rfl
  have of2 : ∀ {Q : Addr × Addr → Prop}, (∀ p ∈ tf, Q (ctZ K (p K))) → ∀ p ∈ cs K, Q p := fun {Q} z p hp => by
    rw [List.mem_singleton.mp hp]
    exact z _ (List.mem_cons_self)
  refine ⟨K, fd28, spLawT K (T K), cs K, X, of2 em, of2 ot, of2 fun p hp => PySem.W.codeHd_of_K X (hd p hp), fun s v => b s [v] rfl, fun H a ns hl hT hS => ⟨a, ns, rfl, hS, fun p hp => ?_, fun _ => rfl⟩, fun base _ _ TB => ?_⟩
  · rw [List.mem_singleton.mp hp]
    exact LamX.TabS.nil (hT _ (List.mem_cons_self))
  have gE : ∀ i, i < 17 → mg (exNm i) = some (.ref (CxZ K i)) := fun i hi => match i, hi with
    | 0, _ => k_InvalidNumber
    | 1, _ => k_InvalidText
    | 2, _ => k_InvalidName
    | 3, _ => k_InvalidIndex
    | 4, _ => k_InvalidClaim
    | 5, _ => k_InvalidThing
    | 6, _ => k_NotACatalogue
    | 7, _ => k_NotWeights
    | 8, _ => k_InvalidKinds
    | 9, _ => k_InvalidRecipes
    | 10, _ => k_InvalidMembers
    | 11, _ => k_InvalidRows
    | 12, _ => k_UnknownName
    | 13, _ => k_InUse
    | 14, _ => k_TooMany
    | 15, _ => k_NothingToUndo
    | 16, _ => k_Broken
    | n + 17, z => absurd z (by omega)
  have c : Cl P w K mg base [0, 10, 14] (CxZ K) (He.ga K "WrongValue") (He.ga K "WrongName") (He.ga K "NoAnswer") := clsZ_ok c4 gE k_WrongValue k_WrongName k_NoAnswer fun i hi T n ini m => by
    simp only [List.mem_cons, List.not_mem_nil, or_false] at hi
    rcases hi with rfl | rfl | rfl
    · exact has_0 T n ini F29 m
    · exact has_10 T n ini F30 m
    · exact has_14 T n ini F31 m
  have X0 : ExH P w K mg base 0 (CxZ K 0) := ⟨c.D 0 (by decide), c.ty 0 (by decide)⟩
  have X10 : ExH P w K mg base 10 (CxZ K 10) := ⟨c.D 10 (by decide), c.ty 10 (by decide)⟩
  have X14 : ExH P w K mg base 14 (CxZ K 14) := ⟨c.D 14 (by decide), c.ty 14 (by decide)⟩
  have rowc : RowC K (He.ga K "Row") := ⟨cls_Row, n_Row_head, n_Row_cycle, n_Row_steps⟩
  have M_at : HasM P w K mg base (He.ga K "Row") "at" 1 ["self", "weight"] (spAt K (He.ga K "Row")) := ⟨cls_Row, _, fd33, t_Row_at, ok_Row_at rowc m_len m_divmod F33, (FunD.bindsN (ps := ["self", "weight"]) F33 fun _ _ _ _ _ _ us hl => match us, hl with | [_, _], _ => rfl)⟩
  have M_rise_at : HasM P w K mg base (He.ga K "Row") "rise_at" 1 ["self", "weight"] (spRise K (He.ga K "Row")) := ⟨cls_Row, _, fd34, t_Row_rise_at, ok_Row_rise rowc m_len F34, (FunD.bindsN (ps := ["self", "weight"]) F34 fun _ _ _ _ _ _ us hl => match us, hl with | [_, _], _ => rfl)⟩
  have M_length : HasM P w K mg base (He.ga K "Row") "length" 1 ["self"] (spLen K (He.ga K "Row")) := ⟨cls_Row, _, fd35, t_Row_length, ok_Row_length rowc m_len F35, (FunD.bindsN (ps := ["self"]) F35 fun _ _ _ _ _ _ us hl => match us, hl with | [_], _ => rfl)⟩
  have M_key : HasM P w K mg base (He.ga K "Row") "key" 1 ["self"] (spKey K (He.ga K "Row")) := ⟨cls_Row, _, fd36, t_Row_key, ok_Row_key rowc F36, (FunD.bindsN (ps := ["self"]) F36 fun _ _ _ _ _ _ us hl => match us, hl with | [_], _ => rfl)⟩
  have N_Row : HasN P w K mg base "Row" (He.ga K "Row") 1 ["self", "early", "values", "rises"] (spRowInit K (He.ga K "Row")) := ⟨k_Row, _, fd32, mk_Row, ok_Row_init rowc m_tuple F32, (FunD.bindsN (ps := ["self", "early", "values", "rises"]) F32 fun _ _ _ _ _ _ us hl => match us, hl with | [_, _, _, _], _ => rfl)⟩
  have D_step_of : Has P w K mg base "step_of" 2 ["row", "weight", "period"] (spStep K (He.ga K "Row")) := ⟨_, fd3, ok_step_of M_at F3, k_step_of, F3.kp, (FunD.bindsN (ps := ["row", "weight", "period"]) F3 fun _ _ _ _ _ _ us hl => match us, hl with | [_, _, _], _ => rfl)⟩
  have D_has_period : Has P w K mg base "has_period" 3 ["row", "period"] (spHasP K (He.ga K "Row")) := ⟨_, fd4, ok_has_period rowc m_len m_range m_all D_step_of F4, k_has_period, F4.kp, (FunD.bindsN (ps := ["row", "period"]) F4 fun _ _ _ _ _ _ us hl => match us, hl with | [_, _], _ => rfl)⟩
  have D_with_period : Has P w K mg base "with_period" 3 ["row", "period"] (spWithP K (He.ga K "Row")) := ⟨_, fd5, ok_with_period rowc m_len m_range M_at N_Row D_step_of F5, k_with_period, F5.kp, (FunD.bindsN (ps := ["row", "period"]) F5 fun _ _ _ _ _ _ us hl => match us, hl with | [_, _], _ => rfl)⟩
  have D_is_straight : Has P w K mg base "is_straight" 3 ["row", "weight"] (spStr K (He.ga K "Row")) := ⟨_, fd6, ok_is_straight rowc m_len M_rise_at D_step_of F6, k_is_straight, F6.kp, (FunD.bindsN (ps := ["row", "weight"]) F6 fun _ _ _ _ _ _ us hl => match us, hl with | [_, _], _ => rfl)⟩
  have D_least_form : Has P w K mg base "least_form" 4 ["row"] (spLf K (He.ga K "Row")) := ⟨_, fd7, ok_least_form rowc m_len m_range M_at N_Row D_step_of D_has_period D_with_period D_is_straight F7, k_least_form, F7.kp, (FunD.bindsN (ps := ["row"]) F7 fun _ _ _ _ _ _ us hl => match us, hl with | [_], _ => rfl)⟩
  have D_flat : Has P w K mg base "flat" 5 ["early", "values"] (spFlat K (He.ga K "Row")) := ⟨_, fd8, ok_flat N_Row D_least_form F8, k_flat, F8.kp, (FunD.bindsN (ps := ["early", "values"]) F8 fun _ _ _ _ _ _ us hl => match us, hl with | [_, _], _ => rfl)⟩
  have setc : SetC K (He.ga K "Weights") (He.ga K "Row") := ⟨ownB_ok cls_Weights c0, n_Weights_told, rowc⟩
  have D_is_integer : Has P w K mg base "is_integer" 1 ["value"] (spIsIntD K) := ⟨_, fd0, ok_is_integer m_isinstance m_int m_bool F0, k_is_integer, F0.kp, (FunD.bindsN (ps := ["value"]) F0 fun _ _ _ _ _ _ us hl => match us, hl with | [_], _ => rfl)⟩
  have D_is_between : Has P w K mg base "is_between" 2 ["value", "low", "high"] (spBtwO K) := ⟨_, fd1, ok_is_between D_is_integer F1, k_is_between, F1.kp, (FunD.bindsN (ps := ["value", "low", "high"]) F1 fun _ _ _ _ _ _ us hl => match us, hl with | [_, _, _], _ => rfl)⟩
  have D_check_number : HasE P w K mg base "check_number" 3 ["value", "low", "high"] (spChkN K (CxZ K 0)) := ⟨_, fd2, ok_check_number X0 D_is_between F2, k_check_number, F2.kp, (FunD.bindsN (ps := ["value", "low", "high"]) F2 fun _ _ _ _ _ _ us hl => match us, hl with | [_, _, _], _ => rfl)⟩
  have D_check_members : HasE P w K mg base "check_members" 3 ["members"] (spChkM K (CxZ K 10)) := ⟨_, fd9, ok_check_members X10 m_isinstance m_tuple m_enumerate g_LARGEST D_is_between F9, k_check_members, F9.kp, (FunD.bindsN (ps := ["members"]) F9 fun _ _ _ _ _ _ us hl => match us, hl with | [_], _ => rfl)⟩
  have D_checked : HasE P w K mg base "checked" 5 ["row"] (spChecked K (He.ga K "Row") (CxZ K 14)) := ⟨_, fd11, ok_checked X14 g_MOST_TOGETHER M_length D_least_form F11, k_checked, F11.kp, (FunD.bindsN (ps := ["row"]) F11 fun _ _ _ _ _ _ us hl => match us, hl with | [_], _ => rfl)⟩
  have D_row_of : Has P w K mg base "row_of" 6 ["early", "again", "period"] (spRowOf K (He.ga K "Row")) := ⟨_, fd10, ok_row_of m_max m_range D_flat F10, k_row_of, F10.kp, (FunD.bindsN (ps := ["early", "again", "period"]) F10 fun _ _ _ _ _ _ us hl => match us, hl with | [_, _, _], _ => rfl)⟩
  have D_members_from : Has P w K mg base "members_from" 2 ["row", "first", "last"] (spMem K (He.ga K "Row")) := ⟨_, fd12, ok_members_from m_range M_at F12, k_members_from, F12.kp, (FunD.bindsN (ps := ["row", "first", "last"]) F12 fun _ _ _ _ _ _ us hl => match us, hl with | [_, _, _], _ => rfl)⟩
  have D_text_of_row : Has P w K mg base "text_of_row" 3 ["row"] (spTextR K (He.ga K "Row")) := ⟨_, fd13, ok_text_of_row rowc m_len m_str M_length D_members_from F13, k_text_of_row, F13.kp, (FunD.bindsN (ps := ["row"]) F13 fun _ _ _ _ _ _ us hl => match us, hl with | [_], _ => rfl)⟩
  obtain ⟨dW, vW, bW⟩ := FunD.binds1 (ps := ["self", "early", "again", "period"]) F37 4 2 (List.cons_ne_nil _ _) rfl fun T kV doc pm an cdv ct us its h1 h2 => match us, its, h1, h2 with | [_, _, _, _], [_, _], _, _ => ⟨_, rfl, rfl⟩
  obtain rfl : dW = [] := by cases vW; rfl
  have N_Weights : HasNE P w K mg base "Weights" (He.ga K "Weights") 7 ["self", "early", "again", "period"] (spWInit K (He.ga K "Weights") (He.ga K "Row") (CxZ K 0) (CxZ K 10) (CxZ K 14)) := ⟨k_Weights, _, fd37, mk_Weights, ok_W_init setc g_MOST_TOGETHER D_check_members D_check_number D_checked D_row_of F37, bW⟩
  have P_early : HasP P w K mg base (He.ga K "Weights") "early" 1 ["self"] (spSetN K (He.ga K "Weights") (He.ga K "Row") fun r => natV r.h) := ⟨cls_Weights, _, _, fd43, propB_ok c1, ok_W_early setc m_len F43, (FunD.bindsN (ps := ["self"]) F43 fun _ _ _ _ _ _ us hl => match us, hl with | [_], _ => rfl)⟩
  have P_period : HasP P w K mg base (He.ga K "Weights") "period" 1 ["self"] (spSetN K (He.ga K "Weights") (He.ga K "Row") fun r => natV r.c) := ⟨cls_Weights, _, _, fd44, propB_ok c2, ok_W_period setc m_len F44, (FunD.bindsN (ps := ["self"]) F44 fun _ _ _ _ _ _ us hl => match us, hl with | [_], _ => rfl)⟩
  have S : SetIn P w K mg base (He.ga K "Weights") (He.ga K "Row") := ⟨_, fd41, ok_W_contains setc M_at D_is_integer F41, ⟨t_Weights___contains__.1, t_Weights___contains__.2⟩, (FunD.bindsN (ps := ["self", "value"]) F41 fun _ _ _ _ _ _ us hl => match us, hl with | [_, _], _ => rfl)⟩
  have M_onward : HasM P w K mg base (He.ga K "Weights") "onward" 4 ["self", "weight"] (spOnwW K (He.ga K "Weights") (He.ga K "Row")) := ⟨cls_Weights, _, fd38, t_Weights_onward, ok_W_onwardW setc m_max m_range S P_early P_period D_check_number F38, (FunD.bindsN (ps := ["self", "weight"]) F38 fun _ _ _ _ _ _ us hl => match us, hl with | [_, _], _ => rfl)⟩
  have M_below : HasM P w K mg base (He.ga K "Weights") "below" 4 ["self", "weight"] (spBel K (He.ga K "Weights") (He.ga K "Row")) := ⟨cls_Weights, _, fd40, t_Weights_below, ok_W_below setc m_len m_divmod P_early P_period D_members_from D_check_number F40, (FunD.bindsN (ps := ["self", "weight"]) F40 fun _ _ _ _ _ _ us hl => match us, hl with | [_, _], _ => rfl)⟩
  have M_first : HasM P w K mg base (He.ga K "Weights") "first" 5 ["self"] (spSetN K (He.ga K "Weights") (He.ga K "Row") fun r => ov (onI r 0)) := ⟨cls_Weights, _, fd39, t_Weights_first, ok_W_firstW setc M_onward F39, (FunD.bindsN (ps := ["self"]) F39 fun _ _ _ _ _ _ us hl => match us, hl with | [_], _ => rfl)⟩
  have K_onward : HasMK CX0 P w K mg base (He.ga K "Weights") "onward" 4 ["self", "weight"] "weight" (spOnwW K (He.ga K "Weights") (He.ga K "Row")) := ⟨cls_Weights, _, fd38, t_Weights_onward, ok_W_onwardW setc m_max m_range S P_early P_period D_check_number F38, kbn_of F38 1 ["weight"] (fun us ws => us ++ ws) (fun r z => r.append z) (fun _ _ _ _ _ _ us ws h1 h2 => match us, ws, h1, h2 with | [_], [_], _, _ => rfl)⟩
  have K_below : HasMK CX0 P w K mg base (He.ga K "Weights") "below" 4 ["self", "weight"] "weight" (spBel K (He.ga K "Weights") (He.ga K "Row")) := ⟨cls_Weights, _, fd40, t_Weights_below, ok_W_below setc m_len m_divmod P_early P_period D_members_from D_check_number F40, kbn_of F40 1 ["weight"] (fun us ws => us ++ ws) (fun r z => r.append z) (fun _ _ _ _ _ _ us ws h1 h2 => match us, ws, h1, h2 with | [_], [_], _, _ => rfl)⟩
  have kI : PySem.W.kitOne K (.ref (He.ga K "Weights")) (.type "int") = some false := of_decide_eq_true c3
  have DI_is_integer : Has P w K mg base "is_integer" 1 ["value"] (spIsIntI (He.ga K "Weights")) := ⟨_, fd0, ok_is_integerI setc.o kI m_isinstance m_int m_bool F0, k_is_integer, F0.kp, (FunD.bindsN (ps := ["value"]) F0 fun _ _ _ _ _ _ us hl => match us, hl with | [_], _ => rfl)⟩
  have DN_is_between : Has P w K mg base "is_between" 2 ["value", "low", "high"] (spBtwNo K (He.ga K "Weights")) := ⟨_, fd1, ok_is_betweenNo (ok_is_between D_is_integer F1) (ok_is_betweenI DI_is_integer F1), k_is_between, F1.kp, (FunD.bindsN (ps := ["value", "low", "high"]) F1 fun _ _ _ _ _ _ us hl => match us, hl with | [_, _, _], _ => rfl)⟩
  have DN_check_number : HasEN P w K mg base "check_number" 3 ["value", "low", "high"] (spChkNo K (He.ga K "Weights") (CxZ K 0)) := ⟨_, fd2, ok_check_no X0 DN_is_between F2, k_check_number, F2.kp, (FunD.bindsN (ps := ["value", "low", "high"]) F2 fun _ _ _ _ _ _ us hl => match us, hl with | [_, _, _], _ => rfl)⟩
  have N_onward : HasMX (L2N.CX P w) P w K mg base (He.ga K "Weights") "onward" 4 ["self", "weight"] (spNoW K (He.ga K "Weights") (CxZ K 0)) := ⟨cls_Weights, _, fd38, t_Weights_onward, ok_W_onwardNo DN_check_number F38, (FunD.bindsN (ps := ["self", "weight"]) F38 fun _ _ _ _ _ _ us hl => match us, hl with | [_, _], _ => rfl)⟩
  have N_belowK : HasMK (L2N.CX P w) P w K mg base (He.ga K "Weights") "below" 4 ["self", "weight"] "weight" (spNoW K (He.ga K "Weights") (CxZ K 0)) := ⟨cls_Weights, _, fd40, t_Weights_below, ok_W_belowNo DN_check_number F40, kbn_of F40 1 ["weight"] (fun us ws => us ++ ws) (fun r z => r.append z) (fun _ _ _ _ _ _ us ws h1 h2 => match us, ws, h1, h2 with | [_], [_], _, _ => rfl)⟩
  have MH_at : HasMH P w K mg base (He.ga K "Row") "at" 1 ["self", "weight"] (spAt K (He.ga K "Row")) := ⟨cls_Row, _, fd33, t_Row_at, ok_Row_atH rowc m_len m_divmod F33, (FunD.bindsN (ps := ["self", "weight"]) F33 fun _ _ _ _ _ _ us hl => match us, hl with | [_, _], _ => rfl)⟩
  have MH_length : HasMH P w K mg base (He.ga K "Row") "length" 1 ["self"] (spLen K (He.ga K "Row")) := ⟨cls_Row, _, fd35, t_Row_length, ok_Row_lengthH rowc m_len F35, (FunD.bindsN (ps := ["self"]) F35 fun _ _ _ _ _ _ us hl => match us, hl with | [_], _ => rfl)⟩
  have DH_members_from : HasH P w K mg base "members_from" 2 ["row", "first", "last"] (spMem K (He.ga K "Row")) := ⟨_, fd12, ok_members_fromH m_range MH_at F12, k_members_from, F12.kp, (FunD.bindsN (ps := ["row", "first", "last"]) F12 fun _ _ _ _ _ _ us hl => match us, hl with | [_, _, _], _ => rfl)⟩
  have DH_text_of_row : HasH P w K mg base "text_of_row" 3 ["row"] (spTextR K (He.ga K "Row")) := ⟨_, fd13, ok_text_of_rowH rowc m_len m_str MH_length DH_members_from F13, k_text_of_row, F13.kp, (FunD.bindsN (ps := ["row"]) F13 fun _ _ _ _ _ _ us hl => match us, hl with | [_], _ => rfl)⟩
  have RR : ReprRule P w K mg base 5 (rReprO K (He.ga K "Weights") (spSetN K (He.ga K "Weights") (He.ga K "Row") fun r => .str (SX.S (reprS r)))) := fun Y e1 e2 e3 e4 e5 cm r => by
    subst e1 e2 e3 e4 e5
    exact cr_join (cr_join (call_repr sys cm r) call_reprS) (call_reprL0 (ok_W_repr setc D_text_of_row F42) r.1 ⟨t_Weights___repr__.1, t_Weights___repr__.2⟩ (FunD.bindsN (ps := ["self"]) F42 fun _ _ _ _ _ _ us hl => match us, hl with | [_], _ => rfl) cm (L2H.roomH_of r))
  have RRL : ReprRuleH P w K mg base 5 (rReprO K (He.ga K "Weights") (spSetN K (He.ga K "Weights") (He.ga K "Row") fun r => .str (SX.S (reprS r)))) := fun Y e1 e2 e3 e4 e5 cm r hot => by
    subst e1 e2 e3 e4 e5
    exact cr_join (cr_join (call_reprH sys cm (by have := r.un; omega)) call_reprS) (call_reprLH (ok_W_reprH setc DH_text_of_row F42) hot ⟨t_Weights___repr__.1, t_Weights___repr__.2⟩ (FunD.bindsN (ps := ["self"]) F42 fun _ _ _ _ _ _ us hl => match us, hl with | [_], _ => rfl) cm r)
  have D__law_fault : HasC P w K mg base "_law_fault" 1 ["_law_e"] (spFaultC [0, 10, 14] (CxZ K)) := ⟨_, fd17, ok_fault c F17 m_isinstance m_ValueError m_LookupError m_ArithmeticError, k__law_fault, F17.kp, (FunD.bindsN (ps := ["_law_e"]) F17 fun _ _ _ _ _ _ us hl => match us, hl with | [_], _ => rfl)⟩
  have D__law_kept : HasC P w K mg base "_law_kept" 1 ["_law_e", "_law_at"] (spKeptC [0, 10, 14] (CxZ K)) := ⟨_, fd18, ok_kept c F18, k__law_kept, F18.kp, (FunD.bindsN (ps := ["_law_e", "_law_at"]) F18 fun _ _ _ _ _ _ us hl => match us, hl with | [_, _], _ => rfl)⟩
  have G0 : Caught P w K mg base [0, 10, 14] (CxZ K) (He.ga K "WrongValue") (He.ga K "WrongName") (He.ga K "NoAnswer") := ⟨c, D__law_fault, D__law_kept, sys, m_repr, _, fd19, F19, k__law_caught⟩
  have D__law_seed : Has P w K mg base "_law_seed" 1 ["_law_script", "_law_k"] (spSeed K) := ⟨_, fd14, ok_seed F14 m_len m_int, k__law_seed, F14.kp, (FunD.bindsN (ps := ["_law_script", "_law_k"]) F14 fun _ _ _ _ _ _ us hl => match us, hl with | [_, _], _ => rfl)⟩
  have D__law_purse : Has P w K mg base "_law_purse" 1 ["_law_number"] (spPurse) := ⟨_, fd15, ok_purse F15 m_int, k__law_purse, F15.kp, (FunD.bindsN (ps := ["_law_number"]) F15 fun _ _ _ _ _ _ us hl => match us, hl with | [_], _ => rfl)⟩
  have D__law_draw : Has P w K mg base "_law_draw" 1 ["_law_purse_here", "_law_many"] (spDraw) := ⟨_, fd16, ok_draw F16 m_int m_divmod, k__law_draw, F16.kp, (FunD.bindsN (ps := ["_law_purse_here", "_law_many"]) F16 fun _ _ _ _ _ _ us hl => match us, hl with | [_, _], _ => rfl)⟩
  have D__law_rising : Has P w K mg base "_law_rising" 2 ["_law_purse_here", "_law_many", "_law_high"] (spRising) := ⟨_, fd20, ok_rising m_range m_set m_sorted m_tuple D__law_draw F20, k__law_rising, F20.kp, (FunD.bindsN (ps := ["_law_purse_here", "_law_many", "_law_high"]) F20 fun _ _ _ _ _ _ us hl => match us, hl with | [_, _, _], _ => rfl)⟩
  have D__law_model : Has P w K mg base "_law_model" 1 ["_law_heads", "_law_tails", "_law_size"] (spModel K) := ⟨_, fd21, ok_model m_range m_max m_list F21, k__law_model, F21.kp, (FunD.bindsN (ps := ["_law_heads", "_law_tails", "_law_size"]) F21 fun _ _ _ _ _ _ us hl => match us, hl with | [_, _, _], _ => rfl)⟩
  have D__law_has : Has P w K mg base "_law_has" 1 ["_law_model_here", "_law_spot"] (spHas) := ⟨_, fd22, ok_has m_len m_int F22, k__law_has, F22.kp, (FunD.bindsN (ps := ["_law_model_here", "_law_spot"]) F22 fun _ _ _ _ _ _ us hl => match us, hl with | [_, _], _ => rfl)⟩
  have D__law_far : Has P w K mg base "_law_far" 2 ["_law_purse_here"] (spFarN) := ⟨_, fd23, ok_far D__law_draw F23, k__law_far, F23.kp, (FunD.bindsN (ps := ["_law_purse_here"]) F23 fun _ _ _ _ _ _ us hl => match us, hl with | [_], _ => rfl)⟩
  have D__law_onward : Has P w K mg base "_law_onward" 2 ["_law_model_here", "_law_spot"] (spOnL) := ⟨_, fd24, ok_lonward m_len m_range D__law_has F24, k__law_onward, F24.kp, (FunD.bindsN (ps := ["_law_model_here", "_law_spot"]) F24 fun _ _ _ _ _ _ us hl => match us, hl with | [_, _], _ => rfl)⟩
  have D__law_below : Has P w K mg base "_law_below" 1 ["_law_model_here", "_law_spot"] (spBelL) := ⟨_, fd25, ok_lbelow m_len m_range m_sum m_divmod F25, k__law_below, F25.kp, (FunD.bindsN (ps := ["_law_model_here", "_law_spot"]) F25 fun _ _ _ _ _ _ us hl => match us, hl with | [_, _], _ => rfl)⟩
  have huR : ∀ p ∈ T K, p.1 = (ctZ K (He.ga K "_law_refused")).2 → p.2 = qRf := fun p hp e => by
    rw [List.mem_singleton.mp hp]
  have D__law_refused : HasG P w K mg base "_law_refused" 12 ["_law_one"] (spRefused K (He.ga K "Weights") (He.ga K "Row") (T K)) := ⟨_, fd26, ok_refused G0 (by decide) RRL RR m_repr N_onward N_belowK (TB _ List.mem_cons_self) List.mem_cons_self huR F26, k__law_refused, F26.kp, (FunD.bindsN (ps := ["_law_one"]) F26 fun _ _ _ _ _ _ us hl => match us, hl with | [_], _ => rfl)⟩
  have D__law_right : HasG P w K mg base "_law_right" 13 ["_law_purse_here"] (spRight (T K)) := ⟨_, fd27, ok_right RR m_range m_len m_list m_max m_repr D__law_draw D__law_rising N_Weights D__law_model D__law_far D__law_onward D__law_below M_onward M_below M_first K_onward K_below D__law_refused F27, k__law_right, F27.kp, (FunD.bindsN (ps := ["_law_purse_here"]) F27 fun _ _ _ _ _ _ us hl => match us, hl with | [_], _ => rfl)⟩
  exact ok_law D__law_seed D__law_purse D__law_right m_len m_all m_range m_max m_min F28
end
end K07
open PySem PySem.W PySem.Calls PyProof.Rows
theorem PySem.Challenge.cw_sealedweights_k07_first_onward_and_below_holds : PySem.Challenge.rw_sealedweights_k07_first_onward_and_below.Holds := by
  w_on; o_law
  refine HandSHeadRun.head_any (r := K07.R) (q := view K07.R.prog [78]) (H := K07.hk) (ob := K07.ob) (M := 20000) (loose := K07.names) (d := HandSHeadRun.topDef K07.R.prog 78) (kwd := []) K07.ob_eq
    (by kernel_rfl) (fun s => by kernel_rfl) K07.run (by kernel_rfl) (by kernel_rfl) (by kernel_rfl) (by rfl) (by first | assumption | decide +kernel) (by decide +kernel) ⟨rfl, rfl, rfl, rfl, rfl, by decide +kernel⟩ ?hw ?hc
  case hw => w_witness2
  case hc =>
    refine SwX.walk_ofT (l := PySem.Challenge.rw_sealedweights_k07_first_onward_and_below) (n := 63) (k := 14) (x := "_law_script") (CX := L2.CX0) rfl (by decide) (by kernel_rfl) ⟨rfl, by decide, by decide⟩ ?F (fun _ _ _ _ z => z)
    intro w mg fa h Y G hmg0
    obtain ⟨K, KX, c⟩ := Y
    have hmg : mg ("law" : PySem.Str) = some (.ref fa) := by
      have e : (HandSHeadRun.topDef K07.R.prog 78).name = ("law" : PySem.Str) := by kernel_rfl
      rw [← e]
      exact hmg0
    exact K07.facts (P := (PySem.Challenge.rw_sealedweights_k07_first_onward_and_below).prog) (w := w) KX G hmg c
