import PyProof.Rows.All
import Wide.All
import OpenK.AllK
import Wide.FinOn
import HandS.ForMost
import HandS.ExcInit
import HandS.ExcIs
import HandS.MakeKw
import KE.KExcIs
import HandS.IsInst
import HandS.ExcOwn
import HandS.ExcValue
import PyProof.EqAt
import PyProof.EqKinds
import PyProof.ReprRoads
import HandS.Deep
import HandS.Defaults
import HandS.Evl
import HandS.Exc
import HandS.Head0
import HandS.Head1
import HandS.Head2
import HandS.HeadHook1
import HandS.HeadHook2
import HandS.WideBits
import PyProof.ReprLen
import PyProof.FitsInt
import PyProof.InstNe
import OpenK.KMeth
import OpenK.KOps
import KE.KCallOwn
import HandS.OwnEq
import KE.GoesEnum
import HandS.More
import HandS.ClsMeth
import HandS.CallLocal
import HandS.FStr
import PyProof.P3In
import HandS.TupAny
import HandS.RaiseMore
import HandS.Codes
import HandS.JoinGen
import HandS.Walk
import HandS.Star
import PyProof.Conv_bool
import KE.KRevSl
import HandS.Style
import KE.KTryMore
import HandS.HotCalls
import PyProof.FactsAll.dict
import HandS.Lambda
import HandS.EndTab
import HandS.HeadHook3
import HandS.HeadHook4
import HandS.HeadNt
import HandS.Set
import HandS.SetFor
import HandS.Strs
import HandS.Property
import HandS.Comp
import HandS.DictComp
import HandS.Dict
import HandS.Iter
import HandS.List
import HandS.TupMul
import HandS.Zip0
import HandS.Zip
import HandS.Conv
import KE.KDictZip
import KE.KItemsList
import HandS.ListItems
import HandS.TupSets
import PyProof.SetRoads
import PyProof.WalksMore
import HandS.MakeKwOnly
import KE.KStateDown
import HandS.HeadEnd
import Wide.Once
import PySem.Challenge.RW_sealedweights_k62_bent_things
import HandS.NoneIn
import HandS.Small
import HandS.Words
set_option Elab.async false
set_option linter.all false
set_option maxRecDepth 100000
set_option maxHeartbeats 4000000
namespace SwX
section
open PySem PySem.Spec PyProof.Rows L2
def SysIn (K : PySem.W.Frag) : Prop := ∃ o, K.lookup sysModules = some o
end
end SwX
namespace SwX
section
open PySem PySem.Spec PyProof.Rows L2
def codeAt (K : PySem.W.Frag) (f : Addr) : Addr := match K.lookup f with
  | some ⟨_, _, .func fd, _⟩ => (match fd.code with
    | .ref c => c
    | _ => 0)
  | _ => 0
end
end SwX
namespace SwX
section
open PySem PySem.Spec PyProof.Rows L2
abbrev tab0 : Obj := { cls := .none, data := .fields #[] }
end
end SwX
namespace SwX
section
open PySem PySem.Spec PyProof.Rows L2
def ctZ (K : PySem.W.Frag) (f : Addr) : Addr × Addr := (codeAt K f, He.tabOf K (codeAt K f))
end
end SwX
namespace SwX
section
open PySem PySem.Spec PyProof.Rows L2
abbrev TfZ : Type := List (PySem.W.Frag → Addr)
end
end SwX
namespace SwX
section
open PySem PySem.Spec PyProof.Rows L2
structure SaysZ (fa : List He.Fa) (fn : List He5.DefA) (tf : TfZ) (ex : PySem.W.Frag → Bool) (h : Heap) (K : PySem.W.Frag) : Prop where
  sys : SysIn K
  more : ex K = true
  sd : He5.SaysA fa fn K
  hd : ∀ p ∈ tf, PySem.W.codeHdIn K (ctZ K (p K)).1 (ctZ K (p K)).2 = true
  out : ∀ p ∈ tf, K.lookup (ctZ K (p K)).2 = none
  empty : ∀ p ∈ tf, h.get? (ctZ K (p K)).2 = some tab0
end
end SwX
namespace SwX
section
open PySem PySem.Spec PyProof.Rows L2
def tabsZ (g : Addr → Option Obj) (tf : TfZ) (K : PySem.W.Frag) : Bool := tf.all fun p => PySem.W.codeHdIn K (ctZ K (p K)).1 (ctZ K (p K)).2 && (match g (ctZ K (p K)).2 with
  | some o => He.emptyTab o
  | none => false)
end
end SwX
namespace SwX
section
open PySem PySem.Spec PyProof.Rows L2
abbrev AlZ : Type := Bool × He.AlD
end
end SwX
namespace SwX
section
open PySem PySem.Spec PyProof.Rows L2
def obsZK (fa : List He.Fa) (fn : List He5.DefA) (tf : TfZ) (ex : PySem.W.Frag → Bool) (g : Addr → Option Obj) (K : PySem.W.Frag) : AlZ := ((K.lookup sysModules).isSome && (ex K && tabsZ g tf K), He5.obsA fa fn K)
end
end SwX
namespace SwX
section
open PySem PySem.Spec PyProof.Rows L2 Evl
def od : Option Int → PyData
  | none => .none
  | some i => .int i
end
end SwX
namespace SwX
section
open PySem PySem.Spec PyProof.Rows L2 Evl
def sd : Option (Option Int) → PyData
  | none => .str "none"
  | some o => od o
end
end SwX
namespace SwX
section
open PySem PySem.Spec PyProof.Rows L2
def addB : List Addr → Nat → List Addr → List Addr × Nat
  | [], seen, acc => (acc, seen)
  | a :: as, seen, acc => match Nat.testBit seen a with
    | true => addB as seen acc
    | false => addB as (Nat.lor seen (Nat.shiftLeft 1 a)) (a :: acc)
end
end SwX
namespace SwX
section
open PySem PySem.Spec PyProof.Rows L2
def bfs (g : Addr → Option Obj) : Nat → List Addr → List Addr → Nat → List Addr
  | 0, _, acc, _ => acc
  | n + 1, fr, acc, seen => match addB (fr.flatMap fun a => match g a with
    | some o => He.refsD o
    | none => []) seen [] with
    | (nw, seen') => bfs g n nw (acc ++ nw) seen'
end
end SwX
namespace SwX
section
open PySem PySem.Spec PyProof.Rows L2
def asN (g : Addr → Option Obj) (n : Nat) (xs : List PySem.Str) : List Addr := match addB (xs.map fun x => He.ga (He.frG g [mainGlobals]) x) (Nat.lor (Nat.shiftLeft 1 mainGlobals) (Nat.lor (Nat.shiftLeft 1 sysModules) (Nat.shiftLeft 1 cStatics))) [] with
  | (r, seen) => bfs g n r (mainGlobals :: sysModules :: cStatics :: r) seen
end
end SwX
namespace SwX
section
open PySem PySem.Spec PyProof.Rows L2
theorem saysN_of {fa : List He.Fa} {fn : List He5.DefA} {tf : TfZ} {ex : PySem.W.Frag → Bool} {h : Heap} {as : List Addr} (e : obsZK fa fn tf ex h.get? (He.frT h.get? as) = (true, He5.valA fn)) : SaysZ fa fn tf ex h (He.frT h.get? as) := by
  have e1 : He5.obsA fa fn (He.frT h.get? as) = He5.valA fn := congrArg (fun z : AlZ => z.2) e
  have e2 : (((He.frT h.get? as).lookup sysModules).isSome && (ex (He.frT h.get? as) && tabsZ h.get? tf (He.frT h.get? as))) = true := congrArg (fun z : AlZ => z.1) e
  obtain ⟨h0, h12⟩ := Bool.and_eq_true_iff.mp e2
  obtain ⟨h1, h2⟩ := Bool.and_eq_true_iff.mp h12
  generalize hK : He.frT h.get? as = K at e1 h0 h1 h2 ⊢
  have key : ∀ p ∈ tf, PySem.W.codeHdIn K (ctZ K (p K)).1 (ctZ K (p K)).2 = true ∧ ∃ o, h.get? (ctZ K (p K)).2 = some o ∧ He.emptyTab o = true := fun p hp => by
    obtain ⟨h3, h4⟩ := Bool.and_eq_true_iff.mp (List.all_eq_true.mp h2 p hp)
    refine ⟨h3, ?_⟩
    cases q : h.get? (ctZ K (p K)).2 with
    | none =>
      rw [q] at h4
      cases h4
    | some o =>
      rw [q] at h4
      exact ⟨o, rfl, h4⟩
  exact ⟨Option.isSome_iff_exists.mp h0, h1, e1, fun p hp => (key p hp).1, fun p hp => by
    obtain ⟨_, o, q, z⟩ := key p hp
    rw [← hK]
    rw [← hK] at q
    exact He.frT_none q z, fun p hp => by
    obtain ⟨_, o, q, z⟩ := key p hp
    rw [q, He.emptyTab_eq z]⟩
end
end SwX
namespace SwX
section
open PySem PySem.Spec PyProof.Rows L2
abbrev AlNT : Type := AlZ × List (Option (List (Option (Str × Int))))
end
end SwX
namespace SwX
section
open PySem PySem.Spec PyProof.Rows L2
def obsNT (n : Nat) (xs : List PySem.Str) (fa : List He.Fa) (fn : List He5.DefA) (tf : TfZ) (ex : PySem.W.Frag → Bool) (ts : List He.Tab) (g : Addr → Option Obj) : AlNT := (obsZK fa fn tf ex g (He.frT g (asN g n xs)), ts.map fun t : He.Tab => He.dicW (He.frT g (asN g n xs)) (t.1 (He.frT g (asN g n xs))))
end
end SwX
namespace SwX
section
open PySem PySem.Spec PyProof.Rows L2
def SaysD2 (ts : List He.Tab) (w : World) (K : PySem.W.Frag) : Prop := (ts.map fun t : He.Tab => He.dicW K (t.1 K)) = ts.map fun t : He.Tab => some (He.keysIn w.params t.2)
end
end SwX
namespace SwX
section
open PySem PySem.Spec PyProof.Rows L2
def hookNT (n : Nat) (xs : List PySem.Str) (fa : List He.Fa) (fn : List He5.DefA) (tf : TfZ) (ex : PySem.W.Frag → Bool) (ts : List He.Tab) : PySem.W.Hook where
  α := AlNT
  obs := fun s => obsNT n xs fa fn tf ex ts s.heap.get?
  val := fun w => ((true, He5.valA fn), ts.map fun t : He.Tab => some (He.keysIn w.params t.2))
  says := fun w h => ∃ K : PySem.W.Frag, K.In h ∧ SaysZ fa fn tf ex h K ∧ SaysD2 ts w K
  of := fun _ _ e => ⟨_, He.frT_in, saysN_of (congrArg (fun z : AlNT => z.1) e), congrArg (fun z : AlNT => z.2) e⟩
  keeps := fun _ _ _ ⟨K, hK, c, d⟩ k => ⟨K, PySem.W.Frag.In.keeps hK k, ⟨c.sys, c.more, c.sd, c.hd, c.out, fun p hp => k _ _ (c.empty p hp)⟩, d⟩
end
end SwX
namespace SwX
section
open PySem PySem.Spec PyProof.Rows L2
theorem obsNT_eq {n : Nat} {xs : List PySem.Str} {fa : List He.Fa} {fn : List He5.DefA} {tf : TfZ} {ex : PySem.W.Frag → Bool} {ts : List He.Tab} {g : Addr → Option Obj} {s : Shared} (h : ∀ a, g a = s.heap.get? a) : obsNT n xs fa fn tf ex ts g = (hookNT n xs fa fn tf ex ts).obs s := by
  have e : g = s.heap.get? := funext h
  rw [e] <;> rfl
end
end SwX
namespace SwX
section
open PySem PySem.Spec PyProof.Rows L2 Evl
def nw (H H' : Hp) : Hp := fun b => if H b = none then H' b else none
end
end SwX
namespace K62
section
open PySem PySem.Spec PyProof.Rows L2 Evl SwX
abbrev prog : Program := PySem.Challenge.pw_sealedweights_k62_bent_things
end
end K62
namespace K62
section
open PySem PySem.Spec PyProof.Rows L2 Evl SwX
def top (i : Nat) : Stmt := prog.main.body.getD i (.Pass ⟨0, 0, 0, 0⟩)
end
end K62
set_option maxHeartbeats 0
namespace K62
open PySem PySem.Spec PyProof.Rows L2 SwX
abbrev R : PySem.W.OpenRow := PySem.W.OpenLaw.row PySem.Challenge.rw_sealedweights_k62_bent_things
def dL (x : Str) (i : Nat) : He5.DefA := ⟨fun K => He.ga K x, x, x, defArgs (top i), defBody (top i), defScope (top i), [], []⟩
def dM (c m q : Str) (i j : Nat) (ds : List He.Dv) : He5.DefA := ⟨fun K => He.ma K (He.ga K c) m, m, q, defArgs (inClass (top i) j), defBody (inClass (top i) j), defScope (inClass (top i) j), ds, []⟩
def dR (c m q : Str) (i j : Nat) : He5.DefA := ⟨fun K => He5.wf K (He.ga K c) "classmethod" m, m, q, defArgs (inClass (top i) j), defBody (inClass (top i) j), defScope (inClass (top i) j), [], []⟩
def fn : List He5.DefA := [dL "is_integer" 10, dL "is_between" 11, dL "is_name" 12, dL "number_of" 13, dL "told_recipe" 25, dL "told_catalogue" 26, dL "counts_of" 27, dL "is_thing_shown" 39, dL "accepts" 42, dL "_law_cell" 44, dL "_law_source" 45, dL "_law_draw" 46, dL "_law_name" 47, dL "_law_mixed" 48, dL "_law_recipes" 49, dL "_law_catalogue" 50, dL "_law_text" 51, dL "_law_made_of" 52, dL "_law_thing" 53, dL "_law_weighed" 54, dL "_law_bent" 55, dL "_law_right" 56, dL "law" 57]
def fa : List He.Fa := [.glo "is_integer", .glo "is_between", .glo "is_name", .glo "number_of", .glo "told_recipe", .glo "told_catalogue", .glo "counts_of", .glo "is_thing_shown", .glo "accepts", .glo "_law_cell", .glo "_law_source", .glo "_law_draw", .glo "_law_name", .glo "_law_mixed", .glo "_law_recipes", .glo "_law_catalogue", .glo "_law_text", .glo "_law_made_of", .glo "_law_thing", .glo "_law_weighed", .glo "_law_bent", .glo "_law_right", .glo "law", .free "len", .free "str", .free "repr", .free "isinstance", .free "range", .free "all", .free "max", .free "min", .free "int", .free "bool", .free "list", .free "tuple", .free "divmod", .free "set", .free "zip", .int "MOST_KINDS" 4, .int "MOST_RECIPES" 10, .int "MOST_PARTS" 3, .int "MOST_OWN" 9, .int "MOST_TOGETHER" 1000, .int "MOST_BUILT" 100, .int "LONGEST_NAME" 8, .str "DIGITS" "0123456789", .str "LETTERS" "abcdefghijklmnopqrstuvwxyz", .glo "SIZES"]
def tf : TfZ := []
def chk (K : PySem.W.Frag) : Bool := He.valsB K (He.ga K "SIZES") [("weighs", .int 4), ("holds", .int 6)]
def gl1 : List PySem.Str := ["is_integer", "is_between", "is_name", "number_of", "told_recipe", "told_catalogue", "counts_of", "is_thing_shown", "accepts", "_law_cell", "_law_source", "_law_draw", "_law_name", "_law_mixed", "_law_recipes", "_law_catalogue", "_law_text", "_law_made_of", "_law_thing", "_law_weighed"]
def gl2 : List PySem.Str := ["_law_bent", "_law_right", "law", "SIZES"]
def gl : List PySem.Str := gl1 ++ (gl2)
def ts : List He.Tab := [(fun K => He.ga K "SIZES", ["weighs", "within", "at most", "holds"])]
abbrev hk : PySem.W.Hook := hookNT 4 gl fa fn tf chk ts
def ob (s : PySem.W.SharedT) : AlNT := obsNT 4 gl fa fn tf chk ts (HandSHeadRun.getT s)
theorem ob_eq (s : PySem.W.SharedT) : ob s = hk.obs s.abs := obsNT_eq (HandSHeadRun.getT_eq s)
def names1 : List PySem.Str := ["MOST_KINDS", "MOST_RECIPES", "MOST_PARTS", "MOST_OWN", "MOST_TOGETHER", "MOST_BUILT", "__name__", "DIGITS", "LETTERS", "LONGEST_NAME", "is_integer", "is_between", "is_name", "number_of", "common_divisor", "common_multiple", "number_at", "common_of", "rests_of", "rises_enough"]
def names2 : List PySem.Str := ["greatest_sums", "is_above", "stays_below", "told_recipe", "told_catalogue", "counts_of", "told_numbers", "last_change", "told_cycle", "told_set", "bits_below", "repeated", "sums_of", "lies_within", "is_form", "SIZES", "is_thing_shown", "are_sets_shown", "are_forms_shown", "accepts"]
def names3 : List PySem.Str := ["_law_cell", "_law_source", "_law_draw", "_law_name", "_law_mixed", "_law_recipes", "_law_catalogue", "_law_text", "_law_made_of", "_law_thing", "_law_weighed", "_law_bent", "_law_right"]
def names : List PySem.Str := names1 ++ (names2 ++ (names3))
theorem run (w : World) : HandSHeadRun.RunEq R (PySem.W.view R.prog [57]) hk ob 20000 names w := by
  refine PySem.W.byRow2 "special-get-raises" (P := fun w => HandSHeadRun.RunEq R (PySem.W.view R.prog [57]) hk ob 20000 names w) (fun w => ?_) (fun w => ?_) w
  · intro os
    kernel_rfl
  · intro os
    kernel_rfl
end K62

set_option Elab.async false
set_option linter.all false
set_option maxRecDepth 100000
set_option maxHeartbeats 4000000
/-! own exceptions made by a call with keywords, over any of the built-in bases -/
namespace SwX
open PySem PySem.W
/-- C is a class of the text whose bases end in a built-in exception's -/
structure Born (h : Heap) (C : Addr) (newId : String) (bm : List Value) : Prop where
  ex : ∃ nm q N bs hd sn sub ab col dd k0 k1 k2 k3 k5, h.get? C = some (excClassObj nm q C N bs bm hd sn sub ab col dd k0 k1 k2 k3 k5 newId)
local macro_rules | `(tactic| walk_at "sw ask") => `(tactic| repeat (first
  | refine wpAny_loadPart_at ‹_› ?_
  | (refine wpAny_isSubtype_exc ‹_› ?_; first | rw [show List.contains (_ :: _) _ = true from ‹_›] | rw [show List.contains (_ :: _) _ = false from ‹_›])
  | refine wpAny_staticBase_exc ‹_› ?_
  | refine wpAny_madeBy_exc ‹_› ?_
  | simp only [bne_self_eq_false, Bool.false_eq_true, if_false]
  | wp_step))
local macro_rules | `(tactic| walk_at "sw ask1") => `(tactic| first
  | refine wpAny_loadPart_at ‹_› ?_
  | (refine wpAny_isSubtype_exc ‹_› ?_; first | rw [show List.contains (_ :: _) _ = true from ‹_›] | rw [show List.contains (_ :: _) _ = false from ‹_›])
  | wp_step)
section
variable {prog : Program} {w : World} {A : Around} {R : Result → Shared → Prop} {E : Value → Shared → Prop} {h : Heap} {g : Array GenState} {d : Drawn} {t : Nat} {os : OsState}
variable {C fI : Addr} {bm bmB : List Value} {B newId initId : String} {pos : List Value} {kw : List (Str × Value)}
/-- what of the bases is asked -/
structure Line (bm bmB : List Value) (B : String) : Prop where
  own : ∀ C : Addr, (Value.ref C :: bm).contains (.type B) = true
  noA : ∀ C : Addr, (Value.ref C :: bm).contains (.type "AttributeError") = false
  noN : ∀ C : Addr, (Value.ref C :: bm).contains (.type "NameError") = false
theorem line_of (F : ExcBaseFacts B newId initId bmB) (same : ∀ T : String, bm.contains (.type T) = bmB.contains (.type T)) : Line bm bmB B :=
  ⟨fun C => by rw [List.contains_cons, same, F.hasB]; exact Bool.or_true _, fun C => by rw [List.contains_cons, same, F.noAttr]; rfl, fun C => by rw [List.contains_cons, same, F.noName]; rfl⟩
/-- the two objects that a call lays: the arguments' tuple, the exception -/
abbrev laid2 (h : Heap) (C : Addr) (pos : List Value) : Heap := (h.push (kdv_tup pos)).push (PySem.HandSPX.excO C h.objs.size)
theorem look_new (F : ExcBaseFacts B newId initId bmB) (l : Line bm bmB B) (c : Born h C newId bm) {Q : Unit → Shared → Prop} (q : Q () ⟨h, g, d, t, os⟩) :
    wpAny (model prog w) A (checkBuiltinCall newId ⟨.ref C :: pos, kw⟩) Q E ⟨h, g, d, t, os⟩ := by
  obtain ⟨nm, qn, N, bs, hd, sn, sub, ab, col, dd, k0, k1, k2, k3, k5, hC⟩ := c.ex
  have own := l.own C
  have hs := F.noStar
  simp only [checkBuiltinCall, F.newKind, F.newSplit, F.newRow]
  walk_at "sw ask"
  exact q

/-- BaseException.__new__: keywords are not asked -/
theorem run_new (F : ExcBaseFacts B newId initId bmB) (l : Line bm bmB B) (c : Born h C newId bm) (hz : pos.length ≤ sizeLine) (q : R (.ok (.ret (.ref (h.objs.size + 1)))) ⟨laid2 h C pos, g, d, t, os⟩) :
    codeAny (model prog w) A (.builtin newId ⟨.ref C :: pos, kw⟩) R ⟨h, g, d, t, os⟩ := by
  obtain ⟨nm, qn, N, bs, hd, sn, sub, ab, col, dd, k0, k1, k2, k3, k5, hC⟩ := c.ex
  have e1 := l.own C
  have e2 := l.noA C
  have e3 := l.noN C
  have e4 := F.ends
  refine codeAny_builtinAt F.entry ?_
  unfold Builtin.«BaseException.__new__»
  refine PySem.wpAt_bind ?_
  show PySem.wpAt _ _ _ (stack >>= _) _ _ _
  refine PySem.wpAt_bind (wpAt_stack fun p below => PySem.wpAt_of_wpAny ?_)
  wp_walk
  refine PySem.wpAt_of_wpAny ?_
  rw [F.owner]
  repeat (first | with_reducible refine wpAny_madeHere_exc F.canon hC ?_ | walk_at "sw ask1")
  show R _ _
  rw [Heap.size_push]
  exact q

/-- a call of the class: the arguments' tuple and the exception are laid, __init__ runs -/
theorem run_class (F : ExcBaseFacts B newId initId bmB) (l : Line bm bmB B) (c : Born h C newId bm) (hz : pos.length ≤ sizeLine) (hi : Looks (model prog w) h (typeLookup (.ref C) "__init__") (some (.ref fI)))
    (hb : ∀ self, Looks (model prog w) h (bindSpecial (.ref fI) self) (.ref fI, [self]))
    (q : codeAny (model prog w) (A.under (.builtin "type.__call__" ⟨.ref C :: pos, kw⟩)) (.call (.ref fI) ⟨.ref (h.objs.size + 1) :: pos, kw⟩) (InitBack (h.objs.size + 1) R) ⟨laid2 h C pos, g, d, t, os⟩) :
    codeAny (model prog w) A (.call (.ref C) ⟨pos, kw⟩) R ⟨h, g, d, t, os⟩ := by
  obtain ⟨nm, qn, N, bs, hd, sn, sub, ab, col, dd, k0, k1, k2, k3, k5, hC⟩ := id c.ex
  have up : ∀ b o, h.get? b = some o → (laid2 h C pos).get? b = some o := fun b o z => Heap.get?_push_of_some _ (Heap.get?_push_of_some _ z)
  have hC' := up _ _ hC
  have it : (laid2 h C pos).get? (h.objs.size + 1) = some (PySem.HandSPX.excO C h.objs.size) := by heap_get
  have self : (Value.ref C :: bm).contains (.ref C) = true := by simp
  have isT : Looks (model prog w) h (isInstance (.ref C) (.type "type")) true := fun A' Q' E' s' k z => by
    have hC1 := k _ _ hC
    have sub1 := tc_sub
    obtain ⟨h1, g1, d1, t1, os1⟩ := s'
    unfold isInstance
    repeat (first | assumption | with_reducible refine wpAny_loadPart_at hC1 ?_ | wp_step)
  have i1 := hi.keeps up
  have b1 := (hb (.ref (h.objs.size + 1))).keeps up
  have c1 := tc_lookup
  have c2 := tc_bind (.ref C)
  have ty : (⟨h, g, d, t, os⟩ : Shared).TypeIs (.ref C) "type" := ⟨_, hC, rfl⟩
  refine codeAny_of_tree ?_
  show wpAny _ _ (callAny (.ref C) _) _ _ _
  repeat (any_goals (first | assumption | with_reducible refine wpAny_loadPart_at hC ?_ | wp_step))
  refine And.intro rfl ?_
  refine codeAny_call_builtin_at (Code.quiet_builtin _ (by decide +kernel)) entry_typeCall (check_slot tc_kind tc_split isT (tc_args _ _ _) ?_)
  unfold Builtin.«type.__call__»
  repeat (first | with_reducible refine wpAny_loadPart_at hC ?_ | with_reducible refine wpAny_madeBy_exc hC ?_ | wp_step)
  refine codeAny_call_builtin_code (Code.quiet_builtin _ F.quiet) (look_new F l c (run_new F l c hz ?_))
  show wpAny _ _ _ _ _ _
  unfold isInstance
  repeat (first | with_reducible refine wpAny_loadPart_at it ?_ | wp_step)
  show wpAny _ _ (isSubtype (.ref C) (.ref C)) _ _ _
  refine wpAny_isSubtype_exc hC' ?_
  rw [self]
  repeat (first | with_reducible refine wpAny_loadPart_at it ?_ | wp_step)
  show wpAny _ _ (typeLookup (.ref C) "__init__") _ _ _
  refine i1.at (wpAny_holding (wpAny_bind (b1.at ?_)))
  refine wpAny_bind (wpAny_call (codeAny_mono q fun r s' z => ?_))
  cases r with
  | error e => exact z
  | ok f =>
    cases f with
    | ret v =>
      obtain ⟨rfl, z⟩ := z
      first | exact wpAny_pure (wpAny_pure z) | (wp_walk; exact z)
    | next => exact z
    | brk => exact z
    | cont => exact z
end
end SwX
set_option Elab.async false
set_option linter.all false
set_option maxRecDepth 100000
set_option maxHeartbeats 4000000
/-! own exceptions as values: made, their fields stored and read, isinstance; over any of the built-in bases -/
namespace SwX
open PySem PySem.Spec PyProof.Rows L2
/-- a built-in base: its facts at calls and at stores -/
structure Base (B newId initId : String) (bmB : List Value) : Prop where
  call : ExcBaseFacts B newId initId bmB
  sto : StoreFacts B bmB "object.__setattr__" "object"
/-- what the written part says of an own exception class over one of them -/
structure Oex (K : PySem.W.Frag) (C : Addr) : Prop where
  base : ∃ B newId initId bmB, Base B newId initId bmB ∧ PySem.W.excOver K C bmB = true ∧
    ∃ nm q N bs bm hd sn sub ab col dd k0 k1 k2 k3 k5, K.lookup C = some (excClassObj nm q C N bs bm hd sn sub ab col dd k0 k1 k2 k3 k5 newId) ∧ PySem.W.excTail bmB bm = true
  set : PySem.W.findIn K (.ref C) "__setattr__" = some (some (.builtin "object.__setattr__"))
  get : PySem.W.findIn K (.ref C) "__getattribute__" = some (some (.builtin "BaseException.__getattribute__"))
  miss : PySem.W.findIn K (.ref C) "__getattr__" = some none
  exc : PySem.W.subIn K (.ref C) (.type "BaseException") = some true
  dct : PySem.W.hasDictIn K C = true
  cl : PySem.W.findIn K (.ref C) "__class__" = some (some (.builtin "object.__class__"))
  clg : PySem.W.specialIn K (.builtin "object.__class__") "__get__" = some (some (.builtin "getset_descriptor.__get__"))
  clt : PySem.W.takesIn K (.builtin "object.__class__") = some true
  top : PySem.W.mroIn K C (.type "object") = some true
  kp : PySem.W.keepIn K (.ref C) = true
/-- a field's name that the class has not -/
structure Free (K : PySem.W.Frag) (C : Addr) (f : Str) : Prop where
  no : PySem.W.findIn K (.ref C) f = some none
  tk : PySem.W.takerIn K C f = some none
section
variable {prog : Program} {w : World} {A : Around} {R : Result → Shared → Prop} {hp : Heap} {g : Array GenState} {d : Drawn} {t : Nat} {os : OsState}
open PySem.W Builtin Builtin.ObjectAttr in
/-- the first field of an exception: its dict is laid -/
theorem put_first {K : Frag} {f : Str} {tk : Tok} {v : Value} {x C t1 : Addr} (T : Oex K C) (no : Free K C f) (X : K.In hp) (hx : hp.get? x = some (PySem.HandSPX.excO C t1))
    (q : ∀ h' tk' dx, (∀ b o, b ≠ x → hp.get? b = some o → h'.get? b = some o) → hp.objs.size ≤ dx → dx ≠ x → h'.get? x = some { PySem.HandSPX.excO C t1 with dict := some dx } → h'.Ns1 dx (fun y => if y = f then some v else none) → R (.ok (.ret .none)) ⟨h', g, d, tk', os⟩) :
    codeAny (model prog w) A (.call (.builtin "object.__setattr__") ⟨[.ref x, .str f tk, v], []⟩) R ⟨hp, g, d, t, os⟩ := by
  obtain ⟨B, newId, initId, bmB, base, over, _⟩ := T.base
  obtain ⟨cd, hcd, hdc⟩ := any_some T.dct
  have cls : Looks (model prog w) hp (classData C) cd := looks_clsIn X hcd
  have far : x ≠ hp.objs.size := Nat.ne_of_lt (Heap.lt_size hx)
  refine osa_openX (s := ⟨hp, g, d, t, os⟩) (ox := PySem.HandSPX.excO C t1) (od := none) (r := none) base.sto X ⟨hx, rfl, rfl, trivial⟩ over no.tk fun b => ?_
  obtain ⟨nm, bs, mro, ns, qn, hasD, sn, sb, ab, col, del⟩ := cd
  dsimp only at hdc
  subst hdc
  show wpAny _ _ (storeInOwnDict _ _ _ _ _ _) _ _ _
  unfold storeInOwnDict ownDictForStores
  repeat (first | with_reducible refine PySem.HandSPX.store_in_new ?_ ?_ | with_reducible refine wpAny_loadPart_at hx ?_ | with_reducible refine cls.at ?_ | wp_step)
  · refine ⟨_, #[], _, (Heap.get?_update_ne _ _ _ _ (Ne.symm far)).trans (Heap.get?_push_at rfl rfl), rfl, ?_, fun _ => rfl⟩
    intro e he
    simp at he
  · intro h' tk' hn hs
    have old : ∀ {b : Addr} {o : Obj}, b ≠ x → hp.get? b = some o → h'.get? b = some o := fun {b o} ne ho => by
      rw [hs.2 b (Nat.ne_of_lt (Heap.lt_size ho)), Heap.get?_update_ne _ _ _ _ ne]
      exact Heap.get?_push_of_some _ ho
    refine q h' tk' _ (fun b o => old) (Nat.le_refl _) (Ne.symm far) ?_ hn
    rw [hs.2 x far, Heap.get?_update_self _ (Heap.get?_push_of_some _ hx) rfl]
open PySem.W Builtin Builtin.ObjectAttr in
/-- a further field -/
theorem put_next {K : Frag} {f : Str} {tk : Tok} {v : Value} {x C t1 dx : Addr} {m0 : Str → Option Value} {nl : List Str} (T : Oex K C) (no : Free K C f) (X : K.In hp) (hx : hp.get? x = some { PySem.HandSPX.excO C t1 with dict := some dx })
    (hns : hp.Ns1 dx m0) (hw : Within m0 nl) (hz : nl.length ≤ 1000) (q : ∀ h' tk', (∀ b o, b ≠ dx → hp.get? b = some o → h'.get? b = some o) → h'.Ns1 dx (fun y => if y = f then some v else m0 y) → R (.ok (.ret .none)) ⟨h', g, d, tk', os⟩) :
    codeAny (model prog w) A (.call (.builtin "object.__setattr__") ⟨[.ref x, .str f tk, v], []⟩) R ⟨hp, g, d, t, os⟩ := by
  obtain ⟨B, newId, initId, bmB, base, over, _⟩ := T.base
  obtain ⟨cd, hcd, hdc⟩ := any_some T.dct
  have cls : Looks (model prog w) hp (classData C) cd := looks_clsIn X hcd
  obtain ⟨oD, _, _, hoD, _, _⟩ := hns.count hw
  refine osa_openX (s := ⟨hp, g, d, t, os⟩) (ox := { PySem.HandSPX.excO C t1 with dict := some dx }) (od := some oD) (r := none) base.sto X ⟨hx, rfl, rfl, hoD⟩ over no.tk fun b => ?_
  obtain ⟨nm, bs, mro, ns, qn, hasD, sn, sb, ab, col, del⟩ := cd
  dsimp only at hdc
  subst hdc
  show wpAny _ _ (storeInOwnDict _ _ _ _ _ _) _ _ _
  unfold storeInOwnDict ownDictForStores
  repeat (first | with_reducible refine PySem.OEX.store_in_old hns hw hz ?_ | with_reducible refine wpAny_loadPart_at hx ?_ | with_reducible refine cls.at ?_ | wp_step)
  exact fun h' tk' hn hs => q h' tk' (fun b o ne ho => (hs.2 b ne).trans ho) hn
end
/-- the exception at a: of the class at C, its fields fs (its dict is not made while there is none) -/
def ExAt (H : Hp) (a C : Addr) (fs : List (Str × V)) : Prop := (H a = some (exo a C none) ∧ fs = []) ∨ ∃ d, H a = some (exo a C (some d)) ∧ H d = some (exd d fs)
section
variable {X : Cx} {pins : List (Addr × Obj)} {σ : L2.St} {H : Hp} {s : Shared} {a C d : Addr} {f : Str} {y v : V} {u : Value} {fs : List (Str × V)}
theorem ex_at_none (I : Inv X pins σ H s) (e : H a = some (exo a C none)) : ∃ t1, s.heap.get? a = some (PySem.HandSPX.excO C t1) := exo_at I.hok e
theorem ex_at_some (I : Inv X pins σ H s) (e : H a = some (exo a C (some d))) : ∃ t1, s.heap.get? a = some { PySem.HandSPX.excO C t1 with dict := some d } := exo_at I.hok e
theorem no_own {b c : Addr} {o : HO} (e : H b = some o) (h : H c = some (.own b)) (n : o ≠ .own b) : c ≠ b := fun z => n (Option.some.inj (e.symm.trans (z ▸ h)))
/-- what is tracked as something else stands elsewhere -/
theorem apart {b c : Addr} {o o' : HO} (e : H b = some o) (h : H c = some o') (n : o ≠ o') : c ≠ b := fun z => n (Option.some.inj (e.symm.trans (z ▸ h)))
theorem gone_apart {b c : Addr} {o : HO} (e : H b = some o) (h : H c = none) : c ≠ b := fun z => by rw [z, e] at h; cases h
/-- x.f = u, the first field of the exception at x -/
theorem set_first {A : Around} {E : Value → Shared → Prop} {Q : Unit → Shared → Prop} (T : Oex X.K C) (no : Free X.K C f) (I : Inv X pins σ H s) (e : H a = some (exo a C none)) (r : RelV y u)
    (k : ∀ d s', H d = none → d ≠ a → Inv X pins σ (upd (upd H d (exd d [(f, y)])) a (exo a C (some d))) s' → Q () s') : wpAny (model X.prog X.w) A (setAttr (.ref a) f u) Q E s := by
  obtain ⟨t1, ho⟩ := ex_at_none I e
  obtain ⟨hp, g, dr, t, os⟩ := s
  refine PySem.W.set_plain I.kIn (od := none) ⟨ho, rfl, rfl, trivial⟩ T.set (put_first T no I.kIn ho fun h' tk' d old dn dne hx hn => ?_)
  have fresh : H d = none := I.hok.fresh dn
  have far : ∀ {b : Addr} {o : Obj}, hp.get? b = some o → b ≠ d := fun z => Nat.ne_of_lt (Nat.lt_of_lt_of_le (Heap.lt_size z) dn)
  have same : ∀ {b : Addr} {o : HO}, H b = some o → exo a C none ≠ o → upd (upd H d (exd d [(f, y)])) a (exo a C (some d)) b = some o := fun {b o} z n => by
    rw [upd_ne (apart e z n), upd_ne (ne_of_none z fresh)]
    exact z
  have un : Un X.fs [] H (upd (upd H d (exd d [(f, y)])) a (exo a C (some d))) hp h' :=
    ⟨fun b o z n _ _ => old b o (gone_apart e n) z, fun b o z n _ _ => ⟨o.slots, old b o (gone_apart e n) z⟩, fun b o z n _ => by rw [upd_ne (gone_apart e n), upd_ne (far z)]; exact n,
      fun b o z _ => if hb : b = a then ⟨_, hb ▸ hx⟩ else ⟨o, old b o hb z⟩, fun b xs z => same z exo_tup, fun b o w z => same z exo_frz, fun b ps z => ⟨#[], by rw [same z exo_tbl]; simp⟩⟩
  refine k d _ fresh dne (I.un (t' := tk') un fun b o z => ?_)
  by_cases hb : b = a
  · subst hb
    rw [upd_same] at z
    cases z
    exact exo_ok hx
  rw [upd_ne hb] at z
  by_cases hd : b = d
  · subst hd
    rw [upd_same] at z
    cases z
    exact exd_ok hn (relO_put (fs := []) r fun _ => True.intro)
  rw [upd_ne hd] at z
  refine (I.hok b o z).stay (fun c w hc z' => old c w ?_ z') (fun c hc => same hc exo_own) (fun c xs hc => same hc exo_tup)
  rcases hc with hc | hc
  · exact hc ▸ hb
  · exact apart e hc exo_own
/-- a further field -/
theorem set_next {A : Around} {E : Value → Shared → Prop} {Q : Unit → Shared → Prop} (T : Oex X.K C) (no : Free X.K C f) (I : Inv X pins σ H s) (e : H a = some (exo a C (some d))) (ed : H d = some (exd d fs)) (hl : fs.length ≤ 900) (r : RelV y u)
    (k : ∀ s', Inv X pins σ (upd H d (exd d ((f, y) :: fs))) s' → Q () s') : wpAny (model X.prog X.w) A (setAttr (.ref a) f u) Q E s := by
  obtain ⟨t1, ho⟩ := ex_at_some I e
  obtain ⟨mA, hns, rel⟩ := exd_at I.hok ed
  obtain ⟨hp, g, dr, t, os⟩ := s
  obtain ⟨oD, _, _, hoD, _, _⟩ := hns.count (within_of rel)
  refine PySem.W.set_plain I.kIn (od := some oD) ⟨ho, rfl, rfl, hoD⟩ T.set (put_next T no I.kIn ho hns (within_of rel) (by rw [List.length_map]; omega) fun h' tk' old hn => ?_)
  have there : ∃ o, h'.get? d = some o := let ⟨o, _, _, z, _⟩ := hn; ⟨o, z⟩
  exact k _ (I.write (t' := tk') (x := d) (e := d) (by rw [ed]; exact True.intro) (.inl rfl) old there (exd_ok hn (relO_put r rel)))
/-- such an exception as the library's rules see it -/
theorem ExAt.seen (I : Inv X pins σ H s) (h : ExAt H a C fs) : ∃ ox od, PySem.W.InstAt s.heap a ox C od ∧ ∀ f v, fs.lookup f = some v → ∃ o u, od = some o ∧ PySem.W.lookIn f o = some (some u) ∧ RelV v u := by
  rcases h with ⟨e, rfl⟩ | ⟨d, e, ed⟩
  · obtain ⟨t1, ho⟩ := ex_at_none I e
    exact ⟨_, none, ⟨ho, rfl, rfl, trivial⟩, fun f v z => by cases z⟩
  · obtain ⟨t1, ho⟩ := ex_at_some I e
    obtain ⟨mA, hns, rel⟩ := exd_at I.hok ed
    obtain ⟨o, hod, look⟩ := lookIn_ns hns
    refine ⟨_, some o, ⟨ho, rfl, rfl, hod⟩, fun f v z => ?_⟩
    have ro := rel f
    rw [z] at ro
    cases q : mA f with
    | none => rw [q] at ro; exact ro.elim
    | some u => rw [q] at ro; exact ⟨o, u, rfl, (look f).trans (congrArg some q), ro⟩
end
/-- x.f = e, x an exception that is being made -/
def tSetX (K : PySem.W.Frag) (f : Str) (to te : TE) : TS := fun D σ H => te σ H fun y H1 => to σ H1 fun x H2 => ∃ a C : Addr, x = .ref a ∧ Oex K C ∧ Free K C f ∧
  ((H2 a = some (exo a C none) ∧ ∀ d, H2 d = none → d ≠ a → D.nx σ (upd (upd H2 d (exd d [(f, y)])) a (exo a C (some d)))) ∨
    ∃ (d : Addr) (fs : List (Str × V)), H2 a = some (exo a C (some d)) ∧ H2 d = some (exd d fs) ∧ fs.length ≤ 900 ∧ D.nx σ (upd H2 d (exd d ((f, y) :: fs))))
theorem ps_setX {X : Cx} {o e : Expr} {to te : TE} {f : Str} {p' pos : Pos} (ho : PE X o to) (he : PE X e te) (hs : swapsWith e (some (.Attribute o f p')) pos.line X.env = pure false := by rfl) : PS X (.Assign [.Attribute o f p'] e pos) (tSetX X.K f to te) := by
  refine ⟨fun pins s σ H D I h => plainObj_wpAny_Assign_Attribute (thn (he.run pins s σ H _ I h) fun v s1 hv => ?_) hs⟩
  obtain ⟨y, H1, I1, r1, q1⟩ := hv
  refine thn (ho.run pins s1 σ H1 _ I1 q1) fun u s2 hu => ?_
  obtain ⟨x, H2, I2, r2, a, C, rfl, T, no, q⟩ := hu
  obtain rfl : u = Value.ref a := r2
  rcases q with ⟨e2, q⟩ | ⟨d, fs, e2, ed, hl, q⟩
  · exact set_first T no I2 e2 r1 fun d s' n ne J => ⟨σ, _, J, q d n ne⟩
  · exact set_next T no I2 e2 ed hl r1 fun s' J => ⟨σ, _, J, q⟩
/-- isinstance(e, c), e such an exception -/
def rIsX (K : PySem.W.Frag) : List V → Hp → VK → Prop := fun xs H Q => ∃ (a C : Addr) (fs : List (Str × V)) (c : V) (u : Value) (b : Bool), xs = [.ref a, c] ∧ ExAt H a C fs ∧ Oex K C ∧ ClsV c u ∧ PySem.W.kitOne K (.ref C) u = some b ∧ Q (.bl b) H
theorem call_isX {X : Cx} : CallR X (.builtin "isinstance") (rIsX X.K) := fun pins s σ H xs us Q I r h => by
  obtain ⟨a, C, fs, c, u, b, rfl, at_, T, k, ans, q⟩ := h
  obtain ⟨u1, u2, rfl, r1, r2⟩ := vals2 r
  obtain rfl : u1 = Value.ref a := r1
  obtain rfl : u2 = u := k.eq r2
  obtain ⟨ox, od, J, _⟩ := at_.seen I
  obtain ⟨cd, hcd, _⟩ := PySem.W.any_some T.dct
  exact PySem.W.kia_one (PySem.W.kitx_exc (by rw [hcd]; rfl) T.get T.miss T.exc T.cl T.clg T.clt T.top) I.kIn J ans (fun z => nomatch z) fun tk => ⟨.bl b, H, I.tok tk, rfl, q⟩
/-- e.f, e such an exception -/
def tFldX (K : PySem.W.Frag) (f : Str) (te : TE) : TE := fun σ H Q => te σ H fun x H1 => ∃ (a C : Addr) (fs : List (Str × V)) (v : V), x = .ref a ∧ ExAt H1 a C fs ∧ Oex K C ∧ Free K C f ∧ fs.lookup f = some v ∧ Q v H1
theorem pe_fldX {X : Cx} {e : Expr} {te : TE} {f : Str} {pos : Pos} (he : PE X e te) (hb : attributeBase e f X.env (eval e X.env) = eval e X.env := by rfl) : PE X (.Attribute e f pos) (tFldX X.K f te) := by
  refine ⟨fun pins s σ H Q I h => attr_of hb (thn (he.run pins s σ H _ I h) fun u s1 hu => ?_)⟩
  obtain ⟨x, H1, I1, rx, a, C, fs, v, rfl, at_, T, no, hl, q⟩ := hu
  obtain rfl : u = Value.ref a := rx
  obtain ⟨ox, od, J, z⟩ := at_.seen I1
  obtain ⟨o, w, rfl, hw, rw'⟩ := z f v hl
  exact PySem.HandSPX.exc_get I1.kIn J T.get T.miss T.exc (PySem.W.findObj_own T.dct no.no rfl hw) (handed_of rw') ⟨v, H1, I1.tok _, rw', q⟩
/-- C(e, .., k = v, ..) as a value: a new exception, then __init__, which keeps sp -/
def tNewX (C : Addr) (n m : Nat) (sp : Sp) (gV : List V → List V → List V) (E : XK) (t tk : TA) : TE := fun σ H Q => t σ H fun vs H1 => tk σ H1 fun zs H2 => (vs.length = n ∧ zs.length = m ∧ n ≤ 1000) ∧
  ∀ a, H2 a = none → sp (gV (.ref a :: vs) zs) (upd H2 a (exo a C none)) (fun v H3 => v = .non ∧ Q (.ref a) H3) E
/-- the class at C has the def at fI for its __init__ -/
structure Ini (K : PySem.W.Frag) (C fI : Addr) : Prop where
  at_ : PySem.W.findIn K (.ref C) "__init__" = some (some (.ref fI))
  ty : PySem.W.typeIn K (.ref fI) = some (.type "function")
section
variable {X : Cx} {CX : CXT} {k n : Nat} {fI C : Addr} {fd : FuncData} {ps ks : List Str} {sp : Sp} {E : XK} {x : Str} {p pos : Pos} {e : Expr} {es : List Expr} {kws : List Keyword} {t tk : TA} {g : List Value → List Value → List Value} {gV : List V → List V → List V}
theorem new_runs {pins : List (Addr × Obj)} {σ : L2.St} {H : Hp} {s : Shared} {Q : VK} {us ws : List Value} {vs zs : List V} (T : Oex X.K C) (i : Ini X.K C fI) (F : FnOk X.prog X.w X.K X.mg X.base CX k fI fd ps sp) (room : Room (k + 1) X.A) (b : KBn X.K fd ps (n + 1) ks g gV) (out : Passes CX X E)
    (I : Inv X pins σ H s) (r : Vals vs us) (rz : Vals zs ws) (len : vs.length = n ∧ zs.length = ks.length ∧ n ≤ 1000) (h : ∀ a, H a = none → sp (gV (.ref a :: vs) zs) (upd H a (exo a C none)) (fun v H2 => v = .non ∧ Q (.ref a) H2) E) :
    wpAny (model X.prog X.w) X.A (call (.ref C) us (ks.zip ws)) (EP X pins σ Q) X.xe s := by
  obtain ⟨B, newId, initId, bmB, base, _, nm, qn, N, bs, bm, hd, sn, sub, ab, col, dd, k0, k1, k2, k3, k5, hC, tail⟩ := T.base
  obtain ⟨l1, l2, l3⟩ := len
  obtain ⟨hp, gs, dr, tok, os⟩ := s
  have new : H (hp.objs.size + 1) = none := I.hok.fresh (Nat.le_succ _)
  have there : (laid2 hp C us).get? (hp.objs.size + 1) = some (PySem.HandSPX.excO C hp.objs.size) := by heap_get
  have J : Inv X pins σ (upd H (hp.objs.size + 1) (exo (hp.objs.size + 1) C none)) ⟨laid2 hp C us, gs, dr, tok, os⟩ := I.laid (t' := tok) (fun _ _ z => Heap.get?_push_of_some _ (Heap.get?_push_of_some _ z)) (Nat.le_succ _) (exo_ok there)
  have ra : Vals (V.ref (hp.objs.size + 1) :: vs) (Value.ref (hp.objs.size + 1) :: us) := .cons rfl r
  have small : us.length ≤ sizeLine := by have := r.length; rw [sizeLine_eq]; omega
  refine wpAny_call (run_class base.call (line_of base.call fun Y => PySem.W.excTail_contains Y bm tail) ⟨_, _, _, _, _, _, _, _, _, _, _, _, _, _, _, I.kIn _ _ hC⟩ small (PySem.W.looks_findIn I.kIn i.at_) (fun self => PySem.W.bind_fn I.kIn self i.ty) ?_)
  refine codeAny_mono (F.run _ X.stack _ _ ⟨Value.ref (hp.objs.size + 1) :: us, ks.zip ws⟩ (g (Value.ref (hp.objs.size + 1) :: us) ws) _ _ E (room.make C us (ks.zip ws)) (J.env0.make C us (ks.zip ws)) (b.to _ (_ :: us) ws J.kIn ?_ ?_) (b.rel ra rz) (h _ new)) fun r s' z => ?_
  · exact ra.length.symm.trans (congrArg Nat.succ l1)
  · exact rz.length.symm.trans l2
  cases r with
  | error er => exact out pins σ _ _ er s' J z
  | ok fl =>
    cases fl with
    | ret u =>
      obtain ⟨v, H', I3, rv, ev, q3⟩ := J.after z
      subst ev
      exact ⟨rv, V.ref (hp.objs.size + 1), H', I3, rfl, q3⟩
    | next => exact z.elim
    | brk => exact z.elim
    | cont => exact z.elim
theorem pe_newX (T : Oex X.K C) (i : Ini X.K C fI) (F : FnOk X.prog X.w X.K X.mg X.base CX k fI fd ps sp) (room : Room (k + 1) X.A) (hg : Gl X x) (hm : X.mg x = some (.ref C)) (b : KBn X.K fd ps (n + 1) [] g gV) (out : Passes CX X E) (ha : PA X (e :: es) t)
    (hdb : (x == ("__debug__" : Str)) = false := by decide) (he : starEach (e :: es) X.env = (false, eval e X.env) :: starEach es X.env := by rfl) (hpl : (backTo pos (starEach es X.env)).any (·.1) = false := by rfl) :
    PE X (.Call (.Name x p) (e :: es) [] pos) (tNewX C n 0 sp gV E t tNil) := by
  refine ⟨fun pins s σ H Q I h => wpAny_Call_Name_kw (ld_glob I hg hm ?_ hdb)⟩
  refine PySem.W.callWith_K (h₀ := X.base) I.ok.mod.kin T.kp (thn (ha.run pos pins s σ H _ I h) fun us s1 hu => ?_) he hpl
  obtain ⟨vs, H1, I1, r, len, q⟩ := hu
  exact ⟨I1.kIn, new_runs (ks := []) (ws := []) (zs := []) T i F room b out I1 r .nil len q⟩
theorem pe_newXK (T : Oex X.K C) (i : Ini X.K C fI) (F : FnOk X.prog X.w X.K X.mg X.base CX k fI fd ps sp) (room : Room (k + 1) X.A) (hg : Gl X x) (hm : X.mg x = some (.ref C)) (b : KBn X.K fd ps 1 ks g gV) (out : Passes CX X E) (hkw : PK X kws tk)
    (hall : (backToKw pos (keywordEach kws X.env)).all (·.1.isSome) = true := by rfl) (hks : (backToKw pos (keywordEach kws X.env)).filterMap (·.1) = ks := by rfl) (hdb : (x == ("__debug__" : Str)) = false := by decide)
    (hpl : ((backTo pos (starEach [] X.env)).any (·.1) || (backToKw pos (keywordEach kws X.env)).any (·.1.isNone)) = false := by rfl) : PE X (.Call (.Name x p) [] kws pos) (tNewX C 0 ks.length sp gV E tNil tk) := by
  refine ⟨fun pins s σ H Q I h => wpAny_Call_Name_kw (ld_glob I hg hm ?_ hdb)⟩
  refine PySem.W.callWith_KW0 (h₀ := X.base) I.ok.mod.kin T.kp hall (thn (hkw.run pos pins s σ H _ I h) fun ws s2 hu => ?_) hpl
  obtain ⟨zs, H2, I2, rz, len, q2⟩ := hu
  rw [hks]
  exact ⟨I2.kIn, new_runs (us := []) (vs := []) T i F room b out I2 .nil rz len q2⟩
/-- C(), C without an __init__ of its own -/
theorem pe_newX0 {C : Addr} {bmB : List Value} {B newId initId : String} {x : Str} {p pos : Pos} (F : ExcBaseFacts B newId initId bmB) (ok : PySem.W.excIn X.K C bmB newId = true) (hm : X.mg x = some (.ref C)) (kC : PySem.W.keepIn X.K (.ref C) = true) (hg : Gl X x) (hdb : (x == ("__debug__" : Str)) = false := by decide) :
    PE X (.Call (.Name x p) [] [] pos) (fun _ H Q => ∀ a, H a = none → Q (.ref a) (upd H a (exo a C none))) := by
  refine ⟨fun pins s σ H Q I h => wpAny_Call_Name_kw (ld_glob I hg hm (PySem.W.callWith_K0 I.kIn kC ?_) hdb)⟩
  obtain ⟨bm, N, nm, qn, bs, hdct, sn, sub, ab, col, dd, k0, k1, k2, k3, k5, mN, hC, hN, hni, same⟩ := exc_obj I.kIn ok
  refine wpAny_call_exc_subT F same hC hN hni (fun h' a new => ?_) (Nat.zero_le _)
  have free : H a = none := I.hok.gone new.new
  obtain ⟨t1, ht, _, _⟩ := new.there
  exact ⟨.ref a, _, I.laidN new.keeps new.new free (exo_ok ht), rfl, h a free⟩
end
end SwX
set_option Elab.async false
set_option linter.all false
set_option maxRecDepth 100000
set_option maxHeartbeats 4000000
/-! defs whose frames stand outside of every repr (so that repr tells the whole text), from the law's call on; repr, count over data -/
namespace SwX
open PySem PySem.Spec PyProof.Rows L2
/-- no repr is under way around A -/
def Calm (A : Around) : Prop := A.guards = some []
/-- a def's promise, where no repr is under way -/
structure FnG (P : Program) (w : World) (K : PySem.W.Frag) (mg : Str → Option Value) (base : Heap) (CX : CXT) (k : Nat) (f : Addr) (fd : FuncData) (ps : List Str) (sp : Sp) : Prop where
  len : ∀ vs H Q E, sp vs H Q E → vs.length = ps.length
  run : ∀ (A : Around) (outer : List Env) (s : Shared) (H : Hp) (args : Args) (us : List Value) (vs : List V) (Q : VK) (E : XK), Room k A → Calm A → Env0 P w K mg base A outer s H → BindsTo s fd args (ps.zip us) → Vals vs us → sp vs H Q E →
    codeAny (model P w) A (.call (.ref f) args) (CR CX outer P w H s Q E) s
section
variable {P : Program} {w : World} {K : PySem.W.Frag} {mg : Str → Option Value} {base : Heap} {CX : CXT} {k : Nat} {f : Addr} {fd : FuncData} {N ps : List Str} {sp : Sp}
theorem FnOk.calm (F : FnOk P w K mg base CX k f fd ps sp) : FnG P w K mg base CX k f fd ps sp := ⟨F.len, fun A outer s H args us vs Q E hr _ => F.run A outer s H args us vs Q E hr⟩
variable {x qual : Str} {params : Arguments} {body : List Stmt} {scope : Scope} {dvs : List V} {kws : List (Str × V)}
/-- the rule of such a def -/
theorem FunD.okG (F : FunD K x qual params body scope dvs kws f fd) (S : FnScope N ps scope) (len : ∀ vs H Q E, sp vs H Q E → vs.length = ps.length)
    (hb : ∀ (cdv : Value) (A : Around) (outer : List Env) (s : Shared) (H : Hp) (vs : List V) (Q : VK) (E : XK), Room k (A.deeper (envOfC qual scope s.heap.objs.size f cdv)) → Calm A → sp vs H Q E →
      ∃ t, PSs (cxOf CX P w K mg base N qual scope f cdv A outer s H E) body t ∧ t { nx := fun _ H' => Q .non H', rt := Q } (start N vs) H) : FnG P w K mg base CX (k + 1) f fd ps sp := by
  obtain ⟨oc, od, dV, kV, doc, pm, an, cdv, ct, osl, rfl, lk, hcd, _, _⟩ := F.ex
  refine ⟨len, fun A outer s H args us vs Q E hr calm e0 bind r hsp => ?_⟩
  have base_in : ∀ b o, base.get? b = some o → s.heap.get? b = some o := fun b o z => (e0.bs b o z).1
  have KX : K.In s.heap := e0.mod.kin.keeps base_in
  have par : ∀ y ∈ ps.zip us, scope.names.lookup y.1 = some .local ∨ (scope.names.lookup y.1 = some .cell ∧ ((cellsFrom (s.heap.objs.size + 1) scope.names []).lookup y.1).isSome = true) := fun y hy => by
    cases S.par y.1 (List.of_mem_zip hy).1 with
    | inl q => exact Or.inl q
    | inr q => exact Or.inr ⟨q, PySem.W.cellsFrom_some _ _ _ (Or.inl q)⟩
  refine codeAny_call_function hr.depth (KX _ _ lk) rfl S.co S.gen rfl (PySem.W.codeRec_of KX hcd) (bind _ _ _ _ (wpAny_newFunctionEnv_cells S.kind par fun env he s1 made => ?_))
  subst he
  refine And.intro ((e0.mod.nolimit.keeps base_in).keeps made.toInCall.keep) (codeAny_func ?_)
  obtain ⟨t, ht, hq⟩ := hb cdv A outer s H vs Q E (hr.deeper _) calm hsp
  refine wpAny_mono (ht.run [] s1 (start N vs) H _ (inv_start S hr.hd e0 (len _ _ _ _ hsp) r made) hq) (fun fl s' z => ?_) fun _ _ z => z
  cases fl with
  | ret u =>
    obtain ⟨v, σ', H', J, rv, q⟩ := z
    exact ⟨v, H', J.os, J.bare, J.base, J.hok, rv, q⟩
  | next =>
    obtain ⟨σ', H', J, q⟩ := z
    exact ⟨V.non, H', J.os, J.bare, J.base, J.hok, rfl, q⟩
  | brk =>
    obtain ⟨_, _, _, q⟩ := z
    exact q.elim
  | cont =>
    obtain ⟨_, _, _, q⟩ := z
    exact q.elim
end
/-! ### calls of such defs -/
section
variable {X : Cx} {CX : CXT} {k : Nat} {f : Addr} {fd : FuncData} {ps : List Str} {sp : Sp} {dvs : List V} {ds : List Value} {E : XK} {x : Str} {p pos : Pos} {e : Expr} {es : List Expr} {t : TA}
theorem pe_callG (F : FnG X.prog X.w X.K X.mg X.base CX k f fd ps sp) (hr : Room k X.A) (calm : Calm X.A) (hg : Gl X x) (hm : X.mg x = some (.ref f)) (hk : PySem.W.keepIn X.K (.ref f) = true) (hb : Binds X.K fd ps ds) (hd : Vals dvs ds) (hx : Passes CX X E) (ha : PA X (e :: es) t)
    (hdb : (x == ("__debug__" : Str)) = false := by decide) (he : starEach (e :: es) X.env = (false, eval e X.env) :: starEach es X.env := by rfl) (hpl : (backTo pos (starEach es X.env)).any (·.1) = false := by rfl) :
    PE X (.Call (.Name x p) (e :: es) [] pos) (tCall sp dvs E t) := by
  refine ⟨fun pins s σ H Q I h => wpAny_Call_Name_kw (ld_glob I hg hm ?_ hdb)⟩
  refine PySem.W.callWith_K (h₀ := X.base) I.ok.mod.kin hk (thn (ha.run pos pins s σ H _ I h) fun us s1 hu => ?_) he hpl
  obtain ⟨vs, H1, I1, r, q⟩ := hu
  have all := r.append hd
  refine ⟨I1.kIn, wpAny_call (codeAny_mono (F.run X.A X.stack s1 H1 ⟨us, []⟩ (us ++ ds) (vs ++ dvs) Q E hr calm I1.env0 (hb s1 us I1.kIn ?_) all q) fun res s' z => ?_)⟩
  · rw [← all.length]
    exact F.len _ _ _ _ q
  cases res with
  | error er => exact hx pins σ H1 s1 er s' I1 z
  | ok fl =>
    cases fl with
    | ret u => exact I1.after z
    | next => exact z.elim
    | brk => exact z.elim
    | cont => exact z.elim
end
/-! ### the law's call -/
/-- the abstract heap ahead of the law: the script alone, where it is none of the module's own -/
def scriptH (K : PySem.W.Frag) (a : Addr) (o : Obj) (ns : List Int) : Hp := fun b => if b = a ∧ K.lookup a = none then some (.frz o (.lst (ns.map V.int))) else none
theorem scriptH_some {K : PySem.W.Frag} {a b : Addr} {o : Obj} {ns : List Int} {u : HO} (h : scriptH K a o ns b = some u) : b = a ∧ K.lookup a = none ∧ u = .frz o (.lst (ns.map V.int)) := by
  unfold scriptH at h
  split at h
  · rename_i c
    exact ⟨c.1, c.2, (Option.some.inj h).symm⟩
  · cases h
theorem law_runG {P : Program} {w : World} {K : PySem.W.Frag} {mg mb : Str → Option Value} {CX : CXT} {k : Nat} {fa a : Addr} {fd : FuncData} {x : Str} {sp : Sp} {s1 : Shared} {vs : List Value} {ns : List Int}
    (KX : K.In s1.heap) (gl : s1.heap.Ns mainGlobals mg) (bl : s1.heap.Ns builtinsNs mb) (bb : ∀ x : Str, x ≠ "__name__" → mb x = bootBuiltins x) (lim : s1.heap.NoLimit) (gens : s1.gens = #[])
    (ha : s1.heap.get? a = some { cls := .type "list", data := .seq vs.toArray }) (hi : IntsAre vs ns) (hl : ns.length ≤ sizeLine) (room : Room k callerA)
    (F : ∀ base : Heap, K.In base → base.Ns mainGlobals mg → FnG P w K mg base CX k fa fd [x] sp) (bind : ∀ (s : Shared) (u : Value), BindsTo s fd ⟨[u], []⟩ [(x, u)])
    (hsp : ∀ H : Hp, SqL K H a (ns.map V.int) → sp [.ref a] H (fun v _ => v = .bl true) fun _ _ _ => False) (out : ∀ H e s', CX [] H s1 (fun _ _ _ => False) e s' → False) :
    codeAny (model P w) callerA (.call (.ref fa) ⟨[.ref a], []⟩) (fun r s' => r = .ok (.ret (.bool true)) ∧ OldK s1.heap s'.heap ∧ s'.os = s1.os ∧ AllBare s'.gens) s1 := by
  let o : Obj := { cls := .type "list", data := .seq vs.toArray }
  let H : Hp := scriptH K a o ns
  have rv := vals_ints hi
  have short : (ns.map V.int).length ≤ sizeLine := by rw [List.length_map]; exact hl
  have seen : SqL K H a (ns.map V.int) := by
    cases q : K.lookup a with
    | none => exact Or.inl (Or.inr ⟨o, if_pos ⟨rfl, q⟩⟩)
    | some u =>
      have z := KX a u q
      rw [ha] at z
      cases z
      exact Or.inr ⟨_, vs.toArray, _, q, rfl, rfl, rfl, by rw [List.size_toArray, hi.length]; exact hl, by simpa using rv⟩
  have held : HOk P w H s1.heap := fun b u z => by
    obtain ⟨rfl, _, rfl⟩ := scriptH_some z
    exact ⟨ha, short, vs, _, rv, ha⟩
  -- nothing of the written part and no table of names is tracked
  have part : ∀ b u, K.lookup b = some u → H b = none := fun b u z => by
    cases q : H b with
    | none => rfl
    | some c =>
      obtain ⟨rfl, n, _⟩ := scriptH_some q
      rw [n] at z
      cases z
  have table : ∀ {b : Addr} {m : Str → Option Value}, s1.heap.Ns b m → (hidT s1.heap H).Ns b m := fun {b m} z => by
    obtain ⟨ob, es, ep, e1, e2, rest⟩ := z
    refine ⟨ob, es, ep, hidT_get e1 ?_, e2, rest⟩
    cases q : H b with
    | none => rfl
    | some c =>
      obtain ⟨rfl, _, _⟩ := scriptH_some q
      rw [ha] at e1
      cases e1
      exact nomatch (show Data.seq vs.toArray _ = Data.dict es ep from e2)
  have kin : K.In (hidT s1.heap H) := fun b u z => hidT_get (KX b u z) (part b u z)
  have env : Env0 P w K mg (hidT s1.heap H) callerA [] s1 H := by
    refine ⟨rfl, ⟨kin, table gl, ⟨mb, table bl, bb⟩, ?_⟩, fun b u z => of_hidT z, Nat.le_of_eq (hidT_size _ _), trivial, fun b z => ?_, held, .of_eq gens⟩
    · obtain ⟨mc, h1, h2⟩ := lim
      exact ⟨mc, table h1, h2⟩
    · exact absurd (show b ∈ ([] : List Addr) from z) List.not_mem_nil
  refine codeAny_mono ((F _ kin (table gl)).run callerA [] s1 H ⟨[.ref a], []⟩ [.ref a] [.ref a] _ _ room rfl env (bind s1 (.ref a)) (.cons rfl .nil) (hsp H seen)) fun r s' z => ?_
  cases r with
  | error e => exact (out H e s' z).elim
  | ok fl =>
    cases fl with
    | next => exact z.elim
    | brk => exact z.elim
    | cont => exact z.elim
    | ret u =>
      obtain ⟨v, H', os, bare, un, held', r', rfl⟩ := z
      obtain rfl : u = Value.bool true := r'
      refine ⟨rfl, OldK.of_keep fun b ob e => ?_, os, bare⟩
      cases q : H b with
      | none => exact un.keep b ob e q (fun z => absurd (show b ∈ ([] : List Addr) from z) List.not_mem_nil) (fun z => absurd z List.not_mem_nil)
      | some c =>
        obtain ⟨rfl, _, rfl⟩ := scriptH_some q
        have z1 := (held b _ q).1
        have z2 := (held' b _ (un.frzs b _ _ q)).1
        rw [e] at z1
        cases z1
        exact z2
/-- the end of a law's row over a head by facts: the law's def keeps its promise where no repr is under way -/
theorem walk_ofG {l : PySem.W.OpenLaw} {n k : Nat} {q : Program} {loose : List Str} {XP : (Str → Option Value) → Heap → Prop} {YP : World → Heap → Prop} {d : DefRec} {CX : CXT} {x : Str}
    (hn : l.most = some n) (hn2 : n ≤ sizeLine) (hdf : d.params.defaults = []) (room : Room k callerA)
    (F : ∀ (w : World) (mg : Str → Option Value) (fa : Addr) (h : Heap), YP w h → h.Ns mainGlobals mg → mg d.name = some (.ref fa) →
      ∃ (K : PySem.W.Frag) (fd : FuncData) (sp : Sp), K.In h ∧ (∀ (s : Shared) (u : Value), BindsTo s fd ⟨[u], []⟩ [(x, u)]) ∧
        (∀ (H : Hp) (a : Addr) (ns : List Int), ns.length ≤ n → SqL K H a (ns.map V.int) → sp [.ref a] H (fun v _ => v = .bl true) fun _ _ _ => False) ∧
        ∀ base : Heap, K.In base → base.Ns mainGlobals mg → FnG l.prog w K mg base CX k fa fd [x] sp)
    (out : ∀ (H : Hp) (s : Shared) (e : Value) (s' : Shared), CX [] H s (fun _ _ _ => False) e s' → False) : PySem.W.WalkO q loose XP YP l.row.toRowW d [] (fun f vs => PySem.call f vs) := by
  refine Att.attach_call hn hdf fun w s0 s1 mg mb fa o pm cd doc a vs ns G Y _ _ _ hm hobj hints hlen hg => ?_
  obtain ⟨K, fd, sp, KX, bind, hsp, hF⟩ := F w mg fa _ Y G.T.g hm
  exact law_runG KX G.T.g G.T.b G.T.builtins G.T.nolimit hg hobj hints (Nat.le_trans hlen hn2) room hF bind (fun H z => hsp H a ns hlen z) fun H e s' => out H s1 e s'
end SwX
set_option Elab.async false
set_option linter.all false
set_option maxRecDepth 100000
set_option maxHeartbeats 4000000
/-! data in the abstract heap, dicts with flat keys among it; its repr; counting truths -/
namespace SwX
open PySem PySem.Spec PyProof.Rows L2
def keyD : Key → PyData
  | .inl i => .int i
  | .inr x => .str x
/-- v stands for the data d -/
inductive Da (K : PySem.W.Frag) (H : Hp) : V → PyData → Prop
  | non : Da K H .non .none
  | bl (b : Bool) : Da K H (.bl b) (.bool b)
  | int (i : Int) : Da K H (.int i) (.int i)
  | str (x : Str) : Da K H (.str x) (.str x)
  | lst {a : Addr} {xs : List V} {ds : List PyData} (h : H a = some (.lst xs)) (l : xs.length = ds.length) (each : ∀ (i : Nat) x d, xs[i]? = some x → ds[i]? = some d → Da K H x d) : Da K H (.ref a) (.list ds)
  | tup {a : Addr} {xs : List V} {ds : List PyData} (h : SqT K H a xs) (l : xs.length = ds.length) (each : ∀ (i : Nat) x d, xs[i]? = some x → ds[i]? = some d → Da K H x d) : Da K H (.ref a) (.tuple ds)
  | dic {a : Addr} {kvs : List (Key × V)} {ds : List PyData} (h : H a = some (.dK kvs)) (l : kvs.length = ds.length) (each : ∀ (i : Nat) kv d, kvs[i]? = some kv → ds[i]? = some d → Da K H kv.2 d) :
      Da K H (.ref a) (.dict ((kvs.map fun q => keyD q.1).zip ds))
theorem Da.mono {K : PySem.W.Frag} {H H' : Hp} (e : Evl.Ex H H') {v : V} {d : PyData} (h : Da K H v d) : Da K H' v d := by
  induction h with
  | non => exact .non
  | bl b => exact .bl b
  | int i => exact .int i
  | str x => exact .str x
  | lst h l _ ih => exact .lst (e _ _ h) l ih
  | tup h l _ ih => exact .tup (Evl.ex_t e h) l ih
  | dic h l _ ih => exact .dic (e _ _ h) l ih
section
variable {X : Cx} {pins : List (Addr × Obj)} {σ : L2.St} {H : Hp} {s : Shared}
theorem reads_each {h : Heap} : ∀ {us : List Value} {ds : List PyData}, us.length = ds.length → (∀ (i : Nat) u d, us[i]? = some u → ds[i]? = some d → ∃ as, Reads h u d as ∧ sysModules ∉ as) → ∃ as, ReadsAll h us ds as ∧ sysModules ∉ as
  | [], [], _, _ => ⟨[], .nil, List.not_mem_nil⟩
  | [], _ :: _, l, _ => by cases l
  | _ :: _, [], l, _ => by cases l
  | u :: us, d :: ds, l, k => by
    obtain ⟨as, r, n⟩ := k 0 u d rfl rfl
    obtain ⟨bs, rs, ns⟩ := reads_each (us := us) (ds := ds) (Nat.succ.inj l) fun i u' d' e1 e2 => k (i + 1) u' d' (by simpa using e1) (by simpa using e2)
    exact ⟨as ++ bs, .cons r rs, fun z => (List.mem_append.mp z).elim n ns⟩
/-- the other way: an item of the values is one of what is paired -/
theorem Vals.back : ∀ {xs : List V} {us : List Value} {i : Nat} {u : Value}, Vals xs us → us[i]? = some u → ∃ x, xs[i]? = some x ∧ RelV x u
  | _, _, _, _, .nil, e => by simp at e
  | _, _, 0, _, .cons r _, e => by
    simp at e
    subst e
    exact ⟨_, rfl, r⟩
  | _, _, i + 1, u, .cons _ t, e => by
    obtain ⟨x, e1, r⟩ := Vals.back (i := i) (u := u) t (by simpa using e)
    exact ⟨x, by simpa using e1, r⟩
theorem kv_back : ∀ {kvs : List (Key × V)} {vs : List (Key × Value)}, KV kvs vs → vs.length = kvs.length ∧ vs.map (·.1) = kvs.map (·.1) ∧ ∀ (i : Nat) q, vs[i]? = some q → ∃ p, kvs[i]? = some p ∧ RelV p.2 q.2
  | _, _, .nil => ⟨rfl, rfl, fun i q e => by simp at e⟩
  | _, _, .cons (a := p) (b := q) r t => by
    obtain ⟨l, m, k⟩ := kv_back t
    refine ⟨congrArg Nat.succ l, by rw [List.map_cons, List.map_cons, m, r.1], fun i q' e => ?_⟩
    cases i with
    | zero =>
      simp at e
      subst e
      exact ⟨p, rfl, r.2⟩
    | succ i =>
      obtain ⟨p', e1, r'⟩ := k i q' (by simpa using e)
      exact ⟨p', by simpa using e1, r'⟩
theorem keys_read {h : Heap} {knd : PySem.KeyKind X.prog X.w Key} (hk : ∀ k v, knd.is k v = keyIs k v) : ∀ {es : List DictEntry} {vs : List (Key × Value)}, Pairs knd es vs → ReadsAll h (es.map (·.key)) (vs.map fun q => keyD q.1) [] ∧ es.map (·.val) = vs.map (·.2)
  | _, _, .nil => ⟨.nil, rfl⟩
  | _, _, .cons (e := e) (kv := kv) i v t => by
    obtain ⟨r, m⟩ := keys_read hk t
    refine ⟨?_, by rw [List.map_cons, List.map_cons, m, v]⟩
    rw [hk] at i
    have one : Reads h e.key (keyD kv.1) [] := by
      rcases keyIs_shape i with ⟨j, tk, e1, e2⟩ | ⟨x, tk, e1, e2⟩
      · rw [e1, e2]
        exact .int j tk
      · rw [e1, e2]
        exact .str x tk
    exact ReadsAll.cons (as := []) (bs := []) one r
theorem not_sys (I : Inv X pins σ H s) (S : SysIn X.K) {a : Addr} {o : HO} (h : H a = some o) : sysModules ≠ a := fun e => by
  obtain ⟨ob, z⟩ := S
  have n := (I.bs _ _ (I.ok.mod.kin _ _ z)).2
  rw [e, h] at n
  cases n
theorem Da.reads (I : Inv X pins σ H s) (S : SysIn X.K) {v : V} {d : PyData} (h : Da X.K H v d) : ∀ u, RelV v u → ∃ as, Reads s.heap u d as ∧ sysModules ∉ as := by
  induction h with
  | non => intro u r; cases r; exact ⟨_, .none, List.not_mem_nil⟩
  | bl b => intro u r; cases r; exact ⟨_, .bool b, List.not_mem_nil⟩
  | int i =>
    intro u r
    obtain ⟨t, rfl⟩ := r
    exact ⟨_, .int i t, List.not_mem_nil⟩
  | str x =>
    intro u r
    obtain ⟨t, rfl⟩ := r
    exact ⟨_, .str x t, List.not_mem_nil⟩
  | @lst a xs ds h l _ ih =>
    intro u r
    cases r
    obtain ⟨its, rv, ⟨o, n, ho, hc, _, hd⟩, _⟩ := I.list (Evl.sq_of h)
    obtain ⟨as, ra, na⟩ := reads_each (h := s.heap) (us := its) (ds := ds) (rv.length.symm.trans l) fun i u d e1 e2 => by
      obtain ⟨x, e3, r⟩ := Vals.back rv e1
      exact ih i x d e3 e2 u r
    exact ⟨_, .list ho hc hd ra, fun z => (List.mem_cons.mp z).elim (not_sys I S h) na⟩
  | @tup a xs ds h l _ ih =>
    intro u r
    cases r
    obtain ⟨its, rv, ⟨o, ho, hc, n, hd⟩, _⟩ := I.tuple h
    obtain ⟨as, ra, na⟩ := reads_each (h := s.heap) (us := its) (ds := ds) (rv.length.symm.trans l) fun i u d e1 e2 => by
      obtain ⟨x, e3, r⟩ := Vals.back rv e1
      exact ih i x d e3 e2 u r
    exact ⟨_, .tuple ho hc hd ra, na⟩
  | @dic a kvs ds h l _ ih =>
    intro u r
    cases r
    have ok : ObjOk X.prog X.w H s.heap a (.dK kvs) := I.hok a _ h
    obtain ⟨_, _, vs, kv, o, es, ep, ho, hx, hd, _, hp, _⟩ := ok
    obtain ⟨l2, m2, k2⟩ := kv_back kv
    obtain ⟨rk, mv⟩ := keys_read (X := X) (h := s.heap) (mixKind_is X.prog X.w) hp
    have lk : (kvs.map fun q => keyD q.1).length = ds.length := by rw [List.length_map]; exact l
    obtain ⟨as, ra, na⟩ := reads_each (h := s.heap) (us := es.toList.map (·.val)) (ds := ds) (by rw [mv, List.length_map, l2]; exact l) fun i u d e1 e2 => by
      rw [mv, List.getElem?_map] at e1
      cases q : vs[i]? with
      | none => rw [q] at e1; cases e1
      | some p =>
        rw [q] at e1
        obtain ⟨p', e3, r⟩ := k2 i p q
        cases e1
        exact ih i p' d e3 e2 p.2 r
    have f1 : ((kvs.map fun q => keyD q.1).zip ds).map (·.1) = vs.map fun q => keyD q.1 := by
      rw [List.map_fst_zip (Nat.le_of_eq lk)]
      have z := congrArg (List.map keyD) m2
      rw [List.map_map, List.map_map] at z
      exact z.symm
    have f2 : ((kvs.map fun q => keyD q.1).zip ds).map (·.2) = ds := List.map_snd_zip (Nat.le_of_eq lk.symm)
    refine ⟨_, .dict (as := []) (bs := as) ho hx.1 hd (by rw [f1]; exact rk) (by rw [f2]; exact ra), fun z => ?_⟩
    rcases List.mem_cons.mp (show sysModules ∈ a :: as from z) with z | z
    · exact not_sys I S h z
    · exact na z
end
/-- repr(x), x a list or a tuple that is data -/
def rRepr (K : PySem.W.Frag) : List V → Hp → VK → Prop := fun xs H Q => ∃ (a : Addr) (d : PyData), xs = [.ref a] ∧ Da K H (.ref a) d ∧ d.showable = true ∧ d.depth ≤ 180 ∧ d.shown.length ≤ sizeLine ∧ Q (.str d.shown) H
theorem call_repr {X : Cx} {k : Nat} (S : SysIn X.K) (calm : Calm X.A) (hr : Room k X.A) : CallR X (.builtin "repr") (rRepr X.K) := fun pins s σ H xs us Q I r h => by
  obtain ⟨a, d, rfl, da, sh, dp, len, q⟩ := h
  obtain ⟨u, rfl, ru⟩ := Vals.one r
  obtain ⟨as, rd, ns⟩ := da.reads I S u ru
  cases ru
  have un := hr.un
  exact repr_of_reads' rd sh (fun _ => ns) calm (by omega) (fun _ _ e => e) (fun h' u tk keep => ⟨.str d.shown, H, I.kept keep, ⟨u, rfl⟩, q⟩) len
/-- xs.count(b), xs a list of truths -/
def rCountB (K : PySem.W.Frag) : V → List V → Hp → VK → Prop := fun x xs H Q => ∃ (p : Addr) (bs : List Bool) (b : Bool), x = .ref p ∧ xs = [.bl b] ∧ SqL K H p (bs.map V.bl) ∧ Q (.int (bs.count b : Nat)) H
theorem bools_of : ∀ {bs : List Bool} {its : List Value}, Vals (bs.map V.bl) its → its = bs.map Value.bool
  | [], _, r => by cases r; rfl
  | b :: bs, _, r => by
    cases r with
    | cons r t => rw [bools_of t, List.map_cons, show _ = Value.bool b from r]
def isB (b : Bool) : Value → Bool
  | .bool c => c == b
  | _ => false
theorem isB_count (b : Bool) : ∀ bs : List Bool, (bs.map Value.bool).countP (isB b) = bs.count b
  | [] => rfl
  | c :: bs => by rw [List.map_cons, List.countP_cons, List.count_cons, isB_count b bs]; rfl
theorem mt_countB {X : Cx} {k : Nat} (hr : Room k X.A) : MtR X "list.count" (rCountB X.K) := fun pins s σ H x xs v us Q I rx rxs h => by
  obtain ⟨p, bs, b, rfl, rfl, hs, q⟩ := h
  cases rx
  obtain ⟨u, rfl, ru⟩ := Vals.one rxs
  obtain rfl : u = Value.bool b := ru
  obtain ⟨its, rv, ⟨⟨cls, dd, data, sl⟩, n, ho, hc, hdn, hd⟩, _⟩ := I.list hs
  simp only at hc hd
  subst hc hd
  have e := bools_of rv
  subst e
  have un := hr.un
  refine call_meets PySem.F.slot_list_count ⟨_, ho, rfl⟩ PySem.F.entry_list_count (PySem.F.args_list_count_2 _ _) (SeqAt.list_countAt p _ n dd sl (.bool b) (isB b)) ⟨ho, fun y hy => ?_, ?_⟩
  · obtain ⟨c, _, rfl⟩ := List.mem_map.mp (show y ∈ bs.map Value.bool by simpa using hy)
    exact SeqAt.eqAt_reads (.bool c) (.bool b) _ _ _ _ [] [] (.bool c) (.bool b) rfl rfl (by show X.A.units + 1 + min _ _ < cLine; simp only [PyData.depth]; omega)
  · refine ⟨.int (bs.count b : Nat), H, I.tok _, ⟨s.toks, ?_⟩, q⟩
    rw [isB_count]
end SwX
set_option Elab.async false
set_option linter.all false
set_option maxRecDepth 100000
set_option maxHeartbeats 4000000
/-! what a head tells of own exception classes, and a Hook with a further look -/
namespace SwX
open PySem PySem.Spec PyProof.Rows L2 He
/-- the bases: 0 ValueError, 1 LookupError, else ArithmeticError -/
def baseN : Nat → String
  | 0 => "ValueError"
  | 1 => "LookupError"
  | _ => "ArithmeticError"
def newN (i : Nat) : String := match i with
  | 0 => "ValueError.__new__"
  | 1 => "LookupError.__new__"
  | _ => "ArithmeticError.__new__"
def mroN (i : Nat) : List Value := [.type (baseN i), .type "Exception", .type "BaseException", .type "object"]
theorem base_of (i : Nat) : ∃ initId, Base (baseN i) (newN i) initId (mroN i) := match i with
  | 0 => ⟨_, PySem.F.excBase_ValueError, PySem.F.store_ValueError⟩
  | 1 => ⟨_, PySem.F.excBase_LookupError, PySem.F.store_LookupError⟩
  | _ + 2 => ⟨_, PySem.F.excBase_ArithmeticError, PySem.F.store_ArithmeticError⟩
def oB (a b : Option Bool) : Bool := decide (a = b)
/-- the class at C is an own exception over base i -/
def oexB (K : PySem.W.Frag) (i : Nat) (C : Addr) : Bool :=
  PySem.W.excOver K C (mroN i) && (PySem.W.excInitIn K C (mroN i) (newN i) && (eqO (PySem.W.findIn K (.ref C) "__setattr__") (some (some (.builtin "object.__setattr__"))) &&
  (eqO (PySem.W.findIn K (.ref C) "__getattribute__") (some (some (.builtin "BaseException.__getattribute__"))) && (eqO (PySem.W.findIn K (.ref C) "__getattr__") (some none) &&
  (oB (PySem.W.subIn K (.ref C) (.type "BaseException")) (some true) && (PySem.W.hasDictIn K C && (eqO (PySem.W.findIn K (.ref C) "__class__") (some (some (.builtin "object.__class__"))) &&
  (eqO (PySem.W.specialIn K (.builtin "object.__class__") "__get__") (some (some (.builtin "getset_descriptor.__get__"))) && (oB (PySem.W.takesIn K (.builtin "object.__class__")) (some true) &&
  (oB (PySem.W.mroIn K C (.type "object")) (some true) && PySem.W.keepIn K (.ref C)))))))))))
theorem born_in {K : PySem.W.Frag} {C : Addr} {bmB : List Value} {newId : String} (q : PySem.W.excInitIn K C bmB newId = true) :
    ∃ nm qn N bs bm hd sn sub ab col dd k0 k1 k2 k3 k5, K.lookup C = some (excClassObj nm qn C N bs bm hd sn sub ab col dd k0 k1 k2 k3 k5 newId) ∧ PySem.W.excTail bmB bm = true := by
  unfold PySem.W.excInitIn at q
  split at q
  · rename_i dd cd sl at_
    obtain ⟨nm, bs, mro, ns, qn, hd, sn, sub, ab, col, del⟩ := cd
    obtain ⟨l⟩ := sl
    cases mro with
    | nil => cases q
    | cons c bm =>
      cases c with
      | ref C' =>
        match l, q with
        | [k0, k1, k2, k3, some (.builtin n), k5], q =>
          have q' : (C' == C && n == newId && !del && PySem.W.excTail bmB bm) = true := q
          simp only [Bool.and_eq_true, beq_iff_eq, Bool.not_eq_true'] at q'
          obtain ⟨⟨⟨rfl, rfl⟩, rfl⟩, tail⟩ := q'
          exact ⟨nm, qn, ns, bs, bm, hd, sn, sub, ab, col, dd, k0, k1, k2, k3, k5, at_, tail⟩
      | _ => cases q
  · cases q
theorem oex_of {K : PySem.W.Frag} {i : Nat} {C : Addr} (h : oexB K i C = true) : Oex K C := by
  simp only [oexB, Bool.and_eq_true, eqO, oB, decide_eq_true_eq] at h
  obtain ⟨over, ini, set, get, miss, exc, dct, cl, clg, clt, top, kp⟩ := h
  obtain ⟨initId, base⟩ := base_of i
  obtain ⟨nm, qn, N, bs, bm, hd, sn, sub, ab, col, dd, k0, k1, k2, k3, k5, at_, tail⟩ := born_in ini
  exact ⟨⟨_, _, initId, _, base, over, nm, qn, N, bs, bm, hd, sn, sub, ab, col, dd, k0, k1, k2, k3, k5, at_, tail⟩, set, get, miss, exc, dct, cl, clg, clt, top, kp⟩
theorem free_of {K : PySem.W.Frag} {C : Addr} {f : Str} (h : PySem.W.findIn K (.ref C) f = some none) : Free K C f := ⟨h, by unfold PySem.W.takerIn; rw [h] <;> rfl⟩
/-- the class at C has the def at fI for its __init__ -/
def iniB (K : PySem.W.Frag) (C : Addr) : Bool := eqO (PySem.W.findIn K (.ref C) "__init__") (some (some (.ref (ma K C "__init__")))) && decide (PySem.W.typeIn K (.ref (ma K C "__init__")) = some (.type "function"))
theorem ini_of {K : PySem.W.Frag} {C : Addr} (h : iniB K C = true) : Ini K C (ma K C "__init__") := by
  simp only [iniB, Bool.and_eq_true, eqO, decide_eq_true_eq] at h
  exact ⟨h.1, h.2⟩
/-! ### a Hook with a further look; sys.modules is among what is seen -/
def asS (g : Addr → Option Obj) (n : Nat) : List Addr := sysModules :: asD g n
abbrev AlS : Type := Bool × AlD
def obsS (fa : List Fa) (fn : List DefD) (chk : PySem.W.Frag → Bool) (K : PySem.W.Frag) : AlS := ((K.lookup sysModules).isSome && chk K, obsD fa fn K)
def obsSG (n : Nat) (fa : List Fa) (fn : List DefD) (chk : PySem.W.Frag → Bool) (g : Addr → Option Obj) : AlS := obsS fa fn chk (frG g (asS g n))
def hookS (n : Nat) (fa : List Fa) (fn : List DefD) (chk : PySem.W.Frag → Bool) : PySem.W.Hook where
  α := AlS
  obs := fun s => obsSG n fa fn chk s.heap.get?
  val := fun _ => (true, valD fn)
  says := fun _ h => ∃ K : PySem.W.Frag, K.In h ∧ obsS fa fn chk K = (true, valD fn)
  of := fun _ _ e => ⟨_, frG_in, e⟩
  keeps := fun _ _ _ ⟨K, hK, c⟩ k => ⟨K, PySem.W.Frag.In.keeps hK k, c⟩
theorem obsSG_eq {n : Nat} {fa : List Fa} {fn : List DefD} {chk : PySem.W.Frag → Bool} {g : Addr → Option Obj} {s : Shared} (h : ∀ a, g a = s.heap.get? a) : obsSG n fa fn chk g = (hookS n fa fn chk).obs s := by
  rw [show g = s.heap.get? from funext h] <;> rfl
theorem saysS {fa : List Fa} {fn : List DefD} {chk : PySem.W.Frag → Bool} {K : PySem.W.Frag} (h : obsS fa fn chk K = (true, valD fn)) : SysIn K ∧ chk K = true ∧ SaysD fa fn K := by
  have h1 : ((K.lookup sysModules).isSome && chk K) = true := congrArg (fun z : AlS => z.1) h
  have h2 : obsD fa fn K = valD fn := congrArg (fun z : AlS => z.2) h
  obtain ⟨a, b⟩ := Bool.and_eq_true_iff.mp h1
  exact ⟨Option.isSome_iff_exists.mp a, b, h2⟩
end SwX
set_option Elab.async false
set_option linter.all false
set_option maxRecDepth 100000
set_option maxHeartbeats 4000000
/-! a def by its name; joined rules, so that a body's term needs no types; heaps that grow -/
namespace SwX
open PySem PySem.Spec PyProof.Rows L2
/-- the module's name x is a def that keeps sp -/
structure Has (P : Program) (w : World) (K : PySem.W.Frag) (mg : Str → Option Value) (base : Heap) (x : Str) (k : Nat) (ps : List Str) (sp : Sp) : Prop where
  ex : ∃ f fd, FnOk P w K mg base CX0 k f fd ps sp ∧ mg x = some (.ref f) ∧ PySem.W.keepIn K (.ref f) = true ∧ Binds K fd ps []
/-- the same where no repr is under way -/
structure HasG (P : Program) (w : World) (K : PySem.W.Frag) (mg : Str → Option Value) (base : Heap) (x : Str) (k : Nat) (ps : List Str) (sp : Sp) : Prop where
  ex : ∃ f fd, FnG P w K mg base CX0 k f fd ps sp ∧ mg x = some (.ref f) ∧ PySem.W.keepIn K (.ref f) = true ∧ Binds K fd ps []
/-- the module's name x is an own exception class, its __init__ keeps sp; m keywords ks -/
structure HasX (P : Program) (w : World) (K : PySem.W.Frag) (mg : Str → Option Value) (base : Heap) (x : Str) (k : Nat) (C : Addr) (n : Nat) (ks : List Str) (g : {α : Type} → List α → List α → List α) (sp : Sp) : Prop where
  ex : ∃ fI fd ps, Oex K C ∧ Ini K C fI ∧ FnOk P w K mg base CX0 k fI fd ps sp ∧ mg x = some (.ref C) ∧ KBn K fd ps (n + 1) [] (fun us _ => us) (fun vs _ => vs) ∧ KBn K fd ps 1 ks (fun us ws => g us ws) (fun vs zs => g vs zs)
section
variable {X : Cx} {k n : Nat} {C : Addr} {ps ks : List Str} {sp : Sp} {x : Str} {p pos : Pos} {e : Expr} {es : List Expr} {kws : List Keyword} {t tk : TA} {gg : {α : Type} → List α → List α → List α}
theorem pe_has (D : Has X.prog X.w X.K X.mg X.base x k ps sp) (hr : Room k X.A) (ha : PA X (e :: es) t) (hg : Gl X x := by rfl) (hdb : (x == ("__debug__" : Str)) = false := by decide)
    (he : starEach (e :: es) X.env = (false, eval e X.env) :: starEach es X.env := by rfl) (hpl : (backTo pos (starEach es X.env)).any (·.1) = false := by rfl) : PE X (.Call (.Name x p) (e :: es) [] pos) (tCall sp [] E0 t) := by
  obtain ⟨f, fd, F, hm, hk, hb⟩ := D.ex
  exact pe_call F hr hg hm hk hb .nil pass0 ha hdb he hpl
theorem pe_hasG (D : HasG X.prog X.w X.K X.mg X.base x k ps sp) (hr : Room k X.A) (calm : Calm X.A) (ha : PA X (e :: es) t) (hg : Gl X x := by rfl) (hdb : (x == ("__debug__" : Str)) = false := by decide)
    (he : starEach (e :: es) X.env = (false, eval e X.env) :: starEach es X.env := by rfl) (hpl : (backTo pos (starEach es X.env)).any (·.1) = false := by rfl) : PE X (.Call (.Name x p) (e :: es) [] pos) (tCall sp [] E0 t) := by
  obtain ⟨f, fd, F, hm, hk, hb⟩ := D.ex
  exact pe_callG F hr calm hg hm hk hb .nil pass0 ha hdb he hpl
theorem pe_newH (D : HasX X.prog X.w X.K X.mg X.base x k C n ks gg sp) (hr : Room (k + 1) X.A) (ha : PA X (e :: es) t) (hg : Gl X x := by rfl) (hdb : (x == ("__debug__" : Str)) = false := by decide)
    (he : starEach (e :: es) X.env = (false, eval e X.env) :: starEach es X.env := by rfl) (hpl : (backTo pos (starEach es X.env)).any (·.1) = false := by rfl) :
    PE X (.Call (.Name x p) (e :: es) [] pos) (tNewX C n 0 sp (fun vs _ => vs) E0 t tNil) := by
  obtain ⟨fI, fd, ps, T, i, F, hm, b, _⟩ := D.ex
  exact pe_newX T i F hr hg hm b pass0 ha hdb he hpl
theorem pe_newHK (D : HasX X.prog X.w X.K X.mg X.base x k C n ks gg sp) (hr : Room (k + 1) X.A) (hkw : PK X kws tk) (hg : Gl X x := by rfl)
    (hall : (backToKw pos (keywordEach kws X.env)).all (·.1.isSome) = true := by rfl) (hks : (backToKw pos (keywordEach kws X.env)).filterMap (·.1) = ks := by rfl) (hdb : (x == ("__debug__" : Str)) = false := by decide)
    (hpl : ((backTo pos (starEach [] X.env)).any (·.1) || (backToKw pos (keywordEach kws X.env)).any (·.1.isNone)) = false := by rfl) : PE X (.Call (.Name x p) [] kws pos) (tNewX C 0 ks.length sp (fun vs zs => gg vs zs) E0 tNil tk) := by
  obtain ⟨fI, fd, ps, T, i, F, hm, _, b⟩ := D.ex
  exact pe_newXK T i F hr hg hm b pass0 hkw hall hks hdb hpl
end
/-! ### joined rules -/
section
variable {X : Cx} {k : Nat}
theorem op_join {f : Value → Value → Sem Value} {r r' : R2} (h : OpR X f r) (h' : OpR X f r') : OpR X f (fun x y H Q => r x y H Q ∨ r' x y H Q) := fun pins s σ H x y v u Q I rx ry z => z.elim (h pins s σ H x y v u Q I rx ry) (h' pins s σ H x y v u Q I rx ry)
theorem ix_join {r r' : R2} (h : IxR X r) (h' : IxR X r') : IxR X (fun x y H Q => r x y H Q ∨ r' x y H Q) := fun a b pins s σ H x y v u Q I rx ry z hs => z.elim (fun z => h a b pins s σ H x y v u Q I rx ry z hs) fun z => h' a b pins s σ H x y v u Q I rx ry z hs
theorem cr_join {f : Value} {r r' : List V → Hp → VK → Prop} (h : CallR X f r) (h' : CallR X f r') : CallR X f (fun xs H Q => r xs H Q ∨ r' xs H Q) := fun pins s σ H xs us Q I rx z => z.elim (h pins s σ H xs us Q I rx) (h' pins s σ H xs us Q I rx)
/-- a + b: ints | lists -/
theorem op_addA : OpR X (binaryOp .Add) (fun x y H Q => rI0 (fun i j => .int (i + j)) x y H Q ∨ rCat x y H Q) := op_join op_add op_cat
/-- a == b: flat things | data -/
theorem op_eqA (hr : Room k X.A) : OpR X (compareOp .Eq) (fun x y H Q => rEq x y H Q ∨ rEqD X.K x y H Q) := op_join op_eq (op_eqD (by have := hr.un; omega))
theorem op_neA (hr : Room k X.A) : OpR X (compareOp .NotEq) (fun x y H Q => rNe x y H Q ∨ rNeD X.K x y H Q) := op_join op_ne (op_neD (by have := hr.un; omega))
/-- a[i]: lists | tuples -/
theorem ix_A : IxR X (fun x y H Q => rIxL X.K x y H Q ∨ rIxT X.K x y H Q) := ix_join ix_list ix_tup
end
/-! ### heaps that grow -/
open Evl (Ex)
theorem ex_new {H : Hp} {p : Addr} {o : HO} (h : H p = none) : Ex H (upd H p o) := Evl.Ex.new h
theorem ExAt.mono {H H' : Hp} {a C : Addr} {fs : List (Str × V)} (e : Ex H H') (h : ExAt H a C fs) : ExAt H' a C fs := by
  rcases h with ⟨h1, h2⟩ | ⟨d, h1, h2⟩
  · exact .inl ⟨e _ _ h1, h2⟩
  · exact .inr ⟨d, e _ _ h1, e _ _ h2⟩
/-- te gives, over any greater heap, a value of which P holds in a greater heap still -/
def Yi (te : TE) (σ : L2.St) (H : Hp) (P : V → Hp → Prop) : Prop := ∀ H1, Ex H H1 → ∀ Q : VK, (∀ v H2, Ex H1 H2 → P v H2 → Q v H2) → te σ H1 Q
/-- the same of an argument list -/
def Ys (ta : TA) (σ : L2.St) (H : Hp) (P : List V → Hp → Prop) : Prop := ∀ H1, Ex H H1 → ∀ Q : List V → Hp → Prop, (∀ vs H2, Ex H1 H2 → P vs H2 → Q vs H2) → ta σ H1 Q
section
variable {σ : L2.St} {H : Hp} {te : TE} {ta : TA} {P : V → Hp → Prop} {R : List V → Hp → Prop}
theorem Yi.mono {H' : Hp} (h : Yi te σ H P) (e : Ex H H') : Yi te σ H' P := fun H1 e1 => h H1 (e.trans e1)
theorem Ys.mono {H' : Hp} (h : Ys ta σ H R) (e : Ex H H') : Ys ta σ H' R := fun H1 e1 => h H1 (e.trans e1)
/-- items of a list, one predicate each -/
theorem ys_nil {α : Type} {F : α → V → Hp → Prop} : Ys tNil σ H fun vs H' => Paired (fun i v => F i v H') [] vs := fun H1 _ Q q => q [] H1 (Evl.Ex.refl H1) .nil
theorem ys_cons {α : Type} {F : α → V → Hp → Prop} {i : α} {is : List α} (mono : ∀ i v H H', Ex H H' → F i v H → F i v H') (h : Yi te σ H (F i)) (t : Ys ta σ H fun vs H' => Paired (fun i v => F i v H') is vs) :
    Ys (tCons te ta) σ H fun vs H' => Paired (fun i v => F i v H') (i :: is) vs := fun H1 e1 Q q =>
  h H1 e1 _ fun v H2 e2 p => t H2 (e1.trans e2) _ fun vs H3 e3 r => q (v :: vs) H3 (e2.trans e3) (.cons (mono i v H2 H3 e3 p) r)
theorem paired_mono {α : Type} {F : α → V → Hp → Prop} {H H' : Hp} (e : Ex H H') (mono : ∀ i v H H', Ex H H' → F i v H → F i v H') : ∀ {is : List α} {vs : List V}, Paired (fun i v => F i v H) is vs → Paired (fun i v => F i v H') is vs
  | _, _, .nil => .nil
  | _, _, .cons h t => .cons (mono _ _ _ _ e h) (paired_mono e mono t)
theorem paired_append {α β : Type} {F : α → β → Prop} : ∀ {is js : List α} {vs ws : List β}, Paired F is vs → Paired F js ws → Paired F (is ++ js) (vs ++ ws)
  | _, _, _, _, .nil, t => t
  | _, _, _, _, .cons h r, t => .cons h (paired_append r t)
theorem paired_get {α β : Type} {F : α → β → Prop} : ∀ {is : List α} {vs : List β} {n : Nat} {i : α}, Paired F is vs → is[n]? = some i → ∃ v, vs[n]? = some v ∧ F i v
  | _, _, n, _, .nil, e => by simp at e
  | _, _, 0, _, .cons h _, e => by
    simp at e
    subst e
    exact ⟨_, rfl, h⟩
  | _, _, n + 1, i, .cons _ t, e => by
    obtain ⟨v, e1, h⟩ := paired_get (n := n) (i := i) t (by simpa using e)
    exact ⟨v, by simpa using e1, h⟩
theorem paired_len {α β : Type} {F : α → β → Prop} {is : List α} {vs : List β} (h : Paired F is vs) : is.length = vs.length := Paired.length h
end
end SwX
set_option Elab.async false
set_option linter.all false
set_option maxRecDepth 100000
set_option maxHeartbeats 4000000
/-! readings of joined rules evaluated; the purse of the laws' draws -/
namespace SwX
open PySem PySem.Spec PyProof.Rows L2 Evl
section
variable {K : PySem.W.Frag} {σ : L2.St} {H : Hp} {x y z v : V} {r r' : R2} {te : TE}
theorem rv_l (h : RV r x y H z) : RV (fun x y H Q => r x y H Q ∨ r' x y H Q) x y H z := fun H1 e Q q => .inl (h H1 e Q q)
theorem rv_r (h : RV r' x y H z) : RV (fun x y H Q => r x y H Q ∨ r' x y H Q) x y H z := fun H1 e Q q => .inr (h H1 e Q q)
theorem rv_add {i j : Int} : RV (fun x y H Q => rI0 (fun i j => .int (i + j)) x y H Q ∨ rCat x y H Q) (.int i) (.int j) H (.int (i + j)) := rv_l rv_I0
theorem rv_at {p : Addr} {xs : List V} {i : Int} (h : SqL K H p xs) (ha : atI xs i = some v) : RV (fun x y H Q => rIxL K x y H Q ∨ rIxT K x y H Q) (.ref p) (.int i) H v := rv_l (rv_ixL h ha)
theorem rv_atT {p : Addr} {xs : List V} {i : Int} (h : SqT K H p xs) (ha : atI xs i = some v) : RV (fun x y H Q => rIxL K x y H Q ∨ rIxT K x y H Q) (.ref p) (.int i) H v := rv_r (rv_ixT h ha)
/-- a statement, then the rest -/
theorem s_seq {t u : TS} {D : Ends} (h : t { D with nx := u D } σ H) : tSeq t u D σ H := h
/-- int(i) -/
def rInt1 : List V → Hp → VK → Prop := fun xs H Q => (∃ i, xs = [.int i] ∧ Q (.int i) H) ∨ ∃ k, xs = [.bl k] ∧ Q (.int (if k then 1 else 0)) H
theorem ev_int1 {i : Int} (h : Ev te σ H (.int i)) : Ev (tCB rInt1 (tCons te tNil)) σ H (.int i) := ev_cb (ea_cons h ea_nil) fun H1 _ _ q => .inl ⟨i, rfl, q H1 (Ex.refl H1)⟩
end
/-- the purse at a: its state, what is left of a great number, its count -/
def Pur (H : Hp) (a : Addr) : Prop := ∃ x y z : Int, H a = some (.lst [.int x, .int y, .int z]) ∧ 0 ≤ y ∧ y < 2147483629 ∧ 0 ≤ x
/-- the heap without what stands at a -/
def less (a : Addr) (H : Hp) : Hp := fun b => if b = a then none else H b
theorem less_at {a : Addr} {H : Hp} : less a H a = none := if_pos rfl
theorem less_ne {a b : Addr} {H : Hp} (h : b ≠ a) : less a H b = H b := if_neg h
theorem less_ex {a : Addr} {H : Hp} : Ex (less a H) H := fun b o e => by
  unfold less at e
  split at e
  · cases e
  · exact e
theorem ex_less {a : Addr} {G H : Hp} (n : G a = none) (e : Ex G H) : Ex G (less a H) := fun b o h => by
  rw [less_ne (fun z => by rw [z, n] at h; cases h)]
  exact e b o h
theorem less_upd {a : Addr} {H H1 : Hp} {o : HO} (e : Ex (less a H) H1) : Ex (less a H) (upd H1 a o) := e.mut less_at
/-- what was known aside of the purse is known still -/
theorem ex_past {a : Addr} {G H H' : Hp} (n : G a = none) (e : Ex G H) (e' : Ex (less a H) H') : Ex G H' := (ex_less n e).trans e'
theorem Pur.keep {a : Addr} {H H' : Hp} (h : Pur H a) (e : Ex H H') : Pur H' a := by
  obtain ⟨x, y, z, q, r⟩ := h
  exact ⟨x, y, z, e _ _ q, r⟩
/-! promises of the three defs that draw -/
def spSeed (K : PySem.W.Frag) : Sp := fun vs H Q _ => ∃ (a : Addr) (ns : List Int) (k : Int), vs = [.ref a, .int k] ∧ SqL K H a (ns.map V.int) ∧ 0 ≤ k ∧ k ≤ 1000 ∧ ∀ n H', Ex H H' → Q (.int n) H'
def spPurse : Sp := fun vs H Q _ => ∃ n : Int, vs = [.int n] ∧ ∀ a H', H a = none → Ex H H' → Pur H' a → Q (.ref a) H'
def spDraw : Sp := fun vs H Q _ => ∃ (a : Addr) (m : Int), vs = [.ref a, .int m] ∧ 0 < m ∧ m ≤ 1000000 ∧ Pur H a ∧ ∀ k H', 0 ≤ k → k < m → Pur H' a → Ex (less a H) H' → Q (.int k) H'
theorem pylong_small {i j : Int} (h : 0 < j) (h2 : j ≤ 1000000) : CDivP i j := by
  refine ⟨h, ?_⟩
  have e : (2 : Nat) ^ 20 = 1048576 := by decide
  have l : j.natAbs.log2 < 20 := (Nat.log2_lt (by omega)).mpr (by omega)
  have n : j ≠ 0 := by omega
  simp [Builtin.divisionGoesByPylong, n]
  intro q
  omega
theorem cut_mem {xs : List V} {lo hi : Option Int} {i : Nat} {x : V} (h : (cutV xs lo hi)[i]? = some x) : x ∈ xs := List.mem_of_mem_drop (List.mem_of_mem_take (List.mem_of_getElem? h))
end SwX
set_option Elab.async false
set_option linter.all false
set_option maxRecDepth 100000
set_option maxHeartbeats 4000000
/-! own exceptions and lists of things, evaluated over heaps that grow -/
namespace SwX
open PySem PySem.Spec PyProof.Rows L2 Evl
/-! ### keywords without defaults -/
theorem kbn_of {K : PySem.W.Frag} {x qual : Str} {params : Arguments} {body : List Stmt} {scope : Scope} {kws : List (Str × V)} {f : Addr} {fd : FuncData} {ps : List Str} (F : FunD K x qual params body scope [] kws f fd) (n : Nat) (ks : List Str) (g : {α : Type} → List α → List α → List α)
    (hrel : ∀ {vs zs : List V} {us ws : List Value}, Vals vs us → Vals zs ws → Vals (g vs zs) (g us ws))
    (h : ∀ (kV doc pm : Value) (an : Option Addr) (cdv ct : Value) (us ws : List Value), us.length = n → ws.length = ks.length → bindArgs (PySem.W.fnOf x qual params body scope .none kV doc pm an cdv ct) ⟨us, ks.zip ws⟩ = pure (ps.zip (g us ws))) : KBn K fd ps n ks (fun us ws => g us ws) (fun vs zs => g vs zs) := by
  obtain ⟨oc, od, dV, kV, doc, pm, an, cdv, ct, osl, rfl, lk, hcd, hD, hK⟩ := F.ex
  rcases hD with ⟨_, rfl⟩ | ⟨e, _⟩
  · exact ⟨fun s us ws _ l1 l2 => .of_eq (h kV doc pm an cdv ct us ws l1 l2), fun r1 r2 => hrel r1 r2⟩
  · exact absurd rfl e
theorem vals_rev : ∀ {vs : List V} {us : List Value}, Vals vs us → Vals vs.reverse us.reverse
  | _, _, .nil => .nil
  | _, _, .cons r t => by
    rw [List.reverse_cons, List.reverse_cons]
    exact (vals_rev t).append (.cons r .nil)
/-! ### things over growing heaps -/
section
variable {K : PySem.W.Frag} {σ : L2.St} {H H' : Hp} {te ta' tb' : TE} {ta : TA} {P P' : V → Hp → Prop} {D : Ends} {tz : TS} {v : V}
theorem Yi.imp (h : Yi te σ H P) (i : ∀ v H', Ex H H' → P v H' → P' v H') : Yi te σ H P' := fun H1 e1 Q q => h H1 e1 Q fun v H2 e2 p => q v H2 e2 (i v H2 (e1.trans e2) p)
theorem yi_ev (h : Ev te σ H v) : Yi te σ H fun x _ => x = v := fun H1 e1 Q q => h H1 e1 Q fun H2 e2 => q v H2 e2 rfl
theorem yi_var {i : Nat} (h : σ[i]? = some (some v)) (m : ∀ H1, Ex H H1 → P v H1) : Yi (tVar i) σ H P := fun H1 e1 Q q => ⟨v, h, q v H1 (Ex.refl H1) (m H1 e1)⟩
theorem q_asgY {i : Nat} (h : Yi te σ H P) (k : ∀ v H1, Ex H H1 → P v H1 → tz D (σ.set i (some v)) H1) : tSeq (tAsg te (gName i)) tz D σ H := h H (Ex.refl H) _ k
theorem s_retY (h : Yi te σ H P) (k : ∀ v H1, Ex H H1 → P v H1 → D.rt v H1) : tRet te D σ H := h H (Ex.refl H) _ k
/-- a list, each of its items as F says of its index's datum -/
def LstOf {α : Type} (F : α → V → Hp → Prop) (is : List α) (x : V) (H : Hp) : Prop := ∃ p vs, x = .ref p ∧ H p = some (.lst vs) ∧ Paired (fun i v => F i v H) is vs
section
variable {α : Type} {F : α → V → Hp → Prop} {is js : List α}
theorem LstOf.mono {x : V} (m : ∀ i v H H', Ex H H' → F i v H → F i v H') (e : Ex H H') (h : LstOf F is x H) : LstOf F is x H' := by
  obtain ⟨p, vs, rfl, hp, q⟩ := h
  exact ⟨p, vs, rfl, e _ _ hp, paired_mono e m q⟩
theorem yi_lst (m : ∀ i v H H', Ex H H' → F i v H → F i v H') (h : Ys ta σ H fun vs H' => Paired (fun i v => F i v H') is vs) (l : is.length ≤ 100000) : Yi (tLst ta) σ H (LstOf F is) := fun H1 e1 Q q =>
  h H1 e1 _ fun vs H2 e2 p => ⟨sz_of (by rw [← paired_len p]; exact l), fun a ha => q (.ref a) _ (e2.trans (Ex.new ha)) ⟨a, vs, rfl, upd_same, paired_mono (Ex.new ha) m p⟩⟩
theorem yi_cat (m : ∀ i v H H', Ex H H' → F i v H → F i v H') (ha : Yi ta' σ H (LstOf F is)) (hb : Yi tb' σ H (LstOf F js)) (l : is.length + js.length ≤ 100000) :
    Yi (tOp (fun x y H Q => rI0 (fun i j => .int (i + j)) x y H Q ∨ rCat x y H Q) ta' tb') σ H (LstOf F (is ++ js)) := fun H1 e1 Q q =>
  ha H1 e1 _ fun x H2 e2 p => hb H2 (e1.trans e2) _ fun y H3 e3 p' => by
    obtain ⟨a, vs, rfl, ha, pa⟩ := p.mono m e3
    obtain ⟨b, ws, rfl, hb, pb⟩ := p'
    refine .inr ⟨a, b, vs, ws, rfl, rfl, ha, hb, sz_of (by rw [← paired_len pa, ← paired_len pb]; exact l), fun c hc => ?_⟩
    exact q _ _ ((e2.trans e3).trans (Ex.new hc)) ⟨c, _, rfl, upd_same, paired_mono (Ex.new hc) m (paired_append pa pb)⟩
end
/-! truths in a list -/
def Tru (b : Bool) (v : V) (_ : Hp) : Prop := v = .bl b
theorem tru_mono (i : Bool) (v : V) (H H' : Hp) (_ : Ex H H') (h : Tru i v H) : Tru i v H' := h
theorem trus : ∀ {bs : List Bool} {vs : List V} {H : Hp}, Paired (fun b v => Tru b v H) bs vs → vs = bs.map V.bl
  | _, _, _, .nil => rfl
  | _, _, _, .cons h t => by rw [trus t, List.map_cons, show _ = V.bl _ from h]
theorem LstOf.trus {bs : List Bool} {x : V} (h : LstOf Tru bs x H) : ∃ p, x = .ref p ∧ H p = some (.lst (bs.map V.bl)) := by
  obtain ⟨p, vs, rfl, hp, q⟩ := h
  rw [SwX.trus q] at hp
  exact ⟨p, rfl, hp⟩
theorem dpAll_bl : ∀ bs : List Bool, DpAll K H (bs.map V.bl) (bs.map PyData.bool)
  | [] => .nil
  | b :: r => .cons (.bl b) (dpAll_bl r)
/-! isinstance -/
theorem ev_isX {a C : Addr} {fs : List (Str × V)} {c : V} {u : Value} {b : Bool} (h : Ev te σ H (.ref a)) (hc : Ev tb' σ H c) (x : ExAt H a C fs) (T : Oex K C) (k : ClsV c u) (e : PySem.W.kitOne K (.ref C) u = some b) : Ev (tCB (rIsX K) (tCons te (tCons tb' tNil))) σ H (.bl b) := fun H1 e1 Q q =>
  h H1 e1 _ fun H2 e2 => hc H2 (e1.trans e2) _ fun H3 e3 => ⟨a, C, fs, c, u, b, rfl, x.mono ((e1.trans e2).trans e3), T, k, e, q H3 (e2.trans e3)⟩
theorem ev_fldX {a C : Addr} {fs : List (Str × V)} {f : Str} {v : V} (h : Ev te σ H (.ref a)) (x : ExAt H a C fs) (T : Oex K C) (n : Free K C f) (l : fs.lookup f = some v) : Ev (tFldX K f te) σ H v := fun H1 e1 Q q =>
  h H1 e1 _ fun H2 e2 => ⟨a, C, fs, v, rfl, x.mono (e1.trans e2), T, n, l, q H2 e2⟩
theorem yi_tru {b : Bool} (h : Ev te σ H (.bl b)) : Yi te σ H (Tru b) := yi_ev h
theorem dp_trus {bs : List Bool} {p : Addr} (h : H p = some (.lst (bs.map V.bl))) : Dp K H (.ref p) (.list (bs.map PyData.bool)) := .lst (sq_of h) (dpAll_bl bs)
/-- two lists of truths -/
theorem rv_neTru {bs cs : List Bool} {p q : Addr} {z : Bool} (hp : H p = some (.lst (bs.map V.bl))) (hq : H q = some (.lst (cs.map V.bl))) (s1 : SeqAt.shaped (.list (bs.map PyData.bool)) = true) (s2 : SeqAt.shaped (.list (cs.map PyData.bool)) = true) (e : PyData.eqv (.list (bs.map PyData.bool)) (.list (cs.map PyData.bool)) = z) :
    RV (fun x y H Q => rNe x y H Q ∨ rNeD K x y H Q) (.ref p) (.ref q) H (.bl (!z)) := fun H1 e1 Q k => .inr ⟨_, _, dp_trus (e1 _ _ hp), dp_trus (e1 _ _ hq), s1, s2, by rw [e]; exact k H1 (Ex.refl H1)⟩
theorem ev_eqTru {bs cs : List Bool} {p : Addr} {z : Bool} (ha : Ev te σ H (.ref p)) (hp : H p = some (.lst (bs.map V.bl))) (hb : Yi tb' σ H (LstOf Tru cs)) (s1 : SeqAt.shaped (.list (bs.map PyData.bool)) = true) (s2 : SeqAt.shaped (.list (cs.map PyData.bool)) = true) (e : PyData.eqv (.list (bs.map PyData.bool)) (.list (cs.map PyData.bool)) = z) :
    Ev (tOp (fun x y H Q => rEq x y H Q ∨ rEqD K x y H Q) te tb') σ H (.bl z) := fun H1 e1 Q k => ha H1 e1 _ fun H2 e2 => hb H2 (e1.trans e2) _ fun y H3 e3 l => by
  obtain ⟨q, rfl, hq⟩ := l.trus
  exact .inr ⟨_, _, dp_trus (((e1.trans e2).trans e3) _ _ hp), dp_trus hq, s1, s2, by rw [e]; exact k H3 (e2.trans e3)⟩
theorem ev_chainI {f g : Int → Int → Bool} {i j l : Int} {tc : TE} (ha : Ev te σ H (.int i)) (hb : Ev ta' σ H (.int j)) (hc : Ev tc σ H (.int l)) : Ev (tChain (rI0 fun a b => .bl (f a b)) (rI0 fun a b => .bl (g a b)) te ta' tc) σ H (.bl (f i j && g j l)) := fun H1 e1 Q k =>
  ha H1 e1 _ fun H2 e2 => hb H2 (e1.trans e2) _ fun H3 e3 => ⟨i, j, rfl, rfl, f i j, rfl, by
    have fin : ∀ H4, Ex H3 H4 → Q (.bl (f i j && g j l)) H4 := fun H4 e4 => k H4 ((e2.trans e3).trans e4)
    cases c : f i j with
    | false =>
      rw [c] at fin
      exact fin H3 (Ex.refl H3)
    | true =>
      rw [c] at fin
      exact hc H3 ((e1.trans e2).trans e3) _ fun H4 e4 => ⟨j, l, rfl, rfl, fin H4 e4⟩⟩
theorem el_ifY {b : Bool} {tt : TT} {xs : List V} (h : EvT tt σ H b) (h1 : b = true → EvL ta' σ H xs) (h2 : b = false → EvL tb' σ H xs) : EvL (tIf tt ta' tb') σ H xs := fun H1 e1 Q k => h H1 e1 _ fun H2 e2 => by
  have k2 : ∀ p H3, H2 p = none → Ex H2 H3 → H3 p = some (.lst xs) → Q (.ref p) H3 := fun p H3 n e3 h3 => k p H3 (fresh_back e2 n) (e2.trans e3) h3
  cases b with
  | true =>
    show ta' σ H2 Q
    exact h1 rfl H2 (e1.trans e2) Q k2
  | false =>
    show tb' σ H2 Q
    exact h2 rfl H2 (e1.trans e2) Q k2
/-! making one -/
def spIni1 (C : Addr) (f : Str) : Sp := fun vs H Q _ => ∃ a v, vs = [.ref a, v] ∧ H a = some (exo a C none) ∧ ∀ d, H d = none → d ≠ a → Q .non (upd (upd H d (exd d [(f, v)])) a (exo a C (some d)))
def spIni2 (C : Addr) (f g : Str) : Sp := fun vs H Q _ => ∃ a v u, vs = [.ref a, v, u] ∧ H a = some (exo a C none) ∧ ∀ d, H d = none → d ≠ a → ∀ H', H' = upd (upd (upd H d (exd d [(f, v)])) a (exo a C (some d))) d (exd d [(g, u), (f, v)]) → Q .non H'
theorem exAt_new {a C d : Addr} {H : Hp} {fs : List (Str × V)} (h : H a = none) (hd : upd H a (exo a C none) d = none) : Ex H (upd (upd (upd H a (exo a C none)) d (exd d fs)) a (exo a C (some d))) ∧ ExAt (upd (upd (upd H a (exo a C none)) d (exd d fs)) a (exo a C (some d))) a C fs := by
  have ne : d ≠ a := fun z => by rw [z, upd_same] at hd; cases hd
  have hd' : H d = none := by rwa [upd_ne ne] at hd
  exact ⟨((Ex.refl H).mut h).mut hd' |>.mut h, .inr ⟨d, upd_same, by rw [upd_ne ne, upd_same]⟩⟩
section
variable {C : Addr} {E : XK} {f g : Str} {tv tu : TE} {u : V} {gV : List V → List V → List V}
theorem yi_new1 (h : Ev tv σ H v) (hg : ∀ x, gV [x, v] [] = [x, v] := by intros; rfl) : Yi (tNewX C 1 0 (spIni1 C f) gV E (tCons tv tNil) tNil) σ H fun x H' => ∃ a, x = .ref a ∧ ExAt H' a C [(f, v)] := fun H1 e1 Q q =>
  h H1 e1 _ fun H2 e2 => ⟨⟨rfl, rfl, by decide⟩, fun a ha => ⟨a, v, hg _, upd_same, fun d hd ne => ⟨rfl, q _ _ (e2.trans (exAt_new ha hd).1) ⟨a, rfl, (exAt_new ha hd).2⟩⟩⟩⟩
theorem yi_newK1 (h : Ev tv σ H v) (hg : ∀ x, gV [x] [v] = [x, v] := by intros; rfl) : Yi (tNewX C 0 1 (spIni1 C f) gV E tNil (tCons tv tNil)) σ H fun x H' => ∃ a, x = .ref a ∧ ExAt H' a C [(f, v)] := fun H1 e1 Q q =>
  h H1 e1 _ fun H2 e2 => ⟨⟨rfl, rfl, by decide⟩, fun a ha => ⟨a, v, hg _, upd_same, fun d hd ne => ⟨rfl, q _ _ (e2.trans (exAt_new ha hd).1) ⟨a, rfl, (exAt_new ha hd).2⟩⟩⟩⟩
theorem exAt_new2 {a d : Addr} {H : Hp} (h : H a = none) (hd : upd H a (exo a C none) d = none) :
    Ex H (upd (upd (upd (upd H a (exo a C none)) d (exd d [(f, v)])) a (exo a C (some d))) d (exd d [(g, u), (f, v)])) ∧ ExAt (upd (upd (upd (upd H a (exo a C none)) d (exd d [(f, v)])) a (exo a C (some d))) d (exd d [(g, u), (f, v)])) a C [(g, u), (f, v)] := by
  have ne : d ≠ a := fun z => by rw [z, upd_same] at hd; cases hd
  have hd' : H d = none := by rwa [upd_ne ne] at hd
  exact ⟨(exAt_new h hd).1.mut hd', .inr ⟨d, by rw [upd_ne (Ne.symm ne), upd_same], upd_same⟩⟩
theorem yi_new2 (h : Ev tv σ H v) (hu : Ev tu σ H u) (hg : ∀ x, gV [x, v, u] [] = [x, v, u] := by intros; rfl) : Yi (tNewX C 2 0 (spIni2 C f g) gV E (tCons tv (tCons tu tNil)) tNil) σ H fun x H' => ∃ a, x = .ref a ∧ ExAt H' a C [(g, u), (f, v)] := fun H1 e1 Q q =>
  h H1 e1 _ fun H2 e2 => hu H2 (e1.trans e2) _ fun H3 e3 => ⟨⟨rfl, rfl, by decide⟩, fun a ha => ⟨a, v, u, hg _, upd_same, fun d hd ne H' e => by
    subst e
    exact ⟨rfl, q _ _ ((e2.trans e3).trans (exAt_new2 ha hd).1) ⟨a, rfl, (exAt_new2 ha hd).2⟩⟩⟩⟩
theorem yi_newK2 (h : Ev tv σ H v) (hu : Ev tu σ H u) (hg : ∀ x, gV [x] [u, v] = [x, v, u] := by intros; rfl) : Yi (tNewX C 0 2 (spIni2 C f g) gV E tNil (tCons tu (tCons tv tNil))) σ H fun x H' => ∃ a, x = .ref a ∧ ExAt H' a C [(g, u), (f, v)] := fun H1 e1 Q q =>
  hu H1 e1 _ fun H2 e2 => h H2 (e1.trans e2) _ fun H3 e3 => ⟨⟨rfl, rfl, by decide⟩, fun a ha => ⟨a, v, u, hg _, upd_same, fun d hd ne H' e => by
    subst e
    exact ⟨rfl, q _ _ ((e2.trans e3).trans (exAt_new2 ha hd).1) ⟨a, rfl, (exAt_new2 ha hd).2⟩⟩⟩⟩
theorem yi_new0 : Yi (fun _ H Q => ∀ a, H a = none → Q (.ref a) (upd H a (exo a C none))) σ H fun x H' => ∃ a, x = .ref a ∧ ExAt H' a C [] := fun H1 e1 Q q a ha => q _ _ (Ex.new ha) ⟨a, rfl, .inl ⟨upd_same, rfl⟩⟩
/-- the bodies of the two inits -/
theorem body_ini1 {D : Ends} {a C : Addr} {f : Str} {v : V} {H : Hp} {σ : L2.St} (T : Oex K C) (n : Free K C f) (h0 : σ[0]? = some (some (.ref a))) (h1 : σ[1]? = some (some v)) (h : H a = some (exo a C none)) (k : ∀ d, H d = none → d ≠ a → D.nx σ (upd (upd H d (exd d [(f, v)])) a (exo a C (some d)))) :
    tSetX K f (tVar 0) (tVar 1) D σ H := ⟨v, h1, .ref a, h0, a, C, rfl, T, n, .inl ⟨h, k⟩⟩
end
end
/-! ### names of the module, of the builtins -/
theorem pe_own {X : Cx} {x : Str} {C : Addr} {pos : Pos} (hm : X.mg x = some (.ref C)) (hg : Gl X x := by rfl) (hd : (x == ("__debug__" : Str)) = false := by decide) : PE X (.Name x pos) (tC (.ref C)) := pe_glob hg hm rfl hd
theorem pe_gint {X : Cx} {x : Str} {i : Int} {pos : Pos} (hm : ∃ t, X.mg x = some (.int i t)) (hg : Gl X x := by rfl) (hd : (x == ("__debug__" : Str)) = false := by decide) : PE X (.Name x pos) (tC (.int i)) := by
  obtain ⟨t, h⟩ := hm
  exact pe_glob hg h ⟨t, rfl⟩ hd
theorem pe_bty {X : Cx} {x : Str} {n : String} {pos : Pos} (hm : X.mg x = none) (hv : bootBuiltins x = some (.type n) := by decide +kernel) (hg : Gl X x := by rfl) (hn : x ≠ "__name__" := by decide) (hd : (x == ("__debug__" : Str)) = false := by decide) : PE X (.Name x pos) (tC (.ty n)) := pe_bltn hg hm hv rfl hn hd
/-! ### the rules of a list's count and index -/
section
variable {X : Cx} {k : Nat} {o e : Expr} {to te : TE} {apos cpos : Pos}
theorem rc_count {K : PySem.W.Frag} {σ : L2.St} {H : Hp} {p : Addr} {bs : List Bool} {b : Bool} {to te : TE} (ho : Ev to σ H (.ref p)) (hs : SqL K H p (bs.map V.bl)) (he : Ev te σ H (.bl b)) : Ev (tBM K "list" (rCountB K) to (tCons te tNil)) σ H (.int (bs.count b : Nat)) := fun H1 e1 Q q =>
  ho H1 e1 _ fun H2 e2 => ⟨.inl ⟨rfl, _, ex_l (e1.trans e2) hs⟩, he H2 (e1.trans e2) _ fun H3 e3 => ⟨p, bs, b, rfl, rfl, ex_l ((e1.trans e2).trans e3) hs, q H3 (e2.trans e3)⟩⟩
theorem rc_index {K : PySem.W.Frag} {σ : L2.St} {H : Hp} {p : Addr} {bs : List Bool} {j : Nat} {to te : TE} (ho : Ev to σ H (.ref p)) (hs : SqL K H p (bs.map V.bl)) (he : Ev te σ H (.bl true)) (h1 : bs[j]? = some true) (h2 : ∀ m, m < j → bs[m]? = some false) :
    Ev (tBM K "list" (rIndex K) to (tCons te tNil)) σ H (.int (j : Nat)) := fun H1 e1 Q q =>
  ho H1 e1 _ fun H2 e2 => ⟨.inl ⟨rfl, _, ex_l (e1.trans e2) hs⟩, he H2 (e1.trans e2) _ fun H3 e3 => ⟨p, bs.map V.bl, .bl true, j, .bl true, rfl, rfl, ex_l ((e1.trans e2).trans e3) hs, rfl, by
    rw [List.all_eq_true]
    intro x hx
    obtain ⟨c, _, rfl⟩ := List.mem_map.mp hx
    rfl, by rw [List.getElem?_map, h1]; rfl, rfl, fun m z hm hz => by
    rw [List.getElem?_map, h2 m hm] at hz
    cases hz
    rfl, q H3 (e2.trans e3)⟩⟩
end
end SwX
set_option Elab.async false
set_option linter.all false
set_option maxRecDepth 100000
set_option maxHeartbeats 4000000
/-! draws in readings; data beside the purse; repr of lists that are data -/
namespace SwX
open PySem PySem.Spec PyProof.Rows L2 Evl
/-! ### what repr can show shortly -/
structure Good (d : PyData) (n w : Nat) : Prop where
  sh : d.showable = true
  dp : d.depth ≤ n
  lv : d.leavesShort 100 = true
  wt : d.weight ≤ w
theorem Good.len {d : PyData} {n w : Nat} (h : Good d n w) (hw : w ≤ 100000) : d.shown.length ≤ sizeLine := by
  have z := PyData.shown_le 100 (by decide) d h.lv
  have y := h.wt
  exact Nat.le_trans z (Nat.le_trans (show (100 + 2) * d.weight + 100 ≤ 11000000 by omega) (by decide))
theorem good_int {i : Int} (h : i.natAbs < 10 ^ 41) : Good (.int i) 0 137 := by
  have big : (10 : Nat) ^ 41 < 2 ^ 137 := by decide
  refine ⟨?_, Nat.le_refl _, ?_, ?_⟩
  · show decide (i.natAbs.log2 < 1920) = true
    have p : (2 : Nat) ^ 137 ≤ 2 ^ 1920 := Nat.pow_le_pow_right (by decide) (by decide)
    have l : i.natAbs.log2 < 1920 := by
      by_cases z : i.natAbs = 0
      · rw [z]
        decide
      · exact (Nat.log2_lt z).mpr (by omega)
    exact decide_eq_true l
  · show decide ((PyData.shown (.int i)).length ≤ 100) = true
    rw [PyData.shown_int]
    have l := int_text_length_le10 (a := i) (k := 41) (by decide) h
    refine decide_eq_true ?_
    rw [PySem.ofString_length]
    omega
  · show (if (i == 0) = true then 0 else i.natAbs.log2 + 1) ≤ 137
    split
    · omega
    · rename_i c
      have z : i.natAbs ≠ 0 := by simpa using c
      have l := (Nat.log2_lt z).mpr (show i.natAbs < 2 ^ 137 by omega)
      omega
/-! ### repr of a new list that is data -/
section
variable {K : PySem.W.Frag} {σ : L2.St} {H : Hp} {te : TE} {v : V}
theorem da_list {xs : List V} {ds : List PyData} {p : Addr} (h : H p = some (.lst xs)) (q : Paired (fun d v => Da K H v d) ds xs) : Da K H (.ref p) (.list ds) :=
  .lst h (paired_len q).symm fun i x d e1 e2 => by
    obtain ⟨y, e3, r⟩ := paired_get q e2
    rw [e1] at e3
    cases e3
    exact r
theorem da_tuple {xs : List V} {ds : List PyData} {p : Addr} (h : SqT K H p xs) (q : Paired (fun d v => Da K H v d) ds xs) : Da K H (.ref p) (.tuple ds) :=
  .tup h (paired_len q).symm fun i x d e1 e2 => by
    obtain ⟨y, e3, r⟩ := paired_get q e2
    rw [e1] at e3
    cases e3
    exact r
theorem ev_reprL {xs : List V} {ds : List PyData} {n w : Nat} (h : EvL te σ H xs) (da : ∀ H1, Ex H H1 → Paired (fun d v => Da K H1 v d) ds xs) (g : Good (.list ds) n w) (hn : n ≤ 180) (hw : w ≤ 100000) : Ev (tCB (rRepr K) (tCons te tNil)) σ H (.str (PyData.shown (.list ds))) := fun H1 e1 Q q =>
  h H1 e1 _ fun p H2 _ e2 h2 => ⟨p, .list ds, rfl, da_list h2 (da H2 (e1.trans e2)), g.sh, Nat.le_trans g.dp hn, g.len hw, q H2 e2⟩
theorem ev_reprV {p : Addr} {xs : List V} {ds : List PyData} {n w : Nat} (h : Ev te σ H (.ref p)) (hp : H p = some (.lst xs)) (da : ∀ H1, Ex H H1 → Paired (fun d v => Da K H1 v d) ds xs) (g : Good (.list ds) n w) (hn : n ≤ 180) (hw : w ≤ 100000) : Ev (tCB (rRepr K) (tCons te tNil)) σ H (.str (PyData.shown (.list ds))) := fun H1 e1 Q q =>
  h H1 e1 _ fun H2 e2 => ⟨p, .list ds, rfl, da_list (e2 _ _ (e1 _ _ hp)) (da H2 (e1.trans e2)), g.sh, Nat.le_trans g.dp hn, g.len hw, q H2 e2⟩
end
/-! ### draws: te gives a value of which P holds, the purse at a is kept, all else grows -/
def Dr (a : Addr) (te : TE) (σ : L2.St) (G : Hp) (P : V → Prop) : Prop := ∀ H1, Ex G H1 → Pur H1 a → ∀ Q : VK, (∀ v H2, P v → Ex G H2 → Pur H2 a → Q v H2) → te σ H1 Q
section
variable {K : PySem.W.Frag} {σ : L2.St} {G H : Hp} {a : Addr} {te ta tb : TE} {v : V} {P P1 P2 : V → Prop} {D : Ends} {tz : TS}
theorem dr_ev (h : Ev te σ G v) (hp : P v) : Dr a te σ G P := fun H1 e p Q q => h H1 e Q fun H2 e2 => q v H2 hp (e.trans e2) (p.keep e2)
theorem dr_op {r : R2} (ha : Dr a ta σ G P1) (hb : Dr a tb σ G P2) (hr : ∀ x y, P1 x → P2 y → ∃ z, P z ∧ ∀ H, RV r x y H z) : Dr a (tOp r ta tb) σ G P := fun H1 e p Q q =>
  ha H1 e p _ fun x H2 px e2 p2 => hb H2 e2 p2 _ fun y H3 py e3 p3 => by
    obtain ⟨z, pz, rv⟩ := hr x y px py
    exact rv H3 H3 (Ex.refl _) Q fun H4 e4 => q z H4 pz (e3.trans e4) (p3.keep e4)
theorem dr_draw {m : Int} {E : XK} {tm : TE} (n : G a = none) (h : σ[0]? = some (some (.ref a))) (hm : Ev tm σ G (.int m)) (m0 : 0 < m) (m1 : m ≤ 1000000) : Dr a (tCall spDraw [] E (tCons (tVar 0) (tCons tm tNil))) σ G fun v => ∃ k, v = .int k ∧ 0 ≤ k ∧ k < m := fun H1 e p Q q =>
  ⟨.ref a, h, hm H1 e _ fun H2 e2 => ⟨a, m, rfl, m0, m1, p.keep e2, fun k H3 k0 k1 p3 e3 => q _ H3 ⟨k, rfl, k0, k1⟩ ((ex_less n (e.trans e2)).trans e3) p3⟩⟩
theorem atI_nat {xs : List V} {k : Int} (h0 : 0 ≤ k) (h1 : k < xs.length) : ∃ v, atI xs k = some v ∧ xs[k.toNat]? = some v := by
  obtain ⟨j, rfl⟩ := Int.eq_ofNat_of_zero_le h0
  have hj : j < xs.length := by omega
  refine ⟨xs[j], ?_, by simp [hj]⟩
  unfold atI
  rw [ixN_nat hj]
  simp
/-- a new list's item by a draw -/
theorem dr_pick {xs : List V} (n : G a = none) (ha : EvL ta σ G xs) (hb : ∀ G', G' a = none → Ex G G' → Dr a tb σ G' fun v => ∃ k, v = .int k ∧ 0 ≤ k ∧ k < xs.length) : Dr a (tOp (fun x y H Q => rIxL K x y H Q ∨ rIxT K x y H Q) ta tb) σ G fun v => v ∈ xs := fun H1 e p Q q =>
  ha H1 e _ fun l H2 hl e2 h2 => by
    obtain ⟨x, y, z, hp, _⟩ := p
    have ne : l ≠ a := fun w => by rw [w, hp] at hl; cases hl
    refine hb (less a H2) less_at (ex_less n (e.trans e2)) H2 less_ex (Pur.keep ⟨x, y, z, hp, by assumption⟩ e2) _ fun k H3 pk e3 p3 => ?_
    obtain ⟨k, rfl, k0, k1⟩ := pk
    obtain ⟨v, hv, hv2⟩ := atI_nat k0 k1
    refine .inl ⟨l, xs, k, v, rfl, rfl, sq_of (e3 _ _ (by rw [less_ne ne]; exact h2)), hv, q v H3 (List.mem_of_getElem? hv2) ((ex_less n (e.trans e2)).trans e3) p3⟩
theorem q_asgDr {i : Nat} (h : Dr a te σ G P) (e : Ex G H) (p : Pur H a) (k : ∀ v H1, P v → Ex G H1 → Pur H1 a → tz D (σ.set i (some v)) H1) : tSeq (tAsg te (gName i)) tz D σ H := h H e p _ k
theorem s_retDr (h : Dr a te σ G P) (e : Ex G H) (p : Pur H a) (k : ∀ v H1, P v → Ex G H1 → Pur H1 a → D.rt v H1) : tRet te D σ H := h H e p _ k
end
/-! ### data beside the purse -/
def DaA (K : PySem.W.Frag) (a : Addr) (d : PyData) (v : V) (H : Hp) : Prop := Da K (less a H) v d
theorem less_mono {a : Addr} {H H' : Hp} (e : Ex H H') : Ex (less a H) (less a H') := ex_less less_at (less_ex.trans e)
theorem daA_mono {K : PySem.W.Frag} {a : Addr} (d : PyData) (v : V) (H H' : Hp) (e : Ex H H') (h : DaA K a d v H) : DaA K a d v H' := Da.mono (less_mono e) h
section
variable {K : PySem.W.Frag} {σ : L2.St} {H : Hp} {a : Addr} {te : TE} {ta : TA} {ds : List PyData} {o : HO}
theorem yi_dat {v : V} {d : PyData} (h : Ev te σ H v) (q : ∀ G, Da K G v d) : Yi te σ H (DaA K a d) := (yi_ev h).imp fun x H' _ e => by
  subst e
  exact q _
theorem yi_dtup (at_ : H a = some o) (h : Ys ta σ H fun vs H' => Paired (fun d v => DaA K a d v H') ds vs) (l : ds.length ≤ 100000) : Yi (tTup ta) σ H (DaA K a (.tuple ds)) := fun H1 e1 Q q =>
  h H1 e1 _ fun vs H2 e2 p => ⟨sz_of (by rw [← paired_len p]; exact l), fun c hc => by
    have ne : c ≠ a := fun z => by rw [z, (e1.trans e2) _ _ at_] at hc; cases hc
    have p' : Paired (fun d v => DaA K a d v (upd H2 c (.tup vs))) ds vs := paired_mono (Ex.new hc) daA_mono p
    exact q (.ref c) _ (e2.trans (Ex.new hc)) (da_tuple (.inl (.inl (by rw [less_ne ne, upd_same]))) p')⟩
theorem yi_dlst (at_ : H a = some o) (h : Ys ta σ H fun vs H' => Paired (fun d v => DaA K a d v H') ds vs) (l : ds.length ≤ 100000) : Yi (tLst ta) σ H (DaA K a (.list ds)) := fun H1 e1 Q q =>
  h H1 e1 _ fun vs H2 e2 p => ⟨sz_of (by rw [← paired_len p]; exact l), fun c hc => by
    have ne : c ≠ a := fun z => by rw [z, (e1.trans e2) _ _ at_] at hc; cases hc
    have p' : Paired (fun d v => DaA K a d v (upd H2 c (.lst vs))) ds vs := paired_mono (Ex.new hc) daA_mono p
    exact q (.ref c) _ (e2.trans (Ex.new hc)) (da_list (by rw [less_ne ne, upd_same]) p')⟩
theorem yi_ddic0 (at_ : H a = some o) : Yi tDNewK σ H (DaA K a (.dict [])) := fun H1 e1 Q q c hc => by
  have ne : c ≠ a := fun z => by rw [z, e1 _ _ at_] at hc; cases hc
  exact q (.ref c) _ (Ex.new hc) (.dic (kvs := []) (ds := []) (by rw [less_ne ne, upd_same]) rfl (fun i kv d e => by simp at e))
theorem yi_ddic1 {x : Str} {v : V} {d : PyData} {tk tv : TE} (at_ : H a = some o) (hk : Ev tk σ H (.str x)) (hv : Ev tv σ H v) (q : ∀ G, Da K G v d) : Yi (tDisp [(tk, tv)]) σ H (DaA K a (.dict [(.str x, d)])) := fun H1 e1 Q k c hc => by
  have ne : c ≠ a := fun z => by rw [z, e1 _ _ at_] at hc; cases hc
  refine hk _ (e1.trans (Ex.new hc)) _ fun H2 e2 => hv H2 ((e1.trans (Ex.new hc)).trans e2) _ fun H3 e3 => ⟨e3 _ _ (e2 _ _ upd_same), [(.inr x, v)], rfl, by simp, ?_⟩
  refine k (.ref c) _ ((show Ex H1 H3 from ((Ex.new hc).trans e2).trans e3).mut hc) (.dic (kvs := [(.inr x, v)]) (ds := [d]) (by rw [less_ne ne, upd_same]; rfl) rfl fun i kv d' h1 h2 => ?_)
  · cases i with
    | zero =>
      cases h1
      cases h2
      exact q _
    | succ i => simp at h1
end
theorem q_par {i j : Nat} {ta : TA} {u : TS} {D : Ends} {σ : L2.St} {H : Hp} (h : ta σ H fun vs H1 => ∃ v w, vs = [v, w] ∧ u D ((σ.set i (some v)).set j (some w)) H1) : tSeq (tPar i j ta) u D σ H := h
/-! ### a loop over a new list of such things -/
section
variable {α : Type} {F : α → V → Hp → Prop} {is : List α} {K : PySem.W.Frag} {σ : L2.St} {H : Hp} {tl : TE} {g : TG} {tu tz : TS} {D : Ends}
theorem q_forY (m : ∀ i v H H', Ex H H' → F i v H → F i v H') (h : Yi tl σ H (LstOf F is)) (Pv : Nat → L2.St → Prop) (h0 : Pv 0 σ)
    (hs : ∀ i d x H1 σ' H', is[i]? = some d → Ex H H1 → Ex H1 H' → F d x H' → Pv i σ' → g x σ' H' fun σ2 H2 => tu { D with nx := fun σ3 H3 => Pv (i + 1) σ3 ∧ Ex H1 H3, ct := fun σ3 H3 => Pv (i + 1) σ3 ∧ Ex H1 H3, bk := tz D } σ2 H2)
    (hd : ∀ σ' H', Ex H H' → Pv is.length σ' → tz D σ' H') : tSeq (tFor (iList K tl) g tu) tz D σ H := h H (Ex.refl H) _ fun x H1 e1 l => by
  obtain ⟨p, vs, rfl, hp, q⟩ := l
  refine ⟨p, rfl, ⟨vs, sq_of hp⟩, for_list (fun i σ' H' => Pv i σ' ∧ Ex H1 H') ⟨h0, Ex.refl H1⟩ (fun i σ' H' _ z => sq_of (z.2 _ _ hp)) (fun i x σ' H' hx z => ?_) fun σ' H' z => ?_⟩
  · have lt : i < is.length := by
      have := (List.getElem?_eq_some_iff.mp hx).1
      rw [← paired_len q] at this
      exact this
    have e2 : is[i]? = some is[i] := by simp [lt]
    obtain ⟨y, e3, f⟩ := paired_get q e2
    rw [hx] at e3
    cases e3
    exact hs i _ x H1 σ' H' e2 e1 z.2 (m _ _ _ _ z.2 f) z.1
  · rw [← paired_len q] at z
    exact hd σ' H' (e1.trans z.2) z.1
end
theorem kbn_pos {K : PySem.W.Frag} {fd : FuncData} {ps : List Str} {n : Nat} (h : KBn K fd ps n [] (fun us ws => us ++ ws.reverse) (fun vs zs => vs ++ zs.reverse)) : KBn K fd ps n [] (fun us _ => us) (fun vs _ => vs) :=
  ⟨fun s us ws X l1 l2 => (by
    cases ws with
    | nil =>
      have z := h.to s us [] X l1 rfl
      rw [List.reverse_nil, List.append_nil] at z
      exact z
    | cons _ _ => cases l2), fun {vs us zs ws} r1 _ => r1⟩
section
variable {K : PySem.W.Frag} {σ : L2.St} {H : Hp} {te ta tb : TE} {D : Ends}
theorem body_ini2 {a C : Addr} {f g : Str} {v u : V} (T : Oex K C) (n : Free K C f) (n2 : Free K C g) (h0 : σ[0]? = some (some (.ref a))) (h1 : σ[1]? = some (some v)) (h2 : σ[2]? = some (some u)) (h : H a = some (exo a C none))
    (k : ∀ d, H d = none → d ≠ a → ∀ H', H' = upd (upd (upd H d (exd d [(f, v)])) a (exo a C (some d))) d (exd d [(g, u), (f, v)]) → D.nx σ H') : tSeq (tSetX K f (tVar 0) (tVar 1)) (tSetX K g (tVar 0) (tVar 2)) D σ H :=
  ⟨v, h1, .ref a, h0, a, C, rfl, T, n, .inl ⟨h, fun d hd ne => ⟨u, h2, .ref a, h0, a, C, rfl, T, n2, .inr ⟨d, [(f, v)], upd_same, by rw [upd_ne ne, upd_same], by simp, k d hd ne _ rfl⟩⟩⟩⟩
theorem el_cat {l : Addr} {xs ys : List V} (ha : Ev ta σ H (.ref l)) (hl : H l = some (.lst xs)) (hb : EvL tb σ H ys) (z : xs.length + ys.length ≤ 100000) : EvL (tOp (fun x y H Q => rI0 (fun i j => .int (i + j)) x y H Q ∨ rCat x y H Q) ta tb) σ H (xs ++ ys) := fun H1 e1 Q q =>
  ha H1 e1 _ fun H2 e2 => hb H2 (e1.trans e2) _ fun p H3 _ e3 h3 => .inr ⟨l, p, xs, ys, rfl, rfl, e3 _ _ (e2 _ _ (e1 _ _ hl)), h3, sz_of z, fun c hc => q c _ (fresh_back (e2.trans e3) hc) ((e2.trans e3).trans (Ex.new hc)) upd_same⟩
theorem el_is {xs ys : List V} (h : EvL te σ H xs) (e : xs = ys) : EvL te σ H ys := e ▸ h
theorem ev_allT {bs : List Bool} (h : EvL te σ H (bs.map V.bl)) : Ev (tCB (rAll K) (tCons te tNil)) σ H (.bl (bs.all id)) := fun H1 e1 Q q => h H1 e1 _ fun p H2 _ e2 h2 => ⟨p, bs, rfl, sq_of h2, q H2 e2⟩
def rMin2 : List V → Hp → VK → Prop := fun xs H Q => ∃ i j, xs = [.int i, .int j] ∧ Q (.int (if j < i then j else i)) H
theorem ev_min2 {i j : Int} (ha : Ev ta σ H (.int i)) (hb : Ev tb σ H (.int j)) : Ev (tCB rMin2 (tCons ta (tCons tb tNil))) σ H (.int (if j < i then j else i)) := fun H1 e Q q =>
  ha H1 e _ fun H2 e2 => hb H2 (e.trans e2) _ fun H3 e3 => ⟨i, j, rfl, q H3 (e2.trans e3)⟩
end
end SwX
set_option Elab.async false
set_option linter.all false
set_option maxRecDepth 100000
set_option maxHeartbeats 4000000
/-! own +, ==, !=, str, len, bool of instances; statements that are never come to -/
namespace SwX
open PySem PySem.Spec PyProof.Rows L2
/-! ### what is never come to -/
theorem ps_never {X : Cx} {st : Stmt} : PS X st (fun _ _ _ => False) := ⟨fun _ _ _ _ _ _ z => z.elim⟩
theorem pss_never {X : Cx} {ss : List Stmt} : PSs X ss (fun _ _ _ => False) := ⟨fun _ _ _ _ _ _ z => z.elim⟩
theorem pe_never {X : Cx} {e : Expr} : PE X e (fun _ _ _ => False) := ⟨fun _ _ _ _ _ _ z => z.elim⟩
theorem rel_ref (a : Addr) : RelV (.ref a) (.ref a) := rfl
theorem rel_bl (k : Bool) : RelV (.bl k) (.bool k) := rfl
/-! ### a def called by the machine, at an around of its own -/
section
variable {X : Cx} {CX : CXT} {n : Nat} {f C : Addr} {fd : FuncData} {ps : List Str} {sp : Sp} {E : XK}
theorem by_machine {A' : Around} {pins : List (Addr × Obj)} {σ : L2.St} {H : Hp} {s : Shared} {Q : VK} {us : List Value} {vs : List V} (F : FnOk X.prog X.w X.K X.mg X.base CX n f fd ps sp) (room : Room n A') (same : A'.frames = X.A.frames) (b : Binds X.K fd ps []) (out : Passes CX X E)
    (I : Inv X pins σ H s) (r : Vals vs us) (h : sp vs H Q E) : wpAny (model X.prog X.w) A' (call (.ref f) us) (fun u s' => ∃ v H', Inv X pins σ H' s' ∧ RelV v u ∧ Q v H') X.xe s := by
  obtain ⟨fr, md, bs, bz, fu, ff, ho, ba⟩ := I.env0
  have z := b s us I.kIn (by simpa [← r.length] using F.len _ _ _ _ h)
  simp only [List.append_nil] at z
  refine wpAny_call (codeAny_mono (F.run A' X.stack s H ⟨us, []⟩ us vs Q E room ⟨same ▸ fr, md, bs, bz, fu, ff, ho, ba⟩ z r h) fun res s' q => ?_)
  cases res with
  | error er => exact out pins σ H s er s' I q
  | ok fl =>
    cases fl with
    | ret u =>
      obtain ⟨v, H', J, rv, q'⟩ := I.after q
      exact ⟨v, H', J, rv, q'⟩
    | next => exact q.elim
    | brk => exact q.elim
    | cont => exact q.elim
/-- the class at C has the def at f for its m -/
structure Spc (K : PySem.W.Frag) (C : Addr) (m : Str) (f : Addr) : Prop where
  at_ : PySem.W.findIn K (.ref C) m = some (some (.ref f))
  fn : PySem.W.isFn K (.ref f) = true
/-- an instance of the class at C in the abstract heap -/
def IsI (H : Hp) (a C : Addr) : Prop := ∃ dx fs, H a = some (.ins C dx fs)
theorem IsI.look {pins : List (Addr × Obj)} {σ : L2.St} {H : Hp} {s : Shared} {a : Addr} (I : Inv X pins σ H s) (h : IsI H a C) : ∃ ox od, PySem.W.InstAt s.heap a ox C od := by
  obtain ⟨dx, fs, e⟩ := h
  obtain ⟨mA, J, _⟩ := ins_get I.hok e
  obtain ⟨od, J, _⟩ := J.look
  exact ⟨_, _, J⟩
theorem IsI.mono {H H' : Hp} {a : Addr} (e : Evl.Ex H H') (h : IsI H a C) : IsI H' a C := by
  obtain ⟨dx, fs, z⟩ := h
  exact ⟨dx, fs, e _ _ z⟩
/-- a op b, both of the class at C -/
def rOwn (C : Addr) (sp : Sp) (E : XK) : R2 := fun x y H Q => ∃ a b, x = .ref a ∧ y = .ref b ∧ IsI H a C ∧ IsI H b C ∧ sp [.ref a, .ref b] H (fun v H' => (∃ c, v = .ref c) ∧ Q v H') E
theorem op_own {op : Operator} (F : FnOk X.prog X.w X.K X.mg X.base CX n f fd ps sp) (S : Spc X.K C (PySem.dunder op.info.2) f) (first : PySem.W.selfFirst X.K C = true) (b : Binds X.K fd ps []) (out : Passes CX X E) (room : Room n X.A) : OpR X (binaryOp op) (rOwn C sp E) := by
  intro pins s σ H x y v u Q I rx ry h
  obtain ⟨a, c, rfl, rfl, ia, ic, q⟩ := h
  cases rx
  cases ry
  obtain ⟨ox, od, J⟩ := ia.look I
  obtain ⟨oy, oe, J'⟩ := ic.look I
  obtain ⟨m, fr⟩ := I.fr
  refine PySem.W.binop_K fr I.ok.mod.kin J J'.type first S.at_ S.fn (wpAny_mono (by_machine F room rfl b out I (.cons (rel_ref _) (.cons (rel_ref _) .nil)) q) (fun r s' z => ?_) fun _ _ z => z)
  obtain ⟨v, H', K', rv, ⟨w, rfl⟩, q'⟩ := z
  cases rv
  exact ⟨_, H', K', rel_ref _, q'⟩
/-- a == b, both of the class at C -/
def rOwnB (C : Addr) (sp : Sp) (E : XK) (g : Bool → Bool) : R2 := fun x y H Q => ∃ a b, x = .ref a ∧ y = .ref b ∧ IsI H a C ∧ IsI H b C ∧ sp [.ref a, .ref b] H (fun v H' => ∃ k, v = .bl k ∧ Q (.bl (g k)) H') E
theorem op_eqOwn (F : FnOk X.prog X.w X.K X.mg X.base CX n f fd ps sp) (S : Spc X.K C "__eq__" f) (b : Binds X.K fd ps []) (out : Passes CX X E) (room : Room n X.A) : OpR X (compareOp .Eq) (rOwnB C sp E id) := by
  intro pins s σ H x y v u Q I rx ry h
  obtain ⟨a, c, rfl, rfl, ia, ic, q⟩ := h
  cases rx
  cases ry
  obtain ⟨ox, od, J⟩ := ia.look I
  obtain ⟨oy, oe, J'⟩ := ic.look I
  obtain ⟨m, fr⟩ := I.fr
  have un := room.un
  show wpAny (model X.prog X.w) X.A (richCompare .Eq _ _) _ _ _
  refine PySem.W.cmp_K (op := .Eq) (tb := .ref C) (by omega) fr I.ok.mod.kin J J'.type (by simp [PySem.W.notFirst]) S.at_ S.fn (wpAny_mono (by_machine F room rfl b out I (.cons (rel_ref _) (.cons (rel_ref _) .nil)) q) (fun r s' z => ?_) fun _ _ z => z)
  obtain ⟨v, H', K', rv, k, rfl, q'⟩ := z
  cases rv
  exact ⟨_, H', K', rel_bl _, q'⟩
/-! != of a class that has == alone -/
/-- the class at C: over object alone, the def at f for its ==, no != -/
def eqOnly (K : PySem.W.Frag) (C f : Addr) : Bool := match K.lookup C with
  | some ⟨ty, _, .cls ⟨_, _, mro, N, _, _, _, _, _, _, del⟩, ⟨[_, _, _, _, some (.builtin _), _]⟩⟩ => decide (ty = .type "type") && (decide (mro = [.ref C, .type "object"]) && (!del && (PySem.W.nsOkIn K N && (He.eqO (PySem.W.nsIn K N "__eq__") (some (some (.ref f))) && (He.eqO (PySem.W.nsIn K N "__ne__") (some none) &&
    (match K.lookup f with
    | some o => decide (o.cls = .type "function")
    | none => false))))))
  | _ => false
theorem ns_some_of {K : PySem.W.Frag} {h : Heap} {N : Addr} {mp : Str → Option Value} {x : Str} {v : Value} (L : K.In h) (G : h.Ns N mp) (e : PySem.W.nsIn K N x = some (some v)) : mp x = some v := by
  obtain ⟨o, es, ep, ho, hd, _, look⟩ := G
  unfold PySem.W.nsIn at e
  split at e
  · rename_i c d es' n' sl at_
    have z := L _ _ at_
    rw [ho] at z
    cases z
    cases hd
    split at e
    · rename_i en found
      cases e
      have y := look x
      unfold nsFind findBy at y
      rw [← Array.find?_toList, found] at y
      exact y.symm
    · split at e <;> cases e
  · cases e
theorem eqOnly_of {K : PySem.W.Frag} {h : Heap} {a : Addr} {ox : Obj} {od : Option Obj} (L : K.In h) (J : PySem.W.InstAt h a ox C od) (e : eqOnly K C f = true) : h.OwnEqNoNe a C f "object" [.type "object"] := by
  unfold eqOnly at e
  split at e
  · rename_i ty dd nm bs mro N qn hd sn sub ab col del k0 k1 k2 k3 nid k5 at_
    simp only [Bool.and_eq_true, decide_eq_true_eq, Bool.not_eq_true', He.eqO] at e
    obtain ⟨rfl, rfl, rfl, ok, eq, ne, fn⟩ := e
    split at fn
    · rename_i o lk
      have G := Heap.Ns.of_isNs (PySem.W.isNs_of_in L ok)
      exact ⟨ox, o, nm, qn, N, bs, hd, sn, sub, ab, col, dd, k0, k1, k2, k3, k5, nid, _, _, J.at_, J.cls, L _ _ at_, G, ns_some_of L G eq, L _ _ lk, of_decide_eq_true fn, PySem.F.mro_object, PySem.F.cmp_object.eq.lookup, PySem.W.ns_none_of L G ne⟩
    · cases fn
  · cases e
theorem op_neOwn (F : FnOk X.prog X.w X.K X.mg X.base CX n f fd ps sp) (S : eqOnly X.K C f = true) (b : Binds X.K fd ps []) (out : Passes CX X E) (room : Room n X.A.in1) : OpR X (compareOp .NotEq) (rOwnB C sp E not) := by
  intro pins s σ H x y v u Q I rx ry h
  obtain ⟨a, c, rfl, rfl, ia, ic, q⟩ := h
  cases rx
  cases ry
  obtain ⟨ox, od, J⟩ := ia.look I
  obtain ⟨oy, oe, J'⟩ := ic.look I
  have un := room.un
  have Y := eqOnly_of I.kIn J S
  obtain ⟨hh, g, d, t, os⟩ := s
  have more : X.A.in1.units = X.A.units + 1 := rfl
  refine compareOp_ne_ownEq PySem.F.cmp_object Y J'.at_ J'.cls (by omega) (wpAny_mono (by_machine F room rfl b out I (.cons (rel_ref _) (.cons (rel_ref _) .nil)) q) (fun r s' z => ?_) fun _ _ z => z)
  obtain ⟨v, H', K', rv, k, rfl, q'⟩ := z
  cases rv
  exact ⟨k, rfl, .bl (!k), H', K', rel_bl _, q'⟩
/-! len, bool, str -/
def rLenOwn (C : Addr) (sp : Sp) (E : XK) : List V → Hp → VK → Prop := fun xs H Q => ∃ a, xs = [.ref a] ∧ IsI H a C ∧ sp [.ref a] H (fun v H' => ∃ k : Int, v = .int k ∧ 0 ≤ k ∧ k < 2 ^ 63 ∧ Q (.int k) H') E
theorem call_lenOwn (F : FnOk X.prog X.w X.K X.mg X.base CX n f fd ps sp) (S : Spc X.K C "__len__" f) (b : Binds X.K fd ps []) (out : Passes CX X E) (room : Room n X.A.in1) : CallR X (.builtin "len") (rLenOwn C sp E) := by
  intro pins s σ H xs us Q I r h
  obtain ⟨a, rfl, ia, q⟩ := h
  obtain ⟨u, rfl, ru⟩ := Vals.one r
  cases ru
  obtain ⟨ox, od, J⟩ := ia.look I
  obtain ⟨m, fr⟩ := I.fr
  refine PySem.W.len_K fr I.ok.mod.kin J S.at_ S.fn (wpAny_mono (by_machine F room rfl b out I (.cons (rel_ref _) .nil) q) (fun r s' z => ?_) fun _ _ z => z)
  obtain ⟨v, H', K', rv, k, rfl, k0, k1, q'⟩ := z
  obtain ⟨t, rfl⟩ := rv
  exact ⟨⟨k0, k1⟩, .int k, H', K'.tok _, ⟨_, rfl⟩, q'⟩
def rStrOwn (C : Addr) (sp : Sp) (E : XK) : List V → Hp → VK → Prop := fun xs H Q => ∃ a, xs = [.ref a] ∧ IsI H a C ∧ sp [.ref a] H (fun v H' => ∃ z : Str, v = .str z ∧ Q (.str z) H') E
theorem call_strOwn (F : FnOk X.prog X.w X.K X.mg X.base CX n f fd ps sp) (S : Spc X.K C "__str__" f) (b : Binds X.K fd ps []) (out : Passes CX X E) (room : Room n X.A.in1.in1) : CallR X (.type "str") (rStrOwn C sp E) := by
  intro pins s σ H xs us Q I r h
  obtain ⟨a, rfl, ia, q⟩ := h
  obtain ⟨u, rfl, ru⟩ := Vals.one r
  cases ru
  obtain ⟨ox, od, J⟩ := ia.look I
  have un := room.un
  refine PySem.W.kso_call (by omega) I.kIn J S.at_ S.fn (wpAny_mono (by_machine F room rfl b out I (.cons (rel_ref _) .nil) q) (fun r s' z => ?_) fun _ _ z => z)
  obtain ⟨v, H', K', rv, k, rfl, q'⟩ := z
  obtain ⟨t, rfl⟩ := rv
  exact ⟨.str k, H', K', ⟨_, rfl⟩, q'⟩
end
end SwX
set_option Elab.async false
set_option linter.all false
set_option maxRecDepth 100000
set_option maxHeartbeats 4000000
/-! for i, x in enumerate(a tuple) -/
namespace SwX
open PySem PySem.Spec PyProof.Rows L2
theorem enum_made {v : Value} {o : Obj} {Ok : Heap → Prop} (B : Begins v o Ok) : Meets (Builtin.«enumerate.__new__» ⟨[.type "enumerate", v], []⟩) (fun _ R s => Ok s.heap ∧
    R (.ok (.ret (.ref (s.heap.push o).objs.size))) { s with heap := (s.heap.push o).push { cls := .type "enumerate", data := .fields #[.none, .bool false, .ref s.heap.objs.size, rawInt 0, .none, .none] } }) :=
  .of_wp fun prog w A R s z => by
    obtain ⟨ok, fin⟩ := z
    obtain ⟨hp, gs, dr, tk, os⟩ := s
    have sub := sub_enumerate
    have starts : ∀ {A' : Around} {E Q : Value → Shared → Prop}, Q (.ref hp.objs.size) ⟨hp.push o, gs, dr, tk, os⟩ → wpAny (model prog w) A' (pyIter v) Q E ⟨hp, gs, dr, tk, os⟩ := fun q => B.iter prog w _ _ ⟨hp, gs, dr, tk, os⟩ _ ok q
    wp_walk using starts
    refine wpAny_stack_any fun st => wpAny_pure ?_
    split
    · rename_i c _ _ _ _ _
      cases (c == Value.type "enumerate") <;> (wp_walk using starts; exact ⟨_, rfl, fin⟩)
    · wp_walk using starts
      exact ⟨_, rfl, fin⟩
section
variable {prog : Program} {w : World} {A : Around} {E : Value → Shared → Prop} {s : Shared}
theorem call_enum1 {v : Value} {o : Obj} {Ok : Heap → Prop} {Q : Value → Shared → Prop} (B : Begins v o Ok) (ok : Ok s.heap)
    (k : ∀ h', IsEnum h' (s.heap.objs.size + 1) s.heap.objs.size 0 .none → h'.get? s.heap.objs.size = some o → (∀ b u, s.heap.get? b = some u → h'.get? b = some u) → Q (.ref (s.heap.objs.size + 1)) { s with heap := h' }) : wpAny (model prog w) A (call (.type "enumerate") [v]) Q E s := by
  have size1 : (s.heap.push o).objs.size = s.heap.objs.size + 1 := Heap.size_push ..
  have made := Heap.get?_push_size (s.heap.push o) (o := { cls := .type "enumerate", data := .fields #[.none, .bool false, .ref s.heap.objs.size, rawInt 0, .none, .none] }) rfl
  rw [size1] at made
  refine callType_new F.called_enumerate (by decide) (F.typeCall_enumerate_1 _) (F.newCall_enumerate_1 _) (fun z => F.args_object_init_2 z _) F.entry_enumerate_new (enum_made B) ⟨ok, ?_⟩
  rw [size1]
  exact ⟨⟨_, made, rfl⟩, k _ made (Heap.get?_push_of_some _ (Heap.get?_push_size _ B.free)) fun b u e => Heap.get?_push_of_some _ (Heap.get?_push_of_some _ e)⟩
end
/-- the tuple at a, each item in a new pair with its place -/
def Itu (K : PySem.W.Frag) (a : Addr) : It :=
  ⟨fun i H => ∃ (xs : List V) (x : V), SqT K H a xs ∧ xs[i]? = some x, fun i H v H' => ∃ T x, v = .ref T ∧ H T = none ∧ H' = upd H T (.tup [.int (i : Nat), x]) ∧ ∀ xs, SqT K H a xs → xs[i]? = some x, fun i H => ∃ xs : List V, SqT K H a xs ∧ i = xs.length⟩
theorem tuple_same {X : Cx} {pins : List (Addr × Obj)} {σ : L2.St} {H : Hp} {s : Shared} {a : Addr} {xs ys : List V} (I : Inv X pins σ H s) (h : SqT X.K H a xs) (h' : SqT X.K H a ys) : xs = ys := I.tuple_inj h h'
theorem turn_enumT {P : Program} {w : World} {K : PySem.W.Frag} {elts : List Expr} {kk : Nat} {tpos : Pos} (a e it : Addr) :
    Turn P w K (.Tuple elts kk tpos) (Itu K a) [e, it] e (fun i h => (∃ old, IsEnum h e it ((i : Nat) : Int) old) ∧ h.IsTupleIter it a i ∧ e ≠ it) where
  mem := List.mem_cons_self
  obj := fun i h st b hb => by
    obtain ⟨⟨old, he⟩, ⟨o, ho, _, hd⟩, _⟩ := st
    rcases (show b = e ∨ b = it by simpa using hb) with rfl | rfl
    · exact ⟨_, he, fun v q => nomatch q⟩
    · exact ⟨o, ho, fun v q => by rw [hd] at q; cases q⟩
  keep := fun i h h' st k => by
    obtain ⟨⟨old, he⟩, hi, ne⟩ := st
    exact ⟨⟨old, k e (by simp) _ he⟩, hi.at fun o q => k it (by simp) o q, ne⟩
  item := by
    rintro X rfl rfl rfl hc i pins s σ H E I hf ⟨⟨old, he⟩, hit, ne⟩ ⟨xs, x, hq, hx⟩
    obtain ⟨its, rv, tup, _⟩ := I.tuple hq
    obtain ⟨u, hu, ru⟩ := rv.get hx
    have el : e < s.heap.objs.size := Heap.lt_size he
    have il : it < s.heap.objs.size := by
      obtain ⟨_, q, _⟩ := hit
      exact Heap.lt_size q
    have ah : a ≠ e ∧ a ≠ it := by
      obtain ⟨o, ho, hcl, _⟩ := tup
      refine ⟨fun z => ?_, fun z => ?_⟩
      · rw [z, he] at ho
        cases ho
        simp at hcl
      · obtain ⟨o', ho', hcl', _⟩ := hit
        rw [z, ho'] at ho
        cases ho
        rw [hcl] at hcl'
        simp at hcl'
    have hlt : i < its.toArray.size := by
      rw [List.size_toArray]
      exact (List.getElem?_eq_some_iff.mp hu).1
    refine wpAny_pyNext_enum_itemD (Draws.tuple (show X.A.in1.handled = none from I.ok.hd hc) it a ah.2 its.toArray) he ⟨hit, tup⟩ hlt ne (by simp [ne, Ne.symm ah.1]) fun x' h' tk px out st' tT sz keep => ?_
    have ex : x' = u := by
      have px : its.toArray[i]? = some x' := px
      rw [List.getElem?_toArray, hu] at px
      exact (Option.some.inj px).symm
    subst ex
    refine ⟨_, rfl, wpAny_letOwnedTupleGo_enum (s := { s with heap := h', toks := tk + 1 }) out fun h2 he2 sb => ?_⟩
    have tT2 := (sb.2 _ (Nat.ne_of_gt el)).trans tT
    have fresh : H s.heap.objs.size = none := I.hok.fresh (Nat.le_refl _)
    have J : Inv X pins σ (upd H s.heap.objs.size (.tup [.int (i : Nat), x])) { s with heap := h2, toks := tk + 1 } :=
      I.turnedNew (ch := [e, it]) (fun b ob hb q => (sb.2 b fun z => hb (by simp [z])).trans (keep b ob (fun z => hb (by simp [z])) (fun z => hb (by simp [z])) q)) hf (Nat.le_refl _)
        ⟨show 2 ≤ sizeLine by decide, [.int i tk, x'], .cons ⟨_, rfl⟩ (.cons ru .nil), ⟨_, tT2, rfl, _, rfl⟩⟩
    refine ⟨.ref s.heap.objs.size, _, J, rfl, ⟨_, x, rfl, fresh, rfl, fun ys hy => by rw [tuple_same I hy hq]; exact hx⟩, ⟨⟨x', ?_⟩, st'.1.at fun o q => (sb.2 it (Ne.symm ne)).trans q, ne⟩, fun b hb => ?_⟩
    · rw [show (((i + 1 : Nat) : Int)) = (i : Int) + 1 by omega]
      exact he2
    · have hb' : b < s.heap.objs.size := by
        rcases (show b = e ∨ b = it by simpa using hb) with rfl | rfl
        · exact el
        · exact il
      rw [upd_ne (Nat.ne_of_lt hb')]
      exact (hf b hb).1
  done := by
    rintro X rfl rfl rfl hc i pins s σ H E I hf ⟨⟨old, he⟩, hit, ne⟩ ⟨xs, hq, hx⟩
    obtain ⟨its, rv, tup, _⟩ := I.tuple hq
    obtain ⟨f0, f1, f2, f3, f4, f5⟩ := hf it (by simp)
    have len := rv.length
    have ah : a ≠ it := by
      obtain ⟨o, ho, hcl, _⟩ := tup
      intro z
      obtain ⟨o', ho', hcl', _⟩ := hit
      rw [z, ho'] at ho
      cases ho
      rw [hcl] at hcl'
      simp at hcl'
    have eq : i = its.toArray.size := by
      rw [List.size_toArray]
      omega
    subst eq
    exact wpAny_pyNext_enum_endD (Draws.tuple (show X.A.in1.handled = none from I.ok.hd hc) it a ah its.toArray) he ⟨hit, tup⟩ fun h' eb => ⟨rfl, I.turned (t' := s.toks) (fun b o hb q => eb b o hb q) f0 f1 f3 f4 f5⟩
  self := fun A i s Q E st h => by
    obtain ⟨⟨_, he⟩, _⟩ := st
    exact wpAny_pyIter_enum he h
def iEnumT (K : PySem.W.Frag) (ta : TA) : TI := fun σ H R => ta σ H fun vs H1 => ∃ a xs, vs = [.ref a] ∧ SqT K H1 a xs ∧ R (Itu K a) H1
theorem pi_enumT {X : Cx} {e : Expr} {ta : TA} {p pos tpos : Pos} {elts : List Expr} {kk : Nat} (hg : Gl X "enumerate") (hm : X.mg "enumerate" = none) (ha : PA X [e] ta) (hs : starEach [e] X.env = [(false, eval e X.env)] := by rfl) :
    PI X (.Tuple elts kk tpos) (.Call (.Name "enumerate" p) [e] [] pos) (iEnumT X.K ta) := by
  refine ⟨fun pins s σ H R I h => Call_ (ld_blt I hg hm boot_enumerate (PyProof.Rows.callWith_type1 (thn (ha.run pos pins s σ H _ I h) fun us s1 z => ?_) hs rfl))⟩
  obtain ⟨vs, H1, I1, r1, a, xs, rfl, hq, q⟩ := z
  obtain ⟨u, rfl, ru⟩ := Vals.one r1
  cases ru
  obtain ⟨its, rv, tup, _⟩ := I1.tuple hq
  refine call_enum1 (begins_tuple a its.toArray) tup fun h' he hit keep => wpAny_pyIter_enum he ?_
  have J : Inv X pins σ H1 { s1 with heap := h' } := I1.kept (t' := s1.toks) keep
  refine ⟨s1.heap.objs.size + 1, [s1.heap.objs.size + 1, s1.heap.objs.size], _, _, H1, rfl, J, turn_enumT a (s1.heap.objs.size + 1) s1.heap.objs.size, ⟨⟨.none, he⟩, ⟨_, hit, rfl, rfl⟩, Nat.succ_ne_self _⟩, fun b hb => ?_, q⟩
  have le : s1.heap.objs.size ≤ b := by
    rcases (show b = s1.heap.objs.size + 1 ∨ b = s1.heap.objs.size by simpa using hb) with rfl | rfl
    · exact Nat.le_succ _
    · exact Nat.le_refl _
  exact I1.fpOk le (I1.hok.fresh le)
/-- for i, x in enumerate(the tuple at a): by a word of the turn -/
theorem for_enumT {K : PySem.W.Frag} {a : Addr} {xs : List V} {g : TG} {tb : TS} {D : Ends} {σ : L2.St} {H : Hp} (Pv : Nat → L2.St → Hp → Prop) (h0 : Pv 0 σ H) (hl : ∀ i σ H, i ≤ xs.length → Pv i σ H → SqT K H a xs)
    (hs : ∀ i x T σ H, xs[i]? = some x → H T = none → Pv i σ H → g (.ref T) σ (upd H T (.tup [.int (i : Nat), x])) fun σ2 H2 => tb { D with nx := Pv (i + 1), ct := Pv (i + 1), bk := D.nx } σ2 H2) (hd : ∀ σ H, Pv xs.length σ H → D.nx σ H) :
    ∃ W : Nat → Nat → L2.St → Hp → Prop, (∃ m, W 0 m σ H) ∧ ∀ i m σ H, W i m σ H →
      ((Itu K a).stop i H ∧ D.nx σ H) ∨ ((Itu K a).go i H ∧ ∃ N : L2.St → Hp → Prop, (∀ σ' H', N σ' H' → ∃ m', m' < m ∧ W (i + 1) m' σ' H') ∧ ∀ x H', (Itu K a).yld i H x H' → g x σ H' fun σ2 H2 => tb { D with nx := N, ct := N, bk := D.nx } σ2 H2) := by
  refine ⟨fun i m σ H => m + i = xs.length ∧ Pv i σ H, ⟨xs.length, rfl, h0⟩, fun i m σ H w => ?_⟩
  obtain ⟨le, p⟩ := w
  have q := hl i σ H (by omega) p
  rcases Nat.lt_or_ge i xs.length with lt | ge
  · have some_ : xs[i]? = some xs[i] := List.getElem?_eq_getElem lt
    refine .inr ⟨⟨xs, _, q, some_⟩, Pv (i + 1), fun σ' H' p' => ⟨m - 1, by omega, by omega, p'⟩, fun x H' y => ?_⟩
    obtain ⟨T, x, rfl, fresh, rfl, at_⟩ := y
    exact hs i x T σ H (at_ xs q) fresh p
  · have eq : i = xs.length := by omega
    subst eq
    exact .inl ⟨⟨xs, q, rfl⟩, hd σ H p⟩
end SwX
set_option Elab.async false
set_option linter.all false
set_option maxRecDepth 100000
set_option maxHeartbeats 4000000
/-! fields as targets in a tuple; a class held by a local name called -/
namespace SwX
open PySem PySem.Spec PyProof.Rows L2
/-- .., o.f, .. = .. -/
def gFld (K : PySem.W.Frag) (to : TE) (f : Str) : TG := fun v σ H Q => to σ H fun x H1 => ∃ a C dx fs, x = .ref a ∧ H1 a = some (.ins C dx fs) ∧ Cls K C ∧ NoAttr K C f ∧ fs.length < 1000 ∧ Q σ (upd H1 a (.ins C dx (putF f v fs)))
theorem pg_fldT {X : Cx} {o : Expr} {to : TE} {f : Str} {pos : Pos} (ho : PE X o to) : PG X (.Attribute o f pos) (gFld X.K to f) := by
  refine ⟨fun pins s σ H v u Q I r h => ?_⟩
  rw [arm_assign_Attribute]
  refine wpAny_bind (wpAny_holding (thn (ho.run pins s σ H _ I h) fun ov s1 z => ?_))
  obtain ⟨x, H1, I1, rx, a, C, dx, fs, rfl, ea, c, n, l, q⟩ := z
  cases rx
  refine wpAny_bind (wpAny_standAt (wpAny_bind (wpAny_holding (setattr_ok I1 ea c n l r fun s3 I3 => ?_))))
  first
    | exact wpAny_release ⟨σ, _, I3, q⟩
    | exact wpAny_pure ⟨σ, _, I3, q⟩
/-- x(e, ..), x a local name that holds the class at C -/
def tMakeL (i : Nat) (C : Addr) (sp : Sp) (dvs : List V) (E : XK) (t : TA) : TE := fun σ H Q => σ[i]? = some (some (.ref C)) ∧ tMake C sp dvs E t σ H Q
theorem pe_makeL {X : Cx} {CX : CXT} {k i : Nat} {f C : Addr} {fd : FuncData} {ps : List Str} {sp : Sp} {E : XK} {dvs : List V} {ds : List Value} {x : Str} {p pos : Pos} {e : Expr} {es : List Expr} {t : TA} (M : Mk X.K C f) (F : FnOk X.prog X.w X.K X.mg X.base CX k f fd ps sp) (room : Room (k + 1) X.A) (hN : X.N[i]? = some x) (hv : Vis X.env.scope x) (hb : Binds X.K fd ps ds) (hd : Vals dvs ds) (out : Passes CX X E) (ha : PA X (e :: es) t)
    (hdb : (x == ("__debug__" : Str)) = false := by decide) (hcd : (x == ("__classdict__" : Str)) = false := by decide) (he : starEach (e :: es) X.env = (false, eval e X.env) :: starEach es X.env := by rfl) (hpl : (backTo pos (starEach es X.env)).any (·.1) = false := by rfl) :
    PE X (.Call (.Name x p) (e :: es) [] pos) (tMakeL i C sp dvs E t) := by
  refine ⟨fun pins s σ H Q I h => ?_⟩
  have look := (pe_var (pos := p) hN hv hdb hcd).run pins s σ H (fun v H1 => v = .ref C ∧ H1 = H) I ⟨.ref C, h.1, rfl, rfl⟩
  refine wpAny_Call_Name_kw (thn look fun u s1 z => ?_)
  obtain ⟨v, H1, I1, r1, rfl, rfl⟩ := z
  cases r1
  refine PySem.W.callWith_K (h₀ := X.base) I1.ok.mod.kin M.kp (thn (ha.run pos pins s1 σ _ _ I1 h.2) fun us s2 z => ?_) he hpl
  obtain ⟨vs, H2, I2, r, q⟩ := z
  exact ⟨I2.kIn, run_make M F room hb hd out I2 r q⟩
end SwX
set_option Elab.async false
set_option linter.all false
set_option maxRecDepth 100000
set_option maxHeartbeats 4000000
/-! data compared, looked for; texts, tuples, lists by joined rules -/
namespace SwX
open PySem PySem.Spec PyProof.Rows L2 Evl
/-! ### data without dicts -/
theorem dpAll_of {K : PySem.W.Frag} {H : Hp} : ∀ {xs : List V} {ds : List PyData}, xs.length = ds.length → (∀ (i : Nat) x d, xs[i]? = some x → ds[i]? = some d → Dp K H x d) → DpAll K H xs ds
  | [], [], _, _ => .nil
  | [], _ :: _, l, _ => by cases l
  | _ :: _, [], l, _ => by cases l
  | x :: xs, d :: ds, l, k => .cons (k 0 x d rfl rfl) (dpAll_of (Nat.succ.inj l) fun i x' d' e1 e2 => k (i + 1) x' d' (by simpa using e1) (by simpa using e2))
theorem noDict_at : ∀ {ds : List PyData} {i : Nat} {d : PyData}, PyData.hasDictAll ds = false → ds[i]? = some d → d.hasDict = false
  | [], _, _, _, e => by simp at e
  | x :: xs, 0, d, n, e => by
    simp at e
    subst e
    simp only [PyData.hasDictAll, Bool.or_eq_false_iff] at n
    exact n.1
  | x :: xs, i + 1, d, n, e => by
    simp only [PyData.hasDictAll, Bool.or_eq_false_iff] at n
    exact noDict_at (i := i) n.2 (by simpa using e)
theorem Da.dp {K : PySem.W.Frag} {H : Hp} {v : V} {d : PyData} (h : Da K H v d) : d.hasDict = false → Dp K H v d := by
  induction h with
  | non => exact fun _ => .non
  | bl b => exact fun _ => .bl b
  | int i => exact fun _ => .int i
  | str x => exact fun _ => .str x
  | lst h l _ ih => exact fun n => .lst (sq_of h) (dpAll_of l fun i x d e1 e2 => ih i x d e1 e2 (noDict_at (by simpa only [PyData.hasDict] using n) e2))
  | tup h l _ ih => exact fun n => .tup h (dpAll_of l fun i x d e1 e2 => ih i x d e1 e2 (noDict_at (by simpa only [PyData.hasDict] using n) e2))
  | dic h l _ _ => exact fun n => by simp [PyData.hasDict] at n
/-- plain enough for == -/
structure Pl (d : PyData) : Prop where
  nd : d.hasDict = false
  sh : SeqAt.shaped d = true
section
variable {X : Cx} {k : Nat}
/-- x in y, y a list | a tuple that is data -/
def rInDat (K : PySem.W.Frag) (neg : Bool) : R2 := fun x y H Q => ∃ d c ds, (c = .list ds ∨ c = .tuple ds) ∧ Da K H x d ∧ Da K H y c ∧ Pl d ∧ Pl c ∧ Q (.bl (if neg then !ds.any fun z => PyData.eqv z d else ds.any fun z => PyData.eqv z d)) H
theorem op_inDat (hr : Room k X.A) : OpR X (compareOp .In) (rInDat X.K false) := by
  intro pins s σ H x y v u Q I rx ry h
  obtain ⟨d, c, ds, hc, hx, hy, px, py, q⟩ := h
  obtain ⟨as, r1⟩ := Dp.reads I d x v (hx.dp px.nd) rx
  obtain ⟨bs, r2⟩ := Dp.reads I c y u (hy.dp py.nd) ry
  have un := hr.un
  rcases hc with rfl | rfl
  · exact SeqAt.in_list_reads r2 r1 (SeqAt.canLay_of_shaped py.sh) (SeqAt.canLay_of_shaped px.sh) (room_in_shaped px.sh (by omega)) ⟨.bl _, H, I, rel_bl _, q⟩
  · exact SeqAt.in_tuple_reads r2 r1 (SeqAt.canLay_of_shaped py.sh) (SeqAt.canLay_of_shaped px.sh) (room_in_shaped px.sh (by omega)) ⟨.bl _, H, I, rel_bl _, q⟩
theorem op_niDat (hr : Room k X.A) : OpR X (compareOp .NotIn) (rInDat X.K true) := by
  intro pins s σ H x y v u Q I rx ry h
  obtain ⟨d, c, ds, hc, hx, hy, px, py, q⟩ := h
  obtain ⟨as, r1⟩ := Dp.reads I d x v (hx.dp px.nd) rx
  obtain ⟨bs, r2⟩ := Dp.reads I c y u (hy.dp py.nd) ry
  have un := hr.un
  rcases hc with rfl | rfl
  · exact SeqAt.notIn_list_reads r2 r1 (SeqAt.canLay_of_shaped py.sh) (SeqAt.canLay_of_shaped px.sh) (room_in_shaped px.sh (by omega)) ⟨.bl _, H, I, rel_bl _, q⟩
  · exact SeqAt.notIn_tuple_reads r2 r1 (SeqAt.canLay_of_shaped py.sh) (SeqAt.canLay_of_shaped px.sh) (room_in_shaped px.sh (by omega)) ⟨.bl _, H, I, rel_bl _, q⟩
/-- x == y, both data -/
def rEqDat (K : PySem.W.Frag) (g : Bool → Bool) : R2 := fun x y H Q => ∃ d e, Da K H x d ∧ Da K H y e ∧ Pl d ∧ Pl e ∧ Q (.bl (g (PyData.eqv d e))) H
theorem op_eqDat (hr : Room k X.A) : OpR X (compareOp .Eq) (rEqDat X.K id) := fun pins s σ H x y v u Q I rx ry ⟨d, e, hx, hy, px, py, q⟩ =>
  op_eqD (by have := hr.un; omega) pins s σ H x y v u Q I rx ry ⟨d, e, hx.dp px.nd, hy.dp py.nd, px.sh, py.sh, q⟩
theorem op_neDat (hr : Room k X.A) : OpR X (compareOp .NotEq) (rEqDat X.K not) := fun pins s σ H x y v u Q I rx ry ⟨d, e, hx, hy, px, py, q⟩ =>
  op_neD (by have := hr.un; omega) pins s σ H x y v u Q I rx ry ⟨d, e, hx.dp px.nd, hy.dp py.nd, px.sh, py.sh, q⟩
/-- text + text -/
def rCatZ : R2 := fun x y H Q => ∃ i j, x = .str i ∧ y = .str j ∧ i.length + j.length ≤ sizeLine ∧ Q (.str (i ++ j)) H
/-- a + b: ints | lists | texts | tuples -/
def rAddX (K : PySem.W.Frag) : R2 := fun x y H Q => rI0 (fun i j => .int (i + j)) x y H Q ∨ rCat x y H Q ∨ rCatZ x y H Q ∨ rCatA K x y H Q
theorem op_addX : OpR X (binaryOp .Add) (rAddX X.K) := op_join op_add (op_join op_cat (op_join op_add_str op_catA))
/-- x in y: a sign in a text | data in data -/
theorem op_inX (hr : Room k X.A) : OpR X (compareOp .In) (fun x y H Q => (∃ (c : Nat) (z : Str), x = .str ⟨#[c]⟩ ∧ y = .str z ∧ Q (.bl (decide (c ∈ z.cps.toList))) H) ∨ rInDat X.K false x y H Q) := op_join op_in_sign (op_inDat hr)
theorem op_niX (hr : Room k X.A) : OpR X (compareOp .NotIn) (fun x y H Q => (∃ (c : Nat) (z : Str), x = .str ⟨#[c]⟩ ∧ y = .str z ∧ Q (.bl (!decide (c ∈ z.cps.toList))) H) ∨ rInDat X.K true x y H Q) := op_join op_notIn_sign (op_niDat hr)
/-- x == y: flat things | data -/
theorem op_eqX (hr : Room k X.A) : OpR X (compareOp .Eq) (fun x y H Q => rEq x y H Q ∨ rEqDat X.K id x y H Q) := op_join op_eq (op_eqDat hr)
theorem op_neX (hr : Room k X.A) : OpR X (compareOp .NotEq) (fun x y H Q => rNe x y H Q ∨ rEqDat X.K not x y H Q) := op_join op_ne (op_neDat hr)
/-- lo:hi of a list | a tuple | a text -/
def rSlY (K : PySem.W.Frag) : V → Option Int → Option Int → Hp → VK → Prop := fun x lo hi H Q => rSlL K x lo hi H Q ∨ rSlA K x lo hi H Q ∨ rSlS x lo hi H Q
theorem sl_Y : SlR X (rSlY X.K) := SlR.or sl_list (SlR.or sl_tupA sl_str)
/-- len of a list, a tuple | a text -/
def rLenY (K : PySem.W.Frag) : List V → Hp → VK → Prop := fun xs H Q => (∃ p ys, xs = [.ref p] ∧ (SqL K H p ys ∨ SqT K H p ys) ∧ Q (.int ys.length) H) ∨ ∃ z, xs = [.str z] ∧ z.length ≤ sizeLine ∧ Q (.int z.length) H
theorem call_lenY : CallR X (.builtin "len") (rLenY X.K) := cr_join call_len_seq call_len_str
/-- str(x): an int | a text -/
def rStrY : List V → Hp → VK → Prop := fun xs H Q => (∃ i, xs = [.int i] ∧ i.natAbs.log2 < 1920 ∧ Q (.str (toString i)) H) ∨ ∃ a, xs = [.str a] ∧ Q (.str a) H
theorem call_strY : CallR X (.type "str") rStrY := cr_join call_str_int SkE.call_str_str
end
end SwX
set_option Elab.async false
set_option linter.all false
set_option maxRecDepth 100000
set_option maxHeartbeats 4000000
/-! names, rules of a catalogue: plain, and as data -/
namespace SwX
open PySem PySem.Spec PyProof.Rows L2 Evl
abbrev Nm := List Nat
abbrev Rul := Nm × Nat × List Nm
def okSign (c : Nat) : Prop := (97 ≤ c ∧ c ≤ 122) ∨ (48 ≤ c ∧ c ≤ 57)
structure NameOk (n : Nm) : Prop where
  hd : ∃ c r, n = c :: r ∧ 97 ≤ c ∧ c ≤ 122
  len : n.length ≤ 8
  sg : ∀ c ∈ n, okSign c
structure NamesOk (ns : List Nm) : Prop where
  ne : ns ≠ []
  len : ns.length ≤ 4
  nd : ns.Nodup
  ok : ∀ n ∈ ns, NameOk n
structure RulOk (ns : List Nm) (r : Rul) : Prop where
  wd : r.1 ∈ ns
  lo : 1 ≤ r.2.1
  hi : r.2.1 ≤ 9
  len : r.2.2.length ≤ 3
  pt : ∀ p ∈ r.2.2, p ∈ ns
structure RulesOk (ns : List Nm) (rs : List Rul) : Prop where
  len : rs.length ≤ 10
  nd : rs.Nodup
  ok : ∀ r ∈ rs, RulOk ns r
def nmD (n : Nm) : PyData := .str (SX.S n)
def nmsD (ns : List Nm) : PyData := .tuple (ns.map nmD)
def rulD (r : Rul) : PyData := .tuple [nmD r.1, .int (r.2.1 : Nat), nmsD r.2.2]
def rulsD (rs : List Rul) : PyData := .tuple (rs.map rulD)
theorem nmD_eqv (a b : Nm) : PyData.eqv (nmD a) (nmD b) = decide (a = b) := by
  show (SX.S a == SX.S b) = _
  exact SX.S_beq_eq
theorem nms_eqv : ∀ a b : List Nm, PyData.eqvAll (a.map nmD) (b.map nmD) = decide (a = b)
  | [], [] => by simp [PyData.eqvAll]
  | [], _ :: _ => by simp [PyData.eqvAll]
  | _ :: _, [] => by simp [PyData.eqvAll]
  | x :: a, y :: b => by
    have h1 := nmD_eqv x y
    have h2 := nms_eqv a b
    simp only [List.map_cons, PyData.eqvAll, h1, h2]
    rw [Bool.eq_iff_iff]
    simp
theorem nmsD_eqv (a b : List Nm) : PyData.eqv (nmsD a) (nmsD b) = decide (a = b) := by
  show PyData.eqv (.tuple _) (.tuple _) = _
  simp only [PyData.eqv]
  exact nms_eqv a b
theorem rulD_eqv (a b : Rul) : PyData.eqv (rulD a) (rulD b) = decide (a = b) := by
  obtain ⟨w, o, p⟩ := a
  obtain ⟨w', o', p'⟩ := b
  unfold rulD
  simp only [PyData.eqv, PyData.eqvAll, nmD_eqv, nmsD_eqv]
  rw [Bool.eq_iff_iff]
  simp [Prod.ext_iff]
  omega
theorem ruls_eqv : ∀ a b : List Rul, PyData.eqvAll (a.map rulD) (b.map rulD) = decide (a = b)
  | [], [] => by simp [PyData.eqvAll]
  | [], _ :: _ => by simp [PyData.eqvAll]
  | _ :: _, [] => by simp [PyData.eqvAll]
  | x :: a, y :: b => by
    have h1 := rulD_eqv x y
    have h2 := ruls_eqv a b
    simp only [List.map_cons, PyData.eqvAll, h1, h2]
    rw [Bool.eq_iff_iff]
    simp
theorem any_rul (rs : List Rul) (r : Rul) : (rs.map rulD).any (fun z => PyData.eqv z (rulD r)) = decide (r ∈ rs) := by
  rw [Bool.eq_iff_iff]
  simp only [List.any_map, List.any_eq_true, Function.comp, rulD_eqv, decide_eq_true_eq]
  exact ⟨fun ⟨x, h, e⟩ => e ▸ h, fun h => ⟨r, h, rfl⟩⟩
theorem any_nm (ns : List Nm) (n : Nm) : (ns.map nmD).any (fun z => PyData.eqv z (nmD n)) = decide (n ∈ ns) := by
  rw [Bool.eq_iff_iff]
  simp only [List.any_map, List.any_eq_true, Function.comp, nmD_eqv, decide_eq_true_eq]
  exact ⟨fun ⟨x, h, e⟩ => e ▸ h, fun h => ⟨n, h, rfl⟩⟩
/-! they are plain -/
theorem lay_all {α : Type} {f : α → PyData} : ∀ {l : List α}, (∀ a ∈ l, (f a).canLay0 = true) → PyData.canLayAll0 (l.map f) = true
  | [], _ => by simp [PyData.canLayAll0]
  | x :: l, h => by
    simp only [List.map_cons, PyData.canLayAll0, Bool.and_eq_true]
    exact ⟨h x List.mem_cons_self, lay_all fun a ha => h a (List.mem_cons_of_mem _ ha)⟩
theorem depth_all {α : Type} {f : α → PyData} {n : Nat} : ∀ {l : List α}, (∀ a ∈ l, (f a).depth ≤ n) → PyData.depthAll (l.map f) ≤ n
  | [], _ => by simp [PyData.depthAll]
  | x :: l, h => by
    simp only [List.map_cons, PyData.depthAll]
    exact Nat.max_le.mpr ⟨h x List.mem_cons_self, depth_all fun a ha => h a (List.mem_cons_of_mem _ ha)⟩
theorem nodict_all {α : Type} {f : α → PyData} : ∀ {l : List α}, (∀ a ∈ l, (f a).hasDict = false) → PyData.hasDictAll (l.map f) = false
  | [], _ => by simp [PyData.hasDictAll]
  | x :: l, h => by
    simp only [List.map_cons, PyData.hasDictAll, Bool.or_eq_false_iff]
    exact ⟨h x List.mem_cons_self, nodict_all fun a ha => h a (List.mem_cons_of_mem _ ha)⟩
end SwX
set_option Elab.async false
set_option linter.all false
set_option maxRecDepth 100000
set_option maxHeartbeats 4000000
/-! lists of draws -/
namespace SwX
open PySem PySem.Spec PyProof.Rows L2 Evl
theorem Pur.ne {H : Hp} {a p : Addr} (h : Pur H a) (n : H p = none) : p ≠ a := fun z => by
  obtain ⟨_, _, _, e, _⟩ := h
  rw [z, e] at n
  cases n
theorem Pur.other {H : Hp} {a p : Addr} {o : HO} (h : Pur H a) (e : H p = some o) (ne : ∀ x y z : Int, o ≠ .lst [.int x, .int y, .int z]) : p ≠ a := fun w => by
  obtain ⟨x, y, z, e', _⟩ := h
  rw [w, e'] at e
  exact ne x y z (Option.some.inj e).symm
theorem pur_new {H : Hp} {a p : Addr} {o : HO} (h : Pur H a) (n : H p = none) : Pur (upd H p o) a := h.keep (Ex.new n)
/-- a list of at most m things of which P holds -/
def DrL (a : Addr) (te : TE) (σ : L2.St) (G : Hp) (m : Nat) (P : V → Prop) : Prop := ∀ H1, Ex G H1 → Pur H1 a → ∀ Q : VK, (∀ p xs H2, xs.length ≤ m → (∀ x ∈ xs, P x) → H2 p = some (.lst xs) → p ≠ a → Ex G H2 → Pur H2 a → Q (.ref p) H2) → te σ H1 Q
section
variable {K : PySem.W.Frag} {σ : L2.St} {G H : Hp} {a : Addr} {te ta tb t0 : TE} {v : V} {P P1 P2 : V → Prop} {D : Ends} {tz : TS} {m : Nat}
theorem drl_lc {j : Nat} {vs : List Nat} (n : G a = none) (h0 : Dr a t0 σ G fun v => ∃ k : Int, v = .int k ∧ 0 ≤ k ∧ k ≤ m) (hm : m ≤ 1000) (hw : ∀ x, wipe ((wipe σ vs).set j (some x)) vs = wipe σ vs)
    (he : ∀ (i : Int) G', G' a = none → Ex G G' → Dr a te ((wipe σ vs).set j (some (.int i))) G' P) : DrL a (tLc (iRng1 (tCons t0 tNil)) (gName j) tYes te vs) σ G m P := fun H1 e1 p1 Q q =>
  h0 H1 e1 p1 _ fun v H2 pv e2 p2 => by
    obtain ⟨k, rfl, k0, k1⟩ := pv
    refine ⟨k, rfl, by omega, by omega, fun D' hD => ?_⟩
    have ne := p2.ne hD
    refine lc_range (lo := 0) (n := k.toNat) (fun i H' => ∃ acc, H' D' = some (.lst acc) ∧ acc.length = i ∧ (∀ x ∈ acc, P x) ∧ Ex G H' ∧ Pur H' a) ⟨[], upd_same, rfl, (fun _ h => nomatch h), e2.trans (Ex.new hD), pur_new p2 hD⟩ (fun i H' hi z => ⟨hw _, ?_⟩) fun H' z => ?_
    · obtain ⟨acc, ha, la, pa, ea, pu⟩ := z
      show te ((wipe σ vs).set j (some (.int (0 + (i : Int))))) H' fun y H4 => ∃ acc, H4 D' = some (.lst acc) ∧ acc.length < sizeLine ∧ ∃ acc', upd H4 D' (.lst (acc ++ [y])) D' = some (.lst acc') ∧ acc'.length = i + 1 ∧ (∀ x ∈ acc', P x) ∧ Ex G (upd H4 D' (.lst (acc ++ [y]))) ∧ Pur (upd H4 D' (.lst (acc ++ [y]))) a
      refine he _ (less a H') less_at (ex_less n ea) H' less_ex pu _ fun y H4 py e4 p4 => ?_
      refine ⟨acc, e4 _ _ (by rw [less_ne ne]; exact ha), sz_lt (by omega), _, upd_same, by simp [la], fun x hx => ?_, ?_, ?_⟩
      · rcases List.mem_append.mp hx with hx | hx
        · exact pa x hx
        · rw [List.mem_singleton.mp hx]
          exact py
      · intro b o hb
        by_cases z : b = D'
        · subst z
          have := e2 _ _ hb
          rw [hD] at this
          cases this
        · rw [upd_ne z]
          exact e4 _ _ (by rw [less_ne (fun w => by rw [w, n] at hb; cases hb)]; exact ea _ _ hb)
      · obtain ⟨x, y', z, e, r⟩ := p4
        exact ⟨x, y', z, by rw [upd_ne (Ne.symm ne)]; exact e, r⟩
    · obtain ⟨acc, ha, la, pa, ea, pu⟩ := z
      exact q D' acc H' (by omega) pa ha ne ea pu
theorem Dr.imp (h : Dr a te σ G P) (i : ∀ v, P v → P1 v) : Dr a te σ G P1 := fun H1 e p Q q => h H1 e p Q fun v H2 pv => q v H2 (i v pv)
/-! texts of one sign, joined -/
theorem join_ones : ∀ cs : List Nat, TL.joinL [] (cs.map fun c => [c]) = cs
  | [] => rfl
  | [c] => rfl
  | c :: d :: r => by
    have h := join_ones (d :: r)
    simp only [List.map_cons] at h ⊢
    show [c] ++ ([] ++ TL.joinL [] ([d] :: r.map fun c => [c])) = c :: d :: r
    rw [h] <;> rfl
theorem ones_of {R : Nat → Prop} : ∀ {xs : List V}, (∀ x ∈ xs, ∃ c, x = .str ⟨#[c]⟩ ∧ R c) → ∃ cs : List Nat, xs = ((cs.map fun c => [c]).map SX.S).map V.str ∧ (∀ c ∈ cs, R c) ∧ cs.length = xs.length
  | [], _ => ⟨[], rfl, (fun _ h => nomatch h), rfl⟩
  | x :: xs, h => by
    obtain ⟨c, rfl, rc⟩ := h x List.mem_cons_self
    obtain ⟨cs, rfl, rs, l⟩ := ones_of (xs := xs) fun y hy => h y (List.mem_cons_of_mem _ hy)
    exact ⟨c :: cs, rfl, fun d hd => (List.mem_cons.mp hd).elim (fun e => e ▸ rc) (rs d), congrArg Nat.succ l⟩
/-- "".join(a list of signs drawn) -/
def rJoin (K : PySem.W.Frag) : V → List V → Hp → VK → Prop := fun x xs H Q => ∃ a p, ∃ ys : List Str, x = .str a ∧ xs = [.ref p] ∧ (SqL K H p (ys.map V.str) ∨ SqT K H p (ys.map V.str)) ∧ (ys.map (·.length)).sum + ys.length * a.length ≤ 16777216 ∧ Q (.str (Txt.join a ys)) H
theorem sum_ones : ∀ cs : List Nat, (((cs.map fun c => [c]).map SX.S).map (·.length)).sum = cs.length
  | [] => rfl
  | c :: cs => by
    have h := sum_ones cs
    simp only [List.map_cons, List.sum_cons, List.length_cons]
    rw [h]
    show 1 + _ = _
    omega
theorem dr_join {R : Nat → Prop} {to : TE} (hm : m ≤ 1000) (ho : Ev to σ G (.str (SX.S []))) (h : DrL a te σ G m fun v => ∃ c, v = .str ⟨#[c]⟩ ∧ R c) : Dr a (tM1 (rJoin K) to te) σ G fun v => ∃ cs : List Nat, v = .str (SX.S cs) ∧ cs.length ≤ m ∧ ∀ c ∈ cs, R c := fun H1 e1 p1 Q q =>
  ho H1 e1 _ fun H2 e2 => ⟨⟨_, rfl⟩, h H2 (e1.trans e2) (p1.keep e2) _ fun p xs H3 l3 px h3 _ e3 p3 => by
    obtain ⟨cs, rfl, rc, lc⟩ := ones_of px
    refine ⟨SX.S [], p, _, rfl, rfl, .inl (sq_of h3), ?_, ?_⟩
    · rw [sum_ones]
      simp only [List.length_map]
      have z : (SX.S []).length = 0 := rfl
      rw [z]
      omega
    · rw [SX.join_S, join_ones]
      exact q _ H3 ⟨cs, rfl, by omega, rc⟩ e3 p3⟩
end
/-! ### the joined rules, the written part named -/
section
variable {X : Cx} {k : Nat} (K : PySem.W.Frag)
theorem ixK (h : X.K = K := by rfl) : IxR X (rIx K) := h ▸ ix_seq
theorem addK (h : X.K = K := by rfl) : OpR X (binaryOp .Add) (rAddX K) := h ▸ op_addX
theorem eqK (hr : Room k X.A) (h : X.K = K := by rfl) : OpR X (compareOp .Eq) (fun x y H Q => rEq x y H Q ∨ rEqDat K id x y H Q) := h ▸ op_eqX hr
theorem neK (hr : Room k X.A) (h : X.K = K := by rfl) : OpR X (compareOp .NotEq) (fun x y H Q => rNe x y H Q ∨ rEqDat K not x y H Q) := h ▸ op_neX hr
theorem inK (hr : Room k X.A) (h : X.K = K := by rfl) : OpR X (compareOp .In) (fun x y H Q => (∃ (c : Nat) (z : Str), x = .str ⟨#[c]⟩ ∧ y = .str z ∧ Q (.bl (decide (c ∈ z.cps.toList))) H) ∨ rInDat K false x y H Q) := h ▸ op_inX hr
theorem niK (hr : Room k X.A) (h : X.K = K := by rfl) : OpR X (compareOp .NotIn) (fun x y H Q => (∃ (c : Nat) (z : Str), x = .str ⟨#[c]⟩ ∧ y = .str z ∧ Q (.bl (!decide (c ∈ z.cps.toList))) H) ∨ rInDat K true x y H Q) := h ▸ op_niX hr
theorem slK (h : X.K = K := by rfl) : SlR X (rSlY K) := h ▸ sl_Y
theorem lenK (h : X.K = K := by rfl) : CallR X (.builtin "len") (rLenY K) := h ▸ call_lenY
end
end SwX
set_option Elab.async false
set_option linter.all false
set_option maxRecDepth 100000
set_option maxHeartbeats 4000000
/-! names and rules drawn: evaluation -/
namespace SwX
open PySem PySem.Spec PyProof.Rows L2 Evl
def nmV (n : Nm) : V := .str (SX.S n)
/-! ### plain data -/
theorem okSign_lt {c : Nat} (h : okSign c) : c < 0x110000 := by
  unfold okSign at h
  omega
theorem nm_lay {n : Nm} (h : ∀ c ∈ n, okSign c) : (nmD n).canLay0 = true := by
  show PyData.strOk (SX.S n) = true
  unfold PyData.strOk
  rw [← Array.all_toList]
  show n.all _ = true
  rw [List.all_eq_true]
  exact fun c hc => decide_eq_true (okSign_lt (h c hc))
theorem shaped_of {d : PyData} (a : d.canLay0 = true) (b : d.depth ≤ 64) : SeqAt.shaped d = true := by
  unfold SeqAt.shaped
  rw [a, Bool.true_and]
  exact decide_eq_true b
theorem pl_nm {n : Nm} (h : NameOk n) : Pl (nmD n) := ⟨rfl, shaped_of (nm_lay h.sg) (Nat.zero_le _)⟩
theorem dep_l (xs : List PyData) : (PyData.list xs).depth = PyData.depthAll xs + 1 := by simp only [PyData.depth]
theorem dep_t (xs : List PyData) : (PyData.tuple xs).depth = PyData.depthAll xs + 1 := by simp only [PyData.depth]
theorem nms_lay {ns : List Nm} (h : ∀ n ∈ ns, NameOk n) : PyData.canLayAll0 (ns.map nmD) = true := lay_all fun n hn => nm_lay (h n hn).sg
theorem nms_dep (ns : List Nm) : PyData.depthAll (ns.map nmD) ≤ 0 := depth_all fun n _ => Nat.le_refl _
theorem nms_nod (ns : List Nm) : PyData.hasDictAll (ns.map nmD) = false := nodict_all fun n _ => rfl
theorem pl_nmL {ns : List Nm} (h : ∀ n ∈ ns, NameOk n) : Pl (.list (ns.map nmD)) := ⟨by simp only [PyData.hasDict]; exact nms_nod ns, shaped_of (by simp only [PyData.canLay0]; exact nms_lay h) (by rw [dep_l]; have := nms_dep ns; omega)⟩
theorem pl_nms {ns : List Nm} (h : ∀ n ∈ ns, NameOk n) : Pl (nmsD ns) := ⟨by unfold nmsD; simp only [PyData.hasDict]; exact nms_nod ns, shaped_of (by unfold nmsD; simp only [PyData.canLay0]; exact nms_lay h) (by unfold nmsD; rw [dep_t]; have := nms_dep ns; omega)⟩
/-- a rule's texts are names -/
def RulNm (r : Rul) : Prop := NameOk r.1 ∧ ∀ p ∈ r.2.2, NameOk p
theorem RulOk.nm {ns : List Nm} {r : Rul} (h : RulOk ns r) (n : ∀ m ∈ ns, NameOk m) : RulNm r := ⟨n _ h.wd, fun p hp => n _ (h.pt p hp)⟩
theorem rul_parts {r : Rul} (h : RulNm r) : (rulD r).canLay0 = true ∧ (rulD r).depth ≤ 2 ∧ (rulD r).hasDict = false := by
  have z := nms_dep r.2.2
  unfold rulD nmsD
  refine ⟨?_, ?_, ?_⟩
  · simp only [PyData.canLay0, PyData.canLayAll0, nm_lay h.1.sg, nms_lay h.2, Bool.and_self]
  · have e : (nmD r.1).depth = 0 := rfl
    simp only [PyData.depth, PyData.depthAll, e]
    omega
  · have e : (nmD r.1).hasDict = false := rfl
    simp only [PyData.hasDict, PyData.hasDictAll, nms_nod, e, Bool.or_self]
theorem pl_rul {r : Rul} (h : RulNm r) : Pl (rulD r) := by
  obtain ⟨a, b, c⟩ := rul_parts h
  refine ⟨c, ?_⟩
  unfold SeqAt.shaped
  rw [a, Bool.true_and]
  exact decide_eq_true (by omega)
theorem ruls_dep {rs : List Rul} (h : ∀ r ∈ rs, RulNm r) : PyData.depthAll (rs.map rulD) ≤ 2 := depth_all fun r hr => (rul_parts (h r hr)).2.1
theorem pl_rulL {rs : List Rul} (h : ∀ r ∈ rs, RulNm r) : Pl (.list (rs.map rulD)) := ⟨by simp only [PyData.hasDict]; exact nodict_all fun r hr => (rul_parts (h r hr)).2.2, shaped_of (by simp only [PyData.canLay0]; exact lay_all fun r hr => (rul_parts (h r hr)).1) (by rw [dep_l]; have := ruls_dep h; omega)⟩
theorem pl_ruls {rs : List Rul} (h : ∀ r ∈ rs, RulNm r) : Pl (rulsD rs) := ⟨by unfold rulsD; simp only [PyData.hasDict]; exact nodict_all fun r hr => (rul_parts (h r hr)).2.2, shaped_of (by unfold rulsD; simp only [PyData.canLay0]; exact lay_all fun r hr => (rul_parts (h r hr)).1) (by unfold rulsD; rw [dep_t]; have := ruls_dep h; omega)⟩
/-! ### in the heap -/
section
variable {K : PySem.W.Frag} {H : Hp} {p : Addr}
theorem nms_pair (ns : List Nm) : Paired (fun d v => Da K H v d) (ns.map nmD) (ns.map nmV) := by
  induction ns with
  | nil => exact .nil
  | cons n ns ih => exact .cons (.str _) ih
theorem da_nmL {ns : List Nm} (h : H p = some (.lst (ns.map nmV))) : Da K H (.ref p) (.list (ns.map nmD)) := da_list h (nms_pair ns)
theorem da_nms {ns : List Nm} (h : SqT K H p (ns.map nmV)) : Da K H (.ref p) (nmsD ns) := da_tuple h (nms_pair ns)
end
/-! ### evaluation -/
section
variable {K : PySem.W.Frag} {σ : L2.St} {G H : Hp} {a : Addr} {te ta tb t0 : TE} {v : V} {P P1 P2 : V → Prop} {D : Ends} {tz tu : TS} {m : Nat} {t u : TT}
theorem el_catX {l : Addr} {xs ys : List V} (ha : Ev ta σ H (.ref l)) (hl : H l = some (.lst xs)) (hb : EvL tb σ H ys) (z : xs.length + ys.length ≤ 100000) : EvL (tOp (rAddX K) ta tb) σ H (xs ++ ys) := fun H1 e1 Q q =>
  ha H1 e1 _ fun H2 e2 => hb H2 (e1.trans e2) _ fun p H3 _ e3 h3 => .inr (.inl ⟨l, p, xs, ys, rfl, rfl, e3 _ _ (e2 _ _ (e1 _ _ hl)), h3, sz_of z, fun c hc => q c _ (fresh_back (e2.trans e3) hc) ((e2.trans e3).trans (Ex.new hc)) upd_same⟩)
theorem rv_niDat {x y : V} {d c : PyData} {ds : List PyData} {b : Bool} (hc : c = .list ds ∨ c = .tuple ds) (hx : Da K H x d) (hy : Da K H y c) (px : Pl d) (py : Pl c) (e : (ds.any fun z => PyData.eqv z d) = b) :
    RV (fun x y H Q => (∃ (c : Nat) (z : Str), x = .str ⟨#[c]⟩ ∧ y = .str z ∧ Q (.bl (!decide (c ∈ z.cps.toList))) H) ∨ rInDat K true x y H Q) x y H (.bl (!b)) := fun H1 e1 Q q => .inr ⟨d, c, ds, hc, hx.mono e1, hy.mono e1, px, py, by subst e; exact q H1 (Ex.refl H1)⟩
theorem rv_inDat {x y : V} {d c : PyData} {ds : List PyData} {b : Bool} (hc : c = .list ds ∨ c = .tuple ds) (hx : Da K H x d) (hy : Da K H y c) (px : Pl d) (py : Pl c) (e : (ds.any fun z => PyData.eqv z d) = b) :
    RV (fun x y H Q => (∃ (c : Nat) (z : Str), x = .str ⟨#[c]⟩ ∧ y = .str z ∧ Q (.bl (decide (c ∈ z.cps.toList))) H) ∨ rInDat K false x y H Q) x y H (.bl b) := fun H1 e1 Q q => .inr ⟨d, c, ds, hc, hx.mono e1, hy.mono e1, px, py, by subst e; exact q H1 (Ex.refl H1)⟩
theorem rv_neDat {x y : V} {d e : PyData} {b : Bool} (hx : Da K H x d) (hy : Da K H y e) (px : Pl d) (py : Pl e) (z : PyData.eqv d e = b) : RV (fun x y H Q => rNe x y H Q ∨ rEqDat K not x y H Q) x y H (.bl (!b)) := fun H1 e1 Q q =>
  .inr ⟨d, e, hx.mono e1, hy.mono e1, px, py, by subst z; exact q H1 (Ex.refl H1)⟩
theorem rv_eqDat {x y : V} {d e : PyData} {b : Bool} (hx : Da K H x d) (hy : Da K H y e) (px : Pl d) (py : Pl e) (z : PyData.eqv d e = b) : RV (fun x y H Q => rEq x y H Q ∨ rEqDat K id x y H Q) x y H (.bl b) := fun H1 e1 Q q =>
  .inr ⟨d, e, hx.mono e1, hy.mono e1, px, py, by subst z; exact q H1 (Ex.refl H1)⟩
theorem rv_addI {i j : Int} : RV (rAddX K) (.int i) (.int j) H (.int (i + j)) := fun H1 _ _ q => .inl ⟨i, j, rfl, rfl, q H1 (Ex.refl H1)⟩
theorem rv_addS {x y : List Nat} (h : x.length + y.length ≤ 100000) : RV (rAddX K) (.str (SX.S x)) (.str (SX.S y)) H (.str (SX.S (x ++ y))) := fun H1 _ _ q => .inr (.inr (.inl ⟨_, _, rfl, rfl, by rw [SX.S_len, SX.S_len]; exact sz_of h, by rw [SX.S_cat]; exact q H1 (Ex.refl H1)⟩))
theorem rv_ixLX {p : Addr} {xs : List V} {i : Int} (h : SqL K H p xs) (ha : atI xs i = some v) : RV (rIx K) (.ref p) (.int i) H v := fun H1 e _ q => .inl ⟨p, xs, i, v, rfl, rfl, ex_l e h, ha, q H1 (Ex.refl H1)⟩
theorem rv_ixTX {p : Addr} {xs : List V} {i : Int} (h : SqT K H p xs) (ha : atI xs i = some v) : RV (rIx K) (.ref p) (.int i) H v := fun H1 e _ q => .inr (.inl ⟨p, xs, i, v, rfl, rfl, ex_t e h, ha, q H1 (Ex.refl H1)⟩)
/-- a test that may draw -/
def DrT (a : Addr) (tt : TT) (σ : L2.St) (G : Hp) (R : Bool → Prop) : Prop := ∀ H1, Ex G H1 → Pur H1 a → ∀ Q : Bool → Hp → Prop, (∀ b H2, R b → Ex G H2 → Pur H2 a → Q b H2) → tt σ H1 Q
theorem dt_ev {R : Bool → Prop} {b : Bool} (h : EvT t σ G b) (r : R b) : DrT a t σ G R := fun H1 e p Q q => h H1 e Q fun H2 e2 => q b H2 r (e.trans e2) (p.keep e2)
theorem dt_B {R : Bool → Prop} (h : Dr a te σ G fun v => ∃ b, v = .bl b ∧ R b) : DrT a (tTest te) σ G R := fun H1 e p Q q => h H1 e p _ fun v H2 pv e2 p2 => by
  obtain ⟨b, rfl, r⟩ := pv
  exact ⟨b, rfl, q b H2 r e2 p2⟩
theorem dt_and {R R1 R2 : Bool → Prop} (h1 : DrT a t σ G R1) (h2 : R1 true → DrT a u σ G R2) (f : R1 false → R false) (g : ∀ b, R1 true → R2 b → R b) : DrT a (tAnd t u) σ G R := fun H1 e p Q q => h1 H1 e p _ fun b H2 r e2 p2 => by
  cases b with
  | true =>
    show u σ H2 Q
    exact h2 r H2 e2 p2 Q fun b H3 r' e3 p3 => q b H3 (g b r r') e3 p3
  | false =>
    show Q false H2
    exact q false H2 (f r) e2 p2
theorem dr_if {R : Bool → Prop} (h : DrT a t σ G R) (h1 : R true → Dr a ta σ G P) (h2 : R false → Dr a tb σ G P) : Dr a (tIf t ta tb) σ G P := fun H1 e p Q q => h H1 e p _ fun b H2 r e2 p2 => by
  cases b with
  | true =>
    show ta σ H2 Q
    exact h1 r H2 e2 p2 Q q
  | false =>
    show tb σ H2 Q
    exact h2 r H2 e2 p2 Q q
/-- for i in range(a drawn number) -/
theorem q_forDr {j : Nat} {R : Int → Prop} (h0 : Dr a t0 σ G fun v => ∃ k : Int, v = .int k ∧ 0 ≤ k ∧ k ≤ m ∧ R k) (hm : m ≤ 1000) (e : Ex G H) (p : Pur H a) (Pv : Nat → L2.St → Hp → Prop) (hp : ∀ H1, Ex G H1 → Pur H1 a → Pv 0 σ H1)
    (hs : ∀ (i : Nat) σ' H', i < m → Pv i σ' H' → tu { D with nx := Pv (i + 1), ct := Pv (i + 1), bk := tz D } (σ'.set j (some (.int (i : Int)))) H') (hd : ∀ (k : Int) σ' H', R k → 0 ≤ k → Pv k.toNat σ' H' → tz D σ' H') : tSeq (tFor (iRng1 (tCons t0 tNil)) (gName j) tu) tz D σ H :=
  h0 H e p _ fun v H1 pv e1 p1 => by
    obtain ⟨k, rfl, k0, k1, r⟩ := pv
    refine ⟨k, rfl, by omega, by omega, for_range (lo := 0) (n := k.toNat) Pv (hp H1 e1 p1) (fun i σ' H' hi z => ?_) fun σ' H' z => hd k σ' H' r k0 z⟩
    show tu { D with nx := Pv (i + 1), ct := Pv (i + 1), bk := tz D } (σ'.set j (some (.int (0 + (i : Int))))) H'
    rw [Int.zero_add]
    exact hs i σ' H' (by omega) z
end
section
variable {K : PySem.W.Frag} {σ : L2.St} {G H : Hp} {a : Addr} {te ta tb t0 : TE} {v : V} {P P1 P2 : V → Prop} {D : Ends} {tz tu : TS} {m : Nat}
theorem dr_opG {r : R2} (ha : Dr a ta σ G P1) (hb : Dr a tb σ G P2) (hr : ∀ x y, P1 x → P2 y → ∃ z, P z ∧ RV r x y G z) : Dr a (tOp r ta tb) σ G P := fun H1 e p Q q =>
  ha H1 e p _ fun x H2 px e2 p2 => hb H2 e2 p2 _ fun y H3 py e3 p3 => by
    obtain ⟨z, pz, rv⟩ := hr x y px py
    exact rv H3 e3 Q fun H4 e4 => q z H4 pz (e3.trans e4) (p3.keep e4)
def rTupOf (K : PySem.W.Frag) : List V → Hp → VK → Prop := fun xs H Q => ∃ p ys, xs = [.ref p] ∧ ((SqL K H p ys ∧ ∀ l, H l = none → Q (.ref l) (upd H l (.tup ys))) ∨ (SqT K H p ys ∧ Q (.ref p) H))
theorem q_asgTupL {i : Nat} (h : DrL a te σ G m P) (e : Ex G H) (p : Pur H a) (k : ∀ q xs H1, xs.length ≤ m → (∀ x ∈ xs, P x) → H1 q = some (.tup xs) → q ≠ a → Ex G H1 → Pur H1 a → tz D (σ.set i (some (.ref q))) H1) : tSeq (tAsg (tCB (rTupOf K) (tCons te tNil)) (gName i)) tz D σ H :=
  h H e p _ fun l xs H1 lx px hl _ e1 p1 => ⟨l, xs, rfl, .inl ⟨sq_of hl, fun c hc => k c xs _ lx px upd_same (p1.ne hc) (e1.trans (Ex.new hc)) (pur_new p1 hc)⟩⟩
theorem ev_lenL {p : Addr} {xs : List V} (ha : Ev te σ H (.ref p)) (h : SqL K H p xs ∨ SqT K H p xs) : Ev (tCB (rLenY K) (tCons te tNil)) σ H (.int (xs.length : Int)) := fun H1 e Q q =>
  ha H1 e _ fun H2 e2 => .inl ⟨p, xs, rfl, h.imp (ex_l (e.trans e2)) (ex_t (e.trans e2)), q H2 e2⟩
theorem ev_lenS {x : List Nat} (ha : Ev te σ H (.str (SX.S x))) (h : x.length ≤ 100000) : Ev (tCB (rLenY K) (tCons te tNil)) σ H (.int (x.length : Int)) := fun H1 e Q q =>
  ha H1 e _ fun H2 e2 => .inr ⟨SX.S x, rfl, by rw [SX.S_len]; exact sz_of h, by rw [SX.S_len]; exact q H2 e2⟩
end
end SwX
set_option Elab.async false
set_option linter.all false
set_option maxRecDepth 100000
set_option maxHeartbeats 4000000
/-! texts of catalogues -/
namespace SwX
open PySem PySem.Spec PyProof.Rows L2 Evl
theorem isiK {X : Cx} (K : PySem.W.Frag) (h : X.K = K := by rfl) : CallR X (.builtin "isinstance") (rIsi K) := h ▸ call_isi
theorem pe_gstr {X : Cx} {x z : Str} {pos : Pos} (hm : ∃ t, X.mg x = some (.str z t)) (hg : Gl X x := by rfl) (hd : (x == ("__debug__" : Str)) = false := by decide) : PE X (.Name x pos) (tC (.str z)) := by
  obtain ⟨t, h⟩ := hm
  exact pe_glob hg h ⟨t, rfl⟩ hd
/-! ### plain texts -/
def kindsL : List Nat := [107, 105, 110, 100, 115]
def tailL (ps : List Nm) : List Nat := if ps = [] then [] else [58, 32] ++ TL.joinL [32] ps
def rowL (r : Rul) : List Nat := r.1 ++ ([32] ++ (TL.numL r.2.1 ++ tailL r.2.2))
def headL (ns : List Nm) : List Nat := TL.joinL [32] (kindsL :: ns)
def textL (ns : List Nm) (rs : List Rul) : List Nat := TL.joinL [10] (headL ns :: rs.map rowL)
theorem numS (o : Nat) : (Str.ofString (toString ((o : Nat) : Int))) = SX.S (TL.numL o) := (SX.S_tl _).symm.trans (congrArg SX.S (TL.tl_num o))
/-! ### data told apart -/
section
variable {K : PySem.W.Frag} {H : Hp} {v : V}
theorem da_pairs : ∀ {xs : List V} {ds : List PyData}, xs.length = ds.length → (∀ (i : Nat) x d, xs[i]? = some x → ds[i]? = some d → Da K H x d) → Paired (fun d x => Da K H x d) ds xs
  | [], [], _, _ => .nil
  | [], _ :: _, l, _ => by cases l
  | _ :: _, [], l, _ => by cases l
  | x :: xs, d :: ds, l, k => .cons (k 0 x d rfl rfl) (da_pairs (Nat.succ.inj l) fun i x' d' e1 e2 => k (i + 1) x' d' (by simpa using e1) (by simpa using e2))
theorem da_tupI {ds : List PyData} (h : Da K H v (.tuple ds)) : ∃ q xs, v = .ref q ∧ SqT K H q xs ∧ Paired (fun d x => Da K H x d) ds xs := by
  cases h with
  | tup h l k => exact ⟨_, _, rfl, h, da_pairs l k⟩
theorem paired_unmap {α β γ : Type} {F : γ → β → Prop} {g : α → γ} : ∀ {is : List α} {vs : List β}, Paired F (is.map g) vs → Paired (fun i v => F (g i) v) is vs
  | [], _, .nil => .nil
  | _ :: _, _, .cons h t => .cons h (paired_unmap t)
theorem da_ruls (rs : List Rul) (h : Da K H v (rulsD rs)) : ∃ q xs, v = .ref q ∧ SqT K H q xs ∧ Paired (fun r x => Da K H x (rulD r)) rs xs := by
  obtain ⟨q, xs, e, s, p⟩ := da_tupI h
  exact ⟨q, xs, e, s, paired_unmap p⟩
theorem da_strI {z : Str} (h : Da K H v (.str z)) : v = .str z := by
  cases h
  rfl
theorem da_intI {i : Int} (h : Da K H v (.int i)) : v = .int i := by
  cases h
  rfl
theorem nms_vals : ∀ {ns : List Nm} {xs : List V}, Paired (fun n x => Da K H x (nmD n)) ns xs → xs = ns.map nmV
  | [], _, .nil => rfl
  | n :: ns, _, .cons h t => by rw [nms_vals t, List.map_cons, da_strI h] <;> rfl
theorem da_nmsI {ns : List Nm} (h : Da K H v (nmsD ns)) : ∃ q, v = .ref q ∧ SqT K H q (ns.map nmV) := by
  obtain ⟨q, xs, e, s, p⟩ := da_tupI h
  rw [nms_vals (paired_unmap p)] at s
  exact ⟨q, e, s⟩
theorem paired3 {α β : Type} {F : α → β → Prop} {a b c : α} : ∀ {xs : List β}, Paired F [a, b, c] xs → ∃ x y z, xs = [x, y, z] ∧ F a x ∧ F b y ∧ F c z
  | _, .cons h1 (.cons h2 (.cons h3 .nil)) => ⟨_, _, _, rfl, h1, h2, h3⟩
theorem da_rul {r : Rul} (h : Da K H v (rulD r)) : ∃ b c, v = .ref b ∧ SqT K H b [nmV r.1, .int (r.2.1 : Nat), .ref c] ∧ SqT K H c (r.2.2.map nmV) := by
  obtain ⟨q, xs, e, s, p⟩ := da_tupI h
  obtain ⟨x, y, z, rfl, h1, h2, h3⟩ := paired3 p
  obtain ⟨c, rfl, sc⟩ := da_nmsI h3
  rw [da_strI h1, da_intI h2] at s
  exact ⟨q, c, e, s, sc⟩
end
/-! ### evaluation of texts -/
section
variable {K : PySem.W.Frag} {σ : L2.St} {H : Hp} {te ta tb to : TE} {v : V} {D : Ends} {tz tu : TS}
theorem S_map (l : List Nm) : l.map nmV = (l.map SX.S).map V.str := by rw [List.map_map] <;> rfl
theorem sum_small {B : Nat} : ∀ {l : List (List Nat)}, (∀ x ∈ l, x.length ≤ B) → ((l.map SX.S).map (·.length)).sum ≤ B * l.length
  | [], _ => Nat.zero_le _
  | x :: l, h => by
    have z := sum_small (l := l) fun y hy => h y (List.mem_cons_of_mem _ hy)
    have y := h x List.mem_cons_self
    simp only [List.map_cons, List.sum_cons, List.length_cons]
    rw [SX.S_len, Nat.mul_add]
    omega
/-- sep.join(a list | a tuple of texts) -/
theorem ev_joinS {sep : List Nat} {l : List (List Nat)} {p : Addr} {B : Nat} (ho : Ev to σ H (.str (SX.S sep))) (he : Ev te σ H (.ref p)) (hp : SqL K H p ((l.map SX.S).map V.str) ∨ SqT K H p ((l.map SX.S).map V.str)) (hB : ∀ x ∈ l, x.length ≤ B) (small : B ≤ 1000 ∧ l.length ≤ 1000 ∧ sep.length ≤ 10) :
    Ev (tM1 (rJoin K) to te) σ H (.str (SX.S (TL.joinL sep l))) := fun H1 e1 Q q => ho H1 e1 _ fun H2 e2 => ⟨⟨_, rfl⟩, he H2 (e1.trans e2) _ fun H3 e3 => by
  refine ⟨SX.S sep, p, _, rfl, rfl, hp.imp (ex_l ((e1.trans e2).trans e3)) (ex_t ((e1.trans e2).trans e3)), ?_, by rw [SX.join_S]; exact q H3 (e2.trans e3)⟩
  have z := sum_small hB
  obtain ⟨b, c, d⟩ := small
  have m1 : B * l.length ≤ 1000 * 1000 := Nat.mul_le_mul b c
  have m2 : (l.map SX.S).length * (SX.S sep).length ≤ 1000 * 10 := Nat.mul_le_mul (by rw [List.length_map]; exact c) (by rw [SX.S_len]; exact d)
  omega⟩
theorem ev_fmtS {x : List Nat} (h : Ev te σ H (.str (SX.S x))) (l : x.length ≤ 100000) : Ev (tFmt te) σ H (.str (SX.S x)) := fun H1 e1 Q q => h H1 e1 _ fun H2 e2 => .inl ⟨_, rfl, by rw [SX.S_len]; exact sz_of l, q H2 e2⟩
theorem ev_fmtI {o : Nat} (h : Ev te σ H (.int (o : Int))) (l : o < 1000) : Ev (tFmt te) σ H (.str (SX.S (TL.numL o))) := fun H1 e1 Q q => h H1 e1 _ fun H2 e2 => .inr ⟨o, rfl, by
  have : (o : Int).natAbs.log2 < 10 := by
    by_cases z : o = 0
    · subst z
      decide
    · exact (Nat.log2_lt (by omega)).mpr (by omega)
  omega, by rw [numS]; exact q H2 e2⟩
theorem q_appX {l : Addr} {xs : List V} (hl : H l = some (.lst xs)) (ha : Ev ta σ H (.ref l)) (h : Ev te σ H v) (hz : xs.length < 100000) (k : ∀ H1, Ex H H1 → D.nx σ (upd H1 l (.lst (xs ++ [v])))) : tDrop (tBM K "list" rAppend ta (tCons te tNil)) D σ H := s_app hl ha h hz k
end
end SwX
set_option Elab.async false
set_option linter.all false
set_option maxRecDepth 100000
set_option maxHeartbeats 4000000
/-! isinstance of data, comprehensions over texts and tuples, enumerate: evaluation -/
namespace SwX
open PySem PySem.Spec PyProof.Rows L2 Evl
section
variable {K : PySem.W.Frag} {σ : L2.St} {H : Hp} {te ta tb to : TE} {v x : V} {D : Ends} {tz tu : TS} {t : TT}
theorem ty_tup {p : Addr} {xs : List V} (h : SqT K H p xs) : TyX K H (.ref p) (.type "tuple") := by
  rcases h with (h | ⟨o, h⟩) | ⟨o, its, n, h, c, _⟩
  · exact .base (.tup h)
  · exact .fTuple h
  · exact .kTuple h c
theorem ev_isi {T n : String} {b : Bool} (h : Ev te σ H x) (ty : ∀ H', Ex H H' → TyX K H' x (.type T)) (k : kitB T n = some b) : Ev (tCB (rIsi K) (tCons te (tCons (tC (.ty n)) tNil))) σ H (.bl b) := fun H1 e1 Q q =>
  h H1 e1 _ fun H2 e2 => ⟨x, .ty n, .type T, .type n, b, rfl, .ty n, ty H2 (e1.trans e2), kit_ty k, q H2 e2⟩
/-- [te for x in a tuple] -/
theorem el_lcT {a : Addr} {xs : List V} {tl : TE} {j : Nat} {vs : List Nat} (f : Nat → V) (h : Ev tl σ H (.ref a)) (hx : SqT K H a xs) (hz : xs.length ≤ 40000) (hw : ∀ x, wipe ((wipe σ vs).set j (some x)) vs = wipe σ vs)
    (he : ∀ (i : Nat) (x : V) H1, Ex H H1 → xs[i]? = some x → Ev te ((wipe σ vs).set j (some x)) H1 (f i)) : EvL (tLc (iTup K tl) (gName j) tYes te vs) σ H (given xs.length (fun _ => true) f) := fun H0 e Q q => h H0 e _ fun H1 e1 => ⟨a, rfl, ⟨xs, ex_t (e.trans e1) hx⟩, fun Dl hD =>
  lc_tup (xs := xs) (Cw H1 (fun _ => true) f Dl) ⟨hD, Ex.new hD, upd_same⟩ (fun i H' _ p => ex_t ((e.trans e1).trans p.2.1) hx) (fun i x H' hi p => ⟨hw x, cw_turn p (by have := (List.getElem?_eq_some_iff.mp hi).1; omega) (fun H4 _ Q' k => k H4 (Ex.refl H4)) (fun _ => he i x H1 (e.trans e1) hi)⟩)
    (fun H' p => q Dl H' (fresh_back e1 p.1) (e1.trans p.2.1) p.2.2)⟩
/-- [te for c in a text] -/
theorem el_lcZ {l : List Nat} {tl : TE} {j : Nat} {vs : List Nat} (f : Nat → V) (h : Ev tl σ H (.str (SX.S l))) (hz : l.length ≤ 40000) (hw : ∀ x, wipe ((wipe σ vs).set j (some x)) vs = wipe σ vs)
    (he : ∀ (i c : Nat) H1, Ex H H1 → l[i]? = some c → Ev te ((wipe σ vs).set j (some (.str ⟨#[c]⟩))) H1 (f i)) : EvL (tLc (iStr tl) (gName j) tYes te vs) σ H (given l.length (fun _ => true) f) := fun H0 e Q q => h H0 e _ fun H1 e1 => ⟨SX.S l, rfl, fun Dl hD => by
  have sz : (SX.S l).cps.size = l.length := by simp [SX.S]
  have w := walk_str (z := SX.S l)
  rw [sz] at w
  refine lc_it w (Cw H1 (fun _ => true) f Dl) ⟨hD, Ex.new hD, upd_same⟩ (fun _ _ _ _ => trivial) (fun i x H' H2 hi p y => ?_) (fun H' p => q Dl H' (fresh_back e1 p.1) (e1.trans p.2.1) p.2.2)
  obtain ⟨rfl, c, hc, rfl⟩ := y
  exact ⟨hw _, cw_turn p (by omega) (fun H4 _ Q' k => k H4 (Ex.refl H4)) (fun _ => he i c H1 (e.trans e1) (by simpa [SX.S] using hc))⟩⟩
theorem given_trues (n : Nat) : given n (fun _ => true) (fun _ => .bl true) = ((List.range n).map fun _ => true).map V.bl := by
  unfold given
  rw [List.filter_eq_self.mpr (fun _ _ => rfl), List.map_map] <;> rfl
theorem ev_allG {n : Nat} (h : EvL te σ H (given n (fun _ => true) (fun _ => .bl true))) : Ev (tCB (rAll K) (tCons te tNil)) σ H (.bl true) := by
  have z := ev_allT (K := K) (el_is h (given_trues n))
  have e : (((List.range n).map fun _ => true).all id) = true := by simp
  rw [e] at z
  exact z
theorem q_retE (h : Ev te σ H v) (k : ∀ H1, Ex H H1 → D.rt v H1) : tRet te D σ H := s_ret h k
theorem rv_signIn {c : Nat} {l : List Nat} {b : Bool} (h : decide (c ∈ l) = b) : RV (fun x y H Q => (∃ (c : Nat) (z : Str), x = .str ⟨#[c]⟩ ∧ y = .str z ∧ Q (.bl (decide (c ∈ z.cps.toList))) H) ∨ rInDat K false x y H Q) (.str ⟨#[c]⟩) (.str (SX.S l)) H (.bl b) := fun H1 _ Q q =>
  .inl ⟨c, SX.S l, rfl, rfl, by rw [show (SX.S l).cps.toList = l from rfl, h]; exact q H1 (Ex.refl H1)⟩
theorem rv_signNi {c : Nat} {l : List Nat} {b : Bool} (h : decide (c ∈ l) = b) : RV (fun x y H Q => (∃ (c : Nat) (z : Str), x = .str ⟨#[c]⟩ ∧ y = .str z ∧ Q (.bl (!decide (c ∈ z.cps.toList))) H) ∨ rInDat K true x y H Q) (.str ⟨#[c]⟩) (.str (SX.S l)) H (.bl (!b)) := fun H1 _ Q q =>
  .inl ⟨c, SX.S l, rfl, rfl, by rw [show (SX.S l).cps.toList = l from rfl, h]; exact q H1 (Ex.refl H1)⟩
theorem rv_ixZ {l : List Nat} {c : Nat} {i : Nat} (h : l[i]? = some c) (hl : l.length ≤ 100000) : RV (rIx K) (.str (SX.S l)) (.int (i : Int)) H (.str ⟨#[c]⟩) := fun H1 _ Q q => .inr (.inr ⟨SX.S l, i, c, rfl, rfl, by rw [SX.S_len]; exact sz_of hl, by
  show atI l (i : Int) = some c
  unfold atI
  rw [ixN_nat (List.getElem?_eq_some_iff.mp h).1]
  exact h, q H1 (Ex.refl H1)⟩)
theorem rv_ixTn {p : Addr} {xs : List V} {i : Nat} (h : SqT K H p xs) (ha : xs[i]? = some v) : RV (rIx K) (.ref p) (.int (i : Int)) H v := rv_ixTX h (by
  unfold atI
  rw [ixN_nat (List.getElem?_eq_some_iff.mp ha).1]
  exact ha)
theorem rv_ixLn {p : Addr} {xs : List V} {i : Nat} (h : SqL K H p xs) (ha : xs[i]? = some v) : RV (rIx K) (.ref p) (.int (i : Int)) H v := rv_ixLX h (by
  unfold atI
  rw [ixN_nat (List.getElem?_eq_some_iff.mp ha).1]
  exact ha)
/-- a slice of a tuple -/
theorem yi_slT {p : Addr} {xs : List V} {lo hi : Option Int} {tl th : TO} (ha : Ev te σ H (.ref p)) (hp : SqT K H p xs) (hl : EvO tl σ H lo) (hh : EvO th σ H hi) : Yi (tSl (rSlY K) te tl th) σ H fun v H' => ∃ q, v = .ref q ∧ SqT K H' q (cutV xs lo hi) := fun H1 e1 Q q =>
  ha H1 e1 _ fun H2 e2 => hl H2 (e1.trans e2) _ fun H3 e3 => hh H3 ((e1.trans e2).trans e3) _ fun H4 e4 => by
    have hp4 := ex_t (((e1.trans e2).trans e3).trans e4) hp
    refine .inr (.inl ⟨p, xs, rfl, hp4, fun w => ?_, fun w c hc => ?_⟩)
    · refine q _ H4 ((e2.trans e3).trans e4) ⟨p, rfl, ?_⟩
      unfold cutV
      rw [w.1, w.2, List.drop_zero, Nat.sub_zero, List.take_length]
      exact hp4
    · exact q _ _ (((e2.trans e3).trans e4).trans (Ex.new hc)) ⟨c, rfl, .inl (.inl upd_same)⟩
theorem cut_take (xs : List V) (n : Nat) : cutV xs none (some (n : Int)) = xs.take n := by
  unfold cutV
  rw [HT.sIx_nat, HT.sIx_none, List.drop_zero, Nat.sub_zero]
  rcases Nat.le_total n xs.length with h | h
  · rw [Nat.min_eq_left h]
  · rw [Nat.min_eq_right h, List.take_length, List.take_of_length_le h]
theorem cut_drop (xs : List V) (n : Nat) : cutV xs (some (n : Int)) none = xs.drop n := by
  unfold cutV
  rw [HT.sIx_nat, HT.sIx_none]
  rcases Nat.le_total n xs.length with h | h
  · rw [Nat.min_eq_left h, List.take_of_length_le (by rw [List.length_drop]; exact Nat.le_refl _)]
  · rw [Nat.min_eq_right h, List.drop_of_length_le (Nat.le_refl _), List.drop_of_length_le h, List.take_nil]
theorem el_slL {p : Addr} {xs : List V} {lo hi : Option Int} {tl th : TO} (ha : Ev te σ H (.ref p)) (hp : SqL K H p xs) (hl : EvO tl σ H lo) (hh : EvO th σ H hi) : EvL (tSl (rSlY K) te tl th) σ H (cutV xs lo hi) := fun H1 e1 Q q =>
  ha H1 e1 _ fun H2 e2 => hl H2 (e1.trans e2) _ fun H3 e3 => hh H3 ((e1.trans e2).trans e3) _ fun H4 e4 =>
    .inl ⟨p, xs, rfl, ex_l (((e1.trans e2).trans e3).trans e4) hp, fun c hc => q c _ (fresh_back ((e2.trans e3).trans e4) hc) (((e2.trans e3).trans e4).trans (Ex.new hc)) upd_same⟩
/-- x in a thing made on the way -/
theorem ev_inY {d c : PyData} {ds : List PyData} {b : Bool} (hc : c = .list ds ∨ c = .tuple ds) (ha : Ev ta σ H x) (hx : ∀ H', Ex H H' → Da K H' x d) (hb : Yi tb σ H fun v H' => Da K H' v c) (px : Pl d) (py : Pl c) (e : (ds.any fun z => PyData.eqv z d) = b) :
    Ev (tOp (fun x y H Q => (∃ (c : Nat) (z : Str), x = .str ⟨#[c]⟩ ∧ y = .str z ∧ Q (.bl (decide (c ∈ z.cps.toList))) H) ∨ rInDat K false x y H Q) ta tb) σ H (.bl b) := fun H1 e1 Q q => ha H1 e1 _ fun H2 e2 => hb H2 (e1.trans e2) _ fun y H3 e3 hy =>
  .inr ⟨d, c, ds, hc, hx H3 ((e1.trans e2).trans e3), hy, px, py, by subst e; exact q H3 (e2.trans e3)⟩
/-- for i, x in enumerate(a tuple) -/
theorem q_forEnumT {p : Addr} {xs : List V} {tl : TE} {i1 i2 : Nat} (h : Ev tl σ H (.ref p)) (hp : SqT K H p xs) (Pv : Nat → L2.St → Hp → Prop) (h0 : ∀ H1, Ex H H1 → Pv 0 σ H1) (hl : ∀ i σ' H', i ≤ xs.length → Pv i σ' H' → SqT K H' p xs)
    (hs : ∀ i x σ' H' T, xs[i]? = some x → H' T = none → Pv i σ' H' → tu { D with nx := Pv (i + 1), ct := Pv (i + 1), bk := tz D } ((σ'.set i1 (some (.int (i : Nat)))).set i2 (some x)) (upd H' T (.tup [.int (i : Nat), x]))) (hd : ∀ σ' H', Pv xs.length σ' H' → tz D σ' H') :
    tSeq (tFor (iEnumT K (tCons tl tNil)) (gTup K 2 (gCons (gName i1) (gCons (gName i2) gNil))) tu) tz D σ H := h H (Ex.refl H) _ fun H1 e1 =>
  ⟨p, xs, rfl, ex_t e1 hp, for_enumT Pv (h0 H1 e1) hl (fun i x T σ' H' hx hT z => ⟨T, _, rfl, .inl (.inl upd_same), rfl, _, _, rfl, _, _, rfl, rfl, hs i x σ' H' T hx hT z⟩) hd⟩
end
end SwX
set_option Elab.async false
set_option linter.all false
set_option maxRecDepth 100000
set_option maxHeartbeats 4000000
/-! comprehensions that make objects; split, partition -/
namespace SwX
open PySem PySem.Spec PyProof.Rows L2 Evl
theorem less_upd_same {D : Addr} {H : Hp} {o : HO} : less D (upd H D o) = less D H := by
  funext b
  unfold less
  split
  · rfl
  · rename_i n
    exact upd_ne n
section
variable {K : PySem.W.Frag} {σ : L2.St} {H : Hp} {te tl ta to : TE} {v x : V} {α : Type} {F : α → V → Hp → Prop} {is : List α} {xs : List V}
/-- [te for x in a list], each a new thing of which F holds aside of whatever stood before -/
theorem yi_lcL {j : Nat} {vs : List Nat} (m : ∀ i v H H', Ex H H' → F i v H → F i v H') (h : EvL tl σ H xs) (l : xs.length = is.length) (hz : xs.length ≤ 1000) (hw : ∀ x, wipe ((wipe σ vs).set j (some x)) vs = wipe σ vs)
    (he : ∀ (i : Nat) (x : V) (d : α) H1, Ex H H1 → xs[i]? = some x → is[i]? = some d → ∀ Q : VK, (∀ v H2, Ex H1 H2 → (∀ a, H1 a ≠ none → F d v (less a H2)) → Q v H2) → te ((wipe σ vs).set j (some x)) H1 Q) : Yi (tLc (iList K tl) (gName j) tYes te vs) σ H (LstOf F is) := fun H0 e0 Q q =>
  h H0 e0 _ fun p H1 n1 e1 h1 => ⟨p, rfl, ⟨xs, sq_of h1⟩, fun D hD => by
    have ne : p ≠ D := fun z => by rw [z, hD] at h1; cases h1
    refine lc_list (xs := xs) (fun i H' => ∃ acc, H' D = some (.lst acc) ∧ Paired (fun d v => F d v (less D H')) (is.take i) acc ∧ Ex H1 H') ⟨[], upd_same, by rw [List.take_zero]; exact .nil, Ex.new hD⟩ (fun i H' _ z => sq_of (z.choose_spec.2.2 _ _ h1)) (fun i x H' hx z => ⟨hw x, ?_⟩) fun H' z => ?_
    · obtain ⟨acc, ha, pa, ea⟩ := z
      have lt : i < is.length := by
        rw [← l]
        exact (List.getElem?_eq_some_iff.mp hx).1
      have at_ : is[i]? = some is[i] := by simp [lt]
      show te ((wipe σ vs).set j (some x)) H' fun y H4 => ∃ acc, H4 D = some (.lst acc) ∧ acc.length < sizeLine ∧ ∃ acc', upd H4 D (.lst (acc ++ [y])) D = some (.lst acc') ∧ Paired (fun d v => F d v (less D (upd H4 D (.lst (acc ++ [y]))))) (is.take (i + 1)) acc' ∧ Ex H1 (upd H4 D (.lst (acc ++ [y])))
      refine he i x is[i] H' ((e0.trans e1).trans ea) hx at_ _ fun y H4 e4 fy => ?_
      have ln := paired_len pa
      rw [List.length_take] at ln
      refine ⟨acc, e4 _ _ ha, sz_lt (by omega), _, upd_same, ?_, ?_⟩
      · rw [less_upd_same, List.take_succ, at_]
        exact paired_append (paired_mono (F := fun d v H => F d v H) (less_mono e4) m pa) (.cons (fy D (by rw [ha]; exact fun z => nomatch z)) .nil)
      · intro b o hb
        have nb : b ≠ D := fun z => by rw [z, hD] at hb; cases hb
        rw [upd_ne nb]
        exact e4 _ _ (ea _ _ hb)
    · obtain ⟨acc, ha, pa, ea⟩ := z
      rw [l, List.take_length] at pa
      exact q (.ref D) H' (e1.trans ea) ⟨D, acc, rfl, ha, paired_mono (F := fun d v H => F d v H) less_ex m pa⟩⟩
/-- s.split(sep), of a joined text -/
theorem el_split {c : Nat} {sep : List Nat} {parts : List (List Nat)} (ho : Ev to σ H (.str (SX.S (TL.joinL (c :: sep) parts)))) (he : Ev te σ H (.str (SX.S (c :: sep)))) (ne : parts ≠ []) (free : ∀ p ∈ parts, c ∉ p) (small : (TL.joinL (c :: sep) parts).length ≤ 100000) (lo : (c :: sep).all (· < 256) = true) :
    EvL (tM1 (fun x xs H Q => ∃ a b, x = .str a ∧ xs = [.str b] ∧ (b.length == 0) = false ∧ a.length + 2 ≤ sizeLine ∧ rNewStrs (Txt.split a b) H Q) to te) σ H ((parts.map SX.S).map V.str) := fun H1 e1 Q q =>
  ho H1 e1 _ fun H2 e2 => ⟨⟨_, rfl⟩, he H2 (e1.trans e2) _ fun H3 e3 => ⟨_, _, rfl, rfl, by rw [SX.S_len]; rfl, by
    rw [SX.S_len]
    exact Nat.le_trans (show _ ≤ 100002 by omega) (by decide), fun p hp => by
    rw [SX.split_S (List.cons_ne_nil _ _) lo, SX.spl_join ne free]
    exact q p _ (fresh_back (e2.trans e3) hp) ((e2.trans e3).trans (Ex.new hp)) upd_same⟩⟩
/-- s.partition(sep): (p, sep, q) | (s, "", "") -/
theorem yu_part {c : Nat} {sep a p m q : List Nat} (ho : Ev to σ H (.str (SX.S a))) (he : Ev te σ H (.str (SX.S (c :: sep)))) (h : (a = p ++ (c :: sep ++ q) ∧ c ∉ p ∧ m = c :: sep) ∨ (c ∉ a ∧ p = a ∧ m = [] ∧ q = [])) (small : a.length ≤ 100000) :
    EvU (tM1 (fun x xs H Q => ∃ a b, x = .str a ∧ xs = [.str b] ∧ (b.length == 0) = false ∧ a.length ≤ sizeLine ∧ ∀ p, H p = none → Q (.ref p) (upd H p (.tup [.str (Txt.partition a b).1, .str (Txt.partition a b).2.1, .str (Txt.partition a b).2.2]))) to te) σ H [.str (SX.S p), .str (SX.S m), .str (SX.S q)] := fun H1 e1 Q k =>
  ho H1 e1 _ fun H2 e2 => ⟨⟨_, rfl⟩, he H2 (e1.trans e2) _ fun H3 e3 => ⟨_, _, rfl, rfl, by rw [SX.S_len]; rfl, by rw [SX.S_len]; exact sz_of small, fun r hr => by
    refine k r _ (fresh_back (e2.trans e3) hr) ((e2.trans e3).trans (Ex.new hr)) ?_
    rcases h with ⟨rfl, f, rfl⟩ | ⟨f, rfl, rfl, rfl⟩
    · rw [upd_same, SX.partition_some (List.cons_ne_nil _ _) (SX.par_head q f)]
    · rw [upd_same, SX.partition_none (List.cons_ne_nil _ _) (SX.par_head_none f)]⟩⟩
/-- tuple(a new list) -/
theorem eu_tupOf (h : EvL te σ H xs) : EvU (tCB (rTupOf K) (tCons te tNil)) σ H xs := fun H1 e1 Q q => h H1 e1 _ fun p H2 n2 e2 h2 => ⟨p, xs, rfl, .inl ⟨sq_of h2, fun c hc => q c _ (fresh_back e2 hc) (e2.trans (Ex.new hc)) upd_same⟩⟩
theorem yi_tupOf (m : ∀ i v H H', Ex H H' → F i v H → F i v H') (h : Yi te σ H (LstOf F is)) : Yi (tCB (rTupOf K) (tCons te tNil)) σ H fun v H' => ∃ p vs, v = .ref p ∧ H' p = some (.tup vs) ∧ Paired (fun i v => F i v H') is vs := fun H1 e1 Q q => h H1 e1 _ fun v H2 e2 z => by
  obtain ⟨p, vs, rfl, hp, pr⟩ := z
  exact ⟨p, vs, rfl, .inl ⟨sq_of hp, fun c hc => q _ _ (e2.trans (Ex.new hc)) ⟨c, vs, rfl, upd_same, paired_mono (Ex.new hc) m pr⟩⟩⟩
end
end SwX
set_option Elab.async false
set_option linter.all false
set_option maxRecDepth 100000
set_option maxHeartbeats 4000000
/-! comprehensions with a test over tuples -/
namespace SwX
open PySem PySem.Spec PyProof.Rows L2 Evl
theorem fldK {X : Cx} (K : PySem.W.Frag) {e : Expr} {f : Str} {pos : Pos} {ta : TE} (he : PE X e ta) (hb : attributeBase e f X.env (eval e X.env) = eval e X.env) (h : X.K = K := by rfl) : PE X (.Attribute e f pos) (tFld K ta f) := h ▸ pe_fld he hb
section
variable {K : PySem.W.Frag} {σ : L2.St} {H : Hp} {te tl ta to : TE} {tt : TT} {v x : V} {α : Type} {F : α → V → Hp → Prop} {is : List α} {xs : List V}
/-- [x for x in a tuple if ..] -/
theorem yi_lcTF {j : Nat} {vs : List Nat} (b : α → Bool) (m : ∀ i v H H', Ex H H' → F i v H → F i v H') (h : Yi tl σ H fun v H' => ∃ a xs, v = .ref a ∧ SqT K H' a xs ∧ Paired (fun i v => F i v H') is xs) (hz : is.length ≤ 1000) (hw : ∀ x, wipe ((wipe σ vs).set j (some x)) vs = wipe σ vs) (hj : ∀ x : V, ((wipe σ vs).set j (some x))[j]? = some (some x))
    (ht : ∀ (i : α) (x : V) H1, Ex H H1 → i ∈ is → F i x H1 → EvT tt ((wipe σ vs).set j (some x)) H1 (b i)) : Yi (tLc (iTup K tl) (gName j) tt (tVar j) vs) σ H (LstOf F (is.filter b)) := fun H0 e0 Q q =>
  h H0 e0 _ fun w H1 e1 z => by
    obtain ⟨p, xs, rfl, hp, pr⟩ := z
    have len := paired_len pr
    refine ⟨p, rfl, ⟨xs, hp⟩, fun D hD => ?_⟩
    refine lc_tup (xs := xs) (fun i H' => ∃ acc, H' D = some (.lst acc) ∧ Paired (fun d v => F d v H1) ((is.take i).filter b) acc ∧ Ex H1 H') ⟨[], upd_same, by rw [List.take_zero]; exact .nil, Ex.new hD⟩ (fun i H' _ z => ex_t z.choose_spec.2.2 hp) (fun i x H' hx z => ⟨hw x, ?_⟩) fun H' z => ?_
    · obtain ⟨acc, ha, pa, ea⟩ := z
      have lt : i < is.length := by
        rw [len]
        exact (List.getElem?_eq_some_iff.mp hx).1
      have at_ : is[i]? = some is[i] := by simp [lt]
      obtain ⟨x', hx', fx⟩ := SwX.paired_get pr at_
      rw [hx] at hx'
      cases hx'
      have ln := paired_len pa
      have le : acc.length ≤ is.length := by
        rw [← ln]
        exact Nat.le_trans (List.length_filter_le _ _) (by rw [List.length_take]; omega)
      have add : (is.take (i + 1)).filter b = (is.take i).filter b ++ (if b is[i] = true then [is[i]] else []) := by
        rw [List.take_succ, at_, List.filter_append]
        show _ ++ List.filter b [is[i]] = _
        by_cases z : b is[i] = true
        · rw [if_pos z, List.filter_cons_of_pos z] <;> rfl
        · rw [if_neg z, List.filter_cons_of_neg z] <;> rfl
      refine ht is[i] x H' ((e0.trans e1).trans ea) (List.getElem_mem lt) (m _ _ _ _ ea fx) H' (Ex.refl _) _ fun H3 e3 => ?_
      cases hb : b is[i] with
      | true =>
        show tVar j ((wipe σ vs).set j (some x)) H3 fun y H4 => ∃ acc, H4 D = some (.lst acc) ∧ acc.length < sizeLine ∧ ∃ acc', upd H4 D (.lst (acc ++ [y])) D = some (.lst acc') ∧ Paired (fun d v => F d v H1) ((is.take (i + 1)).filter b) acc' ∧ Ex H1 (upd H4 D (.lst (acc ++ [y])))
        refine ⟨x, hj x, acc, e3 _ _ ha, sz_lt (by omega), _, upd_same, ?_, ?_⟩
        · rw [add, if_pos hb]
          exact paired_append pa (.cons fx .nil)
        · intro c o hc
          have nc : c ≠ D := fun z => by rw [z, hD] at hc; cases hc
          rw [upd_ne nc]
          exact e3 _ _ (ea _ _ hc)
      | false =>
        show ∃ acc', H3 D = some (.lst acc') ∧ Paired (fun d v => F d v H1) ((is.take (i + 1)).filter b) acc' ∧ Ex H1 H3
        refine ⟨acc, e3 _ _ ha, ?_, ea.trans e3⟩
        rw [add, if_neg (by rw [hb]; decide), List.append_nil]
        exact pa
    · obtain ⟨acc, ha, pa, ea⟩ := z
      rw [← len, List.take_length] at pa
      exact q (.ref D) H' (e1.trans ea) ⟨D, acc, rfl, ha, paired_mono ea m pa⟩
end
end SwX
set_option Elab.async false
set_option linter.all false
set_option maxRecDepth 100000
set_option maxHeartbeats 4000000
/-! comprehensions over enumerate(a tuple) with a test; bool of an own instance -/
namespace SwX
open PySem PySem.Spec PyProof.Rows L2 Evl
theorem walk_enumT {K : PySem.W.Frag} {a : Addr} {xs : List V} : Walk (Itu K a) xs.length (fun H => SqT K H a xs) (fun i H v H' => ∃ T x, v = .ref T ∧ H T = none ∧ H' = upd H T (.tup [.int (i : Nat), x]) ∧ xs[i]? = some x) :=
  ⟨fun i H hi q => ⟨xs, xs[i], q, List.getElem?_eq_getElem hi⟩, fun H q => ⟨xs, q, rfl⟩, fun i H v H' hi q y => by
    obtain ⟨T, x, rfl, n, rfl, at_⟩ := y
    exact ⟨T, x, rfl, n, rfl, at_ xs q⟩⟩
/-- those whose places b wants, from place k on -/
def keepAt {α : Type} (b : Nat → Bool) : Nat → List α → List α
  | _, [] => []
  | k, x :: r => if b k = true then x :: keepAt b (k + 1) r else keepAt b (k + 1) r
theorem keepAt_snoc {α : Type} (b : Nat → Bool) (x : α) : ∀ (l : List α) (k : Nat), keepAt b k (l ++ [x]) = keepAt b k l ++ if b (k + l.length) = true then [x] else []
  | [], k => by
    show (if b k = true then x :: [] else []) = _
    simp [keepAt]
  | y :: l, k => by
    have z := keepAt_snoc b x l (k + 1)
    rw [show k + 1 + l.length = k + (y :: l).length by simp; omega] at z
    show (if b k = true then y :: keepAt b (k + 1) (l ++ [x]) else keepAt b (k + 1) (l ++ [x])) = (if b k = true then y :: keepAt b (k + 1) l else keepAt b (k + 1) l) ++ _
    rw [z]
    split <;> rfl
theorem keepAt_len {α : Type} (b : Nat → Bool) : ∀ (l : List α) (k : Nat), (keepAt b k l).length ≤ l.length
  | [], _ => Nat.le_refl _
  | y :: l, k => by
    have z := keepAt_len b l (k + 1)
    show (if b k = true then y :: keepAt b (k + 1) l else keepAt b (k + 1) l).length ≤ _
    split <;> simp only [List.length_cons] <;> omega
section
variable {K : PySem.W.Frag} {σ : L2.St} {H : Hp} {te tl ta to : TE} {tt : TT} {v x : V} {α : Type} {F : α → V → Hp → Prop} {is : List α} {xs : List V}
/-- [x for i, x in enumerate(a tuple) if ..] -/
theorem yi_lcET {j1 j2 : Nat} {vs : List Nat} (b : Nat → Bool) (m : ∀ i v H H', Ex H H' → F i v H → F i v H') (h : Yi tl σ H fun v H' => ∃ a xs, v = .ref a ∧ SqT K H' a xs ∧ Paired (fun i v => F i v H') is xs) (hz : is.length ≤ 1000)
    (hw : ∀ x y, wipe (((wipe σ vs).set j1 (some x)).set j2 (some y)) vs = wipe σ vs) (hj : ∀ x y : V, (((wipe σ vs).set j1 (some x)).set j2 (some y))[j2]? = some (some y))
    (ht : ∀ (i : Nat) (x : V) H1, Ex H H1 → i < is.length → EvT tt (((wipe σ vs).set j1 (some (.int (i : Nat)))).set j2 (some x)) H1 (b i)) : Yi (tLc (iEnumT K (tCons tl tNil)) (gTup K 2 (gCons (gName j1) (gCons (gName j2) gNil))) tt (tVar j2) vs) σ H (LstOf F (keepAt b 0 is)) := fun H0 e0 Q q =>
  h H0 e0 _ fun w H1 e1 z => by
    obtain ⟨p, xs, rfl, hp, pr⟩ := z
    have len := paired_len pr
    refine ⟨p, xs, rfl, hp, fun D hD => ?_⟩
    refine lc_it (walk_enumT (K := K) (a := p) (xs := xs)) (fun i H' => ∃ acc, H' D = some (.lst acc) ∧ Paired (fun d v => F d v H1) (keepAt b 0 (is.take i)) acc ∧ Ex H1 H') ⟨[], upd_same, by rw [List.take_zero]; exact .nil, Ex.new hD⟩ (fun i H' _ z => ex_t z.choose_spec.2.2 hp) (fun i x H' H2 hi z y => ?_) fun H' z => ?_
    · obtain ⟨acc, ha, pa, ea⟩ := z
      obtain ⟨T, x, rfl, nT, rfl, hx⟩ := y
      have lt : i < is.length := by omega
      have at_ : is[i]? = some is[i] := by simp [lt]
      obtain ⟨x', hx', fx⟩ := SwX.paired_get pr at_
      rw [hx] at hx'
      cases hx'
      have eT : Ex H' (upd H' T (.tup [.int (i : Nat), x])) := Ex.new nT
      refine ⟨T, _, rfl, .inl (.inl upd_same), rfl, _, _, rfl, _, _, rfl, rfl, hw _ _, ?_⟩
      have ln := paired_len pa
      have le : acc.length ≤ is.length := by
        rw [← ln]
        exact Nat.le_trans (keepAt_len _ _ _) (by rw [List.length_take]; omega)
      have add : keepAt b 0 (is.take (i + 1)) = keepAt b 0 (is.take i) ++ (if b i = true then [is[i]] else []) := by
        rw [List.take_succ, at_]
        show keepAt b 0 (is.take i ++ [is[i]]) = _
        rw [keepAt_snoc, List.length_take, Nat.min_eq_left (Nat.le_of_lt lt), Nat.zero_add]
      refine ht i x _ (((e0.trans e1).trans ea).trans eT) lt _ (Ex.refl _) _ fun H3 e3 => ?_
      cases hb : b i with
      | true =>
        show tVar j2 _ H3 fun y H4 => ∃ acc, H4 D = some (.lst acc) ∧ acc.length < sizeLine ∧ ∃ acc', upd H4 D (.lst (acc ++ [y])) D = some (.lst acc') ∧ Paired (fun d v => F d v H1) (keepAt b 0 (is.take (i + 1))) acc' ∧ Ex H1 (upd H4 D (.lst (acc ++ [y])))
        refine ⟨x, hj _ x, acc, e3 _ _ (eT _ _ ha), sz_lt (by omega), _, upd_same, ?_, ?_⟩
        · rw [add, if_pos hb]
          exact paired_append pa (.cons fx .nil)
        · intro c o hc
          have nc : c ≠ D := fun z => by rw [z, hD] at hc; cases hc
          rw [upd_ne nc]
          exact e3 _ _ (eT _ _ (ea _ _ hc))
      | false =>
        show ∃ acc', H3 D = some (.lst acc') ∧ Paired (fun d v => F d v H1) (keepAt b 0 (is.take (i + 1))) acc' ∧ Ex H1 H3
        refine ⟨acc, e3 _ _ (eT _ _ ha), ?_, (ea.trans eT).trans e3⟩
        rw [add, if_neg (by rw [hb]; decide), List.append_nil]
        exact pa
    · obtain ⟨acc, ha, pa, ea⟩ := z
      rw [← len, List.take_length] at pa
      exact q (.ref D) H' (e1.trans ea) ⟨D, acc, rfl, ha, paired_mono ea m pa⟩
end
end SwX
set_option Elab.async false
set_option linter.all false
set_option maxRecDepth 100000
set_option maxHeartbeats 1000000
/-! bool of an own instance -/
namespace SwX
open PySem PySem.Spec PyProof.Rows L2 Evl
theorem bool_made {prog : Program} {w : World} {A : Around} {E : Value → Shared → Prop} {s : Shared} {x : Addr} {Q : Value → Shared → Prop} (h : wpAny (model prog w) A.in1.in1 (truthy (.ref x)) (fun b s' => Q (.bool b) s') E s) : wpAny (model prog w) A (call (.type "bool") [.ref x]) Q E s := by
  refine callType_codes (T := "bool") (Bi := Builtin.«object.__init__») (Q₁ := fun r s₁ => ∃ b, r = .bool b ∧ Q r s₁) PySem.F.called_bool (PySem.F.typeCall_bool_1 _) PySem.F.entry_object_init ?_ ?_
  · refine codeAny_of_tree ?_
    show wpAny _ A.in1.in1 (do checkBuiltinCall "bool.__new__" ⟨[.type "bool", .ref x], []⟩; again (.builtin "bool.__new__" ⟨[.type "bool", .ref x], []⟩)) _ _ s
    refine wpAny_bind (wpAny_of_eq (PySem.F.newCall_bool_1 _) (wpAny_pure ⟨plainId_quiet (by decide +kernel) _, codeAny_builtin PySem.F.entry_bool_new ?_⟩))
    rw [Around.under_plainId (by decide +kernel) _]
    unfold Builtin.«bool.__new__»
    have sub := F.conv_sub_bool
    obtain ⟨hp, gs, dr, tk, os⟩ := s
    repeat (any_goals (first | assumption | (refine wpAny_bind (m := truthy (.ref x)) (wpAny_mono h (fun b s' hb => ?_) fun _ _ z => z)) | wp_step))
    exact ⟨_, rfl, hb⟩
  · rintro obj s₁ ⟨b, rfl, q⟩
    have ty : s₁.TypeIs (.bool b) "bool" := by first | exact rfl | exact typeIs_bool _ _
    exact ⟨ty, PySem.F.args_object_init_2 _ _, object_init_meets PySem.F.called_bool.init.lookup PySem.F.called_bool.made (by decide) prog w A.in1 _ s₁ ⟨ty, rfl, q⟩⟩
def rBoolOwn (C : Addr) (sp : Sp) (E : XK) : List V → Hp → VK → Prop := fun xs H Q => ∃ a, xs = [.ref a] ∧ IsI H a C ∧ sp [.ref a] H (fun v H' => ∃ k : Bool, v = .bl k ∧ Q (.bl k) H') E
theorem call_boolOwn {X : Cx} {CX : CXT} {n : Nat} {f C : Addr} {fd : FuncData} {ps : List Str} {sp : Sp} {E : XK} (F : FnOk X.prog X.w X.K X.mg X.base CX n f fd ps sp) (S : Spc X.K C "__bool__" f) (b : Binds X.K fd ps []) (out : Passes CX X E) (room : Room n X.A.in1.in1) : CallR X (.type "bool") (rBoolOwn C sp E) := by
  intro pins s σ H xs us Q I r h
  obtain ⟨a, rfl, ia, q⟩ := h
  obtain ⟨u, rfl, ru⟩ := Vals.one r
  cases ru
  obtain ⟨ox, od, J⟩ := ia.look I
  obtain ⟨m, fr⟩ := I.fr
  refine bool_made (PySem.W.truthy_K fr I.ok.mod.kin J S.at_ S.fn (wpAny_mono (by_machine F room rfl b out I (.cons (rel_ref _) .nil) q) (fun r s' z => ?_) fun _ _ z => z))
  obtain ⟨v, H', K', rv, k, rfl, q'⟩ := z
  cases rv
  exact ⟨.bl k, H', K', rel_bl _, q'⟩
end SwX
set_option Elab.async false
set_option linter.all false
set_option maxRecDepth 100000
set_option maxHeartbeats 1000000
/-! t[::-1] of a tuple -/
namespace SwX
open PySem PySem.Spec PyProof.Rows L2 Evl HT
section
variable {prog : Program} {w : World} {A : Around} {E : Value → Shared → Prop} {s : Shared}
theorem adjust_back (n : Nat) : Builtin.Slice.sliceAdjust none none (-1) (n : Int) = ((n : Int) - 1, -1) := by
  unfold Builtin.Slice.sliceAdjust
  simp
theorem places_back (n : Nat) : Builtin.Slice.slicePlaces ((n : Int) - 1) (-1) (-1) = n := by
  unfold Builtin.Slice.slicePlaces
  simp
  omega
theorem slice_back {sl : Addr} {vl vu vs : Value} {n : Nat} {Q : Int × Int × Nat → Shared → Prop} (hs : s.heap.IsSliceOf sl vl vu vs) (pl : IsPart vl none) (pu : IsPart vu none) (ps : IsPart vs (some (-1))) (h : Q ((n : Int) - 1, -1, n) s) : wpAny (model prog w) A (Builtin.Slice.sliceApplied (.ref sl) (pure (n : Int))) Q E s := by
  obtain ⟨os, at_, _, dat⟩ := hs
  unfold Builtin.Slice.sliceApplied Builtin.Slice.sliceFields
  refine wpAny_bind (wpAny_bind (wpAny_field at_ dat (x := vl) rfl (wpAny_bind (wpAny_field at_ dat (x := vu) rfl (wpAny_bind (wpAny_field at_ dat (x := vs) rfl (wpAny_pure ?_)))))))
  refine wpAny_bind (slicePart_ ps ?_)
  show wpAny _ _ (if ((-1 : Int) == 0) = true then _ else _) _ _ s
  rw [if_neg (by decide)]
  refine wpAny_bind (slicePart_ pl (wpAny_bind (slicePart_ pu (wpAny_bind (wpAny_pure ?_)))))
  show wpAny _ _ (match Builtin.Slice.sliceAdjust none none (-1) (n : Int) with | (lo, hi) => pure (lo, (-1 : Int), Builtin.Slice.slicePlaces lo hi (-1))) _ _ s
  rw [adjust_back]
  show wpAny _ _ (pure ((n : Int) - 1, (-1 : Int), Builtin.Slice.slicePlaces ((n : Int) - 1) (-1) (-1))) _ _ s
  rw [places_back]
  exact wpAny_pure h
theorem pick_back (xs : Array Value) : ((List.range xs.size).filterMap fun (k : Nat) => xs[(((xs.size : Int) - 1) + (k : Int) * (-1)).toNat]?).toArray = xs.toList.reverse.toArray := by
  have e : (fun (k : Nat) => xs[(((xs.size : Int) - 1) + (k : Int) * (-1)).toNat]?) = fun (k : Nat) => xs[(((xs.size : Int) - 1) - (k : Int)).toNat]? := by
    funext k
    rw [show ((xs.size : Int) - 1) + (k : Int) * (-1) = ((xs.size : Int) - 1) - (k : Int) by omega]
  rw [e]
  apply congrArg
  apply List.ext_getElem?
  intro i
  have key : ∀ m, m ≤ xs.size → ((List.range m).filterMap fun (k : Nat) => xs[(((xs.size : Int) - 1) - (k : Int)).toNat]?) = xs.toList.reverse.take m := by
    intro m
    induction m with
    | zero => intro _; simp
    | succ m ih =>
      intro hm
      have lt : xs.size - 1 - m < xs.size := by omega
      rw [List.range_succ, List.filterMap_append, ih (by omega), List.take_succ]
      congr 1
      have e1 : (((xs.size : Int) - 1) - (m : Int)).toNat = xs.size - 1 - m := by omega
      simp only [List.filterMap_cons, List.filterMap_nil, e1]
      rw [Array.getElem?_eq_getElem lt, List.getElem?_reverse (by simpa using (show m < xs.size by omega))]
      simp
      rw [Array.getElem?_eq_getElem lt] <;> rfl
  rw [key xs.size (Nat.le_refl _), List.take_of_length_le (by simp)]
theorem item_back {t sl : Addr} {items : Array Value} {vl vu vs : Value} {Q : Value → Shared → Prop} (ht : IsTup s.heap t items) (hs : s.heap.IsSliceOf sl vl vu vs) (pl : IsPart vl none) (pu : IsPart vu none) (ps : IsPart vs (some (-1)))
    (h : Q (.ref s.heap.objs.size) { s with heap := s.heap.push { cls := .type "tuple", data := .seq items.toList.reverse.toArray } }) (small : items.size ≤ sizeLine) : wpAny (model prog w) A (getItem (.ref t) (.ref sl)) Q E s := by
  have fits : sizeOk (.seq items.toList.reverse.toArray) := by
    show items.toList.reverse.toArray.size ≤ sizeLine
    rw [List.size_toArray, List.length_reverse, Array.length_toList]
    exact small
  have isS : s.TypeIs (.ref sl) "slice" := let ⟨os, at_, c, _⟩ := hs; ⟨os, at_, c⟩
  unfold getItem
  try with_reducible refine wpAny_holding ?_
  first | refine wpAny_bind (wpAny_pure ?_) | skip
  refine wpAny_bind (wpAny_sequenceKey ht.typeIs (by decide) ?_)
  refine wpAny_bind (wpAny_callSpecial?_slot (name := Str.ofString "__getitem__") ht.typeIs PyProof.Rows.slot_tuple_getitem (wpAny_call_entry PyProof.Rows.slot_tuple_getitem ht.typeIs entry_tuple_getitem ?_ (args_tuple_getitem _ _)))
  show wpAny _ _ (Builtin.Tuple.tupleItemsOf (.ref t) >>= _) _ _ s
  refine wpAny_bind (tupleItemsOf_ ht (wpAny_bind (wpAny_typeOf isS ?_)))
  rw [if_pos (by decide)]
  refine wpAny_bind (slice_back hs pl pu ps ?_)
  have never : ¬ ((((items.size : Int) - 1 : Int) == 0 && (-1 : Int) == 1 && items.size == items.size) = true) := by simp
  show wpAny _ _ (if (((items.size : Int) - 1 : Int) == 0 && (-1 : Int) == 1 && items.size == items.size) = true then _ else _) _ _ s
  rw [if_neg never, pick_back]
  first
    | exact wpAny_bind (m := Builtin.Tuple.tupleExact _) (wpAny_newObj_type (wpAny_pure ⟨_, rfl, wpAny_pure h⟩) fits)
    | exact wpAny_bind (m := Builtin.Tuple.tupleExact _) (wpAny_newObj_type (wpAny_bind (wpAny_pure (wpAny_pure ⟨_, rfl, wpAny_pure h⟩))) fits)
    | exact wpAny_bind (wpAny_bind (m := Builtin.Tuple.tupleExact _) (wpAny_newObj_type (wpAny_pure (wpAny_pure ⟨_, rfl, wpAny_pure h⟩)) fits))
    | exact wpAny_bind (wpAny_bind (m := Builtin.Tuple.tupleExact _) (wpAny_newObj_type (wpAny_pure ⟨_, rfl, wpAny_pure h⟩) fits))
end
def tRevT (K : PySem.W.Frag) (te : TE) : TE := fun σ H Q => te σ H fun x H1 => ∃ a xs, x = .ref a ∧ SqT K H1 a xs ∧ ∀ p, H1 p = none → Q (.ref p) (upd H1 p (.tup xs.reverse))
theorem pe_revT {X : Cx} {e : Expr} {te : TE} {k : Nat} {p1 p2 p3 pos : Pos} (he : PE X e te) : PE X (.Subscript e (.Slice none none (some (.UnaryOp .USub (.Constant (.int 1) k p1) p2)) p3) pos) (tRevT X.K te) := by
  refine ⟨fun pins s σ H Q I h => Subscript_ (thn (he.run pins s σ H _ I h) fun v s1 z => ?_)⟩
  obtain ⟨x, H1, I1, r1, a, xs, rfl, hx, q⟩ := z
  cases r1
  have step : PO X (some (.UnaryOp .USub (.Constant (.int 1) k p1) p2)) (tPart (tUn (rU fun i => .int (-i)) (tC (.int 1)))) := po_some (pe_un un_neg pe_int)
  refine wpAny_Slice (thn (po_none.run pins s1 σ H1 (fun o H2 => o = none ∧ H2 = H1) I1 ⟨rfl, rfl⟩) fun vl s2 z => ?_)
  obtain ⟨l, H2, I2, pl, rfl, e2⟩ := z
  rw [e2] at I2
  clear e2
  refine thn (po_none.run pins s2 σ _ (fun o H3 => o = none ∧ H3 = H1) I2 ⟨rfl, rfl⟩) fun vu s3 z => ?_
  obtain ⟨u, H3, I3, pu, rfl, e3⟩ := z
  rw [e3] at I3
  clear e3
  refine thn (step.run pins s3 σ _ (fun o H4 => o = some (-1) ∧ H4 = H1) I3 ⟨1, rfl, -1, rfl, rfl, rfl⟩) fun vs s4 z => ?_
  obtain ⟨o, H4, I4, ps, rfl, e4⟩ := z
  rw [e4] at I4
  have I5 : Inv X pins σ H1 { s4 with heap := s4.heap.push { cls := .type "slice", data := .fields #[vl, vu, vs] } } := I4.kept (t' := s4.toks) fun b ob q => Heap.get?_push_of_some _ q
  obtain ⟨its, r, ht, hz⟩ := I5.tuple hx
  have len := r.length
  show wpAny (model X.prog X.w) X.A (subscriptTail e (.Slice none none (some (.UnaryOp .USub (.Constant (.int 1) k p1) p2)) p3) (.ref a) (.ref s4.heap.objs.size)) (EP X pins σ Q) X.xe { s4 with heap := s4.heap.push { cls := .type "slice", data := .fields #[vl, vu, vs] } }
  refine tail_any (ops := [.ref a, .ref s4.heap.objs.size]) ht.typeIs PyProof.Rows.slot_tuple_getitem.lookup ?_ (by with_unfolding_all rfl)
  refine item_back ht (Heap.IsSliceOf.new _ vl vu vs) pl pu ps ?_ (by rw [List.size_toArray]; omega)
  refine ⟨.ref _, _, I5.laid (t' := s4.toks) (o := .tup xs.reverse) (fun b ob q => Heap.get?_push_of_some _ q) (Nat.le_refl _) ⟨by rw [List.length_reverse]; exact hz, _, r.reverse, ⟨_, Heap.get?_push_size _ rfl, rfl, _, rfl⟩⟩, rel_ref _, q _ (I5.hok.fresh (Nat.le_refl _))⟩
end SwX
set_option Elab.async false
set_option linter.all false
set_option maxRecDepth 100000
set_option maxHeartbeats 4000000
/-! try: .. except (A, B, C) as n: .. -/
namespace SwX
open PySem PySem.Spec PyProof.Rows L2
/-- in flight still, when a heap has grown -/
theorem flying_kept {B h h' : Heap} {l : List Env} {a : Addr} {Z : Obj → Prop} (x : HandSPX.FlyingZ B l a Z h) (k : ∀ b o, h.get? b = some o → h'.get? b = some o) : HandSPX.FlyingZ B l a Z h' := by
  obtain ⟨st, new, fr, oe, vs, T, oT, ts, t1, t2, t3, t4, t5, t6, t7, t8, t9⟩ := x
  exact ⟨fun b o e => k b o (st b o e), new, fr.of_keeps fun b o e _ => ⟨o, k b o e, rfl⟩, oe, vs, T, oT, ts, k _ _ t1, t2, t3, t4, t5, t6, k _ _ t7, t8, t9⟩
/-- what the clause wishes of an exception of the body: it is of one of the classes cs -/
def wAsT (K : PySem.W.Frag) (cs : List Value) (i n : Nat) (ts : Addr → Value → Option Addr → TS) (D : Ends) : WX := fun cls d σ H => PySem.W.exmAny K cls cs = some true ∧ ∀ a, H a = none → σ.length = n →
  ts a cls d { nx := fun z Y => D.nx (z.set i none) Y, rt := D.rt, bk := fun z Y => D.bk (z.set i none) Y, ct := fun z Y => D.ct (z.set i none) Y } (σ.set i (some (.ref a))) H
abbrev tupO (cs : List Value) : Obj := { cls := .type "tuple", data := .seq cs.toArray }
/-- the clause's classes are evaluated: a new tuple of them -/
def ClsT (X : Cx) (ty : Expr) (cs : List Value) : Prop :=
  (∀ (a : Addr) (pn pins : List (Addr × Obj)) (σ : L2.St) (H : Hp) (s : Shared) (Q : Value → Shared → Prop) (E : Value → Shared → Prop), Inv (X.suite a pn) pins σ H s → Q (.ref s.heap.objs.size) { s with heap := s.heap.push (tupO cs) } →
    wpAny (model X.prog X.w) (X.A.mark (some (.ref a))) (eval ty X.env) Q E s) ∧
  ∀ (h : Heap) (tp e : Addr) (cls : Value) (b : Bool), X.K.In h → PySem.W.Looks (model X.prog X.w) h (typeOf (.ref e)) cls → h.get? tp = some (tupO cs) → PySem.W.exmAny X.K cls cs = some b → PySem.W.Looks (model X.prog X.w) h (excMatches (.ref e) (.ref tp)) b
theorem ld_name {X : Cx} {pins : List (Addr × Obj)} {σ : L2.St} {H : Hp} {s : Shared} {x : Str} {c : Value} {p : Pos} {Q : Value → Shared → Prop} {E : Value → Shared → Prop} (I : Inv X pins σ H s) (n : Names X x c) (q : Q c s) : wpAny (model X.prog X.w) X.A (eval (.Name x p) X.env) Q E s := by
  obtain ⟨g, db, h | ⟨h1, h2, h3⟩⟩ := n
  · exact ld_glob I g h q db
  · exact ld_blt I g h1 h2 q h3 db
theorem clsT3 {X : Cx} {x y z : Str} {c d e : Value} {p1 p2 p3 pt : Pos} {k} (hx : Names X x c) (hy : Names X y d) (hz : Names X z e) : ClsT X (.Tuple [.Name x p1, .Name y p2, .Name z p3] k pt) [c, d, e] := by
  refine ⟨fun a pn pins σ H s Q E I q => ?_, fun h tp w cls b K L g m => PySem.W.exm_tup3 K L g m⟩
  refine wpAny_Tuple_spliced ?_
  refine Calls.spliced_cons (ld_name (X := X.suite a pn) I hx (Calls.spliced_cons (ld_name (X := X.suite a pn) I hy (Calls.spliced_cons (ld_name (X := X.suite a pn) I hz (Calls.spliced_nil ⟨show 3 ≤ sizeLine by decide, q⟩))))))
theorem clsT2 {X : Cx} {x y : Str} {c d : Value} {p1 p2 pt : Pos} {k} (hx : Names X x c) (hy : Names X y d) : ClsT X (.Tuple [.Name x p1, .Name y p2] k pt) [c, d] := by
  refine ⟨fun a pn pins σ H s Q E I q => ?_, fun h tp w cls b K L g m => PySem.W.exm_tup2 K L g m⟩
  refine wpAny_Tuple_spliced ?_
  refine Calls.spliced_cons (ld_name (X := X.suite a pn) I hx (Calls.spliced_cons (ld_name (X := X.suite a pn) I hy (Calls.spliced_nil ⟨show 2 ≤ sizeLine by decide, q⟩))))
section
variable {X : Cx} {n : Str} {cs : List Value} {i : Nat} {body suite : List Stmt} {b₀ : Stmt} {ty : Expr} {pos cpos : Pos} {tb : WX → TS} {ts : Addr → Value → Option Addr → TS}
theorem ps_try_asT (sk : X.stack = X.env :: X.outer) (fr : X.env.frame = some X.env.locals) (nd : X.N.Nodup) (ni : X.N[i]? = some n) (nl : X.env.kindOf n = some .local) (T : ClsT X ty cs)
    (hb : ∀ (W : WX) (pn : List (Addr × Obj)) (xe : Value → Shared → Prop), L2.Takes (X.tr pn xe) W → PassesOwn (model X.prog X.w) X.A X.env xe → PSs (X.tr pn xe) body (tb W))
    (hu : ∀ (a : Addr) (oe : Obj) (cls : Value) (d : Option Addr) (pn : List (Addr × Obj)), Zc cls d oe → (∃ vs, oe.data = .fields vs) → PSs (X.suite a ((a, oe) :: pn)) (b₀ :: suite) (ts a cls d)) :
    PS X (.Try body [.ExceptHandler (some ty) (some n) (b₀ :: suite) cpos] [] [] pos) (fun D σ H => tb (wAsT X.K cs i X.N.length ts D) D σ H) := by
  refine ⟨fun pins s σ H D I0 h => ?_⟩
  have ok0 := I0.ok
  have frs0 : X.A.frames = some (X.env :: X.outer) := ok0.frames.trans (by rw [sk])
  refine wpAny_Try_except (wpAny_mono ((hb (wAsT X.K cs i X.N.length ts D) (X.pn ++ pins) (fun e z => wpAny (model X.prog X.w) X.A (noteFrame e X.env) (fun _ z2 => wpAny (model X.prog X.w) X.A (setFlight e none) (fun _ z3 =>
    wpAny (model X.prog X.w) X.A (handleBy e X.env [.ExceptHandler (some ty) (some n) (b₀ :: suite) cpos]) (SP X pins D) X.xe z3) X.xe z2) X.xe z) (fun u t air => ?_) PassesOwn.looking).run [] s σ H D (I0.toTry _) h) (fun f t sp => ?_) fun e t z => z)
  · obtain ⟨a, B, sI, pins1, σ1, H1, cls, d, rfl, J', nb, up, sky, na, os, ag, hit, go⟩ := air
    have J : Inv X pins σ1 H1 sI := J'.ofTry ok0
    have sky1 : Sky B (X.env :: X.outer) a (Zc cls d) X.env.locals t.heap := sk ▸ sky
    show wpAny (model X.prog X.w) X.A (noteFrame (.ref a) X.env) _ _ _
    refine Sky.land Zc.steady frs0 fr sky1 fun h3 fl3 up3 => ?_
    have J3 : Inv X pins σ1 H1 { t with heap := h3 } := J.landed nb fl3.1 (up.trans up3) os ag
    obtain ⟨oe, vs, got, zc, dat⟩ := fl3.there
    have nfr : a ∉ frs (X.env :: X.outer) := fun hm => by
      obtain ⟨_, o, e, no⟩ := fl3.2.2.1.mem hm
      rw [got] at e
      cases e
      exact no _ dat
    have nL : a ≠ X.env.locals := fun z => nfr (List.mem_filterMap.mpr ⟨X.env, List.mem_cons_self, z ▸ fr⟩)
    have nF : a ∉ X.fs := fun hm => by
      obtain ⟨e, he, q⟩ := List.mem_filterMap.mp hm
      exact nfr (List.mem_filterMap.mpr ⟨e, List.mem_cons_of_mem _ he, q⟩)
    have S3 := J3.suite got dat na nL nF
    refine wpAny_handleBy_cons (codeAny_handlers_test (T.1 a _ [] σ1 H1 _ _ _ S3 ?_)) (by intro q; cases q)
    have pk : ∀ b o, h3.get? b = some o → (h3.push (tupO cs)).get? b = some o := fun b o e => Heap.get?_push_of_some _ e
    have LT : PySem.W.Looks (model X.prog X.w) (h3.push (tupO cs)) (typeOf (.ref a)) cls := fun _ _ _ _ k q => wpAny_typeOf_ref (k _ _ (pk _ _ got)) (zc.1.symm ▸ q)
    refine (T.2 (h3.push (tupO cs)) _ a cls true (J3.kIn.keeps pk) LT (Heap.get?_push_size _ rfl) hit).here ?_
    refine codeAny_handlers_suite_as (HandSPX.lands_againZ (s := { t with heap := h3.push (tupO cs) }) (flying_kept fl3 pk) fun h4 fl4 up4 => ?_)
    have J4 : Inv X pins σ1 H1 { t with heap := h4 } := J.landed nb fl4.1 ((up.trans up3).trans ((Heap.UpToSlots.of_keeps pk).trans up4)) os ag
    obtain ⟨oe4, vs4, got4, zc4, dat4⟩ := fl4.there
    have S4 := J4.suite got4 dat4 na nL nF
    refine store_ok (X := X.suite a ((a, oe4) :: (X.pn ++ pins))) (v := .ref a) S4 nd ni (.inl nl) rfl (fun s5 S5 => ?_) (.inr nl)
    refine wpAny_mono ((hu a oe4 cls d (X.pn ++ pins) zc4 ⟨_, dat4⟩).run [] s5 _ H1 _ S5 (go a na J.len)) (fun f s6 out => ?_) fun _ _ z => False.elim z
    have done : ∀ {z : L2.St} {Y : Hp} {R : Shared → Prop}, Inv (X.suite a ((a, oe4) :: (X.pn ++ pins))) [] z Y s6 → (∀ s7, Inv X pins (z.set i none) Y s7 → R s7) →
        wpAny (model X.prog X.w) X.A (do bindName X.env n .none; unbindBehindTheSuite X.env n cpos) (fun _ s7 => R s7) X.xe s6 := fun S r => gone_ok (S.unsuite ok0) nd ni nl r
    cases f with
    | ret u =>
      obtain ⟨v, z, Y, S6, rv, q⟩ := out
      exact done S6 fun s7 J7 => ⟨_, _, _, J7, rv, q⟩
    | next =>
      obtain ⟨z, Y, S6, q⟩ := out
      exact done S6 fun s7 J7 => ⟨_, _, J7, q⟩
    | brk =>
      obtain ⟨z, Y, S6, q⟩ := out
      exact done S6 fun s7 J7 => ⟨_, _, J7, q⟩
    | cont =>
      obtain ⟨z, Y, S6, q⟩ := out
      exact done S6 fun s7 J7 => ⟨_, _, J7, q⟩
  · cases f with
    | ret u =>
      obtain ⟨v, z, Y, J, rv, q⟩ := sp
      exact ⟨v, z, Y, J.ofTry ok0, rv, q⟩
    | next =>
      obtain ⟨z, Y, J, q⟩ := sp
      exact wpAny_execs_nil ⟨z, Y, J.ofTry ok0, q⟩
    | brk =>
      obtain ⟨z, Y, J, q⟩ := sp
      exact ⟨z, Y, J.ofTry ok0, q⟩
    | cont =>
      obtain ⟨z, Y, J, q⟩ := sp
      exact ⟨z, Y, J.ofTry ok0, q⟩
end
end SwX
set_option Elab.async false
set_option linter.all false
set_option maxRecDepth 100000
set_option maxHeartbeats 4000000
/-! the exception that a suite holds, handed to defs: isinstance, its fields -/
namespace SwX
open PySem PySem.Spec PyProof.Rows L2
/-- the exception that is held at a: of the class at C, its dict at d -/
def Held (X : Cx) (a C : Addr) (d : Option Addr) : Prop := ∃ oe, (a, oe) ∈ X.pn ∧ Zc (.ref C) d oe ∧ ∃ vs, oe.data = .fields vs
/-- its fields -/
def Flds (H : Hp) (d : Option Addr) (fs : List (Str × V)) : Prop := (d = none ∧ fs = []) ∨ ∃ dd, d = some dd ∧ H dd = some (.xd fs)
theorem Flds.mono {H H' : Hp} {d : Option Addr} {fs : List (Str × V)} (e : Evl.Ex H H') (h : Flds H d fs) : Flds H' d fs := by
  rcases h with h | ⟨dd, h1, h2⟩
  · exact .inl h
  · exact .inr ⟨dd, h1, e _ _ h2⟩
section
variable {X : Cx} {pins : List (Addr × Obj)} {σ : L2.St} {H : Hp} {s : Shared} {a C : Addr} {d : Option Addr} {fs : List (Str × V)}
theorem Held.seen (I : Inv X pins σ H s) (h : Held X a C d) (x : Flds H d fs) : ∃ ox od, PySem.W.InstAt s.heap a ox C od ∧ ∀ f v, fs.lookup f = some v → ∃ o u, od = some o ∧ PySem.W.lookIn f o = some (some u) ∧ RelV v u := by
  obtain ⟨oe, mem, ⟨z1, z2⟩, vs, dat⟩ := h
  have at_ := (I.pin (a, oe) (List.mem_append_left _ mem)).1
  have nc : PySem.W.notCls oe = true := by unfold PySem.W.notCls; rw [dat] <;> rfl
  rcases x with ⟨rfl, rfl⟩ | ⟨dd, rfl, e⟩
  · exact ⟨oe, none, ⟨at_, z1, nc, by rw [z2]; trivial⟩, fun f v z => by cases z⟩
  · obtain ⟨mA, hns, rel⟩ := (show ObjOk X.prog X.w H s.heap dd (.xd fs) from I.hok dd _ e)
    obtain ⟨o, hod, look⟩ := lookIn_ns hns
    refine ⟨oe, some o, ⟨at_, z1, nc, by rw [z2]; exact hod⟩, fun f v z => ?_⟩
    have ro := rel f
    rw [z] at ro
    cases q : mA f with
    | none => rw [q] at ro; exact ro.elim
    | some u => rw [q] at ro; exact ⟨o, u, rfl, (look f).trans (congrArg some q), ro⟩
end
/-- isinstance(e, c), e the exception that is held -/
def rIsP (K : PySem.W.Frag) (a C : Addr) (d : Option Addr) : List V → Hp → VK → Prop := fun xs H Q => ∃ (fs : List (Str × V)) (c : V) (u : Value) (b : Bool), xs = [.ref a, c] ∧ Flds H d fs ∧ Oex K C ∧ ClsV c u ∧ PySem.W.kitOne K (.ref C) u = some b ∧ Q (.bl b) H
theorem call_isP {X : Cx} {a C : Addr} {d : Option Addr} (hd : Held X a C d) : CallR X (.builtin "isinstance") (rIsP X.K a C d) := fun pins s σ H xs us Q I r h => by
  obtain ⟨fs, c, u, b, rfl, at_, T, k, ans, q⟩ := h
  obtain ⟨u1, u2, rfl, r1, r2⟩ := vals2 r
  obtain rfl : u1 = Value.ref a := r1
  obtain rfl : u2 = u := k.eq r2
  obtain ⟨ox, od, J, _⟩ := hd.seen I at_
  obtain ⟨cd, hcd, _⟩ := PySem.W.any_some T.dct
  exact PySem.W.kia_one (PySem.W.kitx_exc (by rw [hcd]; rfl) T.get T.miss T.exc T.cl T.clg T.clt T.top) I.kIn J ans (fun z => nomatch z) fun tk => ⟨.bl b, H, I.tok tk, rfl, q⟩
/-- e.f, e the exception that is held -/
def tFldP (K : PySem.W.Frag) (a C : Addr) (d : Option Addr) (f : Str) (te : TE) : TE := fun σ H Q => te σ H fun x H1 => ∃ (fs : List (Str × V)) (v : V), x = .ref a ∧ Flds H1 d fs ∧ Oex K C ∧ Free K C f ∧ fs.lookup f = some v ∧ Q v H1
theorem pe_fldP {X : Cx} {a C : Addr} {d : Option Addr} {e : Expr} {te : TE} {f : Str} {pos : Pos} (hd : Held X a C d) (he : PE X e te) (hb : attributeBase e f X.env (eval e X.env) = eval e X.env := by rfl) : PE X (.Attribute e f pos) (tFldP X.K a C d f te) := by
  refine ⟨fun pins s σ H Q I h => attr_of hb (thn (he.run pins s σ H _ I h) fun u s1 hu => ?_)⟩
  obtain ⟨x, H1, I1, rx, fs, v, rfl, at_, T, no, hl, q⟩ := hu
  obtain rfl : u = Value.ref a := rx
  obtain ⟨ox, od, J, z⟩ := hd.seen I1 at_
  obtain ⟨o, w, rfl, hw, rw'⟩ := z f v hl
  exact PySem.HandSPX.exc_get I1.kIn J T.get T.miss T.exc (PySem.W.findObj_own T.dct no.no rfl hw) (handed_of rw') ⟨v, H1, I1.tok _, rw', q⟩
/-! ### defs called with it -/
abbrev SpC := Addr → Addr → Option Addr → Sp
structure FnC (P : Program) (w : World) (K : PySem.W.Frag) (mg : Str → Option Value) (base : Heap) (k : Nat) (f : Addr) (fd : FuncData) (ps : List Str) (sp : SpC) : Prop where
  len : ∀ a C d vs H Q E, sp a C d vs H Q E → vs.length = ps.length
  run : ∀ (A : Around) (outer : List Env) (s : Shared) (H : Hp) (args : Args) (us : List Value) (vs : List V) (Q : VK) (E : XK) (a C : Addr) (d : Option Addr) (oe : Obj), L2H.RoomH k A → Zc (.ref C) d oe → (∃ vs, oe.data = .fields vs) → L2H.PinOk outer H s (a, oe) →
    Env0 P w K mg base A outer s H → BindsTo s fd args (ps.zip us) → Vals vs us → sp a C d vs H Q E → codeAny (model P w) A (.call (.ref f) args) (CR CX0 outer P w H s Q E) s
section
variable {P : Program} {w : World} {K : PySem.W.Frag} {mg : Str → Option Value} {base : Heap} {k : Nat} {f : Addr} {fd : FuncData} {N ps : List Str} {sp : SpC} {x qual : Str} {params : Arguments} {body : List Stmt} {scope : Scope} {dvs : List V} {kws : List (Str × V)}
theorem FunD.okC (F : FunD K x qual params body scope dvs kws f fd) (S : FnScope N ps scope) (len : ∀ a C d vs H Q E, sp a C d vs H Q E → vs.length = ps.length)
    (hb : ∀ (cdv : Value) (A : Around) (outer : List Env) (s : Shared) (H : Hp) (vs : List V) (Q : VK) (E : XK) (a C : Addr) (d : Option Addr) (oe : Obj), L2H.RoomH k (A.deeper (envOfC qual scope s.heap.objs.size f cdv)) → Held (L2H.cxH CX0 P w K mg base N qual scope f cdv A outer s H E (a, oe)) a C d → sp a C d vs H Q E →
      ∃ t, PSs (L2H.cxH CX0 P w K mg base N qual scope f cdv A outer s H E (a, oe)) body t ∧ t { nx := fun _ H' => Q .non H', rt := Q } (start N vs) H) : FnC P w K mg base (k + 1) f fd ps sp := by
  obtain ⟨oc, od, dV, kV, doc, pm, an, cdv, ct, osl, rfl, lk, hcd, _, _⟩ := F.ex
  refine ⟨len, fun A outer s H args us vs Q E a C d oe hr zc dat pin e0 bind r hsp => ?_⟩
  have base_in : ∀ b o, base.get? b = some o → s.heap.get? b = some o := fun b o z => (e0.bs b o z).1
  have KX : K.In s.heap := e0.mod.kin.keeps base_in
  have par : ∀ y ∈ ps.zip us, scope.names.lookup y.1 = some .local ∨ (scope.names.lookup y.1 = some .cell ∧ ((cellsFrom (s.heap.objs.size + 1) scope.names []).lookup y.1).isSome = true) := fun y hy => by
    cases S.par y.1 (List.of_mem_zip hy).1 with
    | inl q => exact Or.inl q
    | inr q => exact Or.inr ⟨q, PySem.W.cellsFrom_some _ _ _ (Or.inl q)⟩
  refine codeAny_call_function hr.depth (KX _ _ lk) rfl S.co S.gen rfl (PySem.W.codeRec_of KX hcd) (bind _ _ _ _ (wpAny_newFunctionEnv_cells S.kind par fun env he s1 made => ?_))
  subst he
  refine And.intro ((e0.mod.nolimit.keeps base_in).keeps made.toInCall.keep) (codeAny_func ?_)
  obtain ⟨t, ht, hq⟩ := hb cdv A outer s H vs Q E a C d oe (hr.deeper _) ⟨oe, List.mem_singleton.mpr rfl, zc, dat⟩ hsp
  refine wpAny_mono (ht.run [] s1 (start N vs) H _ (L2H.inv_startH S pin e0 (len _ _ _ _ _ _ _ hsp) r made) hq) (fun fl s' z => ?_) fun _ _ z => z
  cases fl with
  | ret u =>
    obtain ⟨v, σ', H', J, rv, q⟩ := z
    exact ⟨v, H', J.os, J.bare, J.base, J.hok, rv, q⟩
  | next =>
    obtain ⟨σ', H', J, q⟩ := z
    exact ⟨V.non, H', J.os, J.bare, J.base, J.hok, rfl, q⟩
  | brk =>
    obtain ⟨_, _, _, q⟩ := z
    exact q.elim
  | cont =>
    obtain ⟨_, _, _, q⟩ := z
    exact q.elim
end
/-- the module's name x is such a def -/
structure HasC (P : Program) (w : World) (K : PySem.W.Frag) (mg : Str → Option Value) (base : Heap) (x : Str) (k : Nat) (ps : List Str) (sp : SpC) : Prop where
  ex : ∃ f fd, FnC P w K mg base k f fd ps sp ∧ mg x = some (.ref f) ∧ PySem.W.keepIn K (.ref f) = true ∧ Binds K fd ps []
section
variable {X : Cx} {k : Nat} {a C : Addr} {d : Option Addr} {ps : List Str} {sp : SpC} {x : Str} {p pos : Pos} {e : Expr} {es : List Expr} {t : TA}
theorem pe_hasC (D : HasC X.prog X.w X.K X.mg X.base x k ps sp) (hd : Held X a C d) (hr : L2H.RoomH k X.A) (ha : PA X (e :: es) t) (hg : Gl X x := by rfl) (hdb : (x == ("__debug__" : Str)) = false := by decide)
    (he : starEach (e :: es) X.env = (false, eval e X.env) :: starEach es X.env := by rfl) (hpl : (backTo pos (starEach es X.env)).any (·.1) = false := by rfl) : PE X (.Call (.Name x p) (e :: es) [] pos) (tCall (sp a C d) [] E0 t) := by
  obtain ⟨f, fd, F, hm, hk, hb⟩ := D.ex
  refine ⟨fun pins s σ H Q I h => wpAny_Call_Name_kw (ld_glob I hg hm (PySem.W.callWith_K (h₀ := X.base) I.ok.mod.kin hk (thn (ha.run pos pins s σ H _ I h) fun us s1 hu => ?_) he hpl) hdb)⟩
  obtain ⟨vs, H1, I1, r, q⟩ := hu
  rw [List.append_nil] at q
  obtain ⟨oe, mem, zc, dat⟩ := hd
  have pin := I1.pin (a, oe) (List.mem_append_left _ mem)
  have lay : L2H.PinOk X.stack H1 s1 (a, oe) := ⟨pin.1, pin.2.1, fun hm => (List.mem_cons.mp (I1.stkSub a hm)).elim pin.2.2.1 pin.2.2.2.1, pin.2.2.2.2⟩
  have b := hb s1 us I1.kIn (by rw [List.append_nil, ← r.length]; exact F.len _ _ _ _ _ _ _ q)
  rw [List.append_nil] at b
  refine ⟨I1.kIn, wpAny_call (codeAny_mono (F.run X.A X.stack s1 H1 ⟨us, []⟩ us vs Q E0 a C d oe hr zc dat lay I1.env0 b r q) fun res s' z => ?_)⟩
  cases res with
  | error er => exact z.elim
  | ok fl =>
    cases fl with
    | ret u => exact I1.after z
    | next => exact z.elim
    | brk => exact z.elim
    | cont => exact z.elim
end
section
variable {X : Cx} {k : Nat}
theorem op_eqH (hr : L2H.RoomH k X.A) : OpR X (compareOp .Eq) (fun x y H Q => rEq x y H Q ∨ rEqD X.K x y H Q) := op_join op_eq (op_eqD (by have := hr.un; omega))
theorem op_neH (hr : L2H.RoomH k X.A) : OpR X (compareOp .NotEq) (fun x y H Q => rNe x y H Q ∨ rNeD X.K x y H Q) := op_join op_ne (op_neD (by have := hr.un; omega))
theorem call_reprH (S : SysIn X.K) (calm : Calm X.A) (un : X.A.units + 200 < cLine) : CallR X (.builtin "repr") (rRepr X.K) := fun pins s σ H xs us Q I r h => by
  obtain ⟨a, d, rfl, da, sh, dp, len, q⟩ := h
  obtain ⟨u, rfl, ru⟩ := Vals.one r
  obtain ⟨as, rd, ns⟩ := da.reads I S u ru
  cases ru
  exact repr_of_reads' rd sh (fun _ => ns) calm (by omega) (fun _ _ e => e) (fun h' u tk keep => ⟨.str d.shown, H, I.kept keep, ⟨u, rfl⟩, q⟩) len
end
/-! ### readings -/
section
open Evl (Ex Ev)
variable {K : PySem.W.Frag} {σ : L2.St} {H : Hp} {te tb' : TE} {a C : Addr} {dd : Option Addr} {fs : List (Str × V)}
theorem ev_isP {c : V} {u : Value} {b : Bool} (h : Ev te σ H (.ref a)) (hc : Ev tb' σ H c) (x : Flds H dd fs) (T : Oex K C) (k : ClsV c u) (e : PySem.W.kitOne K (.ref C) u = some b) : Ev (tCB (rIsP K a C dd) (tCons te (tCons tb' tNil))) σ H (.bl b) := fun H1 e1 Q q =>
  h H1 e1 _ fun H2 e2 => hc H2 (e1.trans e2) _ fun H3 e3 => ⟨fs, c, u, b, rfl, x.mono ((e1.trans e2).trans e3), T, k, e, q H3 (e2.trans e3)⟩
theorem ev_fldP {f : Str} {v : V} (h : Ev te σ H (.ref a)) (x : Flds H dd fs) (T : Oex K C) (n : Free K C f) (l : fs.lookup f = some v) : Ev (tFldP K a C dd f te) σ H v := fun H1 e1 Q q =>
  h H1 e1 _ fun H2 e2 => ⟨fs, v, rfl, x.mono (e1.trans e2), T, n, l, q H2 e2⟩
end
end SwX
set_option Elab.async false
set_option linter.all false
set_option maxRecDepth 100000
set_option maxHeartbeats 4000000
/-! own exceptions raised; defs that let exceptions out; own repr -/
namespace SwX
open PySem PySem.Spec PyProof.Rows L2
/-- C(e, ..), to be raised -/
def tMkN (C : Addr) (n : Nat) (sp : Sp) (t : TA) : L2.St → Hp → XK → Prop := fun σ H Q => t σ H fun vs H1 => (vs.length = n ∧ n ≤ 1000) ∧ ∀ a, H1 a = none → sp (.ref a :: vs) (upd H1 a (exo a C none))
  (fun v H2 => v = .non ∧ ∃ (d : Addr) (fs : List (Str × V)), H2 a = some (exo a C (some d)) ∧ H2 d = some (exd d fs) ∧ H1 d = none ∧ Q (.ref C) (some d) (upd (del H2 a) d (.xd fs))) E0
section
variable {X : Cx} {k n : Nat} {fI C : Addr} {fd : FuncData} {ps : List Str} {sp : Sp} {x : Str} {p pos : Pos} {e : Expr} {es : List Expr} {t : TA}
theorem mk_runs {pins : List (Addr × Obj)} {σ : L2.St} {H : Hp} {s : Shared} {Q : XK} {us : List Value} {vs : List V} (T : Oex X.K C) (ty : PySem.W.typeIn X.K (.ref C) = some (.type "type")) (i : Ini X.K C fI) (F : FnOk X.prog X.w X.K X.mg X.base CX0 k fI fd ps sp) (room : Room (k + 1) X.A)
    (b : KBn X.K fd ps (n + 1) [] (fun us _ => us) (fun vs _ => vs)) (I : Inv X pins σ H s) (r : Vals vs us) (len : vs.length = n ∧ n ≤ 1000)
    (h : ∀ a, H a = none → sp (.ref a :: vs) (upd H a (exo a C none)) (fun v H2 => v = .non ∧ ∃ (d : Addr) (fs : List (Str × V)), H2 a = some (exo a C (some d)) ∧ H2 d = some (exd d fs) ∧ H d = none ∧ Q (.ref C) (some d) (upd (del H2 a) d (.xd fs))) E0) :
    wpAny (model X.prog X.w) X.A (call (.ref C) us) (MkP X pins σ Q) X.xe s := by
  obtain ⟨B, newId, initId, bmB, base, _, nm, qn, N, bs, bm, hd, sn, sub, ab, col, dd, k0, k1, k2, k3, k5, hC, tail⟩ := T.base
  obtain ⟨l1, l3⟩ := len
  obtain ⟨hp, gs, dr, tok, os⟩ := s
  have new : H (hp.objs.size + 1) = none := I.hok.fresh (Nat.le_succ _)
  have keep : ∀ z o, hp.get? z = some o → (laid2 hp C us).get? z = some o := fun _ _ z => Heap.get?_push_of_some _ (Heap.get?_push_of_some _ z)
  have there : (laid2 hp C us).get? (hp.objs.size + 1) = some (PySem.HandSPX.excO C hp.objs.size) := by heap_get
  have J : Inv X pins σ (upd H (hp.objs.size + 1) (exo (hp.objs.size + 1) C none)) ⟨laid2 hp C us, gs, dr, tok, os⟩ := I.laid (t' := tok) keep (Nat.le_succ _) (exo_ok there)
  have ra : Vals (V.ref (hp.objs.size + 1) :: vs) (Value.ref (hp.objs.size + 1) :: us) := .cons rfl r
  have small : us.length ≤ sizeLine := by have := r.length; rw [sizeLine_eq]; omega
  refine wpAny_call (run_class base.call (line_of base.call fun Y => PySem.W.excTail_contains Y bm tail) ⟨_, _, _, _, _, _, _, _, _, _, _, _, _, _, _, I.kIn _ _ hC⟩ small (PySem.W.looks_findIn I.kIn i.at_) (fun self => PySem.W.bind_fn I.kIn self i.ty) ?_)
  refine codeAny_mono (F.run _ X.stack _ _ ⟨Value.ref (hp.objs.size + 1) :: us, []⟩ (Value.ref (hp.objs.size + 1) :: us) _ _ E0 (room.make C us []) (J.env0.make C us []) (b.to _ (_ :: us) [] J.kIn ?_ rfl) (b.rel ra .nil) (h _ new)) fun r s' z => ?_
  · exact ra.length.symm.trans (congrArg Nat.succ l1)
  cases r with
  | error er => exact z.elim
  | ok fl =>
    cases fl with
    | ret u =>
      obtain ⟨v, H2, os2, bare2, un2, hok2, rv, ev, d, fs, ea, ed, hd1, q2⟩ := z
      subst ev
      obtain ⟨h2, g2, d2, t2, os'⟩ := s'
      exact ⟨rv, mk_end (raises_own T.exc ty) I (Nat.le_succ _) keep un2 hok2 os2 bare2 ea ed hd1 q2⟩
    | next => exact z.elim
    | brk => exact z.elim
    | cont => exact z.elim
theorem pmk_new {ks : List Str} {gg : {α : Type} → List α → List α → List α} (D : HasX X.prog X.w X.K X.mg X.base x k C n ks gg sp) (ty : PySem.W.typeIn X.K (.ref C) = some (.type "type")) (hr : Room (k + 1) X.A) (ha : PA X (e :: es) t) (hg : Gl X x := by rfl) (hdb : (x == ("__debug__" : Str)) = false := by decide)
    (he : starEach (e :: es) X.env = (false, eval e X.env) :: starEach es X.env := by rfl) (hpl : (backTo pos (starEach es X.env)).any (·.1) = false := by rfl) : PMk X (.Call (.Name x p) (e :: es) [] pos) (tMkN C n sp t) := by
  obtain ⟨fI, fd, ps, T, i, F, hm, b, _⟩ := D.ex
  intro pins s σ H Q I h
  refine wpAny_Call_Name_kw (ld_glob I hg hm (PySem.W.callWith_K (h₀ := X.base) I.ok.mod.kin T.kp (thn (ha.run pos pins s σ H _ I h) fun us s1 hu => ?_) he hpl) hdb)
  obtain ⟨vs, H1, I1, r, len, q⟩ := hu
  exact ⟨I1.kIn, mk_runs T ty i F hr b I1 r len q⟩
end
section
open Evl (Ex Ev)
variable {σ : L2.St} {H : Hp} {tv : TE} {v : V} {C : Addr} {f : Str}
theorem mk_new1 {Q : XK} (h : Ev tv σ H v) (q : ∀ d H', Ex H H' → Flds H' (some d) [(f, v)] → Q (.ref C) (some d) H') : tMkN C 1 (spIni1 C f) (tCons tv tNil) σ H Q := h H (Ex.refl H) _ fun H1 e1 => by
  refine ⟨⟨rfl, by decide⟩, fun a ha => ⟨a, v, rfl, upd_same, fun d hd ne => ⟨rfl, d, [(f, v)], upd_same, ?_, ?_, ?_⟩⟩⟩
  · rw [upd_ne ne, upd_same]
  · rwa [upd_ne ne] at hd
  · have hd' : H1 d = none := by rwa [upd_ne ne] at hd
    refine q d _ (fun b o z => ?_) (.inr ⟨d, rfl, upd_same⟩)
    have z1 := e1 b o z
    have nb : b ≠ a := ne_of_none z1 ha
    have nd : b ≠ d := ne_of_none z1 hd'
    rw [upd_ne nd]
    show (if b = a then none else _) = _
    rw [if_neg nb, upd_ne nb, upd_ne nd, upd_ne nb]
    exact z1
end
/-! ### defs that let exceptions out -/
/-- the module's name x is a def that may let an exception out -/
structure HasE (P : Program) (w : World) (K : PySem.W.Frag) (mg : Str → Option Value) (base : Heap) (x : Str) (k : Nat) (ps : List Str) (sp : Sp) : Prop where
  ex : ∃ f fd, FnOk P w K mg base (L2.CX P w) k f fd ps sp ∧ mg x = some (.ref f) ∧ PySem.W.keepIn K (.ref f) = true ∧ Binds K fd ps []
section
variable {X : Cx} {k : Nat} {ps : List Str} {sp : Sp} {x : Str} {p pos : Pos} {e : Expr} {es : List Expr} {t : TA} {E : XK} {W : WX}
theorem pass_E (tk : L2.Takes X W) (hW : ∀ cls d σ H, E cls d H → W cls d σ H) : Passes (L2.CX X.prog X.w) X E := fun pins σ H s e s' I c => passes_call tk hW pins σ H s e s' I c
theorem pe_hasE (D : HasE X.prog X.w X.K X.mg X.base x k ps sp) (hr : Room k X.A) (hx : Passes (L2.CX X.prog X.w) X E) (ha : PA X (e :: es) t) (hg : Gl X x := by rfl) (hdb : (x == ("__debug__" : Str)) = false := by decide)
    (he : starEach (e :: es) X.env = (false, eval e X.env) :: starEach es X.env := by rfl) (hpl : (backTo pos (starEach es X.env)).any (·.1) = false := by rfl) : PE X (.Call (.Name x p) (e :: es) [] pos) (tCall sp [] E t) := by
  obtain ⟨f, fd, F, hm, hk, hb⟩ := D.ex
  exact pe_call F hr hg hm hk hb .nil hx ha hdb he hpl
end
/-! ### own repr -/
section
variable {X : Cx} {n : Nat} {f C : Addr} {fd : FuncData} {ps : List Str} {sp : Sp}
/-- repr(x), x an instance of the class at C -/
def rReprOwn (C : Addr) (sp : Sp) : List V → Hp → VK → Prop := fun xs H Q => ∃ a, xs = [.ref a] ∧ IsI H a C ∧ sp [.ref a] H (fun v H' => ∃ z : Str, v = .str z ∧ Q (.str z) H') E0
theorem call_reprOwn (F : FnOk X.prog X.w X.K X.mg X.base CX0 n f fd ps sp) (S : Spc X.K C "__repr__" f) (b : Binds X.K fd ps []) (room : Room n X.A.in1) : CallR X (.builtin "repr") (rReprOwn C sp) := by
  intro pins s σ H xs us Q I r h
  obtain ⟨a, rfl, ia, q⟩ := h
  obtain ⟨u, rfl, ru⟩ := Vals.one r
  cases ru
  obtain ⟨ox, od, J⟩ := ia.look I
  obtain ⟨m, fr⟩ := I.fr
  have un := room.un
  refine PySem.W.repr_K (by omega) fr I.ok.mod.kin J S.at_ S.fn (wpAny_mono (by_machine F room rfl b pass0 I (.cons (rel_ref _) .nil) q) (fun r s' z => ?_) fun _ _ z => z)
  obtain ⟨v, H', K', rv, k, rfl, q'⟩ := z
  obtain ⟨t, rfl⟩ := rv
  exact ⟨.str k, H', K', ⟨_, rfl⟩, q'⟩
end
end SwX
set_option Elab.async false
set_option linter.all false
set_option maxRecDepth 100000
set_option maxHeartbeats 4000000
/-! a tuple against (), whatever its items; a dict sought among texts -/
namespace SwX
open PySem PySem.Spec PyProof.Rows L2 PySem.SeqAt
open AutoSeq1 (wpAny_loadPart')
open MeetsSeq
abbrev dicO (es : Array DictEntry) (ep : Nat) : Obj := { cls := .type "dict", data := .dict es ep }
theorem str_declines_dict (b : Str) (u : Tok) (l : Addr) (es : Array DictEntry) (ep : Nat) :
    Meets (Builtin.«str.__eq__» ⟨[.str b u, .ref l], []⟩) (fun _ R s => s.heap.get? l = some (dicO es ep) ∧ R (.ok (.ret .notImplemented)) s) :=
  .of_wp fun prog w A R s h => by obtain ⟨hp, g, d, tk, os⟩ := s; obtain ⟨hl, h⟩ := h; wp_walk using wpAny_loadPart' hl, wpAny_load hl; exact ⟨_, rfl, h⟩
theorem dict_declines_str (b : Str) (u : Tok) (l : Addr) (es : Array DictEntry) (ep : Nat) :
    Meets (Builtin.«dict.__eq__» ⟨[.ref l, .str b u], []⟩) (fun _ R s => s.heap.get? l = some (dicO es ep) ∧ R (.ok (.ret .notImplemented)) s) :=
  .of_wp fun prog w A R s h => by obtain ⟨hp, g, d, tk, os⟩ := s; obtain ⟨hl, h⟩ := h; have f1 := F.sub_str_dict; wp_walk using wpAny_loadPart' hl, wpAny_load hl; exact ⟨_, rfl, h⟩
theorem eq_str_dict {A : Around} {s : Shared} {l : Addr} {es : Array DictEntry} {ep : Nat} (b : Str) (u : Tok) (hl : s.heap.get? l = some (dicO es ep)) (hu : A.units < cLine) : EqAt A s (.str b u) (.ref l) false := fun prog w E Q h => by
  unfold eqBool
  refine wpAny_holding (wpAny_ite_split (fun hab => absurd (eq_of_beq hab) nofun) fun _ => wpAny_bind ?_)
  exact rc_eq_decline_or (k := false) (typeIs_str s b u) ⟨_, hl, rfl⟩ (by decide) F.sub_dict_str F.slot_str_eq F.slot_dict_eq_refl
    (fun _ hq => call_meets F.slot_str_eq (typeIs_str s b u) F.entry_str_eq (F.args_str_eq_2 _ _) (str_declines_dict b u l es ep) ⟨hl, hq⟩)
    (fun _ hq => call_meets F.slot_dict_eq_refl ⟨_, hl, rfl⟩ F.entry_dict_eq (F.args_dict_eq_2 _ _) (dict_declines_str b u l es ep) ⟨hl, hq⟩)
    (fun _ hq => wpAny_of_eq (rfl : isSame (.str b u) (.ref l) = pure false) hq) (.inr hu) (wpAny_truthy_bool h)
section
variable {X : Cx} {k : Nat}
/-- texts, as the machine has them -/
theorem strs_of : ∀ {zs : List Str} {us : List Value}, Vals (zs.map V.str) us → ∀ u ∈ us, ∃ z t, u = .str z t
  | [], _, r, u, hu => by cases r; cases hu
  | z :: zs, _, r, u, hu => by
    cases r with
    | cons r0 rs =>
      obtain ⟨t, rfl⟩ := r0
      rcases List.mem_cons.mp hu with rfl | hu
      · exact ⟨_, _, rfl⟩
      · exact strs_of rs u hu
theorem dict_at {pins : List (Addr × Obj)} {σ : L2.St} {H : Hp} {s : Shared} {a : Addr} {kvs : List (Key × V)} (I : Inv X pins σ H s) (h : H a = some (.dK kvs)) : ∃ es ep, s.heap.get? a = some (dicO es ep) := by
  obtain ⟨_, _, vs, r, ob, es, ep, e, c, dt, _⟩ := (show ObjOk X.prog X.w H s.heap a (.dK kvs) from I.hok a _ h)
  obtain ⟨oc, od, odt, osl⟩ := ob
  obtain ⟨c1, c2, c3⟩ := c
  dsimp only at c1 c2 c3 dt
  subst c1 c2 c3 dt
  exact ⟨es, ep, e⟩
/-- a dict in | not in a tuple of texts -/
def rInDic (K : PySem.W.Frag) (b : Bool) : R2 := fun x y H Q => ∃ (a p : Addr) (kvs : List (Key × V)) (zs : List Str), x = .ref a ∧ y = .ref p ∧ H a = some (.dK kvs) ∧ SqT K H p (zs.map V.str) ∧ Q (.bl b) H
theorem no_any {us : List Value} : us.toArray.any (fun _ => false) = false := by simp
theorem op_inDic (hr : Room k X.A) : OpR X (compareOp .In) (rInDic X.K false) := by
  intro pins s σ H x y v u Q I rx ry h
  obtain ⟨a, p, kvs, zs, rfl, rfl, ha, hp, q⟩ := h
  cases rx
  cases ry
  obtain ⟨es, ep, e⟩ := dict_at I ha
  obtain ⟨its, rv, ho, _⟩ := I.tuple hp
  have un := hr.un
  refine in_tupleAt (items := its.toArray) (fun _ => false) ho (fun y hy => ?_) (by rw [no_any]; exact ⟨.bl false, H, I, rel_bl _, q⟩)
  obtain ⟨z, t, rfl⟩ := strs_of rv y (by simpa using hy)
  exact eq_str_dict z t e (by show X.A.units + 1 < _; omega)
theorem op_niDic (hr : Room k X.A) : OpR X (compareOp .NotIn) (rInDic X.K true) := by
  intro pins s σ H x y v u Q I rx ry h
  obtain ⟨a, p, kvs, zs, rfl, rfl, ha, hp, q⟩ := h
  cases rx
  cases ry
  obtain ⟨es, ep, e⟩ := dict_at I ha
  obtain ⟨its, rv, ho, _⟩ := I.tuple hp
  have un := hr.un
  refine notIn_tupleAt (items := its.toArray) (fun _ => false) ho (fun y hy => ?_) (by rw [no_any]; exact ⟨.bl true, H, I, rel_bl _, q⟩)
  obtain ⟨z, t, rfl⟩ := strs_of rv y (by simpa using hy)
  exact eq_str_dict z t e (by show X.A.units + 1 < _; omega)
/-- a tuple == () -/
def rEqNil (K : PySem.W.Frag) : R2 := fun x y H Q => ∃ (p q : Addr) (xs : List V), x = .ref p ∧ y = .ref q ∧ SqT K H p xs ∧ SqT K H q [] ∧ Q (.bl (decide (xs = []))) H
theorem op_eqNil (hr : Room k X.A) : OpR X (compareOp .Eq) (rEqNil X.K) := by
  intro pins s σ H x y v u Q I rx ry h
  obtain ⟨p, q0, xs, rfl, rfl, hp, hq, q⟩ := h
  cases rx
  cases ry
  obtain ⟨its, rv, ho, _⟩ := I.tuple hp
  obtain ⟨its2, rv2, ho2, _⟩ := I.tuple hq
  cases rv2
  have un := hr.un
  refine eq_tupleAt (items := its.toArray) (items2 := #[]) (e := fun _ => true) ho ho2 (by omega) (fun j h1 h2 => absurd h2 (by simp)) ?_
  have e : ((List.range (min its.toArray.size (#[] : Array Value).size)).all (fun _ => true) && its.toArray.size == (#[] : Array Value).size) = decide (xs = []) := by
    cases rv with
    | nil => simp
    | cons r rs => simp
  rw [e]
  exact ⟨.bl _, H, I, rel_bl _, q⟩
end
end SwX
set_option Elab.async false
set_option linter.all false
set_option maxRecDepth 100000
set_option maxHeartbeats 4000000
/-! what a law's _law_fault, _law_kept, _law_caught tell of a caught exception -/
namespace SwX
open PySem PySem.Spec PyProof.Rows L2 Evl
/-- the exceptions' names in the laws' order -/
def exNm : Nat → Str
  | 0 => "InvalidNumber"
  | 1 => "InvalidText"
  | 2 => "InvalidName"
  | 3 => "InvalidIndex"
  | 4 => "InvalidClaim"
  | 5 => "InvalidThing"
  | 6 => "NotACatalogue"
  | 7 => "NotWeights"
  | 8 => "InvalidKinds"
  | 9 => "InvalidRecipes"
  | 10 => "InvalidMembers"
  | 11 => "InvalidRows"
  | 12 => "UnknownName"
  | 13 => "InUse"
  | 14 => "TooMany"
  | 15 => "NothingToUndo"
  | _ => "Broken"
/-- which field is told: 0 given, 1 index, 2 limit -/
def exKd (i : Nat) : Nat := if i = 14 then 2 else if i = 8 ∨ i = 9 ∨ i = 10 ∨ i = 11 ∨ i = 13 then 1 else 0
def exFld (i : Nat) : Str := match exKd i with
  | 0 => "given"
  | 1 => "index"
  | _ => "limit"
/-- what is asked of the classes; rs: those that are raised (each tells one field) -/
structure Cl (P : Program) (w : World) (K : PySem.W.Frag) (mg : Str → Option Value) (base : Heap) (rs : List Nat) (C : Nat → Addr) (WV WN NA : Addr) : Prop where
  lt : ∀ i ∈ rs, i < 15
  T : ∀ i ∈ rs, Oex K (C i)
  ty : ∀ i ∈ rs, PySem.W.typeIn K (.ref (C i)) = some (.type "type")
  hit : ∀ i ∈ rs, PySem.W.exmAny K (.ref (C i)) [.ref WV, .ref WN, .ref NA] = some true
  kit : ∀ i ∈ rs, ∀ j, j < 17 → PySem.W.kitOne K (.ref (C i)) (.ref (C j)) = some (decide (i = j))
  kWV : ∀ i ∈ rs, PySem.W.kitOne K (.ref (C i)) (.ref WV) = some (decide ((i : Int) < 12))
  kWN : ∀ i ∈ rs, PySem.W.kitOne K (.ref (C i)) (.ref WN) = some (decide ((11 : Int) < i) && decide ((i : Int) < 14))
  kNA : ∀ i ∈ rs, PySem.W.kitOne K (.ref (C i)) (.ref NA) = some (decide ((13 : Int) < i))
  kVE : ∀ i ∈ rs, PySem.W.kitOne K (.ref (C i)) (.type "ValueError") = some (decide ((i : Int) < 12))
  kLE : ∀ i ∈ rs, PySem.W.kitOne K (.ref (C i)) (.type "LookupError") = some (decide ((11 : Int) < i) && decide ((i : Int) < 14))
  kAE : ∀ i ∈ rs, PySem.W.kitOne K (.ref (C i)) (.type "ArithmeticError") = some (decide ((13 : Int) < i))
  fr : ∀ i ∈ rs, Free K (C i) (exFld i)
  g : ∀ i, i < 17 → mg (exNm i) = some (.ref (C i))
  gWV : mg "WrongValue" = some (.ref WV)
  gWN : mg "WrongName" = some (.ref WN)
  gNA : mg "NoAnswer" = some (.ref NA)
  D : ∀ i ∈ rs, HasX P w K mg base (exNm i) 1 (C i) 1 [exFld i] (fun us ws => us ++ ws.reverse) (spIni1 (C i) (exFld i))
/-! which truths _law_fault gathers -/
def sortsB (i : Nat) : List Bool := ((((([decide (i = 0), decide (i = 1), decide (i = 2)] ++ [decide (i = 3), decide (i = 4), decide (i = 5)]) ++ [decide (i = 6), decide (i = 7), decide (i = 8)]) ++ [decide (i = 9), decide (i = 10), decide (i = 11)]) ++ [decide (i = 12), decide (i = 13), decide (i = 14)]) ++ [decide (i = 15), decide (i = 16)])
theorem sorts_count : ∀ i, i < 17 → (sortsB i).count true = 1 := by decide +kernel
theorem sorts_at : ∀ i, i < 17 → (sortsB i)[i]? = some true := by decide +kernel
theorem sorts_before : ∀ i, i < 17 → ∀ m, m < i → (sortsB i)[m]? = some false := by decide +kernel
def basesB (i : Int) : List Bool := [decide (i < 12), decide ((11 : Int) < i) && decide (i < 14), decide ((13 : Int) < i)]
theorem bases_ok (i : Int) : SeqAt.shaped (.list ((basesB i).map PyData.bool)) = true ∧ PyData.eqv (.list ((basesB i).map PyData.bool)) (.list ((basesB i).map PyData.bool)) = true := by
  unfold basesB
  cases decide (i < 12) <;> cases decide ((11 : Int) < i) && decide (i < 14) <;> cases decide ((13 : Int) < i) <;> exact ⟨by rfl, by rfl⟩
def spFaultC (rs : List Nat) (C : Nat → Addr) : SpC := fun a c d vs H Q _ => ∃ (i : Nat) (fs : List (Str × V)), i ∈ rs ∧ c = C i ∧ vs = [.ref a] ∧ Flds H d fs ∧ ∀ H', Ex H H' → Q (.int (i : Nat)) H'
def spKeptC (rs : List Nat) (C : Nat → Addr) : SpC := fun a c d vs H Q _ => ∃ (i : Nat) (v : V), i ∈ rs ∧ c = C i ∧ vs = [.ref a, .int (i : Nat)] ∧ Flds H d [(exFld i, v)] ∧ ∀ p H', H p = none → Ex H H' → H' p = some (.lst [v]) → Q (.ref p) H'
theorem kd1 : ∀ i : Nat, i < 15 → inV (.int (i : Nat)) [.int 8, .int 9, .int 10, .int 11, .int 13] = decide (exKd i = 1) := by decide +kernel
theorem kd2 : ∀ i : Nat, i < 15 → decide (V.int (i : Nat) = V.int 14) = decide (exKd i = 2) := by decide +kernel
theorem kd4 : ∀ i : Nat, i < 15 → decide (V.int (i : Nat) = V.int 16) = false := by decide +kernel
theorem kd3 : ∀ i : Nat, i < 15 → inV (.int (i : Nat)) [.int (-1), .int 15] = false := by decide +kernel
theorem kd_le : ∀ i : Nat, i < 15 → exKd i ≤ 2 := by decide +kernel
/-- a reading, its end weakened -/
def tMono (t : TE) : TE := fun σ H Q => ∃ P : VK, t σ H P ∧ ∀ v H', P v H' → Q v H'
theorem pe_mono {X : Cx} {e : Expr} {t : TE} (h : PE X e t) : PE X e (tMono t) := ⟨fun pins s σ H Q I z => by
  obtain ⟨P, hp, w⟩ := z
  exact thn (h.run pins s σ H P I hp) fun u s1 hu => by
    obtain ⟨x, H1, I1, r, q⟩ := hu
    exact ⟨x, H1, I1, r, w _ _ q⟩⟩
/-- what a raised exception brings with it: its class, its one field -/
def Thrown (rs : List Nat) (C : Nat → Addr) (R : Nat → V → Hp → Prop) : XK := fun cls d H => ∃ (i : Nat) (v : V), i ∈ rs ∧ cls = .ref (C i) ∧ Flds H d [(exFld i, v)] ∧ R i v H
/-- what _law_caught makes of its lambda: tl runs it; rr: how repr reads -/
def TTc (K : PySem.W.Frag) (rs : List Nat) (C : Nat → Addr) (rr : List V → Hp → VK → Prop) : (XK → Hp → VK → Prop) → Hp → VK → Prop := fun tl H Q =>
  tl (Thrown rs C fun i v H' => ∃ D : PyData, (∀ H1, Ex H' H1 → Da K H1 v D) ∧ (PyData.list [D]).showable = true ∧ (PyData.list [D]).depth ≤ 180 ∧ (PyData.list [D]).shown.length ≤ sizeLine ∧
    ∀ p H2, Ex H' H2 → H2 p = some (.lst [.int (i : Nat), .str (PyData.shown (.list [D]))]) → Q (.ref p) H2) H
  fun v H' => rr [v] H' fun x H2 => ([V.str "told", x] : List V).length ≤ sizeLine ∧ ∀ p, H2 p = none → Q (.ref p) (upd H2 p (.lst [.str "told", x]))
theorem mt_countH {X : Cx} {k : Nat} (hr : L2H.RoomH k X.A) : MtR X "list.count" (rCountB X.K) := fun pins s σ H x xs v us Q I rx rxs h => by
  obtain ⟨p, bs, b, rfl, rfl, hs, q⟩ := h
  cases rx
  obtain ⟨u, rfl, ru⟩ := Vals.one rxs
  obtain rfl : u = Value.bool b := ru
  obtain ⟨its, rv, ⟨⟨cls, dd, data, sl⟩, n, ho, hc, hdn, hd⟩, _⟩ := I.list hs
  simp only at hc hd
  subst hc hd
  have e := bools_of rv
  subst e
  have un := hr.un
  refine call_meets PySem.F.slot_list_count ⟨_, ho, rfl⟩ PySem.F.entry_list_count (PySem.F.args_list_count_2 _ _) (SeqAt.list_countAt p _ n dd sl (.bool b) (isB b)) ⟨ho, fun y hy => ?_, ?_⟩
  · obtain ⟨c, _, rfl⟩ := List.mem_map.mp (show y ∈ bs.map Value.bool by simpa using hy)
    exact SeqAt.eqAt_reads (.bool c) (.bool b) _ _ _ _ [] [] (.bool c) (.bool b) rfl rfl (by show X.A.units + 1 + min _ _ < cLine; simp only [PyData.depth]; omega)
  · refine ⟨.int (bs.count b : Nat), H, I.tok _, ⟨s.toks, ?_⟩, q⟩
    rw [isB_count]
end SwX
set_option Elab.async false
set_option linter.all false
set_option maxRecDepth 100000
set_option maxHeartbeats 4000000
/-! names and recipes among data of any kind -/
namespace SwX
open PySem PySem.Spec PyProof.Rows L2 Evl
/-! ### what kind of thing a datum is -/
def tyn : PyData → String
  | .none => "NoneType"
  | .bool _ => "bool"
  | .int _ => "int"
  | .str _ => "str"
  | .list _ => "list"
  | .tuple _ => "tuple"
  | .dict _ => "dict"
theorem da_ty {K : PySem.W.Frag} {H : Hp} {v : V} {d : PyData} (h : Da K H v d) : TyX K H v (.type (tyn d)) := by
  cases h with
  | non => exact .base .non
  | bl b => exact .base (.bl b)
  | int i => exact .base (.int i)
  | str x => exact .base (.str x)
  | lst h _ _ => exact .base (.lst h)
  | tup h _ _ =>
    rcases h with (h | ⟨o, h⟩) | ⟨o, its, n, h, c, _⟩
    · exact .base (.tup h)
    · exact .fTuple h
    · exact .kTuple h c
  | dic h _ _ => exact .base (.dK h)
def isStr : PyData → Bool
  | .str _ => true
  | _ => false
def isTup : PyData → Bool
  | .tuple _ => true
  | _ => false
def isInt : PyData → Bool
  | .int _ => true
  | .bool _ => true
  | _ => false
def isBl : PyData → Bool
  | .bool _ => true
  | _ => false
theorem kit_str (d : PyData) : kitB (tyn d) "str" = some (isStr d) := match d with
  | .none => (by decide +kernel : kitB "NoneType" "str" = some false)
  | .bool _ => (by decide +kernel : kitB "bool" "str" = some false)
  | .int _ => (by decide +kernel : kitB "int" "str" = some false)
  | .str _ => (by decide +kernel : kitB "str" "str" = some true)
  | .list _ => (by decide +kernel : kitB "list" "str" = some false)
  | .tuple _ => (by decide +kernel : kitB "tuple" "str" = some false)
  | .dict _ => (by decide +kernel : kitB "dict" "str" = some false)
theorem kit_tup (d : PyData) : kitB (tyn d) "tuple" = some (isTup d) := match d with
  | .none => (by decide +kernel : kitB "NoneType" "tuple" = some false)
  | .bool _ => (by decide +kernel : kitB "bool" "tuple" = some false)
  | .int _ => (by decide +kernel : kitB "int" "tuple" = some false)
  | .str _ => (by decide +kernel : kitB "str" "tuple" = some false)
  | .list _ => (by decide +kernel : kitB "list" "tuple" = some false)
  | .tuple _ => (by decide +kernel : kitB "tuple" "tuple" = some true)
  | .dict _ => (by decide +kernel : kitB "dict" "tuple" = some false)
theorem kit_int (d : PyData) : kitB (tyn d) "int" = some (isInt d) := match d with
  | .none => (by decide +kernel : kitB "NoneType" "int" = some false)
  | .bool _ => (by decide +kernel : kitB "bool" "int" = some true)
  | .int _ => (by decide +kernel : kitB "int" "int" = some true)
  | .str _ => (by decide +kernel : kitB "str" "int" = some false)
  | .list _ => (by decide +kernel : kitB "list" "int" = some false)
  | .tuple _ => (by decide +kernel : kitB "tuple" "int" = some false)
  | .dict _ => (by decide +kernel : kitB "dict" "int" = some false)
theorem kit_bl (d : PyData) : kitB (tyn d) "bool" = some (isBl d) := match d with
  | .none => (by decide +kernel : kitB "NoneType" "bool" = some false)
  | .bool _ => (by decide +kernel : kitB "bool" "bool" = some true)
  | .int _ => (by decide +kernel : kitB "int" "bool" = some false)
  | .str _ => (by decide +kernel : kitB "str" "bool" = some false)
  | .list _ => (by decide +kernel : kitB "list" "bool" = some false)
  | .tuple _ => (by decide +kernel : kitB "tuple" "bool" = some false)
  | .dict _ => (by decide +kernel : kitB "dict" "bool" = some false)
/-! ### names -/
def lowB (c : Nat) : Bool := decide (97 ≤ c ∧ c ≤ 122)
def signB (c : Nat) : Bool := lowB c || decide (48 ≤ c ∧ c ≤ 57)
def hdB : List Nat → Bool
  | c :: _ => lowB c
  | [] => false
def nameB (l : List Nat) : Bool := decide (1 ≤ l.length) && decide (l.length ≤ 8) && hdB l && l.all signB
def nameD : PyData → Bool
  | .str x => nameB x.cps.toList
  | _ => false
theorem nameB_ok {l : List Nat} : nameB l = true ↔ NameOk l := by
  constructor
  · intro h
    simp only [nameB, Bool.and_eq_true, decide_eq_true_eq, List.all_eq_true] at h
    obtain ⟨⟨⟨h1, h2⟩, h3⟩, h4⟩ := h
    match l, h3 with
    | c :: r, h3 =>
      refine ⟨⟨c, r, rfl, of_decide_eq_true h3⟩, h2, fun d hd => ?_⟩
      have z := h4 d hd
      simp only [signB, lowB, Bool.or_eq_true, decide_eq_true_eq] at z
      exact z
  · intro h
    obtain ⟨c, r, rfl, hc⟩ := h.hd
    simp only [nameB, Bool.and_eq_true, decide_eq_true_eq, List.all_eq_true]
    refine ⟨⟨⟨by simp, h.len⟩, decide_eq_true hc⟩, fun d hd => ?_⟩
    simp only [signB, lowB, Bool.or_eq_true, decide_eq_true_eq]
    exact h.sg d hd
theorem nameD_nm {n : Nm} : nameD (nmD n) = true ↔ NameOk n := by
  show nameB (SX.S n).cps.toList = true ↔ _
  exact nameB_ok
theorem nameD_inv {d : PyData} (h : nameD d = true) : ∃ n, d = nmD n ∧ NameOk n := by
  match d, h with
  | .str x, h => exact ⟨x.cps.toList, by unfold nmD; rw [SX.S_tl], nameB_ok.mp h⟩
/-! ### recipes -/
def btwD (lo hi : Int) : PyData → Bool
  | .int i => decide (lo ≤ i) && decide (i ≤ hi)
  | _ => false
def inD (ns : List Nm) (d : PyData) : Bool := (ns.map nmD).any fun z => PyData.eqv z d
theorem inD_inv {ns : List Nm} {d : PyData} (h : inD ns d = true) : ∃ n ∈ ns, d = nmD n := by
  obtain ⟨z, hz, e⟩ := List.any_eq_true.mp h
  obtain ⟨n, hn, rfl⟩ := List.mem_map.mp hz
  refine ⟨n, hn, ?_⟩
  match d, e with
  | .str x, e =>
    have e : (SX.S n == x) = true := e
    rw [← eq_of_beq e]
    rfl
theorem inD_nm {ns : List Nm} {n : Nm} : inD ns (nmD n) = decide (n ∈ ns) := by
  unfold inD
  rw [any_nm]
def recD (ns : List Nm) : PyData → Bool
  | .tuple [a, b, .tuple ps] => inD ns a && btwD 1 9 b && decide (ps.length ≤ 3) && ps.all (inD ns)
  | _ => false
theorem ins_inv {ns : List Nm} : ∀ {ps : List PyData}, ps.all (inD ns) = true → ∃ l : List Nm, ps = l.map nmD ∧ ∀ p ∈ l, p ∈ ns
  | [], _ => ⟨[], rfl, fun _ h => nomatch h⟩
  | p :: ps, h => by
    simp only [List.all_cons, Bool.and_eq_true] at h
    obtain ⟨n, hn, rfl⟩ := inD_inv h.1
    obtain ⟨l, rfl, hl⟩ := ins_inv h.2
    exact ⟨n :: l, rfl, fun q hq => (List.mem_cons.mp hq).elim (fun e => e ▸ hn) (hl q)⟩
theorem recD_inv {ns : List Nm} {d : PyData} (h : recD ns d = true) : ∃ r, d = rulD r ∧ RulOk ns r := by
  unfold recD at h
  split at h
  · rename_i a b ps
    simp only [Bool.and_eq_true, decide_eq_true_eq] at h
    obtain ⟨⟨⟨h1, h2⟩, h3⟩, h4⟩ := h
    obtain ⟨n, hn, rfl⟩ := inD_inv h1
    obtain ⟨l, rfl, hl⟩ := ins_inv h4
    match b, h2 with
    | .int i, h2 =>
      simp only [btwD, Bool.and_eq_true, decide_eq_true_eq] at h2
      refine ⟨(n, i.toNat, l), ?_, ⟨hn, by show 1 ≤ i.toNat; omega, by show i.toNat ≤ 9; omega, by simpa using h3, hl⟩⟩
      unfold rulD nmsD
      rw [show ((i.toNat : Nat) : Int) = i by omega]
  · cases h
theorem recD_rul {ns : List Nm} {r : Rul} (h : RulOk ns r) : recD ns (rulD r) = true := by
  have e : ∀ l : List Nm, (∀ p ∈ l, p ∈ ns) → (l.map nmD).all (inD ns) = true := fun l hl => by
    rw [List.all_eq_true]
    intro d hd
    obtain ⟨n, hn, rfl⟩ := List.mem_map.mp hd
    rw [inD_nm]
    exact decide_eq_true (hl n hn)
  show (inD ns (nmD r.1) && btwD 1 9 (.int (r.2.1 : Nat)) && decide ((r.2.2.map nmD).length ≤ 3) && (r.2.2.map nmD).all (inD ns)) = true
  rw [e _ h.pt, inD_nm, decide_eq_true h.wd, List.length_map, decide_eq_true h.len]
  have := h.lo
  have := h.hi
  simp [btwD]
  omega
/-! ### the first bad place -/
def firstB (n : Nat) (bad : Nat → Bool) : Option Nat := (List.range n).find? bad
theorem firstB_none {n : Nat} {bad : Nat → Bool} (h : ∀ i, i < n → bad i = false) : firstB n bad = none := by
  unfold firstB
  rw [List.find?_eq_none]
  intro i hi
  rw [h i (List.mem_range.mp hi)]
  simp
theorem firstB_some {n i : Nat} {bad : Nat → Bool} (hi : i < n) (h : ∀ j, j < i → bad j = false) (hb : bad i = true) : firstB n bad = some i := by
  unfold firstB
  rw [List.find?_eq_some_iff_getElem]
  refine ⟨hb, i, by simpa using hi, by simp, fun j hj => ?_⟩
  rw [List.getElem_range, h j hj]
  rfl
def at' (ds : List PyData) (i : Nat) : PyData := ds.getD i .none
def badK (ds : List PyData) (i : Nat) : Bool := i == 4 || !nameD (at' ds i) || (ds.take i).any fun z => PyData.eqv z (at' ds i)
def badR (ns : List Nm) (ds : List PyData) (i : Nat) : Bool := i == 10 || !recD ns (at' ds i) || (ds.take i).any fun z => PyData.eqv z (at' ds i)
def chkK : PyData → Option (Option Nat)
  | .tuple [] => some none
  | .tuple ds => (firstB ds.length (badK ds)).map some
  | _ => some none
def chkR (ns : List Nm) : PyData → Option (Option Nat)
  | .tuple ds => (firstB ds.length (badR ns ds)).map some
  | _ => some none
theorem at_get {ds : List PyData} {i : Nat} {d : PyData} (h : ds[i]? = some d) : at' ds i = d := by
  unfold at'
  rw [List.getD_eq_getElem?_getD, h]
  rfl
/-- names told one by one are names -/
theorem nms_inv : ∀ {ds : List PyData}, (∀ (i : Nat) d, ds[i]? = some d → nameD d = true) → ∃ ns : List Nm, ds = ns.map nmD ∧ ∀ n ∈ ns, NameOk n
  | [], _ => ⟨[], rfl, fun _ h => nomatch h⟩
  | d :: ds, h => by
    obtain ⟨n, rfl, hn⟩ := nameD_inv (h 0 d rfl)
    obtain ⟨ns, rfl, hns⟩ := nms_inv (ds := ds) fun i d' e => h (i + 1) d' (by simpa using e)
    exact ⟨n :: ns, rfl, fun m hm => (List.mem_cons.mp hm).elim (fun e => e ▸ hn) (hns m)⟩
theorem ruls_inv {ns : List Nm} : ∀ {ds : List PyData}, (∀ (i : Nat) d, ds[i]? = some d → recD ns d = true) → ∃ rs : List Rul, ds = rs.map rulD ∧ ∀ r ∈ rs, RulOk ns r
  | [], _ => ⟨[], rfl, fun _ h => nomatch h⟩
  | d :: ds, h => by
    obtain ⟨r, rfl, hr⟩ := recD_inv (h 0 d rfl)
    obtain ⟨rs, rfl, hrs⟩ := ruls_inv (ns := ns) (ds := ds) fun i d' e => h (i + 1) d' (by simpa using e)
    exact ⟨r :: rs, rfl, fun m hm => (List.mem_cons.mp hm).elim (fun e => e ▸ hr) (hrs m)⟩
theorem nodup_of {α : Type} {l : List α} (h : ∀ (i : Nat) (x : α), l[i]? = some x → x ∉ l.take i) : l.Nodup := by
  rw [List.nodup_iff_pairwise_ne, List.pairwise_iff_getElem]
  intro i j hi hj lt e
  refine h j l[j] (by simp [hj]) ?_
  rw [List.mem_take_iff_getElem]
  exact ⟨i, by omega, e⟩
theorem find_all {n : Nat} {bad : Nat → Bool} (h : firstB n bad = none) : ∀ i, i < n → bad i = false := fun i hi => by
  have z := List.find?_eq_none.mp h i (List.mem_range.mpr hi)
  simpa using z
theorem chkK_none {d : PyData} (h : chkK d = none) : ∃ ns, d = nmsD ns ∧ NamesOk ns := by
  unfold chkK at h
  split at h
  · cases h
  · rename_i ds ne
    have all := find_all (Option.map_eq_none_iff.mp h)
    have lt : ∀ {i : Nat} {d : PyData}, ds[i]? = some d → i < ds.length := fun e => (List.getElem?_eq_some_iff.mp e).1
    obtain ⟨ns, rfl, hns⟩ := nms_inv (ds := ds) fun i d e => by
      have z := all i (lt e)
      simp only [badK, Bool.or_eq_false_iff, at_get e, Bool.not_eq_false'] at z
      exact z.1.2
    rw [List.length_map] at all
    refine ⟨ns, rfl, ⟨fun e => ne (by rw [e]; rfl), ?_, nodup_of fun i n e => ?_, hns⟩⟩
    · refine Nat.le_of_not_lt fun l => ?_
      have z := all 4 l
      simp [badK] at z
    · have z := all i (List.getElem?_eq_some_iff.mp e).1
      have e' : (ns.map nmD)[i]? = some (nmD n) := by rw [List.getElem?_map, e]; rfl
      simp only [badK, Bool.or_eq_false_iff, at_get e', ← List.map_take, any_nm] at z
      exact of_decide_eq_false z.2
  · cases h
theorem chkR_none {ns : List Nm} {d : PyData} (h : chkR ns d = none) : ∃ rs, d = rulsD rs ∧ RulesOk ns rs := by
  unfold chkR at h
  split at h
  · rename_i ds
    have all := find_all (Option.map_eq_none_iff.mp h)
    have lt : ∀ {i : Nat} {d : PyData}, ds[i]? = some d → i < ds.length := fun e => (List.getElem?_eq_some_iff.mp e).1
    obtain ⟨rs, rfl, hrs⟩ := ruls_inv (ns := ns) (ds := ds) fun i d e => by
      have z := all i (lt e)
      simp only [badR, Bool.or_eq_false_iff, at_get e, Bool.not_eq_false'] at z
      exact z.1.2
    rw [List.length_map] at all
    refine ⟨rs, rfl, ⟨?_, nodup_of fun i r e => ?_, hrs⟩⟩
    · refine Nat.le_of_not_lt fun l => ?_
      have z := all 10 l
      simp [badR] at z
    · have z := all i (List.getElem?_eq_some_iff.mp e).1
      have e' : (rs.map rulD)[i]? = some (rulD r) := by rw [List.getElem?_map, e]; rfl
      simp only [badR, Bool.or_eq_false_iff, at_get e', ← List.map_take, any_rul] at z
      exact of_decide_eq_false z.2
  · cases h
end SwX
set_option Elab.async false
set_option linter.all false
set_option maxRecDepth 100000
set_option maxHeartbeats 4000000
/-! reading tests of data of any kind -/
namespace SwX
open PySem PySem.Spec PyProof.Rows L2 Evl
/-- what may be sought among names -/
def ItM (d : PyData) : Prop := (∃ kvs, d = .dict kvs) ∨ Pl d
/-- texts short enough -/
def Short (d : PyData) : Prop := ∀ x, d = .str x → x.cps.toList.length ≤ 1000
section
variable {X : Cx} {k : Nat} {K : PySem.W.Frag}
def rInY (K : PySem.W.Frag) : R2 := fun x y H Q => ((∃ (c : Nat) (z : Str), x = .str ⟨#[c]⟩ ∧ y = .str z ∧ Q (.bl (decide (c ∈ z.cps.toList))) H) ∨ rInDat K false x y H Q) ∨ rInDic K false x y H Q
def rNiY (K : PySem.W.Frag) : R2 := fun x y H Q => ((∃ (c : Nat) (z : Str), x = .str ⟨#[c]⟩ ∧ y = .str z ∧ Q (.bl (!decide (c ∈ z.cps.toList))) H) ∨ rInDat K true x y H Q) ∨ rInDic K true x y H Q
theorem inY (hr : Room k X.A) (h : X.K = K := by rfl) : OpR X (compareOp .In) (rInY K) := h ▸ op_join (op_inX hr) (op_inDic hr)
theorem niY (hr : Room k X.A) (h : X.K = K := by rfl) : OpR X (compareOp .NotIn) (rNiY K) := h ▸ op_join (op_niX hr) (op_niDic hr)
def rEqY (K : PySem.W.Frag) : R2 := fun x y H Q => (rEq x y H Q ∨ rEqDat K id x y H Q) ∨ rEqNil K x y H Q
theorem eqY (hr : Room k X.A) (h : X.K = K := by rfl) : OpR X (compareOp .Eq) (rEqY K) := h ▸ op_join (op_eqX hr) (op_eqNil hr)
end
section
variable {K : PySem.W.Frag} {σ : L2.St} {H : Hp} {te ta tb : TE} {x y v : V} {D : PyData}
theorem ev_isD {n : String} {b : Bool} (h : Ev te σ H x) (da : ∀ H', Ex H H' → Da K H' x D) (k : kitB (tyn D) n = some b) : Ev (tCB (rIsi K) (tCons te (tCons (tC (.ty n)) tNil))) σ H (.bl b) := ev_isi h (fun H' e => da_ty (da H' e)) k
theorem inD_dict (ns : List Nm) (kvs : List (PyData × PyData)) : inD ns (.dict kvs) = false := by
  unfold inD
  rw [List.any_eq_false]
  intro z hz
  obtain ⟨n, _, rfl⟩ := List.mem_map.mp hz
  show ¬ (PyData.eqv (.str _) (.dict _) = true)
  simp [PyData.eqv]
theorem nmV_str (ns : List Nm) : ns.map nmV = (ns.map SX.S).map V.str := by
  rw [List.map_map] <;> rfl
/-- x in a tuple of names, whatever x is -/
theorem rv_inM {ns : List Nm} {p : Addr} (da : Da K H x D) (hp : SqT K H p (ns.map nmV)) (ok : ∀ n ∈ ns, NameOk n) (m : ItM D) : RV (rInY K) x (.ref p) H (.bl (inD ns D)) := fun H1 e1 Q q => by
  rcases m with ⟨kvs, rfl⟩ | pl
  · rw [inD_dict] at q
    cases da with
    | dic h _ _ => exact .inr ⟨_, p, _, ns.map SX.S, rfl, rfl, e1 _ _ h, by rw [← nmV_str]; exact ex_t e1 hp, q H1 (Ex.refl H1)⟩
  · exact .inl (rv_inDat (d := D) (c := nmsD ns) (.inr rfl) da (da_nms hp) pl (pl_nms ok) rfl H1 e1 Q q)
theorem rv_niM {ns : List Nm} {p : Addr} (da : Da K H x D) (hp : SqT K H p (ns.map nmV)) (ok : ∀ n ∈ ns, NameOk n) (m : ItM D) : RV (rNiY K) x (.ref p) H (.bl (!inD ns D)) := fun H1 e1 Q q => by
  rcases m with ⟨kvs, rfl⟩ | pl
  · rw [inD_dict] at q
    cases da with
    | dic h _ _ => exact .inr ⟨_, p, _, ns.map SX.S, rfl, rfl, e1 _ _ h, by rw [← nmV_str]; exact ex_t e1 hp, q H1 (Ex.refl H1)⟩
  · exact .inl (rv_niDat (d := D) (c := nmsD ns) (.inr rfl) da (da_nms hp) pl (pl_nms ok) rfl H1 e1 Q q)
theorem rv_inl {r r' : R2} {z : V} (h : RV r x y H z) : RV (fun x y H Q => r x y H Q ∨ r' x y H Q) x y H z := fun H1 e1 Q q => .inl (h H1 e1 Q q)
/-- a tuple's items -/
theorem da_items {ds : List PyData} (h : Da K H v (.tuple ds)) : ∃ p xs, v = .ref p ∧ SqT K H p xs ∧ Paired (fun d x => Da K H x d) ds xs := by
  obtain ⟨p, xs, e, s, q⟩ := da_tupI h
  exact ⟨p, xs, e, s, q⟩
theorem given_eq {n : Nat} {f : Nat → V} {vs : List V} (l : vs.length = n) (h : ∀ i (hi : i < vs.length), f i = vs[i]) : given n (fun _ => true) f = vs := by
  unfold given
  rw [List.filter_eq_self.mpr (fun _ _ => rfl)]
  apply List.ext_getElem
  · simp [l]
  · intro i h1 h2
    simp only [List.getElem_map, List.getElem_range]
    exact h i h2
theorem paired_take {α β : Type} {F : α → β → Prop} : ∀ {is : List α} {vs : List β} (n : Nat), Paired F is vs → Paired F (is.take n) (vs.take n)
  | _, _, 0, _ => by
    rw [List.take_zero, List.take_zero]
    exact .nil
  | _, _, _ + 1, .nil => .nil
  | _, _, n + 1, .cons h t => .cons h (paired_take n t)
end
end SwX
set_option Elab.async false
set_option linter.all false
set_option maxRecDepth 100000
set_option maxHeartbeats 4000000
/-! odd things: what a law bends names and rules into; menus, tuples put together beside the purse -/
namespace SwX
open PySem PySem.Spec PyProof.Rows L2 Evl
/-! ### kinds of odd things -/
/-- none, a truth, an integer, a short plain text -/
inductive At : PyData → Prop
  | non : At .none
  | bl (b : Bool) : At (.bool b)
  | int (i : Int) : At (.int i)
  | str (l : List Nat) (h : l.length ≤ 100) (c : ∀ d ∈ l, d < 128) : At (.str (SX.S l))
inductive El : PyData → Prop
  | at_ {d : PyData} (h : At d) : El d
  | dic : El (.dict [])
  | tup {d : PyData} (h : At d) : El (.tuple [d])
  | lst {d : PyData} (h : At d) : El (.list [d])
inductive Pt : PyData → Prop
  | el {d : PyData} (h : El d) : Pt d
  | tup {ds : List PyData} (l : ds.length ≤ 10) (h : ∀ d ∈ ds, El d) : Pt (.tuple ds)
  | lst (ds : List PyData) : Pt (.list ds)
inductive Ru : PyData → Prop
  | pt {d : PyData} (h : Pt d) : Ru d
  | tup {a : PyData} {r : List PyData} (l : r.length ≤ 10) (ha : El a) (h : ∀ d ∈ r, Pt d) : Ru (.tuple (a :: r))
  | lst (ds : List PyData) : Ru (.list ds)
theorem at_pl {d : PyData} (h : At d) : Pl d := by
  cases h with
  | non => exact ⟨rfl, shaped_of rfl (Nat.zero_le _)⟩
  | bl b => exact ⟨rfl, shaped_of rfl (Nat.zero_le _)⟩
  | int i => exact ⟨rfl, shaped_of rfl (Nat.zero_le _)⟩
  | str l h c =>
    refine ⟨rfl, shaped_of ?_ (Nat.zero_le _)⟩
    show PyData.strOk (SX.S l) = true
    unfold PyData.strOk
    rw [← Array.all_toList]
    show l.all _ = true
    rw [List.all_eq_true]
    intro d hd
    have := c d hd
    exact decide_eq_true (by omega)
theorem at_depth {d : PyData} (h : At d) : d.depth = 0 := by cases h <;> rfl
theorem el_itm {d : PyData} (h : El d) : ItM d := by
  cases h with
  | at_ h => exact .inr (at_pl h)
  | dic => exact .inl ⟨_, rfl⟩
  | tup h =>
    refine .inr ⟨?_, shaped_of ?_ ?_⟩
    · simp only [PyData.hasDict, PyData.hasDictAll, (at_pl h).nd, Bool.or_false]
    · simp only [PyData.canLay0, PyData.canLayAll0, SeqAt.canLay_of_shaped (at_pl h).sh, Bool.and_true]
    · rw [dep_t]
      simp [PyData.depthAll, at_depth h]
  | lst h =>
    refine .inr ⟨?_, shaped_of ?_ ?_⟩
    · simp only [PyData.hasDict, PyData.hasDictAll, (at_pl h).nd, Bool.or_false]
    · simp only [PyData.canLay0, PyData.canLayAll0, SeqAt.canLay_of_shaped (at_pl h).sh, Bool.and_true]
    · rw [dep_l]
      simp [PyData.depthAll, at_depth h]
theorem at_short {d : PyData} (h : At d) : Short d := by
  intro x e
  cases h with
  | str l h c =>
    cases e
    show l.length ≤ 1000
    omega
  | _ => cases e
theorem el_short {d : PyData} (h : El d) : Short d := by
  cases h with
  | at_ h => exact at_short h
  | _ => intro x e; cases e
theorem at_notup {d : PyData} (h : At d) {ds : List PyData} : d ≠ .tuple ds := by
  intro e
  cases h <;> cases e
/-- a tuple that is such an element has but one item -/
theorem el_tup {ds : List PyData} (h : El (.tuple ds)) : ∃ d, ds = [d] ∧ At d := by
  cases h with
  | at_ h => exact absurd rfl (at_notup h)
  | tup h => exact ⟨_, rfl, h⟩
theorem el_parts {ps : List PyData} (h : El (.tuple ps)) : ps.length ≤ 1000 ∧ ∀ p ∈ ps, ItM p := by
  obtain ⟨d, rfl, ha⟩ := el_tup h
  exact ⟨by simp, fun p hp => by rw [List.mem_singleton.mp hp]; exact .inr (at_pl ha)⟩
theorem pt_parts {ps : List PyData} (h : Pt (.tuple ps)) : ps.length ≤ 1000 ∧ ∀ p ∈ ps, ItM p := by
  cases h with
  | el h => exact el_parts h
  | tup l h => exact ⟨by omega, fun p hp => el_itm (h p hp)⟩
def RitX (D : PyData) : Prop := ∀ a b c, D = .tuple [a, b, c] → ItM a ∧ ∀ ps, c = .tuple ps → ps.length ≤ 1000 ∧ ∀ p ∈ ps, ItM p
theorem pt_rit {d : PyData} (h : Pt d) : RitX d := by
  intro a b c e
  subst e
  cases h with
  | el h =>
    obtain ⟨d, e, _⟩ := el_tup h
    cases e
  | tup l h =>
    refine ⟨el_itm (h a (by simp)), fun ps e => ?_⟩
    have z := h c (by simp)
    rw [e] at z
    exact el_parts z
theorem ru_rit {d : PyData} (h : Ru d) : RitX d := by
  cases h with
  | pt h => exact pt_rit h
  | tup l ha h =>
    intro a b c e
    cases e
    refine ⟨el_itm ha, fun ps e => ?_⟩
    have z := h c (by simp)
    rw [e] at z
    exact pt_parts z
  | lst ds => intro a b c e; cases e
theorem el_pt_items {ds : List PyData} (h : Pt (.tuple ds)) : ds.length ≤ 10 ∧ ∀ d ∈ ds, El d := by
  cases h with
  | el h =>
    obtain ⟨d, rfl, ha⟩ := el_tup h
    exact ⟨by simp, fun p hp => by rw [List.mem_singleton.mp hp]; exact .at_ ha⟩
  | tup l h => exact ⟨l, h⟩
theorem ru_items {ds : List PyData} (h : Ru (.tuple ds)) : ds.length ≤ 11 ∧ ∀ d ∈ ds, RitX d := by
  cases h with
  | pt h =>
    obtain ⟨l, z⟩ := el_pt_items h
    exact ⟨by omega, fun d hd => pt_rit (.el (z d hd))⟩
  | tup l ha h => exact ⟨by simp; omega, fun d hd => (List.mem_cons.mp hd).elim (fun e => e ▸ pt_rit (.el ha)) fun hd => pt_rit (h d hd)⟩
theorem name_at {n : Nm} (h : NameOk n) : At (nmD n) := .str n (by have := h.len; omega) fun d hd => by
  rcases h.sg d hd with z | z <;> omega
theorem rul_ru {ns : List Nm} {r : Rul} (h : RulOk ns r) (ok : ∀ n ∈ ns, NameOk n) : Ru (rulD r) := .tup (by simp) (.at_ (name_at (ok _ h.wd))) fun d hd => by
  simp only [List.mem_cons, List.not_mem_nil, or_false] at hd
  rcases hd with rfl | rfl
  · exact .el (.at_ (.int _))
  · refine .tup (by rw [List.length_map]; have := h.len; omega) fun e he => ?_
    obtain ⟨m, hm, rfl⟩ := List.mem_map.mp he
    exact .at_ (name_at (ok _ (h.pt m hm)))
/-! ### evaluation -/
section
variable {K : PySem.W.Frag} {σ : L2.St} {H H' : Hp} {a : Addr} {te ta tb : TE} {v x : V} {d : PyData} {ds es : List PyData} {D : Ends} {tz : TS}
theorem less_step (e : Ex (less a H) H') : Ex (less a H) (less a H') := ex_less less_at e
theorem Pur.is (p : Pur H a) : ∃ o, H a = some o := let ⟨_, _, _, z, _⟩ := p; ⟨_, z⟩
theorem daA_from (h : Da K (less a H) v d) (e : Ex (less a H) H') : DaA K a d v H' := Da.mono (less_step e) h
theorem yi_daA (h : Ev te σ H v) (q : DaA K a d v H) : Yi te σ H (DaA K a d) := (yi_ev h).imp fun x H' e z => by
  subst z
  exact daA_mono _ _ _ _ e q
/-- a tuple apart of the purse -/
theorem sqt_less {q : Addr} {xs : List V} (h : SqT K H q xs) (p : Pur H a) : SqT K (less a H) q xs := by
  obtain ⟨_, _, _, z, _⟩ := p
  rcases h with (h | ⟨o, h⟩) | h
  · exact .inl (.inl (by rw [less_ne (fun w => by rw [w, z] at h; cases h)]; exact h))
  · exact .inl (.inr ⟨o, by rw [less_ne (fun w => by rw [w, z] at h; cases h)]; exact h⟩)
  · exact .inr h
theorem sqt_more {q : Addr} {xs : List V} (h : SqT K (less a H) q xs) : SqT K H q xs := ex_t less_ex h
theorem daA_items (h : DaA K a (.tuple ds) v H) : ∃ p xs, v = .ref p ∧ SqT K (less a H) p xs ∧ Paired (fun d x => DaA K a d x H) ds xs := da_items h
theorem yi_dadd (pu : Pur H a) (ha : Yi ta σ H (DaA K a (.tuple ds))) (hb : Yi tb σ H (DaA K a (.tuple es))) (l : ds.length + es.length ≤ 100000) : Yi (tOp (rAddX K) ta tb) σ H (DaA K a (.tuple (ds ++ es))) := fun H1 e1 Q q =>
  ha H1 e1 _ fun x H2 e2 hx => hb H2 (e1.trans e2) _ fun y H3 e3 hy => by
    obtain ⟨p, xs, rfl, hp, pr⟩ := daA_items (daA_mono _ _ _ _ e3 hx)
    obtain ⟨r, ys, rfl, hr, pq⟩ := daA_items hy
    have l1 := paired_len pr
    have l2 := paired_len pq
    have e13 := e2.trans e3
    have pu3 : Pur H3 a := pu.keep ((e1.trans e2).trans e3)
    refine .inr (.inr (.inr ⟨p, r, xs, ys, rfl, rfl, sqt_more hp, sqt_more hr, sz_of (by omega), fun ex => ?_, fun nx ey => ?_, fun nx ny c hc => ?_⟩))
    · have z : ds = [] := List.eq_nil_of_length_eq_zero (by rw [l1, ex]; rfl)
      subst z
      exact q _ _ e13 hy
    · have z : es = [] := List.eq_nil_of_length_eq_zero (by rw [l2, ey]; rfl)
      subst z
      rw [List.append_nil] at q
      exact q _ _ e13 (daA_mono _ _ _ _ e3 hx)
    · have ne : c ≠ a := pu3.ne hc
      refine q (.ref c) _ (e13.trans (Ex.new hc)) (da_tuple (.inl (.inl (by rw [less_ne ne, upd_same]))) ?_)
      exact paired_mono (F := fun d v H => DaA K a d v H) (Ex.new hc) (fun d v H H' e h => daA_mono d v H H' e h) (paired_append pr pq)
theorem paired_drop {α β : Type} {F : α → β → Prop} : ∀ {is : List α} {vs : List β} (n : Nat), Paired F is vs → Paired F (is.drop n) (vs.drop n)
  | _, _, 0, h => h
  | _, _, _ + 1, .nil => .nil
  | _, _, n + 1, .cons _ t => paired_drop n t
theorem yi_dtake (pu : Pur H a) {n : Nat} {th : TO} (ha : Ev te σ H v) (hv : DaA K a (.tuple ds) v H) (hh : EvO th σ H (some (n : Int))) {tl : TO} (hl : EvO tl σ H none) : Yi (tSl (rSlY K) te tl th) σ H (DaA K a (.tuple (ds.take n))) := by
  obtain ⟨p, xs, rfl, hp, pr⟩ := daA_items hv
  refine (yi_slT ha (sqt_more hp) hl hh).imp fun y H2 e2 z => ?_
  obtain ⟨q1, rfl, h1⟩ := z
  rw [cut_take] at h1
  exact da_tuple (sqt_less h1 (pu.keep e2)) (paired_take n (paired_mono (F := fun d v H => DaA K a d v H) e2 (fun d v H H' e h => daA_mono d v H H' e h) pr))
theorem yi_ddrop (pu : Pur H a) {n : Nat} {th tl : TO} (ha : Ev te σ H v) (hv : DaA K a (.tuple ds) v H) (hl : EvO tl σ H (some (n : Int))) (hh : EvO th σ H none) : Yi (tSl (rSlY K) te tl th) σ H (DaA K a (.tuple (ds.drop n))) := by
  obtain ⟨p, xs, rfl, hp, pr⟩ := daA_items hv
  refine (yi_slT ha (sqt_more hp) hl hh).imp fun y H2 e2 z => ?_
  obtain ⟨q1, rfl, h1⟩ := z
  rw [cut_drop] at h1
  exact da_tuple (sqt_less h1 (pu.keep e2)) (paired_drop n (paired_mono (F := fun d v H => DaA K a d v H) e2 (fun d v H H' e h => daA_mono d v H H' e h) pr))
/-- list(a tuple that is data) -/
def rListOf (K : PySem.W.Frag) : List V → Hp → VK → Prop := fun xs H Q => ∃ p ys, xs = [.ref p] ∧ (SqL K H p ys ∨ SqT K H p ys) ∧ ∀ l, H l = none → Q (.ref l) (upd H l (.lst ys))
theorem listK {X : Cx} (K : PySem.W.Frag) (h : X.K = K := by rfl) : CallR X (.type "list") (rListOf K) := h ▸ call_list_of
theorem yi_dlist (pu : Pur H a) (ha : Ev te σ H v) (hv : DaA K a (.tuple ds) v H) : Yi (tCB (rListOf K) (tCons te tNil)) σ H (DaA K a (.list ds)) := fun H1 e1 Q q => ha H1 e1 _ fun H2 e2 => by
  obtain ⟨p, xs, rfl, hp, pr⟩ := daA_items (daA_mono _ _ _ _ (e1.trans e2) hv)
  refine ⟨p, xs, rfl, .inr (sqt_more hp), fun c hc => ?_⟩
  have ne : c ≠ a := (pu.keep (e1.trans e2)).ne hc
  exact q (.ref c) _ (e2.trans (Ex.new hc)) (da_list (by rw [less_ne ne, upd_same]) (paired_mono (F := fun d v H => DaA K a d v H) (Ex.new hc) (fun d v H H' e h => daA_mono d v H H' e h) pr))
theorem yi_catX {α : Type} {F : α → V → Hp → Prop} {is js : List α} (m : ∀ i v H H', Ex H H' → F i v H → F i v H') (ha : Yi ta σ H (LstOf F is)) (hb : Yi tb σ H (LstOf F js)) (l : is.length + js.length ≤ 100000) : Yi (tOp (rAddX K) ta tb) σ H (LstOf F (is ++ js)) := fun H1 e1 Q q =>
  ha H1 e1 _ fun x H2 e2 p => hb H2 (e1.trans e2) _ fun y H3 e3 p' => by
    obtain ⟨a, vs, rfl, ha, pa⟩ := p.mono m e3
    obtain ⟨b, ws, rfl, hb, pb⟩ := p'
    refine .inr (.inl ⟨a, b, vs, ws, rfl, rfl, ha, hb, sz_of (by rw [← paired_len pa, ← paired_len pb]; exact l), fun c hc => ?_⟩)
    exact q _ _ ((e2.trans e3).trans (Ex.new hc)) ⟨c, _, rfl, upd_same, paired_mono (Ex.new hc) m (paired_append pa pb)⟩
/-- an ascii text's upper -/
theorem ev_upperS {l : List Nat} (h : Ev te σ H (.str (SX.S l))) (c : ∀ d ∈ l, d < 128) (len : l.length ≤ 1000) : Ev (tM0 (fun x xs H Q => ∃ a, x = .str a ∧ xs = [] ∧ a.length ≤ 5592405 ∧ Q (.str (Txt.upper a)) H) te) σ H (.str (SX.S (l.map PyProof.Rows.up1))) := fun H1 e1 Q q => h H1 e1 _ fun H2 e2 =>
  ⟨⟨_, rfl⟩, SX.S l, rfl, rfl, by rw [SX.S_len]; omega, by rw [SX.upper_S (List.all_eq_true.mpr fun d hd => decide_eq_true (c d hd))]; exact q H2 e2⟩
/-- return menu[draw(purse, len(menu))] -/
theorem s_pick {i : Nat} {x : V} {E : XK} (hi : σ[i]? = some (some x)) (h0 : σ[0]? = some (some (.ref a))) (l : LstOf (DaA K a) ds x H) (n3 : ds.length ≠ 3) (pos : 0 < ds.length) (le : ds.length ≤ 1000) (pu : Pur H a)
    (k : ∀ d ∈ ds, ∀ y H', Ex (less a H) H' → Pur H' a → DaA K a d y H' → D.rt y H') : tRet (tOp (rIx K) (tVar i) (tCall spDraw [] E (tCons (tVar 0) (tCons (tCB (rLenY K) (tCons (tVar i) tNil)) tNil)))) D σ H := by
  obtain ⟨p, vs, rfl, hp, pr⟩ := l
  have ln := paired_len pr
  have ne : p ≠ a := fun z => by
    obtain ⟨_, _, _, z2, _⟩ := pu
    rw [z, z2] at hp
    cases hp
    exact n3 (by rw [ln]; rfl)
  have hp' : less a H p = some (.lst vs) := by rw [less_ne ne]; exact hp
  refine ⟨.ref p, hi, (dr_draw (m := (ds.length : Int)) less_at h0 (ev_is (ev_lenL (ev_var hi) (.inl (sq_of hp'))) (by rw [ln])) (by omega) (by omega) : Dr a _ σ (less a H) _) H less_ex pu _ fun y H3 py e3 p3 => ?_⟩
  obtain ⟨j, rfl, k0, k1⟩ := py
  obtain ⟨v, hv, hv2⟩ := atI_nat (xs := vs) k0 (by rw [← ln]; exact k1)
  have lt : j.toNat < ds.length := by omega
  obtain ⟨v', e4, dv⟩ := SwX.paired_get (n := j.toNat) (i := ds[j.toNat]'lt) pr (by simp [lt])
  rw [hv2] at e4
  cases e4
  exact .inl ⟨p, vs, j, v, rfl, rfl, sq_of (e3 _ _ hp'), hv, k _ (List.getElem_mem lt) v H3 e3 p3 (daA_from dv e3)⟩
theorem q_asg3 {i j l : Nat} (h : ta' σ H fun vs H1 => ∃ x y z, vs = [x, y, z] ∧ ∀ p, H1 p = none → tz D (((σ.set i (some x)).set j (some y)).set l (some z)) (upd H1 p (.tup [x, y, z]))) (mono : ∀ (P Q : List V → Hp → Prop), (∀ vs H, P vs H → Q vs H) → ta' σ H P → ta' σ H Q) :
    tSeq (tAsg (tTup ta') (gTup K 3 (gCons (gName i) (gCons (gName j) (gCons (gName l) gNil))))) tz D σ H := by
  refine mono _ _ (fun vs H1 z => ?_) h
  obtain ⟨x, y, z, rfl, k⟩ := z
  exact ⟨show 3 ≤ sizeLine by decide, fun p hp => ⟨p, _, rfl, .inl (.inl upd_same), rfl, x, [y, z], rfl, y, [z], rfl, z, [], rfl, rfl, k p hp⟩⟩
end
end SwX
set_option Elab.async false
set_option linter.all false
set_option maxRecDepth 100000
set_option maxHeartbeats 4000000
/-! defs that make lambdas: their code objects, their tables; heaps but for tables -/
namespace SwX
open PySem PySem.Spec PyProof.Rows L2
theorem codeAt_eq {K : PySem.W.Frag} {f : Addr} {oc : Value} {od : Option Addr} {osl : Array (Option Value)} {fd : FuncData} {c : Addr} (lk : K.lookup f = some ⟨oc, od, .func fd, osl⟩) (e : fd.code = .ref c) : codeAt K f = c := by
  unfold codeAt
  rw [lk]
  simp only [e]
theorem code_ref {K : PySem.W.Frag} {cd : Value} {q : Str} (h : PySem.W.codeIn K cd q = true) : ∃ c, cd = .ref c := by
  cases cd with
  | ref c => exact ⟨c, rfl⟩
  | _ => cases h
section
variable {P : Program} {w : World} {K : PySem.W.Frag} {mg : Str → Option Value} {base : Heap} {CX : CXT} {k : Nat} {f : Addr} {fd : FuncData} {N ps : List Str} {sp : Sp} {x qual : Str} {params : Arguments} {body : List Stmt} {scope : Scope} {dvs : List V} {kws : List (Str × V)}
/-- the rule of such a def, its code object known -/
theorem FunD.okT (F : FunD K x qual params body scope dvs kws f fd) (S : FnScope N ps scope) (len : ∀ vs H Q E, sp vs H Q E → vs.length = ps.length)
    (hb : ∀ (A : Around) (outer : List Env) (s : Shared) (H : Hp) (vs : List V) (Q : VK) (E : XK), Room k (A.deeper (envOfC qual scope s.heap.objs.size f (.ref (codeAt K f)))) → Calm A → sp vs H Q E →
      ∃ t, PSs (cxOf CX P w K mg base N qual scope f (.ref (codeAt K f)) A outer s H E) body t ∧ t { nx := fun _ H' => Q .non H', rt := Q } (start N vs) H) : FnG P w K mg base CX (k + 1) f fd ps sp := by
  obtain ⟨oc, od, dV, kV, doc, pm, an, cdv, ct, osl, rfl, lk, hcd, _, _⟩ := F.ex
  obtain ⟨c, rfl⟩ := code_ref hcd
  obtain rfl : c = codeAt K f := (codeAt_eq lk rfl).symm
  refine ⟨len, fun A outer s H args us vs Q E hr calm e0 bind r hsp => ?_⟩
  have base_in : ∀ b o, base.get? b = some o → s.heap.get? b = some o := fun b o z => (e0.bs b o z).1
  have KX : K.In s.heap := e0.mod.kin.keeps base_in
  have par : ∀ y ∈ ps.zip us, scope.names.lookup y.1 = some .local ∨ (scope.names.lookup y.1 = some .cell ∧ ((cellsFrom (s.heap.objs.size + 1) scope.names []).lookup y.1).isSome = true) := fun y hy => by
    cases S.par y.1 (List.of_mem_zip hy).1 with
    | inl q => exact Or.inl q
    | inr q => exact Or.inr ⟨q, PySem.W.cellsFrom_some _ _ _ (Or.inl q)⟩
  refine codeAny_call_function hr.depth (KX _ _ lk) rfl S.co S.gen rfl (PySem.W.codeRec_of KX hcd) (bind _ _ _ _ (wpAny_newFunctionEnv_cells S.kind par fun env he s1 made => ?_))
  subst he
  refine And.intro ((e0.mod.nolimit.keeps base_in).keeps made.toInCall.keep) (codeAny_func ?_)
  obtain ⟨t, ht, hq⟩ := hb A outer s H vs Q E (hr.deeper _) calm hsp
  refine wpAny_mono (ht.run [] s1 (start N vs) H _ (inv_start S hr.hd e0 (len _ _ _ _ hsp) r made) hq) (fun fl s' z => ?_) fun _ _ z => z
  cases fl with
  | ret u =>
    obtain ⟨v, σ', H', J, rv, q⟩ := z
    exact ⟨v, H', J.os, J.bare, J.base, J.hok, rv, q⟩
  | next =>
    obtain ⟨σ', H', J, q⟩ := z
    exact ⟨V.non, H', J.os, J.bare, J.base, J.hok, rfl, q⟩
  | brk =>
    obtain ⟨_, _, _, q⟩ := z
    exact q.elim
  | cont =>
    obtain ⟨_, _, _, q⟩ := z
    exact q.elim
end
/-! ### heaps but for tables -/
def bare (H : Hp) : Hp := fun b => match H b with
  | some (.tbl _) => none
  | o => o
open Evl (Ex)
section
variable {H H' H1 H2 : Hp} {a b : Addr} {o : HO} {K : PySem.W.Frag}
theorem bare_some (h : bare H b = some o) : H b = some o ∧ ∀ ps, o ≠ .tbl ps := by
  unfold bare at h
  split at h
  · cases h
  · rename_i n
    exact ⟨h, fun ps e => n ps (by rw [h, e])⟩
theorem bare_of (h : H b = some o) (n : ∀ ps, o ≠ .tbl ps) : bare H b = some o := by
  unfold bare
  split
  · rename_i ps e
    rw [h] at e
    exact absurd (Option.some.inj e) (n ps)
  · exact h
theorem bare_ex : Ex (bare H) H := fun b o h => (bare_some h).1
theorem bare_ext (e : LamX.ExtN H H') : Ex (bare H) H' := fun b o h => e b o (bare_some h).1 (bare_some h).2
theorem ext_bare (e : Ex (bare H) H') : LamX.ExtN H H' := fun b o h n => e b o (bare_of h n)
/-- all but the purse at a and the tables stays -/
def ExL (a : Addr) (H H' : Hp) : Prop := Ex (bare (less a H)) H'
theorem exl_of (e : Ex (less a H) H') : ExL a H H' := bare_ex.trans e
theorem exl_ext (e : LamX.ExtN H H') : ExL a H H' := fun b o h => by
  obtain ⟨h1, n⟩ := bare_some h
  exact e b o (less_ex _ _ h1) n
theorem less_some (h : less a H b = some o) : H b = some o ∧ b ≠ a := by
  refine ⟨less_ex _ _ h, fun z => ?_⟩
  rw [z, less_at] at h
  cases h
theorem exl_step (e : ExL a H H') : Ex (bare (less a H)) (bare (less a H')) := fun b o h => by
  have h1 := e b o h
  obtain ⟨h2, n⟩ := bare_some h
  exact bare_of (by rw [less_ne (less_some h2).2]; exact h1) n
theorem ExL.trans (e : ExL a H H1) (e' : ExL a H1 H2) : ExL a H H2 := (exl_step e).trans e'
theorem ExL.refl (H : Hp) : ExL a H H := exl_of less_ex
theorem sqt_bare {q : Addr} {xs : List V} (h : SqT K H q xs) : SqT K (bare H) q xs := by
  rcases h with (h | ⟨o, h⟩) | h
  · exact .inl (.inl (bare_of h fun _ z => nomatch z))
  · exact .inl (.inr ⟨o, bare_of h fun _ z => nomatch z⟩)
  · exact .inr h
theorem Da.bare {v : V} {d : PyData} (h : Da K H v d) : Da K (bare H) v d := by
  induction h with
  | non => exact .non
  | bl b => exact .bl b
  | int i => exact .int i
  | str x => exact .str x
  | lst h l _ ih => exact .lst (bare_of h fun _ z => nomatch z) l ih
  | tup h l _ ih => exact .tup (sqt_bare h) l ih
  | dic h l _ ih => exact .dic (bare_of h fun _ z => nomatch z) l ih
/-- data aside of the purse and of the tables -/
def DaB (K : PySem.W.Frag) (a : Addr) (d : PyData) (v : V) (H : Hp) : Prop := Da K (bare (less a H)) v d
theorem daB_of {d : PyData} {v : V} (h : DaA K a d v H) : DaB K a d v H := Da.bare h
theorem DaB.step {d : PyData} {v : V} (e : ExL a H H') (h : DaB K a d v H) : DaB K a d v H' := Da.mono (exl_step e) h
theorem DaB.da {d : PyData} {v : V} (h : DaB K a d v H) : Da K H v d := Da.mono (bare_ex.trans less_ex) h
theorem DaB.daA {d : PyData} {v : V} (h : DaB K a d v H) : DaA K a d v H := Da.mono bare_ex h
theorem Pur.ext (p : Pur H a) (e : LamX.ExtN H H') : Pur H' a := by
  obtain ⟨x, y, z, h, r⟩ := p
  exact ⟨x, y, z, e _ _ h (fun _ z => nomatch z), r⟩
theorem tabs_less {T : List (Addr × Str)} (t : LamX.Tabs T H) (p : Pur H a) (e : Ex (less a H) H') : LamX.Tabs T H' := fun q hq => by
  obtain ⟨ps, h1, h2, h3⟩ := t q hq
  obtain ⟨_, _, _, z, _⟩ := p
  refine ⟨ps, e _ _ (by rw [less_ne (fun w => by rw [w, z] at h1; cases h1)]; exact h1), h2, fun pos cv hc => ?_⟩
  obtain ⟨c, e1, e2⟩ := h3 pos cv hc
  exact ⟨c, e1, e _ _ (by rw [less_ne (fun w => by rw [w, z] at e2; cases e2)]; exact e2)⟩
end
/-! ### the law's call, with tables -/
/-- the abstract heap ahead of the law: the script, the empty tables -/
def scriptT (K : PySem.W.Frag) (a : Addr) (o : Obj) (ns : List Int) (ts : List Addr) : Hp := fun b => if b = a ∧ K.lookup a = none then some (.frz o (.lst (ns.map V.int))) else if b ∈ ts then some (.tbl #[]) else none
theorem scriptT_some {K : PySem.W.Frag} {a b : Addr} {o : Obj} {ns : List Int} {ts : List Addr} {u : HO} (h : scriptT K a o ns ts b = some u) : (b = a ∧ K.lookup a = none ∧ u = .frz o (.lst (ns.map V.int))) ∨ (b ∈ ts ∧ u = .tbl #[]) := by
  unfold scriptT at h
  split at h
  · rename_i c
    exact .inl ⟨c.1, c.2, (Option.some.inj h).symm⟩
  · split at h
    · rename_i c
      exact .inr ⟨c, (Option.some.inj h).symm⟩
    · cases h
theorem law_runT {P : Program} {w : World} {K : PySem.W.Frag} {mg mb : Str → Option Value} {CX : CXT} {k : Nat} {fa a : Addr} {cs : List (Addr × Addr)} {fd : FuncData} {x : Str} {sp : Sp} {s1 : Shared} {vs : List Value} {ns : List Int}
    (KX : K.In s1.heap) (gl : s1.heap.Ns mainGlobals mg) (bl : s1.heap.Ns builtinsNs mb) (bb : ∀ x : Str, x ≠ "__name__" → mb x = bootBuiltins x) (lim : s1.heap.NoLimit) (gens : s1.gens = #[])
    (hT : ∀ p ∈ cs, s1.heap.get? p.2 = some tab0) (nT : ∀ p ∈ cs, K.lookup p.2 = none) (cd : ∀ p ∈ cs, PySem.W.CodeHd s1.heap p.1 p.2)
    (hbm : ∃ (bm : Addr) (ob : Obj), mg "__builtins__" = some (.ref bm) ∧ bm ≠ builtinsNs ∧ s1.heap.get? bm = some ob ∧ ob.cls = .type "module" ∧ ob.dict = some builtinsNs ∧ ob.data = .plain)
    (ha : s1.heap.get? a = some { cls := .type "list", data := .seq vs.toArray }) (hi : IntsAre vs ns) (hl : ns.length ≤ sizeLine) (room : Room k callerA)
    (F : ∀ base : Heap, K.In base → base.Ns mainGlobals mg → (∀ p ∈ cs, LamX.TabB base mg p.1 p.2) → FnG P w K mg base CX k fa fd [x] sp) (bind : ∀ (s : Shared) (u : Value), BindsTo s fd ⟨[u], []⟩ [(x, u)])
    (hsp : ∀ H : Hp, (∀ p ∈ cs, H p.2 = some (.tbl #[])) → SqL K H a (ns.map V.int) → sp [.ref a] H (fun v _ => v = .bl true) fun _ _ _ => False) (out : ∀ H e s', CX [] H s1 (fun _ _ _ => False) e s' → False) :
    codeAny (model P w) callerA (.call (.ref fa) ⟨[.ref a], []⟩) (fun r s' => r = .ok (.ret (.bool true)) ∧ OldK s1.heap s'.heap ∧ s'.os = s1.os ∧ AllBare s'.gens) s1 := by
  let o : Obj := { cls := .type "list", data := .seq vs.toArray }
  let ts : List Addr := cs.map (·.2)
  let H : Hp := scriptT K a o ns ts
  have rv := vals_ints hi
  have short : (ns.map V.int).length ≤ sizeLine := by rw [List.length_map]; exact hl
  have isT : ∀ b, b ∈ ts → s1.heap.get? b = some tab0 := fun b hb => by
    obtain ⟨p, hp, e⟩ := List.mem_map.mp hb
    exact e ▸ hT p hp
  have notT : ∀ b, b ∈ ts → K.lookup b = none := fun b hb => by
    obtain ⟨p, hp, e⟩ := List.mem_map.mp hb
    exact e ▸ nT p hp
  have aT : a ∉ ts := fun z => by
    have q := isT a z
    rw [ha] at q
    exact nomatch (show Data.seq vs.toArray _ = Data.fields #[] from congrArg Obj.data (Option.some.inj q))
  have tabH : ∀ p ∈ cs, H p.2 = some (.tbl #[]) := fun p hp => by
    have m : p.2 ∈ ts := List.mem_map.mpr ⟨p, hp, rfl⟩
    show scriptT K a o ns ts p.2 = _
    unfold scriptT
    rw [if_neg (show ¬ (p.2 = a ∧ K.lookup a = none) from fun z => aT (z.1 ▸ m)), if_pos m]
  have seen : SqL K H a (ns.map V.int) := by
    cases q : K.lookup a with
    | none => exact Or.inl (Or.inr ⟨o, if_pos ⟨rfl, q⟩⟩)
    | some u =>
      have z := KX a u q
      rw [ha] at z
      cases z
      exact Or.inr ⟨_, vs.toArray, _, q, rfl, rfl, rfl, by rw [List.size_toArray, hi.length]; exact hl, by simpa using rv⟩
  have held : HOk P w H s1.heap := fun b u z => by
    rcases scriptT_some z with ⟨rfl, _, rfl⟩ | ⟨m, rfl⟩
    · exact ⟨ha, short, vs, _, rv, ha⟩
    · exact isT b m
  have part : ∀ b u, K.lookup b = some u → H b = none := fun b u z => by
    cases q : H b with
    | none => rfl
    | some c =>
      rcases scriptT_some q with ⟨rfl, n, _⟩ | ⟨m, _⟩
      · rw [n] at z
        cases z
      · rw [notT b m] at z
        cases z
  have other : ∀ {b : Addr} {ob : Obj}, s1.heap.get? b = some ob → (∀ vs n, ob.data ≠ .seq vs n) → ob.data ≠ .fields #[] → H b = none := fun {b ob} e n1 n2 => by
    cases q : H b with
    | none => rfl
    | some c =>
      rcases scriptT_some q with ⟨rfl, _, _⟩ | ⟨m, _⟩
      · rw [ha] at e
        cases e
        exact absurd rfl (n1 _ _)
      · rw [isT b m] at e
        cases e
        exact absurd rfl n2
  have table : ∀ {b : Addr} {m : Str → Option Value}, s1.heap.Ns b m → (hidT s1.heap H).Ns b m := fun {b m} z => by
    obtain ⟨ob, es, ep, e1, e2, rest⟩ := z
    exact ⟨ob, es, ep, hidT_get e1 (other e1 (fun _ _ z => by rw [e2] at z; cases z) fun z => by rw [e2] at z; cases z), e2, rest⟩
  have kin : K.In (hidT s1.heap H) := fun b u z => hidT_get (KX b u z) (part b u z)
  have TB : ∀ p ∈ cs, LamX.TabB (hidT s1.heap H) mg p.1 p.2 := fun p hp => by
    refine ⟨?_, ?_, fun z => ?_⟩
    · obtain ⟨oc, us, file, tf, flags, tg, inF, text, tt, e1, r1, r2, r3, rest⟩ := cd p hp
      refine ⟨oc, us, file, tf, flags, tg, inF, text, tt, hidT_get e1 (other e1 (fun _ _ z => ?_) fun z => ?_), r1, r2, r3, rest⟩
      · rw [r2] at z
        cases z
      · rw [r2] at z
        cases z
        simp at r3
    · obtain ⟨bm, ob, b1, b2, b3, b4, b5, b6⟩ := hbm
      refine ⟨bm, ob, b1, b2, fun q => ?_, fun q => ?_, hidT_get b3 (other b3 (fun _ _ z => ?_) fun z => ?_), b4, b5, b6⟩
      · obtain ⟨og, es, ep, e, hd, _⟩ := gl
        rw [q, e] at b3
        cases b3
        rw [hd] at b6
        cases b6
      · rw [q, hT p hp] at b3
        cases b3
        cases b6
      · rw [b6] at z
        cases z
      · rw [b6] at z
        cases z
    · obtain ⟨og, es, ep, e, hd, _⟩ := gl
      rw [z, hT p hp] at e
      cases e
      cases hd
  have env : Env0 P w K mg (hidT s1.heap H) callerA [] s1 H := by
    refine ⟨rfl, ⟨kin, table gl, ⟨mb, table bl, bb⟩, ?_⟩, fun b u z => of_hidT z, Nat.le_of_eq (hidT_size _ _), trivial, fun b z => ?_, held, .of_eq gens⟩
    · obtain ⟨mc, h1, h2⟩ := lim
      exact ⟨mc, table h1, h2⟩
    · exact absurd (show b ∈ ([] : List Addr) from z) List.not_mem_nil
  refine codeAny_mono ((F _ kin (table gl) TB).run callerA [] s1 H ⟨[.ref a], []⟩ [.ref a] [.ref a] _ _ room rfl env (bind s1 (.ref a)) (.cons rfl .nil) (hsp H tabH seen)) fun r s' z => ?_
  cases r with
  | error e => exact (out H e s' z).elim
  | ok fl =>
    cases fl with
    | next => exact z.elim
    | brk => exact z.elim
    | cont => exact z.elim
    | ret u =>
      obtain ⟨v, H', os, bare', un, held', r', rfl⟩ := z
      obtain rfl : u = Value.bool true := r'
      have key : ∀ b ob, b ∉ ts → s1.heap.get? b = some ob → s'.heap.get? b = some ob := fun b ob nb e => by
        cases q : H b with
        | none => exact un.keep b ob e q (fun z => absurd (show b ∈ ([] : List Addr) from z) List.not_mem_nil) (fun z => absurd z List.not_mem_nil)
        | some c =>
          rcases scriptT_some q with ⟨rfl, _, rfl⟩ | ⟨m, _⟩
          · have z1 := (held b _ q).1
            have z2 := (held' b _ (un.frzs b _ _ q)).1
            rw [e] at z1
            cases z1
            exact z2
          · exact absurd m nb
      have grown : ∀ p ∈ cs, ∃ more : Array Value, s'.heap.get? p.2 = some { cls := .none, data := .fields more } := fun p hp => by
        obtain ⟨more, z⟩ := un.tbls p.2 #[] (tabH p hp)
        exact ⟨_, held' p.2 _ z⟩
      refine ⟨rfl, ⟨fun b ob e => ?_, fun b ob e => ?_⟩, os, bare'⟩
      · by_cases hb : b ∈ ts
        · obtain ⟨p, hp, rfl⟩ := List.mem_map.mp hb
          obtain ⟨more, hm⟩ := grown p hp
          rw [hT p hp] at e
          cases e
          exact .inr (.inl ⟨((cd p hp).tab (hT p hp)).isCodeTable, rfl, #[], more, rfl, by rw [Array.empty_append]; exact hm⟩)
        · exact .inl (key b ob hb e)
      · by_cases hb : b ∈ ts
        · obtain ⟨p, hp, rfl⟩ := List.mem_map.mp hb
          obtain ⟨more, hm⟩ := grown p hp
          exact ⟨_, hm⟩
        · exact ⟨ob, key b ob hb e⟩
/-- the end of a law's row, with tables -/
theorem walk_ofT {l : PySem.W.OpenLaw} {n k : Nat} {q : Program} {loose : List Str} {XP : (Str → Option Value) → Heap → Prop} {YP : World → Heap → Prop} {d : DefRec} {CX : CXT} {x : Str}
    (hn : l.most = some n) (hn2 : n ≤ sizeLine) (hdf : d.params.defaults = []) (room : Room k callerA)
    (F : ∀ (w : World) (mg : Str → Option Value) (fa : Addr) (h : Heap), YP w h → h.Ns mainGlobals mg → mg d.name = some (.ref fa) →
      ∃ (K : PySem.W.Frag) (fd : FuncData) (sp : Sp) (cs : List (Addr × Addr)), K.In h ∧ (∀ p ∈ cs, h.get? p.2 = some tab0) ∧ (∀ p ∈ cs, K.lookup p.2 = none) ∧ (∀ p ∈ cs, PySem.W.CodeHd h p.1 p.2) ∧ (∀ (s : Shared) (u : Value), BindsTo s fd ⟨[u], []⟩ [(x, u)]) ∧
        (∀ (H : Hp) (a : Addr) (ns : List Int), ns.length ≤ n → (∀ p ∈ cs, H p.2 = some (.tbl #[])) → SqL K H a (ns.map V.int) → sp [.ref a] H (fun v _ => v = .bl true) fun _ _ _ => False) ∧
        ∀ base : Heap, K.In base → base.Ns mainGlobals mg → (∀ p ∈ cs, LamX.TabB base mg p.1 p.2) → FnG l.prog w K mg base CX k fa fd [x] sp)
    (out : ∀ (H : Hp) (s : Shared) (e : Value) (s' : Shared), CX [] H s (fun _ _ _ => False) e s' → False) : PySem.W.WalkO q loose XP YP l.row.toRowW d [] (fun f vs => PySem.call f vs) := by
  refine Att.attach_call hn hdf fun w s0 s1 mg mb fa o pm cd doc a vs ns G Y _ _ _ hm hobj hints hlen hg => ?_
  obtain ⟨K, fd, sp, cs, KX, hT, nT, C, bind, hsp, hF⟩ := F w mg fa _ Y G.T.g hm
  exact law_runT KX G.T.g G.T.b G.T.builtins G.T.nolimit hg hT nT C G.T.bmain hobj hints (Nat.le_trans hlen hn2) room hF bind (fun H t z => hsp H a ns hlen t z) fun H e s' => out H s1 e s'
end SwX
set_option Elab.async false
set_option linter.all false
set_option maxRecDepth 100000
set_option maxHeartbeats 2000000
/-! a hook: facts, defs at any address, a further look, the tables of some defs; the own exceptions' facts -/
namespace SwX
open PySem PySem.Spec PyProof.Rows L2
def asZ (g : Addr → Option Obj) (n : Nat) : List Addr := sysModules :: He5.asA g n
def obsZ (n : Nat) (fa : List He.Fa) (fn : List He5.DefA) (tf : TfZ) (ex : PySem.W.Frag → Bool) (g : Addr → Option Obj) : AlZ := obsZK fa fn tf ex g (He.frT g (asZ g n))
theorem saysZ_of {n : Nat} {fa : List He.Fa} {fn : List He5.DefA} {tf : TfZ} {ex : PySem.W.Frag → Bool} {h : Heap} (e : obsZ n fa fn tf ex h.get? = (true, He5.valA fn)) : SaysZ fa fn tf ex h (He.frT h.get? (asZ h.get? n)) := by
  have e1 : He5.obsA fa fn (He.frT h.get? (asZ h.get? n)) = He5.valA fn := congrArg (fun z : AlZ => z.2) e
  have e2 : (((He.frT h.get? (asZ h.get? n)).lookup sysModules).isSome && (ex (He.frT h.get? (asZ h.get? n)) && tabsZ h.get? tf (He.frT h.get? (asZ h.get? n)))) = true := congrArg (fun z : AlZ => z.1) e
  obtain ⟨h0, h12⟩ := Bool.and_eq_true_iff.mp e2
  obtain ⟨h1, h2⟩ := Bool.and_eq_true_iff.mp h12
  generalize hK : He.frT h.get? (asZ h.get? n) = K at e1 h0 h1 h2 ⊢
  have key : ∀ p ∈ tf, PySem.W.codeHdIn K (ctZ K (p K)).1 (ctZ K (p K)).2 = true ∧ ∃ o, h.get? (ctZ K (p K)).2 = some o ∧ He.emptyTab o = true := fun p hp => by
    obtain ⟨h3, h4⟩ := Bool.and_eq_true_iff.mp (List.all_eq_true.mp h2 p hp)
    refine ⟨h3, ?_⟩
    cases q : h.get? (ctZ K (p K)).2 with
    | none =>
      rw [q] at h4
      cases h4
    | some o =>
      rw [q] at h4
      exact ⟨o, rfl, h4⟩
  exact ⟨Option.isSome_iff_exists.mp h0, h1, e1, fun p hp => (key p hp).1, fun p hp => by
    obtain ⟨_, o, q, z⟩ := key p hp
    rw [← hK]
    rw [← hK] at q
    exact He.frT_none q z, fun p hp => by
    obtain ⟨_, o, q, z⟩ := key p hp
    rw [q, He.emptyTab_eq z]⟩
def hookZ (n : Nat) (fa : List He.Fa) (fn : List He5.DefA) (tf : TfZ) (ex : PySem.W.Frag → Bool) : PySem.W.Hook where
  α := AlZ
  obs := fun s => obsZ n fa fn tf ex s.heap.get?
  val := fun _ => (true, He5.valA fn)
  says := fun _ h => ∃ K : PySem.W.Frag, K.In h ∧ SaysZ fa fn tf ex h K
  of := fun _ _ e => ⟨_, He.frT_in, saysZ_of e⟩
  keeps := fun _ _ _ ⟨K, hK, c⟩ k => ⟨K, PySem.W.Frag.In.keeps hK k, ⟨c.sys, c.more, c.sd, c.hd, c.out, fun p hp => k _ _ (c.empty p hp)⟩⟩
theorem obsZ_eq {n : Nat} {fa : List He.Fa} {fn : List He5.DefA} {tf : TfZ} {ex : PySem.W.Frag → Bool} {g : Addr → Option Obj} {s : Shared} (h : ∀ a, g a = s.heap.get? a) : obsZ n fa fn tf ex g = (hookZ n fa fn tf ex).obs s := by
  have e : g = s.heap.get? := funext h
  rw [e] <;> rfl
theorem SaysZ.code {fa : List He.Fa} {fn : List He5.DefA} {tf : TfZ} {ex : PySem.W.Frag → Bool} {h : Heap} {K : PySem.W.Frag} (c : SaysZ fa fn tf ex h K) (X : K.In h) : ∀ p ∈ tf, PySem.W.CodeHd h (ctZ K (p K)).1 (ctZ K (p K)).2 := fun p hp => PySem.W.codeHd_of_K X (c.hd p hp)
/-! ### an empty tuple in K -/
def tupE (K : PySem.W.Frag) (a : Addr) : Bool := match K.lookup a with
  | some ⟨c, _, .seq its _, _⟩ => decide (c = .type "tuple") && decide (its.toList = [])
  | _ => false
theorem tupE_ok {K : PySem.W.Frag} {a : Addr} (h : tupE K a = true) : SqT K (fun _ => none) a [] := by
  unfold tupE at h
  split at h
  · rename_i c d its n sl e
    rw [Bool.and_eq_true] at h
    have e2 : its.toList = [] := of_decide_eq_true h.2
    refine .inr ⟨_, its, n, e, of_decide_eq_true h.1, rfl, ?_, by rw [e2]; exact .nil⟩
    rw [← Array.length_toList, e2]
    decide
  · cases h
/-! ### the own exceptions that are raised -/
def CxZ (K : PySem.W.Frag) (i : Nat) : Addr := He.ga K (exNm i)
def bsZ (i : Nat) : Nat := if i < 12 then 0 else if i < 14 then 1 else 2
def kitZ (K : PySem.W.Frag) (i : Nat) (v : Value) (b : Bool) : Bool := oB (PySem.W.kitOne K (.ref (CxZ K i)) v) (some b)
theorem kitZ_ok {K : PySem.W.Frag} {i : Nat} {v : Value} {b : Bool} (h : kitZ K i v b = true) : PySem.W.kitOne K (.ref (CxZ K i)) v = some b := of_decide_eq_true h
def clZ (K : PySem.W.Frag) (i : Nat) : Bool := decide (i < 15) && (oexB K (bsZ i) (CxZ K i) && (decide (PySem.W.typeIn K (.ref (CxZ K i)) = some (.type "type")) && (oB (PySem.W.exmAny K (.ref (CxZ K i)) [.ref (He.ga K "WrongValue"), .ref (He.ga K "WrongName"), .ref (He.ga K "NoAnswer")]) (some true) &&
  (((List.range 17).all fun j => kitZ K i (.ref (CxZ K j)) (decide (i = j))) && (kitZ K i (.ref (He.ga K "WrongValue")) (decide ((i : Int) < 12)) && (kitZ K i (.ref (He.ga K "WrongName")) (decide ((11 : Int) < i) && decide ((i : Int) < 14)) && (kitZ K i (.ref (He.ga K "NoAnswer")) (decide ((13 : Int) < i)) &&
  (kitZ K i (.type "ValueError") (decide ((i : Int) < 12)) && (kitZ K i (.type "LookupError") (decide ((11 : Int) < i) && decide ((i : Int) < 14)) && (kitZ K i (.type "ArithmeticError") (decide ((13 : Int) < i)) && (He.eqO (PySem.W.findIn K (.ref (CxZ K i)) (exFld i)) (some none) && iniB K (CxZ K i))))))))))))
def clsZ (K : PySem.W.Frag) (rs : List Nat) : Bool := rs.all (clZ K)
theorem clsZ_ok {P : Program} {w : World} {K : PySem.W.Frag} {mg : Str → Option Value} {base : Heap} {rs : List Nat} (h : clsZ K rs = true) (g : ∀ i, i < 17 → mg (exNm i) = some (.ref (CxZ K i))) (gWV : mg "WrongValue" = some (.ref (He.ga K "WrongValue"))) (gWN : mg "WrongName" = some (.ref (He.ga K "WrongName"))) (gNA : mg "NoAnswer" = some (.ref (He.ga K "NoAnswer")))
    (D : ∀ i ∈ rs, Oex K (CxZ K i) → Free K (CxZ K i) (exFld i) → Ini K (CxZ K i) (He.ma K (CxZ K i) "__init__") → mg (exNm i) = some (.ref (CxZ K i)) → HasX P w K mg base (exNm i) 1 (CxZ K i) 1 [exFld i] (fun us ws => us ++ ws.reverse) (spIni1 (CxZ K i) (exFld i))) :
    Cl P w K mg base rs (CxZ K) (He.ga K "WrongValue") (He.ga K "WrongName") (He.ga K "NoAnswer") := by
  have key : ∀ i ∈ rs, _ := fun i hi => List.all_eq_true.mp h i hi
  unfold clZ at key
  simp only [Bool.and_eq_true] at key
  have fr : ∀ i ∈ rs, Free K (CxZ K i) (exFld i) := fun i hi => free_of (He.eqO_ok (key i hi).2.2.2.2.2.2.2.2.2.2.2.1)
  have ox : ∀ i ∈ rs, Oex K (CxZ K i) := fun i hi => oex_of (key i hi).2.1
  have lt : ∀ i ∈ rs, i < 15 := fun i hi => of_decide_eq_true (key i hi).1
  exact ⟨lt, ox, fun i hi => of_decide_eq_true (key i hi).2.2.1, fun i hi => of_decide_eq_true (key i hi).2.2.2.1, fun i hi j hj => kitZ_ok (List.all_eq_true.mp (key i hi).2.2.2.2.1 j (List.mem_range.mpr hj)), fun i hi => kitZ_ok (key i hi).2.2.2.2.2.1, fun i hi => kitZ_ok (key i hi).2.2.2.2.2.2.1, fun i hi => kitZ_ok (key i hi).2.2.2.2.2.2.2.1, fun i hi => kitZ_ok (key i hi).2.2.2.2.2.2.2.2.1, fun i hi => kitZ_ok (key i hi).2.2.2.2.2.2.2.2.2.1, fun i hi => kitZ_ok (key i hi).2.2.2.2.2.2.2.2.2.2.1, fr, g, gWV, gWN, gNA,
    fun i hi => D i hi (ox i hi) (fr i hi) (ini_of (key i hi).2.2.2.2.2.2.2.2.2.2.2.2) (g i (by have := lt i hi; omega))⟩
end SwX
set_option Elab.async false
set_option linter.all false
set_option maxRecDepth 100000
set_option maxHeartbeats 4000000
/-! the set of a list of ints -/
namespace SwX
open PySem PySem.Spec PyProof.Rows L2
section
variable {P : Program} {w : World} {A : Around} {s : Shared} {E : Value → Shared → Prop}
/-- the set that is made first -/
abbrev set0 (w : World) : Obj := { cls := .type "set", dict := none, data := .set #[] 0 (.fresh 0 0 (!w.params.followText "set-order")) }
/-- .. with an iterator over the list behind it -/
abbrev heap2 (w : World) (h : Heap) (l : Addr) : Heap := (h.push (set0 w)).push { cls := .type "list_iterator", data := .fields #[.ref l, .int 0 0] }
theorem old2 {h : Heap} {l b : Addr} {o : Obj} (e : h.get? b = some o) : (heap2 w h l).get? b = some o := Heap.get?_push_of_some _ (Heap.get?_push_of_some _ e)
/-- the list is walked into the new set -/
theorem set_filled {l : Addr} {items : Array Value} {ns : List Int} {R : Result → Shared → Prop} (hh : A.in1.in1.in1.handled = none) (size : items.size = ns.length) (few : ns.length + 1 < scanBound) (hl : s.heap.IsList l items) (hi : IntsAre items.toList ns)
    (k : ∀ (h' : Heap) (tk c : Nat), SetR w h' s.heap.objs.size (fun j => decide (j ∈ ns)) c → c ≤ ns.length → (∀ b o, s.heap.get? b = some o → h'.get? b = some o) → R (.ok (.ret .none)) { s with heap := h', toks := tk }) :
    codeAny (model P w) A.in1.in1 (.builtin "set.update.loop" ⟨[.ref s.heap.objs.size, .ref (s.heap.objs.size + 1)], []⟩) R { s with heap := heap2 w s.heap l } := by
  obtain ⟨ol, atl, cl, nl, dl⟩ := hl
  have lt : l < s.heap.objs.size := Heap.lt_size atl
  have ne1 : l ≠ s.heap.objs.size + 1 := Nat.ne_of_lt (Nat.lt_succ_of_lt lt)
  have out : s.heap.objs.size ∉ [s.heap.objs.size + 1, l] := fun z => by
    rcases List.mem_cons.mp z with e | e
    · exact absurd e (Nat.ne_of_lt (Nat.lt_succ_self _))
    · exact absurd (List.mem_singleton.mp e) (Nat.ne_of_gt lt)
  have vals : ∀ (i : Nat) (v : Value), items[i]? = some v → ∃ k t, ns[i]? = some k ∧ v = .int k t := fun i v hv => by
    have b : i < ns.length := size ▸ (Array.getElem?_eq_some_iff.mp hv).1
    obtain ⟨t, rfl⟩ := IntsAre.int_at hi i v (by rw [Array.getElem?_toList, hv])
    exact ⟨_, t, by rw [List.getD_eq_getElem?_getD, List.getElem?_eq_getElem b, Option.getD_some], rfl⟩
  have size1 : (s.heap.push (set0 w)).objs.size = s.heap.objs.size + 1 := Heap.size_push ..
  have atS : (heap2 w s.heap l).get? s.heap.objs.size = some (set0 w) := Heap.get?_push_of_some _ (Heap.get?_push_size _ rfl)
  refine set_update_ints (A := A.in1.in1) (Walks.list hh (s.heap.objs.size + 1) l ne1 items).toS s.heap.objs.size out ns size few vals (items.size - 0) 0 { s with heap := heap2 w s.heap l } rfl (Nat.zero_le _)
    ⟨⟨_, size1 ▸ Heap.get?_push_size _ rfl, rfl, rfl⟩, ⟨ol, old2 atl, cl, nl, dl⟩⟩ ⟨0, Nat.le_refl 0, setR_new_at atS⟩ fun s' c mv cl2 hs => ?_
  have e1 : s'.gens = s.gens := mv.gens
  have e2 : s'.drawn = s.drawn := mv.drawn
  have e3 : s'.os = s.os := mv.os
  have e : s' = { s with heap := s'.heap, toks := s'.toks } := by
    rw [← e1, ← e2, ← e3]
  rw [e]
  refine k _ _ c hs (size ▸ cl2) fun b o hb => mv.heap b o (fun z => ?_) (old2 hb)
  have lb := Heap.lt_size hb
  rcases List.mem_cons.mp z with q | q
  · exact absurd q (Nat.ne_of_lt lb)
  · exact absurd (List.mem_singleton.mp q) (Nat.ne_of_lt (Nat.lt_succ_of_lt lb))
theorem set_of_list {l : Addr} {items : Array Value} {ns : List Int} {Q : Value → Shared → Prop} (hh : A.handled = none) (hl : s.heap.IsList l items) (hi : IntsAre items.toList ns) (few : ns.length + 1 < scanBound)
    (k : ∀ (h' : Heap) (tk c : Nat), SetR w h' s.heap.objs.size (fun j => decide (j ∈ ns)) c → c ≤ ns.length → (∀ b o, s.heap.get? b = some o → h'.get? b = some o) → Q (.ref s.heap.objs.size) { s with heap := h', toks := tk }) :
    wpAny (model P w) A (call (.type "set") [.ref l]) Q E s := by
  have size : items.size = ns.length := by rw [← Array.length_toList]; exact IntsAre.length hi
  obtain ⟨c, tl, mro⟩ := F.called_set.mro
  have q1 := F.called_set.made
  have q2 := F.called_set.sub
  have q3 := F.called_set.notType
  have q4 := F.called_set.canCreate
  have q5 := F.typeCall_set_1 (.ref l)
  refine wpAny_call (codeAny_of_tree (?_ : wpAny _ _ (callAny (.type "set") _) _ _ _))
  refine wpAny_pure ⟨Code.quiet_builtin _ (by decide +kernel), codeAny_builtin F.entry_type_call ?_⟩
  rw [Around.under_plain (weight_type_call_type "set" [.ref l] []) rfl]
  repeat (any_goals (first | assumption | wp_step))
  refine codeAny_mono (code_set_led1 (.ref l) (E := E) (Q₁ := fun v s1 => v = .ref s.heap.objs.size ∧ s1 = { s with heap := s.heap.push (set0 w) }) ⟨rfl, rfl⟩) fun r s1 z => ?_
  cases r with
  | error e => exact z
  | ok fl =>
    cases fl with
    | next => exact z.elim
    | brk => exact z.elim
    | cont => exact z.elim
    | ret v =>
      obtain ⟨rfl, rfl⟩ := z
      have at0 : (s.heap.push (set0 w)).get? s.heap.objs.size = some (set0 w) := Heap.get?_push_size _ rfl
      have ty : Shared.TypeIs { s with heap := s.heap.push (set0 w) } (.ref s.heap.objs.size) "set" := ⟨_, at0, rfl⟩
      have q6 := F.called_set.init.lookup
      have q7 := F.called_set.init.bind (.ref s.heap.objs.size)
      repeat (any_goals (first | assumption | wp_step))
      refine codeAny_mono (codeAny_call_builtin (R := wants (fun r s2 => r = .none ∧ ∃ h' tk c, s2 = { s with heap := h', toks := tk } ∧ SetR w h' s.heap.objs.size (fun j => decide (j ∈ ns)) c ∧ c ≤ ns.length ∧ ∀ b o, s.heap.get? b = some o → h'.get? b = some o) E)
        F.called_set.init.plain F.entry_set_init (check_set_init_1 ty ?_)) fun r2 s2 z2 => ?_
      · obtain ⟨⟨oc, od, dt, sl⟩, atl, cl, nl, dl⟩ := hl
        obtain rfl : oc = .type "list" := cl
        obtain rfl : dt = .seq items nl := dl
        have atl2 : (s.heap.push (set0 w)).get? l = some { cls := .type "list", dict := od, data := .seq items nl, slots := sl } := Heap.get?_push_of_some _ atl
        have q8 := F.sub_list_set
        have q9 := F.sub_list_frozenset
        have q10 : (Value.type "list" == Value.type "dict") = false := by decide
        unfold Builtin.«set.__init__» noKeywords Builtin.Frozenset.updateFrom
        generalize hIt : pyIter = IT
        wp_walk
        subst hIt
        refine wpAny_pyIter_list (⟨_, atl2, rfl, nl, rfl⟩ : (s.heap.push (set0 w)).IsList l items) ?_
        refine wpAny_bind (wpAny_runValue ?_)
        have size1 : (s.heap.push (set0 w)).objs.size = s.heap.objs.size + 1 := Heap.size_push ..
        rw [size1]
        refine set_filled (A := A) (by simp [hh]) size few ⟨_, atl, rfl, nl, rfl⟩ hi fun h' tk c hs cn kp => ?_
        exact wpAny_pure (wpAny_pure ⟨rfl, h', tk, c, rfl, hs, cn, kp⟩)
      · cases r2 with
        | error e => exact z2
        | ok fl =>
          cases fl with
          | next => exact z2.elim
          | brk => exact z2.elim
          | cont => exact z2.elim
          | ret v =>
            obtain ⟨rfl, h', tk, c, rfl, hs, cn, kp⟩ := z2
            repeat (any_goals (first | assumption | wp_step))
            exact k _ _ _ hs cn kp
end
/-- set(a list of ints) -/
def rSetOfL (K : PySem.W.Frag) (w : World) : List V → Hp → VK → Prop := fun vs H Q => ∃ (a : Addr) (ns : List Int), vs = [.ref a] ∧ SqL K H a (ns.map V.int) ∧ ns.length ≤ 1000 ∧ ∀ p n, H p = none → n ≤ ns.length → Q (.ref p) (upd H p (SetO w p (fun j => decide (j ∈ ns)) n))
theorem cr_setL {X : Cx} (hc : X.calm = true) : CallR X (.type "set") (rSetOfL X.K X.w) := by
  intro pins s σ H xs us Q I r h
  obtain ⟨a, ns, rfl, hq, few, q⟩ := h
  rw [Vals.ref1 r]
  obtain ⟨its, rv, pl, hz⟩ := I.list hq
  refine set_of_list (I.ok.hd hc) pl.isList (ns := ns) (by simpa using rv.ints) (by unfold scanBound; omega) fun h' tk c hs cn kp => ?_
  have e2 : ({ s with heap := h', toks := tk } : Shared) = { s with heap := h', toks := tk } := rfl
  have hn : H s.heap.objs.size = none := I.hok.fresh (Nat.le_refl _)
  exact ⟨.ref _, upd H s.heap.objs.size (SetO X.w s.heap.objs.size (fun j => decide (j ∈ ns)) c), I.laid (t' := tk) kp (Nat.le_refl _) (setO_new hs), rfl, q _ c hn cn⟩
end SwX
set_option Elab.async false
set_option linter.all false
set_option maxRecDepth 100000
set_option maxHeartbeats 4000000
/-! methods, properties, in of own instances; own instances made -/
namespace SwX
open PySem PySem.Spec PyProof.Rows L2 Evl
section
variable {X : Cx} {CX : CXT} {n : Nat} {f C : Addr} {fd : FuncData} {ps : List Str} {sp : Sp} {E : XK}
/-- v in a, a of the class at C -/
def rInOwn (C : Addr) (sp : Sp) (E : XK) : R2 := fun x y H Q => ∃ a, y = .ref a ∧ IsI H a C ∧ sp [.ref a, x] H (fun v H' => ∃ k, v = .bl k ∧ Q (.bl k) H') E
theorem op_inOwn (F : FnOk X.prog X.w X.K X.mg X.base CX n f fd ps sp) (S : Spc X.K C "__contains__" f) (b : Binds X.K fd ps []) (out : Passes CX X E) (room : Room n X.A) : OpR X (compareOp .In) (rInOwn C sp E) := by
  intro pins s σ H x y v u Q I rx ry h
  obtain ⟨a, rfl, ia, q⟩ := h
  cases ry
  obtain ⟨ox, od, J⟩ := ia.look I
  obtain ⟨m, fr⟩ := I.fr
  refine PySem.W.in_K fr I.ok.mod.kin J S.at_ S.fn (wpAny_mono (by_machine F room rfl b out I (.cons (rel_ref _) (.cons rx .nil)) q) (fun r s' z => ?_) fun _ _ z => z)
  obtain ⟨v, H', K', rv, k, rfl, q'⟩ := z
  cases rv
  exact wpAny_pure ⟨_, H', K', rel_bl _, q'⟩
end
/-! ### methods -/
/-- the class at C has the method m, which keeps sp -/
structure HasM (P : Program) (w : World) (K : PySem.W.Frag) (mg : Str → Option Value) (base : Heap) (C : Addr) (m : Str) (k : Nat) (ps : List Str) (sp : Sp) : Prop where
  cls : Cls K C
  ex : ∃ f fd, Meth K C m f ∧ FnOk P w K mg base CX0 k f fd ps sp ∧ Binds K fd ps []
/-- .. the property m -/
structure HasP (P : Program) (w : World) (K : PySem.W.Frag) (mg : Str → Option Value) (base : Heap) (C : Addr) (m : Str) (k : Nat) (ps : List Str) (sp : Sp) : Prop where
  cls : Cls K C
  ex : ∃ p g fd, PropOf K C m p g ∧ FnOk P w K mg base CX0 k g fd ps sp ∧ Binds K fd ps []
/-- the class is made with all its arguments -/
structure HasN (P : Program) (w : World) (K : PySem.W.Frag) (mg : Str → Option Value) (base : Heap) (x : Str) (C : Addr) (k : Nat) (ps : List Str) (sp : Sp) : Prop where
  g : mg x = some (.ref C)
  ex : ∃ f fd, Mk K C f ∧ FnOk P w K mg base CX0 k f fd ps sp ∧ Binds K fd ps []
section
variable {X : Cx} {k : Nat} {C : Addr} {m x : Str} {ps : List Str} {sp : Sp} {o e : Expr} {es : List Expr} {ta : TE} {t : TA} {p apos pos : Pos} {pl : Sem Bool}
theorem pe_hm (D : HasM X.prog X.w X.K X.mg X.base C m k ps sp) (hr : Room k X.A) (he : PE X o ta) (ha : PA X (e :: es) t)
    (hst : starEach (e :: es) X.env = (false, eval e X.env) :: starEach es X.env := by rfl) (hpl : (backTo pos (starEach es X.env)).any (·.1) = false := by rfl)
    (ht : eval (.Call (.Attribute o m apos) (e :: es) [] pos) X.env = (do
      let ov ← eval o X.env
      standAt apos.atName
      let (f, first) ← holding [ov] (getMethod ov m pl)
      callWith pos f first (backTo pos (starEach (e :: es) X.env)) (backToKw pos (keywordEach [] X.env))) := by rfl) : PE X (.Call (.Attribute o m apos) (e :: es) [] pos) (tMeth C m sp [] E0 ta t) := by
  obtain ⟨f, fd, M, F, b⟩ := D.ex
  exact pe_meth (pl := pl) he D.cls M F hr b .nil pass0 ha hst hpl ht
theorem pe_hm0 (D : HasM X.prog X.w X.K X.mg X.base C m k ps sp) (hr : Room k X.A) (he : PE X o ta)
    (ht : eval (.Call (.Attribute o m apos) [] [] pos) X.env = (do
      let ov ← eval o X.env
      standAt apos.atName
      let (f, first) ← holding [ov] (getMethod ov m pl)
      callWith pos f first (backTo pos (starEach [] X.env)) (backToKw pos (keywordEach [] X.env))) := by rfl) : PE X (.Call (.Attribute o m apos) [] [] pos) (tMeth C m sp [] E0 ta tNil) := by
  obtain ⟨f, fd, M, F, b⟩ := D.ex
  exact pe_meth0 (pl := pl) he D.cls M F hr b .nil pass0 ht
theorem pe_hp (D : HasP X.prog X.w X.K X.mg X.base C m k ps sp) (hr : Room (k + 1) X.A) (he : PE X o ta) (hab : attributeBase o m X.env (eval o X.env) = eval o X.env := by rfl) : PE X (.Attribute o m pos) (tProp C sp [] E0 ta) := by
  obtain ⟨q, g, fd, M, F, b⟩ := D.ex
  exact pe_prop he D.cls M F hr b .nil pass0 hab
theorem pe_hn (D : HasN X.prog X.w X.K X.mg X.base x C k ps sp) (hr : Room (k + 1) X.A) (ha : PA X (e :: es) t) (hg : Gl X x := by rfl) (hdb : (x == ("__debug__" : Str)) = false := by decide)
    (he : starEach (e :: es) X.env = (false, eval e X.env) :: starEach es X.env := by rfl) (hpl : (backTo pos (starEach es X.env)).any (·.1) = false := by rfl) : PE X (.Call (.Name x p) (e :: es) [] pos) (tMake C sp [] E0 t) := by
  obtain ⟨f, fd, M, F, b⟩ := D.ex
  exact pe_make M F hr hg D.g b .nil pass0 ha hdb he hpl
end
/-! ### their evaluation -/
section
variable {σ : L2.St} {H : Hp} {ta tb : TE} {tas : TA} {sp : Sp} {C : Addr} {m : Str} {v : V} {a dx : Addr} {fs : List (Str × V)} {vs : List V}
/-- the method's promise is a value -/
theorem ev_hm (h : Ev ta σ H (.ref a)) (e : H a = some (.ins C dx fs)) (l : fs.lookup m = none) (ha : EvA tas σ H vs) (q : ∀ H1 (Q : VK), Ex H H1 → (∀ H2, Ex H1 H2 → Q v H2) → sp (.ref a :: vs) H1 Q E0) : Ev (tMeth C m sp [] E0 ta tas) σ H v := fun H1 e1 Q k =>
  h H1 e1 _ fun H2 e2 => ⟨a, dx, fs, rfl, e2 _ _ (e1 _ _ e), l, ha H2 (e1.trans e2) _ fun H3 e3 => by
    rw [List.append_nil]
    exact q H3 Q (e1.trans (e2.trans e3)) fun H4 e4 => k H4 (e2.trans (e3.trans e4))⟩
theorem ev_hp (h : Ev ta σ H (.ref a)) (e : H a = some (.ins C dx fs)) (q : ∀ H1 (Q : VK), Ex H H1 → (∀ H2, Ex H1 H2 → Q v H2) → sp [.ref a] H1 Q E0) : Ev (tProp C sp [] E0 ta) σ H v := fun H1 e1 Q k =>
  h H1 e1 _ fun H2 e2 => ⟨a, dx, fs, rfl, e2 _ _ (e1 _ _ e), q H2 Q (e1.trans e2) fun H4 e4 => k H4 (e2.trans e4)⟩
/-- a def's promise is a value -/
theorem ev_hc (ha : EvA tas σ H vs) (q : ∀ H1 (Q : VK), Ex H H1 → (∀ H2, Ex H1 H2 → Q v H2) → sp vs H1 Q E0) : Ev (tCall sp [] E0 tas) σ H v := fun H1 e1 Q k =>
  ha H1 e1 _ fun H3 e3 => by
    rw [List.append_nil]
    exact q H3 Q (e1.trans e3) fun H4 e4 => k H4 (e3.trans e4)
end
end SwX
set_option Elab.async false
set_option linter.all false
set_option maxRecDepth 100000
set_option maxHeartbeats 4000000
/-! rows: plain, and in the abstract heap -/
namespace SwX
open PySem PySem.Spec PyProof.Rows L2 Evl
/-! ### plain -/
structure Rw where
  head : List (Option Int)
  cycle : List (Option Int)
  steps : List (Option Int)
deriving DecidableEq
abbrev Ol : Type := List (Option Int)
def Ol.g (l : Ol) (i : Nat) : Option Int := l.getD i none
def Rw.h (r : Rw) : Nat := r.head.length
def Rw.c (r : Rw) : Nat := r.cycle.length
/-- t periods later -/
def farV (t : Nat) : Option Int → Option Int → Option Int
  | none, _ => none
  | some v, s => some (v + t * s.getD 0)
def Rw.at (r : Rw) (w : Nat) : Option Int := if w < r.h then Ol.g r.head w else farV ((w - r.h) / r.c) (Ol.g r.cycle ((w - r.h) % r.c)) (Ol.g r.steps ((w - r.h) % r.c))
def Rw.rise (r : Rw) (w : Nat) : Option Int := Ol.g r.steps ((w - r.h) % r.c)
/-- the step from w to p later: none for "none" -/
def Rw.stp (r : Rw) (w p : Nat) : Option (Option Int) := match r.at w, r.at (w + p) with
  | none, none => some none
  | some a, some b => some (some (b - a))
  | _, _ => none
structure RwOk (B : Int) (r : Rw) : Prop where
  pos : 0 < r.c
  len : r.steps.length = r.c
  hs : r.h ≤ 20000
  cs : r.c ≤ 10000
  both : ∀ i, i < r.c → (Ol.g r.cycle i = none ↔ Ol.g r.steps i = none)
  big : B ≤ 1000000
  small : ∀ i x, Ol.g r.steps i = some x → -B ≤ x ∧ x ≤ B
def ov : Option Int → V
  | none => .non
  | some i => .int i
def sv : Option (Option Int) → V
  | none => .str "none"
  | some o => ov o
theorem g_get {l : Ol} {i : Nat} (h : i < l.length) : (l.map ov)[i]? = some (ov (Ol.g l i)) := by
  rw [List.getElem?_map, List.getElem?_eq_getElem h]
  unfold Ol.g
  rw [List.getD_eq_getElem?_getD, List.getElem?_eq_getElem h]
  rfl
/-! ### in the heap -/
structure RowC (K : PySem.W.Frag) (C : Addr) : Prop where
  cls : Cls K C
  n1 : NoAttr K C "head"
  n2 : NoAttr K C "cycle"
  n3 : NoAttr K C "steps"
section
variable {K : PySem.W.Frag} {C : Addr} {H H' : Hp} {σ : L2.St} {te ta tb : TE} {v : V} {r : Rw}
/-- the row r at v -/
def RowAt (K : PySem.W.Frag) (C : Addr) (r : Rw) (v : V) (H : Hp) : Prop := ∃ a dx p q s : Addr, v = .ref a ∧ H a = some (.ins C dx [("head", .ref p), ("cycle", .ref q), ("steps", .ref s)]) ∧ SqT K H p (r.head.map ov) ∧ SqT K H q (r.cycle.map ov) ∧ SqT K H s (r.steps.map ov)
theorem RowAt.mono (e : Ex H H') (h : RowAt K C r v H) : RowAt K C r v H' := by
  obtain ⟨a, dx, p, q, s, rfl, h1, h2, h3, h4⟩ := h
  exact ⟨a, dx, p, q, s, rfl, e _ _ h1, ex_t e h2, ex_t e h3, ex_t e h4⟩
theorem ev_fld {f : Str} {u : V} {a dx : Addr} {fs : List (Str × V)} (c : Cls K C) (n : NoAttr K C f) (h : Ev te σ H (.ref a)) (e : H a = some (.ins C dx fs)) (l : fs.lookup f = some u) : Ev (tFld K te f) σ H u := fun H1 e1 Q q =>
  h H1 e1 _ fun H2 e2 => ⟨a, C, dx, fs, u, rfl, e2 _ _ (e1 _ _ e), c, n, l, q H2 e2⟩
theorem ev_ixO {p : Addr} {l : Ol} {i : Nat} (ha : Ev ta σ H (.ref p)) (hb : Ev tb σ H (.int (i : Nat))) (hp : SqT K H p (l.map ov)) (hi : i < l.length) : Ev (tOp (rIx K) ta tb) σ H (ov (Ol.g l i)) := ev_op ha hb (rv_ixTn hp (g_get hi))
theorem ov_none {o : Option Int} : ov o = .non ↔ o = none := by
  cases o with
  | none => exact ⟨fun _ => rfl, fun _ => rfl⟩
  | some i => exact ⟨fun z => (nomatch z), fun z => (nomatch z)⟩
theorem Rw.at_lt {r : Rw} {w : Nat} (h : w < r.h) : r.at w = Ol.g r.head w := if_pos h
theorem Rw.at_ge {r : Rw} {w : Nat} (h : ¬ w < r.h) : r.at w = farV ((w - r.h) / r.c) (Ol.g r.cycle ((w - r.h) % r.c)) (Ol.g r.steps ((w - r.h) % r.c)) := if_neg h
theorem putF_size (f : Str) (v : V) : ∀ fs : List (Str × V), (putF f v fs).length ≤ fs.length + 1
  | [] => Nat.le_refl _
  | (g, x) :: r => by
    unfold putF
    split
    · exact Nat.le_succ _
    · exact Nat.succ_le_succ (putF_size f v r)
/-- a tuple or a list of these -/
def SqE (K : PySem.W.Frag) (H : Hp) (v : V) (xs : List V) : Prop := ∃ a, v = .ref a ∧ (SqT K H a xs ∨ SqL K H a xs)
theorem SqE.mono {xs : List V} (h : SqE K H v xs) (e : Ex H H') : SqE K H' v xs := by
  obtain ⟨a, rfl, h | h⟩ := h
  · exact ⟨a, rfl, .inl (ex_t e h)⟩
  · exact ⟨a, rfl, .inr (ex_l e h)⟩
theorem ys_nilP : Ys tNil σ H fun vs _ => vs = [] := fun H1 e1 Q q => q [] H1 (Ex.refl H1) rfl
theorem ys_consP {t : TA} {P1 : V → Hp → Prop} {R : List V → Hp → Prop} (h : Yi te σ H P1) (m : ∀ v H H', Ex H H' → P1 v H → P1 v H') (hs : Ys t σ H R) : Ys (tCons te t) σ H fun vs H' => ∃ v l, vs = v :: l ∧ P1 v H' ∧ R l H' := fun H1 e1 Q q =>
  h H1 e1 _ fun v H2 e2 p => hs H2 (e1.trans e2) _ fun l H3 e3 z => q (v :: l) H3 (e2.trans e3) ⟨v, l, rfl, m v H2 H3 e3 p, z⟩
theorem yi_tupE {xs : List V} (h : Ev te σ H v) (s : SqE K H v xs) : Yi (tCB (rTupOf K) (tCons te tNil)) σ H fun v H' => ∃ p, v = .ref p ∧ SqT K H' p xs := fun H1 e1 Q q => h H1 e1 _ fun H2 e2 => by
  obtain ⟨a, rfl, z | z⟩ := s
  · exact ⟨a, xs, rfl, .inr ⟨ex_t (e1.trans e2) z, q _ _ e2 ⟨a, rfl, ex_t (e1.trans e2) z⟩⟩⟩
  · exact ⟨a, xs, rfl, .inl ⟨ex_l (e1.trans e2) z, fun l hl => q _ _ (e2.trans (Ex.new hl)) ⟨l, rfl, .inl (.inl upd_same)⟩⟩⟩
theorem tq_mono {xs : List V} (v : V) (H H' : Hp) (e : Ex H H') (h : ∃ p, v = .ref p ∧ SqT K H p xs) : ∃ p, v = .ref p ∧ SqT K H' p xs := by
  obtain ⟨p, rfl, h⟩ := h
  exact ⟨p, rfl, ex_t e h⟩
theorem s_asgTupY {t : TA} {g : TG} {D : Ends} {R : List V → Hp → Prop} (h : Ys t σ H R) (m : ∀ l H H', Ex H H' → R l H → R l H') (n : ∀ l H, R l H → l.length ≤ 1000) (k : ∀ l u H1, Ex H H1 → R l H1 → H1 u = some (.tup l) → g (.ref u) σ H1 D.nx) : tAsg (tTup t) g D σ H :=
  h H (Ex.refl H) _ fun l H1 e1 z => ⟨sz_of (Nat.le_trans (n l H1 z) (by decide)), fun u hu => k l u _ (e1.trans (Ex.new hu)) (m l _ _ (Ex.new hu) z) upd_same⟩
theorem sqt_upd {a dx : Addr} {fs : List (Str × V)} {p : Addr} {xs : List V} {o : HO} (h : H a = some (.ins C dx fs)) (t : SqT K H p xs) : SqT K (upd H a o) p xs := by
  rcases t with (t | ⟨u, t⟩) | t
  · exact .inl (.inl (by rw [upd_ne (fun z => by rw [z, h] at t; cases t)]; exact t))
  · exact .inl (.inr ⟨u, by rw [upd_ne (fun z => by rw [z, h] at t; cases t)]; exact t⟩)
  · exact .inr t
theorem q_asgNN {x y : V} {i j : Nat} {tz : TS} {D : Ends} (h : EvU te σ H [x, y]) (k : ∀ H1, Ex H H1 → tz D ((σ.set i (some x)).set j (some y)) H1) : tSeq (tAsg te (gTup K 2 (gCons (gName i) (gCons (gName j) gNil)))) tz D σ H :=
  h H (Ex.refl H) _ fun u H1 n1 e1 h1 => ⟨u, _, rfl, .inl (.inl h1), rfl, x, [y], rfl, y, [], rfl, rfl, k H1 e1⟩
theorem eu_is {xs ys : List V} (h : EvU te σ H xs) (e : xs = ys) : EvU te σ H ys := e ▸ h
theorem rv_isN {x : V} : RV (fun x y H Q => y = .non ∧ Q (.bl (decide (x = .non))) H) x .non H (.bl (decide (x = .non))) := fun H1 _ _ q => ⟨rfl, q H1 (Ex.refl H1)⟩
theorem rv_notN {x : V} : RV (fun x y H Q => y = .non ∧ Q (.bl (!decide (x = .non))) H) x .non H (.bl (!decide (x = .non))) := fun H1 _ _ q => ⟨rfl, q H1 (Ex.refl H1)⟩
theorem ov_isN {o : Option Int} : decide (ov o = .non) = o.isNone := by
  cases o with
  | none => rfl
  | some i => rfl
def rDivmod : List V → Hp → VK → Prop := fun xs H Q => ∃ i j, xs = [.int i, .int j] ∧ CDivP i j ∧ ∀ p, H p = none → Q (.ref p) (upd H p (.tup [.int (i / j), .int (i % j)]))
theorem eu_divmod {i j : Int} (ha : Ev ta σ H (.int i)) (hb : Ev tb σ H (.int j)) (h : CDivP i j) : EvU (tCB rDivmod (tCons ta (tCons tb tNil))) σ H [.int (i / j), .int (i % j)] := fun H1 e1 Q q =>
  ha H1 e1 _ fun H2 e2 => hb H2 (e1.trans e2) _ fun H3 e3 => ⟨i, j, rfl, h, fun p hp => q p _ (fresh_back (e2.trans e3) hp) ((e2.trans e3).trans (Ex.new hp)) upd_same⟩
def spRowInit (K : PySem.W.Frag) (C : Addr) : Sp := fun vs H Q _ => ∃ (a dx : Addr) (v1 v2 v3 : V) (r : Rw), vs = [.ref a, v1, v2, v3] ∧ H a = some (.ins C dx []) ∧ SqE K H v1 (r.head.map ov) ∧ SqE K H v2 (r.cycle.map ov) ∧ SqE K H v3 (r.steps.map ov) ∧ ∀ H', Ex (less a H) H' → RowAt K C r (.ref a) H' → Q .non H'
def spAt (K : PySem.W.Frag) (C : Addr) : Sp := fun vs H Q _ => ∃ (v : V) (r : Rw) (w : Nat) (B : Int), vs = [v, .int (w : Nat)] ∧ RowAt K C r v H ∧ RwOk B r ∧ ∀ H', Ex H H' → Q (ov (r.at w)) H'
def spRise (K : PySem.W.Frag) (C : Addr) : Sp := fun vs H Q _ => ∃ (v : V) (r : Rw) (w : Nat) (B : Int), vs = [v, .int (w : Nat)] ∧ RowAt K C r v H ∧ RwOk B r ∧ r.h ≤ w ∧ ∀ H', Ex H H' → Q (ov (r.rise w)) H'
def spLen (K : PySem.W.Frag) (C : Addr) : Sp := fun vs H Q _ => ∃ (v : V) (r : Rw), vs = [v] ∧ RowAt K C r v H ∧ ∀ H', Ex H H' → Q (.int ((r.h + r.c : Nat) : Int)) H'
/-! ### as data -/
def rwD (r : Rw) : PyData := .tuple [.tuple (r.head.map od), .tuple (r.cycle.map od), .tuple (r.steps.map od)]
def spKey (K : PySem.W.Frag) (C : Addr) : Sp := fun vs H Q _ => ∃ (v : V) (r : Rw), vs = [v] ∧ RowAt K C r v H ∧ (r.head.length ≤ 100000 ∧ r.cycle.length ≤ 100000 ∧ r.steps.length ≤ 100000) ∧ ∀ u H', Ex H H' → Da K H' (.ref u) (rwD r) → Q (.ref u) H'
theorem da_ov (o : Option Int) : Da K H (ov o) (od o) := by
  cases o with
  | none => exact .non
  | some i => exact .int i
theorem da_ol : ∀ l : Ol, Paired (fun d v => Da K H v d) (l.map od) (l.map ov)
  | [] => .nil
  | o :: r => .cons (da_ov o) (da_ol r)
theorem eqv_od (a b : Option Int) : PyData.eqv (od a) (od b) = decide (a = b) := by
  cases a with
  | none =>
    cases b with
    | none => rfl
    | some j => simp [od, PyData.eqv]
  | some i =>
    cases b with
    | none => simp [od, PyData.eqv]
    | some j =>
      show (i == j) = decide (some i = some j)
      by_cases e : i = j <;> simp [e]
theorem pl_od (o : Option Int) : Pl (od o) := by
  cases o with
  | none => exact ⟨rfl, by decide⟩
  | some i => exact ⟨rfl, by rfl⟩
/-! ### what the methods tell, evaluated -/
theorem ev_at {B : Int} {w : Nat} (h : Ev ta σ H v) (hv : RowAt K C r v H) (ok : RwOk B r) (hb : Ev tb σ H (.int (w : Nat))) : Ev (tMeth C "at" (spAt K C) [] E0 ta (tCons tb tNil)) σ H (ov (r.at w)) := by
  have hv' := hv
  obtain ⟨a, dx, p, q, s, rfl, h1, _⟩ := hv
  exact ev_hm h h1 (by rfl) (ea_cons hb ea_nil) fun H1 Q e k => ⟨.ref a, r, w, B, rfl, hv'.mono e, ok, fun H' e' => k H' e'⟩
theorem ev_rise {B : Int} {w : Nat} (h : Ev ta σ H v) (hv : RowAt K C r v H) (ok : RwOk B r) (le : r.h ≤ w) (hb : Ev tb σ H (.int (w : Nat))) : Ev (tMeth C "rise_at" (spRise K C) [] E0 ta (tCons tb tNil)) σ H (ov (r.rise w)) := by
  have hv' := hv
  obtain ⟨a, dx, p, q, s, rfl, h1, _⟩ := hv
  exact ev_hm h h1 (by rfl) (ea_cons hb ea_nil) fun H1 Q e k => ⟨.ref a, r, w, B, rfl, hv'.mono e, ok, le, fun H' e' => k H' e'⟩
theorem ev_rlen (h : Ev ta σ H v) (hv : RowAt K C r v H) : Ev (tMeth C "length" (spLen K C) [] E0 ta tNil) σ H (.int ((r.h + r.c : Nat) : Int)) := by
  have hv' := hv
  obtain ⟨a, dx, p, q, s, rfl, h1, _⟩ := hv
  exact ev_hm h h1 (by rfl) ea_nil fun H1 Q e k => ⟨.ref a, r, rfl, hv'.mono e, fun H' e' => k H' e'⟩
theorem ev_headLen (c : RowC K C) (h : Ev te σ H v) (hv : RowAt K C r v H) : Ev (tCB (rLenY K) (tCons (tFld K te "head") tNil)) σ H (.int (r.h : Nat)) := by
  obtain ⟨a, dx, p, q, s, rfl, h1, h2, _⟩ := hv
  exact ev_is (ev_lenL (ev_fld c.cls c.n1 h h1 rfl) (.inr h2)) (by rw [List.length_map] <;> rfl)
theorem ev_cycLen (c : RowC K C) (h : Ev te σ H v) (hv : RowAt K C r v H) : Ev (tCB (rLenY K) (tCons (tFld K te "cycle") tNil)) σ H (.int (r.c : Nat)) := by
  obtain ⟨a, dx, p, q, s, rfl, h1, _, h2, _⟩ := hv
  exact ev_is (ev_lenL (ev_fld c.cls c.n2 h h1 rfl) (.inr h2)) (by rw [List.length_map] <;> rfl)
end
end SwX
set_option Elab.async false
set_option linter.all false
set_option maxRecDepth 100000
set_option maxHeartbeats 4000000
/-! rows, plain: periods, the least form -/
namespace SwX
open PySem PySem.Spec PyProof.Rows L2 Evl
/-! ### what the code computes -/
def hasP (r : Rw) (p : Nat) : Bool := (List.range (2 * r.c)).all (fun i => (r.stp (r.h + i) p).isSome) && (List.range (2 * r.c)).all fun i => decide (r.stp (r.h + i) p = r.stp (r.h + i % p) p)
def withP (r : Rw) (p : Nat) : Rw := ⟨r.head, (List.range p).map fun i => r.at (r.h + i), (List.range p).map fun i => (r.stp (r.h + i) p).getD none⟩
def strB (r : Rw) (w : Nat) : Bool := decide (r.stp w r.c = some (r.rise (w + r.c * (1 + r.h / r.c))))
def downS (r : Rw) : Nat → Nat
  | 0 => 0
  | n + 1 => if strB r n then downS r n else n + 1
def perB (r : Rw) (s : Nat) : Bool := decide (r.c % s = 0) && hasP r s
def pers (r : Rw) : List Nat := ((List.range r.c).map (· + 1)).filter (perB r)
def perOf (r : Rw) : Nat := (pers r).headD 0
def cutF (r : Rw) (f : Nat) : Rw := ⟨r.head.take f, (List.range r.c).map fun i => r.at (f + i), (List.range r.c).map fun i => (r.stp (f + i) r.c).getD none⟩
def lf (r : Rw) : Rw := cutF (withP r (perOf r)) (downS (withP r (perOf r)) r.h)
/-! ### facts -/
section
variable {B : Int} {r : Rw} {p w i : Nat}
theorem at_cyc (ok : RwOk B r) (hi : i < r.c) : r.at (r.h + i) = Ol.g r.cycle i := by
  rw [Rw.at_ge (by omega), show r.h + i - r.h = i by omega, Nat.mod_eq_of_lt hi, Nat.div_eq_of_lt hi]
  cases Ol.g r.cycle i with
  | none => rfl
  | some v => simp [farV]
theorem stp_none {a b : Nat} (e : r.stp a b = some none) : r.at a = none ∧ r.at (a + b) = none := by
  unfold Rw.stp at e
  split at e
  · exact ⟨by assumption, by assumption⟩
  · cases e
  · cases e
theorem stp_some {a b : Nat} {d : Int} (e : r.stp a b = some (some d)) : ∃ x, r.at a = some x ∧ r.at (a + b) = some (x + d) := by
  unfold Rw.stp at e
  split at e
  · cases e
  · rename_i x y h1 h2
    cases e
    exact ⟨x, h1, by rw [h2]; congr 1; omega⟩
  · cases e
theorem stp_ge (ok : RwOk B r) (hw : r.h ≤ w) : r.stp w r.c = some (r.rise w) := by
  have cp := ok.pos
  have e1 : (w + r.c - r.h) % r.c = (w - r.h) % r.c := by rw [show w + r.c - r.h = (w - r.h) + r.c by omega, Nat.add_mod_right]
  have e2 : (w + r.c - r.h) / r.c = (w - r.h) / r.c + 1 := by rw [show w + r.c - r.h = (w - r.h) + r.c by omega, Nat.add_div_right _ cp]
  have lt : (w - r.h) % r.c < r.c := Nat.mod_lt _ cp
  unfold Rw.stp Rw.rise
  rw [Rw.at_ge (by omega), Rw.at_ge (by omega), e1, e2]
  generalize (w - r.h) % r.c = j at lt
  generalize (w - r.h) / r.c = t
  have b := ok.both j lt
  cases cv : Ol.g r.cycle j with
  | none =>
    rw [b.mp cv]
    rfl
  | some v =>
    cases sv : Ol.g r.steps j with
    | none => rw [b.mpr sv] at cv; cases cv
    | some y =>
      simp only [farV, Option.getD_some]
      congr 2
      rw [Int.natCast_add, Int.add_mul]
      omega
theorem hasP_c (ok : RwOk B r) : hasP r r.c = true := by
  unfold hasP
  rw [Bool.and_eq_true, List.all_eq_true, List.all_eq_true]
  refine ⟨fun i _ => by rw [stp_ge ok (by omega)] <;> rfl, fun i _ => decide_eq_true ?_⟩
  rw [stp_ge ok (by omega), stp_ge ok (by omega)]
  unfold Rw.rise
  rw [show r.h + i - r.h = i by omega, show r.h + i % r.c - r.h = i % r.c by omega, Nat.mod_mod]
theorem hasP_some (h : hasP r p = true) (hi : i < 2 * r.c) : ∃ o, r.stp (r.h + i) p = some o := by
  unfold hasP at h
  rw [Bool.and_eq_true, List.all_eq_true] at h
  exact Option.isSome_iff_exists.mp (h.1 i (List.mem_range.mpr hi))
theorem hasP_mod (h : hasP r p = true) (hi : i < 2 * r.c) : r.stp (r.h + i) p = r.stp (r.h + i % p) p := by
  unfold hasP at h
  rw [Bool.and_eq_true, List.all_eq_true, List.all_eq_true] at h
  exact of_decide_eq_true (h.2 i (List.mem_range.mpr hi))
theorem g_map {n : Nat} {f : Nat → Option Int} (hi : i < n) : Ol.g ((List.range n).map f) i = f i := by
  unfold Ol.g
  rw [List.getD_eq_getElem?_getD, List.getElem?_map, List.getElem?_range hi]
  rfl
theorem g_out {l : Ol} (hi : l.length ≤ i) : Ol.g l i = none := by
  unfold Ol.g
  rw [List.getD_eq_getElem?_getD, List.getElem?_eq_none hi]
  rfl
/-- cut at f: a row again, if it steps on from f -/
theorem cut_ok (ok : RwOk B r) {f : Nat} (hf : f ≤ 20000) (hs : ∀ i, i < r.c → ∃ o, r.stp (f + i) r.c = some o ∧ ∀ x, o = some x → -B ≤ x ∧ x ≤ B) : RwOk B (cutF r f) := by
  have hc : (cutF r f).c = r.c := by unfold cutF Rw.c; simp
  refine ⟨by rw [hc]; exact ok.pos, by rw [hc]; unfold cutF; simp, by unfold cutF Rw.h; simp; omega, by rw [hc]; exact ok.cs, fun i hi => ?_, ok.big, fun i x e => ?_⟩
  · rw [hc] at hi
    obtain ⟨o, eo, _⟩ := hs i hi
    show Ol.g ((List.range r.c).map fun i => r.at (f + i)) i = none ↔ Ol.g ((List.range r.c).map fun i => (r.stp (f + i) r.c).getD none) i = none
    rw [g_map hi, g_map hi, eo]
    cases o with
    | none => exact ⟨fun _ => rfl, fun _ => (stp_none eo).1⟩
    | some d =>
      obtain ⟨x, h1, _⟩ := stp_some eo
      rw [h1]
      exact ⟨fun z => (nomatch z), fun z => (nomatch z)⟩
  · by_cases hi : i < r.c
    · obtain ⟨o, eo, b⟩ := hs i hi
      have e' : Ol.g ((List.range r.c).map fun i => (r.stp (f + i) r.c).getD none) i = some x := e
      rw [g_map hi, eo] at e'
      exact b x e'
    · have e' : Ol.g ((List.range r.c).map fun i => (r.stp (f + i) r.c).getD none) i = some x := e
      rw [g_out (by simp; omega)] at e'
      cases e'
theorem with_ok (ok : RwOk B r) (hp : 0 < p) (hc : p ≤ 10000) (hs : ∀ i, i < p → ∃ o, r.stp (r.h + i) p = some o ∧ ∀ x, o = some x → -B ≤ x ∧ x ≤ B) : RwOk B (withP r p) := by
  have ec : (withP r p).c = p := by unfold withP Rw.c; simp
  refine ⟨by rw [ec]; exact hp, by rw [ec]; unfold withP; simp, ok.hs, by rw [ec]; exact hc, fun i hi => ?_, ok.big, fun i x e => ?_⟩
  · rw [ec] at hi
    obtain ⟨o, eo, _⟩ := hs i hi
    show Ol.g ((List.range p).map fun i => r.at (r.h + i)) i = none ↔ Ol.g ((List.range p).map fun i => (r.stp (r.h + i) p).getD none) i = none
    rw [g_map hi, g_map hi, eo]
    cases o with
    | none => exact ⟨fun _ => rfl, fun _ => (stp_none eo).1⟩
    | some d =>
      obtain ⟨x, h1, _⟩ := stp_some eo
      rw [h1]
      exact ⟨fun z => (nomatch z), fun z => (nomatch z)⟩
  · by_cases hi : i < p
    · obtain ⟨o, eo, b⟩ := hs i hi
      have e' : Ol.g ((List.range p).map fun i => (r.stp (r.h + i) p).getD none) i = some x := e
      rw [g_map hi, eo] at e'
      exact b x e'
    · have e' : Ol.g ((List.range p).map fun i => (r.stp (r.h + i) p).getD none) i = some x := e
      rw [g_out (by simp; omega)] at e'
      cases e'
/-- the steps of a shorter period are no greater -/
theorem hasP_small (ok : RwOk B r) (hp : 0 < p) (hd : r.c % p = 0) (h : hasP r p = true) (hi : i < p) : ∃ o, r.stp (r.h + i) p = some o ∧ ∀ x, o = some x → -B ≤ x ∧ x ≤ B := by
  have cp := ok.pos
  obtain ⟨k, hk⟩ := Nat.dvd_of_mod_eq_zero hd
  have kp : 0 < k := Nat.pos_of_ne_zero fun z => by rw [z] at hk; omega
  have pc : p ≤ r.c := by rw [hk]; exact Nat.le_mul_of_pos_right _ kp
  obtain ⟨o, eo⟩ := hasP_some h (i := i) (by omega)
  refine ⟨o, eo, fun d e => ?_⟩
  subst e
  obtain ⟨a, ha, _⟩ := stp_some eo
  have run : ∀ m, m ≤ k → r.at (r.h + (i + m * p)) = some (a + m * d) := fun m => by
    induction m with
    | zero => intro _; rw [Nat.zero_mul, Nat.add_zero, ha]; simp
    | succ m ih =>
      intro hm
      have lt : i + m * p < r.c := by
        have : m * p + p ≤ k * p := by rw [← Nat.succ_mul]; exact Nat.mul_le_mul_right _ hm
        rw [hk, Nat.mul_comm p k]
        omega
      have e1 := hasP_mod h (i := i + m * p) (by omega)
      rw [Nat.add_mul_mod_self_right, Nat.mod_eq_of_lt hi, eo] at e1
      obtain ⟨x, h1, h2⟩ := stp_some e1
      rw [ih (by omega)] at h1
      cases h1
      rw [show r.h + (i + (m + 1) * p) = r.h + (i + m * p) + p by rw [Nat.succ_mul]; omega, h2]
      congr 1
      rw [Int.natCast_add, Int.add_mul]
      omega
  have e2 := stp_ge ok (w := r.h + i) (by omega)
  have e3 := run k (Nat.le_refl k)
  rw [Nat.mul_comm k p, ← hk] at e3
  have e4 : r.stp (r.h + i) r.c = some (some (k * d)) := by
    unfold Rw.stp
    rw [ha, show r.h + i + r.c = r.h + (i + r.c) by omega, e3]
    simp only
    congr 2
    omega
  rw [e4] at e2
  have e5 : Ol.g r.steps ((r.h + i - r.h) % r.c) = some (k * d) := (Option.some.inj e2).symm
  have s := ok.small _ _ e5
  have k1 : (0 : Int) ≤ (k : Int) - 1 := by omega
  have e6 : (k : Int) * d = d + ((k : Int) - 1) * d := by rw [Int.sub_mul]; omega
  rw [e6] at s
  by_cases d0 : 0 ≤ d
  · have := Int.mul_nonneg k1 d0
    omega
  · have := Int.mul_nonneg k1 (show 0 ≤ -d by omega)
    rw [Int.mul_neg] at this
    omega
theorem pers_ne (ok : RwOk B r) : ∃ p l, pers r = p :: l := by
  have m : r.c ∈ pers r := List.mem_filter.mpr ⟨List.mem_map.mpr ⟨r.c - 1, List.mem_range.mpr (by have := ok.pos; omega), by have := ok.pos; omega⟩, by unfold perB; rw [Nat.mod_self, hasP_c ok] <;> rfl⟩
  cases e : pers r with
  | nil => rw [e] at m; cases m
  | cons p l => exact ⟨p, l, rfl⟩
theorem perOf_mem (ok : RwOk B r) : perOf r ∈ pers r := by
  obtain ⟨p, l, e⟩ := pers_ne ok
  unfold perOf
  rw [e]
  exact List.mem_cons_self
theorem pers_of {p : Nat} (m : p ∈ pers r) : 0 < p ∧ p ≤ r.c ∧ r.c % p = 0 ∧ hasP r p = true := by
  obtain ⟨m1, m2⟩ := List.mem_filter.mp m
  obtain ⟨q, hq, rfl⟩ := List.mem_map.mp m1
  have := List.mem_range.mp hq
  unfold perB at m2
  rw [Bool.and_eq_true] at m2
  exact ⟨by omega, by omega, of_decide_eq_true m2.1, m2.2⟩
theorem withPer_ok (ok : RwOk B r) : RwOk B (withP r (perOf r)) := by
  obtain ⟨h1, h2, h3, h4⟩ := pers_of (perOf_mem ok)
  exact with_ok ok h1 (Nat.le_trans h2 ok.cs) fun i hi => hasP_small ok h1 h3 h4 hi
theorem down_le (r : Rw) : ∀ n, downS r n ≤ n
  | 0 => Nat.le_refl 0
  | n + 1 => by
    unfold downS
    split
    · exact Nat.le_succ_of_le (down_le r n)
    · exact Nat.le_refl _
theorem down_str (r : Rw) : ∀ n w, downS r n ≤ w → w < n → strB r w = true
  | 0, w, _, h => absurd h (Nat.not_lt_zero _)
  | n + 1, w, h1, h2 => by
    unfold downS at h1
    split at h1
    · rename_i s
      rcases Nat.lt_succ_iff_lt_or_eq.mp h2 with h | rfl
      · exact down_str r n w h1 h
      · exact s
    · omega
theorem str_stp (ok : RwOk B r) (s : strB r w = true) : ∃ o, r.stp w r.c = some o ∧ ∀ x, o = some x → -B ≤ x ∧ x ≤ B := by
  unfold strB at s
  exact ⟨_, of_decide_eq_true s, fun x e => ok.small _ _ e⟩
theorem ge_stp (ok : RwOk B r) (h : r.h ≤ w) : ∃ o, r.stp w r.c = some o ∧ ∀ x, o = some x → -B ≤ x ∧ x ≤ B := ⟨_, stp_ge ok h, fun x e => ok.small _ _ e⟩
theorem lf_ok (ok : RwOk B r) : RwOk B (lf r) := by
  have ok1 := withPer_ok ok
  have le := down_le (withP r (perOf r)) r.h
  refine cut_ok ok1 (by have := ok.hs; omega) fun i hi => ?_
  by_cases h : r.h ≤ downS (withP r (perOf r)) r.h + i
  · exact ge_stp ok1 h
  · exact str_stp ok1 (down_str _ r.h _ (Nat.le_add_right _ _) (by omega))
end
end SwX
set_option Elab.async false
set_option linter.all false
set_option maxRecDepth 100000
set_option maxHeartbeats 4000000
/-! rows: promises of the defs, evaluation -/
namespace SwX
open PySem PySem.Spec PyProof.Rows L2 Evl
section
variable {K : PySem.W.Frag} {C : Addr} {H H' : Hp} {σ : L2.St} {te ta tb tc : TE} {v x y : V} {r : Rw} {B : Int} {tt : TT}
theorem q_parE {i j : Nat} {tz : TS} {D : Ends} (h1 : Ev ta σ H x) (h2 : Ev tb σ H y) (k : ∀ H1, Ex H H1 → tz D ((σ.set i (some x)).set j (some y)) H1) : tSeq (tPar i j (tCons ta (tCons tb tNil))) tz D σ H :=
  h1 H (Ex.refl H) _ fun H1 e1 => h2 H1 e1 _ fun H2 e2 => ⟨x, y, rfl, k H2 (e1.trans e2)⟩
theorem ev_ite {b : Bool} {x y : V} (h : EvT tt σ H b) (h1 : b = true → Ev ta σ H x) (h2 : b = false → Ev tb σ H y) : Ev (tIf tt ta tb) σ H (if b then x else y) := ev_if h (fun e => by subst e; exact h1 rfl) fun e => by subst e; exact h2 rfl
def spStep (K : PySem.W.Frag) (C : Addr) : Sp := fun vs H Q _ => ∃ (v : V) (r : Rw) (a b : Nat) (B : Int), vs = [v, .int (a : Nat), .int (b : Nat)] ∧ RowAt K C r v H ∧ RwOk B r ∧ ∀ H', Ex H H' → Q (sv (r.stp a b)) H'
def spHasP (K : PySem.W.Frag) (C : Addr) : Sp := fun vs H Q _ => ∃ (v : V) (r : Rw) (p : Nat) (B : Int), vs = [v, .int (p : Nat)] ∧ RowAt K C r v H ∧ RwOk B r ∧ 0 < p ∧ ∀ H', Ex H H' → Q (.bl (hasP r p)) H'
def spWithP (K : PySem.W.Frag) (C : Addr) : Sp := fun vs H Q _ => ∃ (v : V) (r : Rw) (p : Nat) (B : Int), vs = [v, .int (p : Nat)] ∧ RowAt K C r v H ∧ RwOk B r ∧ p ≤ 20000 ∧ (∀ i, i < p → ∃ o, r.stp (r.h + i) p = some o) ∧ ∀ v' H', Ex H H' → RowAt K C (withP r p) v' H' → Q v' H'
def spStr (K : PySem.W.Frag) (C : Addr) : Sp := fun vs H Q _ => ∃ (v : V) (r : Rw) (a : Nat) (B : Int), vs = [v, .int (a : Nat)] ∧ RowAt K C r v H ∧ RwOk B r ∧ ∀ H', Ex H H' → Q (.bl (strB r a)) H'
def spLf (K : PySem.W.Frag) (C : Addr) : Sp := fun vs H Q _ => ∃ (v : V) (r : Rw) (B : Int), vs = [v] ∧ RowAt K C r v H ∧ RwOk B r ∧ ∀ v' H', Ex H H' → RowAt K C (lf r) v' H' → Q v' H'
def flatR (l m : Ol) : Rw := ⟨l, m, m.map fun o => o.map fun _ => 0⟩
def spFlat (K : PySem.W.Frag) (C : Addr) : Sp := fun vs H Q _ => ∃ (v : V) (b : Addr) (l m : Ol), vs = [v, .ref b] ∧ SqE K H v (l.map ov) ∧ SqL K H b (m.map ov) ∧ 0 < m.length ∧ l.length ≤ 20000 ∧ m.length ≤ 10000 ∧ ∀ v' H', Ex H H' → RowAt K C (lf (flatR l m)) v' H' → Q v' H'
theorem ev_step {a b : Nat} (hv : RowAt K C r v H) (ok : RwOk B r) (h1 : Ev ta σ H v) (h2 : Ev tb σ H (.int (a : Nat))) (h3 : Ev tc σ H (.int (b : Nat))) : Ev (tCall (spStep K C) [] E0 (tCons ta (tCons tb (tCons tc tNil)))) σ H (sv (r.stp a b)) :=
  ev_hc (ea_cons h1 (ea_cons h2 (ea_cons h3 ea_nil))) fun H1 Q e k => ⟨v, r, a, b, B, rfl, hv.mono e, ok, k⟩
/-! ### steps as data -/
theorem da_sv (o : Option (Option Int)) : Da K H (sv o) (sd o) := by
  cases o with
  | none => exact .str _
  | some o => exact da_ov o
theorem da_svs {α : Type} (f : α → Option (Option Int)) : ∀ l : List α, Paired (fun d v => Da K H v d) (l.map fun i => sd (f i)) (l.map fun i => sv (f i))
  | [] => .nil
  | o :: r => .cons (da_sv (f o)) (da_svs f r)
/-- an atom: no list, no dict within -/
structure Atm (x : PyData) : Prop where
  l : x.canLay0 = true
  d : x.depth ≤ 0
  n : x.hasDict = false
theorem atm_od (o : Option Int) : Atm (od o) := by
  cases o with
  | none => exact ⟨rfl, Nat.le_refl _, rfl⟩
  | some i => exact ⟨rfl, Nat.le_refl _, rfl⟩
theorem atm_sd (o : Option (Option Int)) : Atm (sd o) := by
  cases o with
  | none => exact ⟨by decide +kernel, Nat.le_refl _, rfl⟩
  | some o => exact atm_od o
theorem Atm.pl {d : PyData} (h : Atm d) : Pl d := ⟨h.n, shaped_of h.l (Nat.le_trans h.d (by decide))⟩
theorem pl_atmL {α : Type} {f : α → PyData} {l : List α} (h : ∀ a ∈ l, Atm (f a)) : Pl (.list (l.map f)) := ⟨by simp only [PyData.hasDict]; exact nodict_all fun a ha => (h a ha).n, shaped_of (by simp only [PyData.canLay0]; exact lay_all fun a ha => (h a ha).l) (by rw [dep_l]; have := depth_all (n := 0) fun a ha => (h a ha).d; omega)⟩
theorem pl_atmT {α : Type} {f : α → PyData} {l : List α} (h : ∀ a ∈ l, Atm (f a)) : Pl (.tuple (l.map f)) := ⟨by simp only [PyData.hasDict]; exact nodict_all fun a ha => (h a ha).n, shaped_of (by simp only [PyData.canLay0]; exact lay_all fun a ha => (h a ha).l) (by rw [dep_t]; have := depth_all (n := 0) fun a ha => (h a ha).d; omega)⟩
theorem eqv_sdn (o : Option (Option Int)) : PyData.eqv (sd o) (.str "none") = o.isNone := by
  cases o with
  | none => simp [sd, PyData.eqv]
  | some o =>
    cases o with
    | none => simp [sd, od, PyData.eqv]
    | some i => simp [sd, od, PyData.eqv]
theorem eqv_sd (a b : Option Int) : PyData.eqv (sd (some a)) (sd (some b)) = decide (a = b) := eqv_od a b
theorem et_yes : EvT tYes σ H true := fun H1 e1 Q q => q H1 (Ex.refl H1)
theorem given_all {n : Nat} {u : Nat → V} : given n (fun _ => true) u = (List.range n).map u := by
  unfold given
  rw [List.filter_eq_self.mpr fun _ _ => rfl]
/-- [e for i in range(n)], a value for each -/
theorem el_lcN {ta : TA} {te : TE} {j n : Nat} {vs : List Nat} (u : Nat → V) (h : EvA ta σ H [.int (n : Nat)]) (hn : n ≤ 40000) (hw : ∀ x, wipe ((wipe σ vs).set j (some x)) vs = wipe σ vs) (he : ∀ (i : Nat) H1, Ex H H1 → i < n → Ev te ((wipe σ vs).set j (some (.int (i : Nat)))) H1 (u i)) :
    EvL (tLc (iRng1 ta) (gName j) tYes te vs) σ H ((List.range n).map u) := fun H0 e0 Q q => by
  have z := el_lcR1 (j := j) (vs := vs) (te := te) (t := tYes) (n := (n : Nat)) (fun _ => true) u h (by omega) hw (fun i H1 _ _ => et_yes) fun i H1 e lt _ => he i H1 e (by omega)
  rw [given_all, Int.toNat_natCast] at z
  exact z H0 e0 Q q
/-! ### rows made, walked -/
theorem made_ex {x dx : Addr} (h1 : H x = none) (h2 : H dx = none) : Ex H (less x (upd (upd H dx (.own x)) x (.ins C dx []))) := ex_less h1 (((Ex.refl H).mut h2).mut h1)
theorem yi_row {t : TA} (h : Ys t σ H fun vs H' => ∃ v1 v2 v3, vs = [v1, v2, v3] ∧ SqE K H' v1 (r.head.map ov) ∧ SqE K H' v2 (r.cycle.map ov) ∧ SqE K H' v3 (r.steps.map ov)) : Yi (tMake C (spRowInit K C) [] E0 t) σ H (RowAt K C r) := fun H1 e1 Q q =>
  h H1 e1 _ fun vs H2 e2 z x dx hx hdx ne => by
    obtain ⟨v1, v2, v3, rfl, s1, s2, s3⟩ := z
    have b := made_ex (C := C) hx hdx
    have b' : Ex H2 (upd (upd H2 dx (.own x)) x (.ins C dx [])) := ((Ex.refl H2).mut hdx).mut hx
    exact ⟨x, dx, v1, v2, v3, r, rfl, upd_same, s1.mono b', s2.mono b', s3.mono b', fun H' e' ra => ⟨rfl, q (.ref x) H' (e2.trans (b.trans e')) ra⟩⟩
theorem ev_ixNew {xs : List V} {i : Nat} (h : EvL ta σ H xs) (hb : Ev tb σ H (.int (i : Nat))) (hi : xs[i]? = some v) : Ev (tOp (rIx K) ta tb) σ H v := fun H1 e1 Q q =>
  h H1 e1 _ fun p H2 _ e2 hp => hb H2 (e1.trans e2) _ fun H3 e3 => rv_ixLn (sq_of (e3 _ _ hp)) hi H3 (Ex.refl H3) Q fun H4 e4 => q H4 (e2.trans (e3.trans e4))
/-- [e for i in range(lo, hi) if ..] -/
theorem el_lcN2 {ti : TA} {te : TE} {j n : Nat} {lo : Int} {vs : List Nat} (f : Nat → Bool) (u : Nat → V) (h : EvA ti σ H [.int lo, .int (lo + (n : Nat))]) (hlo : -1000000 ≤ lo ∧ lo ≤ 1000000) (hn : n ≤ 40000) (hw : ∀ x, wipe ((wipe σ vs).set j (some x)) vs = wipe σ vs)
    (ht : ∀ (i : Nat) H1, Ex H H1 → i < n → EvT tt ((wipe σ vs).set j (some (.int (lo + (i : Nat))))) H1 (f i)) (he : ∀ (i : Nat) H1, Ex H H1 → i < n → f i = true → Ev te ((wipe σ vs).set j (some (.int (lo + (i : Nat))))) H1 (u i)) : EvL (tLc (iRng2 ti) (gName j) tt te vs) σ H (given n f u) := fun H0 e Q q => h H0 e _ fun H1 e1 => ⟨lo, lo + (n : Nat), rfl, ⟨by omega, by omega, by omega, by omega⟩, fun Dl hD => by
  have en : (lo + (n : Nat) - lo).toNat = n := by omega
  rw [en]
  exact lc_range (lo := lo) (n := n) (Cw H1 f u Dl) ⟨hD, Ex.new hD, upd_same⟩ (fun i H' hi p => ⟨hw _, cw_turn p (by omega) (ht i H1 (e.trans e1) hi) (fun hf => he i H1 (e.trans e1) hi hf)⟩) (fun H' p => q Dl H' (fresh_back e1 p.1) (e1.trans p.2.1) p.2.2)⟩
theorem ev_hasP {p : Nat} (hv : RowAt K C r v H) (ok : RwOk B r) (hp : 0 < p) (h1 : Ev ta σ H v) (h2 : Ev tb σ H (.int (p : Nat))) : Ev (tCall (spHasP K C) [] E0 (tCons ta (tCons tb tNil))) σ H (.bl (hasP r p)) :=
  ev_hc (ea_cons h1 (ea_cons h2 ea_nil)) fun H1 Q e k => ⟨v, r, p, B, rfl, hv.mono e, ok, hp, k⟩
theorem ev_str {a : Nat} (hv : RowAt K C r v H) (ok : RwOk B r) (h1 : Ev ta σ H v) (h2 : Ev tb σ H (.int (a : Nat))) : Ev (tCall (spStr K C) [] E0 (tCons ta (tCons tb tNil))) σ H (.bl (strB r a)) :=
  ev_hc (ea_cons h1 (ea_cons h2 ea_nil)) fun H1 Q e k => ⟨v, r, a, B, rfl, hv.mono e, ok, k⟩
theorem yi_withP {p : Nat} (hv : RowAt K C r v H) (ok : RwOk B r) (hp : p ≤ 20000) (st : ∀ i, i < p → ∃ o, r.stp (r.h + i) p = some o) (h1 : Ev ta σ H v) (h2 : Ev tb σ H (.int (p : Nat))) : Yi (tCall (spWithP K C) [] E0 (tCons ta (tCons tb tNil))) σ H (RowAt K C (withP r p)) := fun H1 e1 Q q =>
  (ea_cons h1 (ea_cons h2 ea_nil) : EvA _ σ H [v, .int (p : Nat)]) H1 e1 _ fun H2 e2 => ⟨v, r, p, B, rfl, hv.mono (e1.trans e2), ok, hp, st, fun v' H' e' ra => q v' H' (e2.trans e') ra⟩
theorem yi_lf (ok : RwOk B r) (h : Yi ta σ H (RowAt K C r)) : Yi (tCall (spLf K C) [] E0 (tCons ta tNil)) σ H (RowAt K C (lf r)) := fun H1 e1 Q q =>
  h H1 e1 _ fun v H2 e2 ra => ⟨v, r, B, rfl, ra, ok, fun v' H' e' rb => q v' H' (e2.trans e') rb⟩
theorem rowAt_mono (v : V) (H H' : Hp) (e : Ex H H') (h : RowAt K C r v H) : RowAt K C r v H' := h.mono e
theorem sqe_mono {xs : List V} (v : V) (H H' : Hp) (e : Ex H H') (h : SqE K H v xs) : SqE K H' v xs := h.mono e
/-- three things in a row, for yi_row -/
theorem ys_row3 {t1 t2 t3 : TE} {xs ys zs : List V} (h1 : Yi t1 σ H fun v H' => SqE K H' v xs) (h2 : Yi t2 σ H fun v H' => SqE K H' v ys) (h3 : Yi t3 σ H fun v H' => SqE K H' v zs) : Ys (tCons t1 (tCons t2 (tCons t3 tNil))) σ H fun vs H' => ∃ v1 v2 v3, vs = [v1, v2, v3] ∧ SqE K H' v1 xs ∧ SqE K H' v2 ys ∧ SqE K H' v3 zs := fun H1 e1 Q q =>
  h1 H1 e1 _ fun v1 H2 e2 s1 => h2 H2 (e1.trans e2) _ fun v2 H3 e3 s2 => h3 H3 ((e1.trans e2).trans e3) _ fun v3 H4 e4 s3 => q [v1, v2, v3] H4 ((e2.trans e3).trans e4) ⟨v1, v2, v3, rfl, s1.mono (e3.trans e4), s2.mono e4, s3⟩
theorem yi_sqL {xs : List V} (h : EvL te σ H xs) : Yi te σ H fun v H' => SqE K H' v xs := fun H1 e1 Q q => h H1 e1 _ fun p H2 _ e2 hp => q (.ref p) H2 e2 ⟨p, rfl, .inr (sq_of hp)⟩
theorem yi_sqE {xs : List V} (h : Ev te σ H v) (s : SqE K H v xs) : Yi te σ H fun v H' => SqE K H' v xs := fun H1 e1 Q q => h H1 e1 _ fun H2 e2 => q v H2 e2 (s.mono (e1.trans e2))
theorem yi_sqT {xs : List V} (h : Yi te σ H fun v H' => ∃ q, v = .ref q ∧ SqT K H' q xs) : Yi te σ H fun v H' => SqE K H' v xs := fun H1 e1 Q q => h H1 e1 _ fun v H2 e2 z => q v H2 e2 (by obtain ⟨p, rfl, z⟩ := z; exact ⟨p, rfl, .inl z⟩)
theorem ev_head (c : RowC K C) (h : Ev te σ H v) (hv : RowAt K C r v H) : ∃ p, Ev (tFld K te "head") σ H (.ref p) ∧ SqT K H p (r.head.map ov) := by
  obtain ⟨a, dx, p, q, s, rfl, h1, h2, _⟩ := hv
  exact ⟨p, ev_fld c.cls c.n1 h h1 rfl, h2⟩
theorem g_mapO {m : Ol} {i : Nat} {f : Option Int → Option Int} (h0 : f none = none) : Ol.g (m.map f) i = f (Ol.g m i) := by
  unfold Ol.g
  rw [List.getD_eq_getElem?_getD, List.getD_eq_getElem?_getD, List.getElem?_map]
  cases m[i]? with
  | none => exact h0.symm
  | some o => rfl
theorem flat_ok {l m : Ol} (h1 : 0 < m.length) (h2 : l.length ≤ 20000) (h3 : m.length ≤ 10000) : RwOk 0 (flatR l m) := by
  refine ⟨h1, by unfold flatR Rw.c; simp, h2, h3, fun i hi => ?_, by decide, fun i x e => ?_⟩
  · show Ol.g m i = none ↔ Ol.g (m.map fun o => o.map fun _ => 0) i = none
    rw [g_mapO rfl]
    cases Ol.g m i with
    | none => exact ⟨fun _ => rfl, fun _ => rfl⟩
    | some j => exact ⟨fun z => (nomatch z), fun z => (nomatch z)⟩
  · have e' : Ol.g (m.map fun o => o.map fun _ => 0) i = some x := e
    rw [g_mapO rfl] at e'
    cases z : Ol.g m i with
    | none => rw [z] at e'; cases e'
    | some j =>
      rw [z] at e'
      cases e'
      exact ⟨Int.le_refl 0, Int.le_refl 0⟩
end
end SwX
set_option Elab.async false
set_option linter.all false
set_option maxRecDepth 100000
set_option maxHeartbeats 4000000
/-! sets: what is refused; promises -/
namespace SwX
open PySem PySem.Spec PyProof.Rows L2 Evl
/-- an own exception that is raised -/
structure ExH (P : Program) (w : World) (K : PySem.W.Frag) (mg : Str → Option Value) (base : Heap) (i : Nat) (C : Addr) : Prop where
  D : HasX P w K mg base (exNm i) 1 C 1 [exFld i] (fun us ws => us ++ ws.reverse) (spIni1 C (exFld i))
  ty : PySem.W.typeIn K (.ref C) = some (.type "type")
/-- an exception of the class at C with this in its field f goes out -/
def Thr (E : XK) (C : Addr) (f : Str) (H : Hp) (v : V) : Prop := ∀ d H', Ex H H' → Flds H' (some d) [(f, v)] → E (.ref C) (some d) H'
theorem Thr.from {E : XK} {C : Addr} {f : Str} {H H1 : Hp} {v : V} (h : Thr E C f H v) (e : Ex H H1) : Thr E C f H1 v := fun d H' e' => h d H' (e.trans e')
theorem raise_1 {K : PySem.W.Frag} {E : XK} {C : Addr} {f : Str} {H : Hp} {σ : L2.St} {te : TE} {v : V} (t : Thr E C f H v) (h : Ev te σ H v) : tMkN C 1 (spIni1 C f) (tCons te tNil) σ H fun cls d H' => E cls d H' := mk_new1 h fun d H' e fl => t d H' e fl
def btwO (lo : Int) (hi : Option Int) : PyData → Bool
  | .int i => decide (lo ≤ i) && (match hi with
    | none => true
    | some h => decide (i ≤ h))
  | _ => false
def spIsIntD (K : PySem.W.Frag) : Sp := fun vs H Q _ => ∃ (v : V) (D : PyData), vs = [v] ∧ Da K H v D ∧ ∀ H', Ex H H' → Q (.bl (isInt D && !isBl D)) H'
def spBtwO (K : PySem.W.Frag) : Sp := fun vs H Q _ => ∃ (v : V) (D : PyData) (lo : Int) (hi : Option Int), vs = [v, .int lo, ov hi] ∧ Da K H v D ∧ ∀ H', Ex H H' → Q (.bl (btwO lo hi D)) H'
theorem int_ofO {D : PyData} (h : (isInt D && !isBl D) = true) : ∃ i, D = .int i := match D, h with
  | .int i, _ => ⟨i, rfl⟩
theorem btwO_no {D : PyData} {lo : Int} {hi : Option Int} (h : (isInt D && !isBl D) = false) : btwO lo hi D = false := by
  cases D <;> first | rfl | simp [isInt, isBl] at h
theorem btwO_inv {D : PyData} {lo h : Int} (z : btwO lo (some h) D = true) : ∃ i, D = .int i ∧ lo ≤ i ∧ i ≤ h := match D, z with
  | .int i, z => by
    simp only [btwO, Bool.and_eq_true, decide_eq_true_eq] at z
    exact ⟨i, rfl, z⟩
def spChkN (K : PySem.W.Frag) (C0 : Addr) : Sp := fun vs H Q E => ∃ (v : V) (D : PyData) (lo : Int) (hi : Option Int), vs = [v, .int lo, ov hi] ∧ Da K H v D ∧ (btwO lo hi D = true → ∀ H', Ex H H' → Q .non H') ∧ (btwO lo hi D = false → Thr E C0 "given" H v)
/-! ### members -/
def leD : PyData → PyData → Bool
  | .int a, .int b => decide (a ≤ b)
  | _, _ => false
def badM (ds : List PyData) (i : Nat) : Bool := !btwO 0 (some 999) (at' ds i) || (decide (0 < i) && leD (at' ds i) (at' ds (i - 1)))
def chkM : PyData → Option (Option Nat)
  | .tuple ds => (firstB ds.length (badM ds)).map some
  | _ => some none
theorem tup_ofD {D : PyData} (h : isTup D = true) : ∃ ds, D = .tuple ds := match D, h with
  | .tuple ds, _ => ⟨ds, rfl⟩
theorem chkM_notup {D : PyData} (h : isTup D = false) : chkM D = some none := by
  cases D <;> first | rfl | cases h
def natD (ns : List Nat) : PyData := .tuple (ns.map fun n => .int (n : Nat))
/-- ascending, below 1000 -/
structure MemOk (ns : List Nat) : Prop where
  asc : ns.Pairwise (· < ·)
  hi : ∀ n ∈ ns, n ≤ 999
theorem nats_of : ∀ {ds : List PyData}, (∀ i, i < ds.length → btwO 0 (some 999) (at' ds i) = true) → ∃ ns : List Nat, ds = ns.map fun n => PyData.int (n : Nat)
  | [], _ => ⟨[], rfl⟩
  | d :: ds, h => by
    obtain ⟨i, e, l, u⟩ := btwO_inv (h 0 (Nat.succ_pos _))
    obtain ⟨ns, e2⟩ := nats_of (ds := ds) fun i hi => h (i + 1) (Nat.succ_lt_succ hi)
    have e' : d = .int i := e
    refine ⟨i.toNat :: ns, ?_⟩
    rw [List.map_cons, ← e2, e', Int.toNat_of_nonneg l]
theorem at_natD {ns : List Nat} {i : Nat} (h : i < ns.length) : at' (ns.map fun n => PyData.int (n : Nat)) i = .int (ns[i] : Nat) := at_get (by rw [List.getElem?_map, List.getElem?_eq_getElem h] <;> rfl)
theorem asc_of : ∀ {ns : List Nat}, (∀ i (h : i + 1 < ns.length), ns[i] < ns[i + 1]) → ns.Pairwise (· < ·)
  | [], _ => .nil
  | [a], _ => List.pairwise_singleton _ _
  | a :: b :: l, h => by
    have ih : (b :: l).Pairwise (· < ·) := asc_of fun i hi => h (i + 1) (Nat.succ_lt_succ hi)
    have ab : a < b := h 0 (by simp)
    refine .cons (fun x hx => ?_) ih
    rcases List.mem_cons.mp hx with rfl | hx
    · exact ab
    · exact Nat.lt_trans ab ((List.pairwise_cons.mp ih).1 x hx)
theorem firstB_no {n : Nat} {bad : Nat → Bool} (h : firstB n bad = none) : ∀ i, i < n → bad i = false := fun i hi => by
  unfold firstB at h
  rw [List.find?_eq_none] at h
  simpa using h i (List.mem_range.mpr hi)
theorem chkM_none {D : PyData} (h : chkM D = none) : ∃ ns, D = natD ns ∧ MemOk ns := by
  cases D with
  | tuple ds =>
    have h' : (firstB ds.length (badM ds)).map some = none := h
    have no := firstB_no (Option.map_eq_none_iff.mp h')
    obtain ⟨ns, rfl⟩ := nats_of fun i hi => by
      have z := no i hi
      simp only [badM, Bool.or_eq_false_iff, Bool.not_eq_false'] at z
      exact z.1
    rw [List.length_map] at no
    refine ⟨ns, rfl, asc_of fun i hi => ?_, fun n hn => ?_⟩
    · have z := no (i + 1) hi
      simp only [badM, Bool.or_eq_false_iff, Nat.add_sub_cancel, at_natD hi, at_natD (show i < ns.length by omega), leD, Bool.and_eq_false_iff, decide_eq_false_iff_not] at z
      rcases z.2 with z | z <;> omega
    · obtain ⟨i, hi, rfl⟩ := List.getElem_of_mem hn
      have z := no i hi
      simp only [badM, Bool.or_eq_false_iff, at_natD hi, btwO, Bool.not_eq_false', Bool.and_eq_true, decide_eq_true_eq] at z
      omega
  | _ => cases h
theorem chkM_nat {ns : List Nat} (h : MemOk ns) : chkM (natD ns) = none := by
  show (firstB _ (badM _)).map some = none
  rw [firstB_none fun i hi => ?_] <;> try rfl
  rw [List.length_map] at hi
  have b := h.hi _ (List.getElem_mem hi)
  simp only [badM, Bool.or_eq_false_iff, at_natD hi, btwO, Bool.not_eq_false', Bool.and_eq_true, decide_eq_true_eq]
  refine ⟨⟨by omega, by omega⟩, ?_⟩
  by_cases i0 : 0 < i
  · rw [at_natD (show i - 1 < ns.length by omega)]
    have lt := List.pairwise_iff_getElem.mp h.asc (i - 1) i (by omega) hi (by omega)
    simp [leD]
    intro _
    omega
  · simp [i0]
def spChkM (K : PySem.W.Frag) (C10 : Addr) : Sp := fun vs H Q E => ∃ (v : V) (D : PyData), vs = [v] ∧ Da K H v D ∧ (chkM D = none → ∀ H', Ex H H' → Q .non H') ∧ ∀ r, chkM D = some r → Thr E C10 "index" H (ov (r.map fun n => ((n : Nat) : Int)))
def spChecked (K : PySem.W.Frag) (C C14 : Addr) : Sp := fun vs H Q E => ∃ (v : V) (r : Rw) (B : Int), vs = [v] ∧ RowAt K C r v H ∧ RwOk B r ∧ ((lf r).h + (lf r).c ≤ 1000 → ∀ v' H', Ex H H' → RowAt K C (lf r) v' H' → Q v' H') ∧ (1000 < (lf r).h + (lf r).c → Thr E C14 "limit" H (.int 1000))
end SwX
set_option Elab.async false
set_option linter.all false
set_option maxRecDepth 100000
set_option maxHeartbeats 4000000
/-! a dict comprehension bound to a local name -/
namespace SwX
open PySem PySem.Spec PyProof.Rows L2
section
variable {X : Cx}
theorem ps_setDc {i : Nat} {y : Str} {py : Pos} {kx vx tg iter : Expr} {ifs : List Expr} {scope : Scope} {own : List (Str × Nat)} {pos spos : Pos} {wi : TI} {g : TG} {tt : TT} {tk tv : TE} (calm : X.calm = true) (nd : X.N.Nodup) (at_ : X.N[i]? = some y) (loc : X.env.scope.names.lookup y = some .local)
    (sw : swapsWith (.DictComp kx vx [⟨tg, iter, ifs, 0⟩] scope pos) (some (.Name y py)) spos.line X.env = pure true) (walk : PI X tg iter wi) (ok : BlkOk X.N X.env.scope scope own)
    (a1 : ∀ (s : Shared) (H : Hp) (C : Addr) (cl : List (Str × Addr)) (fp : List Addr), PG (X.blk s H scope (compEnvC scope cl C X.env) fp) tg g)
    (a2 : ∀ (s : Shared) (H : Hp) (C : Addr) (cl : List (Str × Addr)) (fp : List Addr), PTs (X.blk s H scope (compEnvC scope cl C X.env) fp) ifs tt)
    (a3 : ∀ (s : Shared) (H : Hp) (C : Addr) (cl : List (Str × Addr)) (fp : List Addr), PE (X.blk s H scope (compEnvC scope cl C X.env) fp) kx tk)
    (a4 : ∀ (s : Shared) (H : Hp) (C : Addr) (cl : List (Str × Addr)) (fp : List Addr), PE (X.blk s H scope (compEnvC scope cl C X.env) fp) vx tv) (fold : ∀ x, foldedSetIterable iter X.env x = pure x := by intro _; rfl) :
    PS X (.Assign [.Name y py] (.DictComp kx vx [⟨tg, iter, ifs, 0⟩] scope pos) spos) (tAsg (tDc wi g tt tk tv (own.map (·.2))) (gName i)) := by
  refine ⟨fun pins s σ H D I z => ?_⟩
  rw [exec_Assign_Name_used _ _ _ _ sw]
  refine wpAny_bind (wpAny_standAt (wpAny_bind ?_))
  show wpAny _ X.A (comprehension (.DictComp kx vx [⟨tg, iter, ifs, 0⟩] scope pos) scope X.env (firstIterPos [⟨tg, iter, ifs, 0⟩] pos) newDict false (eval iter X.env) (some (assign (.Name y py) X.env)) >>= fun _ => pure ()) _ _ s
  have z' : tDc wi g tt tk tv (own.map (·.2)) σ H (fun x H1 => gName i x σ H1 D.nx) := z
  refine wpAny_bind (thn (dc_core (Qf := fun _ s' => SP X pins D .next s') calm nd I walk ok a1 a2 a3 a4 fold z' fun L C s' m H' I' q hn fp => ?_) fun _ s' q => wpAny_pure (wpAny_pure q))
  refine (wpAny_assign_Name (store_ok2 (v := V.ref L) I' nd at_ (.inl loc) rfl (fun s2 I2 w => ?_) (.inr loc)) : wpAny _ _ (assign (.Name y py) X.env (.ref L)) _ _ _)
  obtain ⟨b, sb, hb⟩ := w
  obtain ⟨f0, f1, f2, f3, f4, f5⟩ := fp
  have ne : C ≠ b := by
    rcases hb with e | e
    · rw [e]
      exact f1
    · exact fun e' => f4 y b e e'.symm
  exact ⟨m, hn.sameBut sb ne, fun h3 sb3 => ⟨_, H', I2.turned (t' := s2.toks) (fun c o hc e => (sb3.2 c hc).trans e) f0 f1 f3 f4 f5, q⟩⟩
theorem sw_trueD {kx vx : Expr} {gs : List Comprehension} {scope : Scope} {pos py : Pos} {y : Str} {l : Nat} {env : Env} (fn : env.scope.kind = .function) (loc : env.scope.names.lookup y = some .local) (line : (py.line == pos.line) = true)
    (own : (scope.names.any fun (n, k) => n == y && (k == .local || k == .cell)) = false) : swapsWith (.DictComp kx vx gs scope pos) (some (.Name y py)) l env = pure true := by
  have k1 : env.kindOf y = some .local := loc
  have k2 : env.blockKind = .function := by
    unfold Env.blockKind
    rw [fn] <;> rfl
  unfold swapsWith
  simp only [k2, k1, own, Expr.pos, line]
  rfl
end
end SwX
set_option Elab.async false
set_option linter.all false
set_option maxRecDepth 100000
set_option maxHeartbeats 4000000
/-! sets: the row of a set -/
namespace SwX
open PySem PySem.Spec PyProof.Rows L2 Evl
section
variable {K : PySem.W.Frag} {C : Addr} {H H' : Hp} {σ : L2.St} {te ta tb tk tv : TE} {tr : TA} {v x y : V} {r : Rw} {B : Int} {tt : TT} {xs vs : List V}
theorem ea_starS (h : Ev te σ H v) (s : SqE K H v xs) (hr : EvA tr σ H vs) : EvA (StX.tStar K te tr) σ H (xs ++ vs) := fun H1 e1 Q q => h H1 e1 _ fun H2 e2 => by
  obtain ⟨p, rfl, s⟩ := s
  exact ⟨p, xs, rfl, s.imp (ex_t (e1.trans e2)) (ex_l (e1.trans e2)), hr H2 (e1.trans e2) _ fun H3 e3 => q H3 (e2.trans e3)⟩
theorem ev_maxL {ns : List Int} {m : Int} (h : EvL te σ H (ns.map V.int)) (hm : m ∈ ns) (all : ∀ y, y ∈ ns → y ≤ m) : Ev (tCB (rMax K) (tCons te tNil)) σ H (.int m) := fun H1 e1 Q q => h H1 e1 _ fun p H2 _ e2 hp =>
  ⟨p, ns, rfl, sq_of hp, List.length_pos_of_mem hm, fun m' hm' all' => by
    obtain rfl : m' = m := Int.le_antisymm (all m' hm') (all' m hm)
    exact q H2 e2⟩
theorem eu_rev {p : Addr} (h : Ev te σ H (.ref p)) (hp : SqT K H p xs) : EvU (tRevT K te) σ H xs.reverse := fun H1 e1 Q q => h H1 e1 _ fun H2 e2 => ⟨p, xs, rfl, ex_t (e1.trans e2) hp, fun u hu => q u _ (fresh_back e2 hu) (e2.trans (Ex.new hu)) upd_same⟩
/-! ### dicts of integers -/
abbrev natV (n : Nat) : V := .int (n : Nat)
abbrev KVs : Type := List (L2.Key × V)
def puts (kf : Nat → Nat) (vf : Nat → V) (ns : List Nat) : KVs := ns.foldl (fun kvs n => putK kvs (.inl ((kf n : Nat) : Int)) (vf n)) []
theorem puts_snoc (kf : Nat → Nat) (vf : Nat → V) (ns : List Nat) (n : Nat) : puts kf vf (ns ++ [n]) = putK (puts kf vf ns) (.inl ((kf n : Nat) : Int)) (vf n) := by
  unfold puts
  rw [List.foldl_append] <;> rfl
theorem putK_len {κ : Type} [DecidableEq κ] (kvs : List (κ × V)) (k : κ) (y : V) : (putK kvs k y).length ≤ kvs.length + 1 := by
  unfold putK
  split
  · rw [List.length_map]
    exact Nat.le_succ _
  · simp
theorem snoc_ind {α : Type} {p : List α → Prop} (h0 : p []) (h1 : ∀ l a, p l → p (l ++ [a])) (l : List α) : p l := by
  rw [← List.reverse_reverse l]
  induction l.reverse with
  | nil => exact h0
  | cons a r ih =>
    rw [List.reverse_cons]
    exact h1 _ _ ih
theorem puts_len (kf : Nat → Nat) (vf : Nat → V) (ns : List Nat) : (puts kf vf ns).length ≤ ns.length := by
  induction ns using snoc_ind with
  | h0 => exact Nat.le_refl _
  | h1 l a ih =>
    rw [puts_snoc, List.length_append]
    exact Nat.le_trans (putK_len _ _ _) (Nat.succ_le_succ ih)
theorem val_near (ns : List Nat) (w : Nat) : (valV (puts id (fun _ => .bl true) ns) (.inl ((w : Nat) : Int))).isSome = decide (w ∈ ns) := by
  induction ns using snoc_ind with
  | h0 => simp [puts, valV]
  | h1 l a ih =>
    rw [puts_snoc, valV_put]
    by_cases e : (Sum.inl ((w : Nat) : Int) : L2.Key) = .inl ((id a : Nat) : Int)
    · rw [if_pos e]
      have e' : (w : Int) = (a : Int) := Sum.inl.inj e
      have : w = a := by omega
      simp [this]
    · rw [if_neg e, ih]
      have : w ≠ a := fun z => e (by rw [z] <;> rfl)
      simp [this]
theorem val_starts (n : Nat) (as : List Nat) (t : Nat) : valV (puts (· % n) natV as.reverse) (.inl ((t : Nat) : Int)) = (as.find? fun s => decide (s % n = t)).map natV := by
  induction as with
  | nil => rfl
  | cons a l ih =>
    rw [List.reverse_cons, puts_snoc, valV_put, List.find?_cons]
    by_cases e : a % n = t
    · rw [if_pos (by rw [e]), decide_eq_true e] <;> rfl
    · rw [if_neg (fun z => e (by have := Sum.inl.inj z; omega)), decide_eq_false e]
      exact ih
/-- {k: v for x in a tuple of integers} -/
theorem yi_dcN {ns : List Nat} {tl : TE} {j : Nat} {vs : List Nat} (kf : Nat → Nat) (vf : Nat → V) (h : Yi tl σ H fun v H' => ∃ p, v = .ref p ∧ SqT K H' p (ns.map natV)) (l : ns.length ≤ 40000) (hw : ∀ x, wipe ((wipe σ vs).set j (some x)) vs = wipe σ vs)
    (hk : ∀ n H1, Ex H H1 → n ∈ ns → Ev tk ((wipe σ vs).set j (some (natV n))) H1 (natV (kf n))) (hv : ∀ n H1, Ex H H1 → n ∈ ns → Ev tv ((wipe σ vs).set j (some (natV n))) H1 (vf n)) :
    Yi (tDc (iTup K tl) (gName j) tYes tk tv vs) σ H fun v H' => ∃ D, v = .ref D ∧ H' D = some (.dK (puts kf vf ns)) := fun H0 e0 Q q =>
  h H0 e0 _ fun w H1 e1 z => by
    obtain ⟨p, rfl, hp⟩ := z
    refine ⟨p, rfl, ⟨_, hp⟩, fun D hD => ?_⟩
    refine dc_tup (xs := ns.map natV) (fun i H' => H' D = some (.dK (puts kf vf (ns.take i))) ∧ Ex H1 H') ⟨by rw [upd_same] <;> rfl, Ex.new hD⟩ (fun i H' _ z => ex_t z.2 hp) (fun i x H' hx z => ⟨hw x, ?_⟩) fun H' z => ?_
    · obtain ⟨d, e⟩ := z
      have lt : i < ns.length := by
        have := (List.getElem?_eq_some_iff.mp hx).1
        rwa [List.length_map] at this
      have hn : ns[i]? = some ns[i] := List.getElem?_eq_getElem lt
      rw [List.getElem?_map, hn] at hx
      obtain rfl : natV ns[i] = x := Option.some.inj hx
      have E := (e0.trans e1).trans e
      show tk _ H' fun y H4 => _
      refine hk _ H' E (List.getElem_mem lt) H' (Ex.refl H') _ fun H4 e4 => ?_
      refine hv _ H4 (E.trans e4) (List.getElem_mem lt) H4 (Ex.refl H4) _ fun H5 e5 => ⟨puts kf vf (ns.take i), .inl ((kf ns[i] : Nat) : Int), rfl, e5 _ _ (e4 _ _ d), Nat.lt_of_le_of_lt (Nat.le_trans (puts_len _ _ _) (by rw [List.length_take]; omega)) (show 40000 < sizeLine by decide), ?_, ?_⟩
      · rw [upd_same, List.take_succ, hn]
        congr 2
        exact (puts_snoc kf vf (ns.take i) ns[i]).symm
      · intro b o hb
        have nb : b ≠ D := fun z => by rw [z, hD] at hb; cases hb
        rw [upd_ne nb]
        exact e5 _ _ (e4 _ _ (e _ _ hb))
    · rw [List.length_map, List.take_length] at z
      exact q _ H' (e1.trans z.2) ⟨D, rfl, z.1⟩
/-! ### the row of a set -/
def ups (l : List Nat) : Nat := l.foldr (fun n m => max (n + 1) m) 0
theorem ups_lt {l : List Nat} {n : Nat} (h : n ∈ l) : n < ups l := by
  induction l with
  | nil => cases h
  | cons a l ih =>
    unfold ups
    rw [List.foldr_cons]
    rcases List.mem_cons.mp h with rfl | h
    · exact Nat.lt_of_lt_of_le (Nat.lt_succ_self n) (Nat.le_max_left _ _)
    · exact Nat.lt_of_lt_of_le (ih h) (Nat.le_max_right _ _)
theorem ups_mem : ∀ {l : List Nat}, l ≠ [] → ups l - 1 ∈ l ∧ 0 < ups l
  | [a], _ => ⟨by unfold ups; simp, by unfold ups; simp⟩
  | a :: b :: l, _ => by
    obtain ⟨h1, h2⟩ := ups_mem (l := b :: l) (List.cons_ne_nil _ _)
    have e : ups (a :: b :: l) = max (a + 1) (ups (b :: l)) := rfl
    rw [e]
    rcases Nat.le_total (a + 1) (ups (b :: l)) with h | h
    · rw [Nat.max_eq_right h]
      exact ⟨List.mem_cons_of_mem _ h1, h2⟩
    · rw [Nat.max_eq_left h]
      exact ⟨by simp, Nat.succ_pos a⟩
theorem ups_le {l : List Nat} {b : Nat} (h : ∀ n ∈ l, n < b) : ups l ≤ b := by
  cases l with
  | nil => exact Nat.zero_le _
  | cons a l =>
    obtain ⟨h1, h2⟩ := ups_mem (l := a :: l) (List.cons_ne_nil _ _)
    have := h _ h1
    omega
def inSet (es as : List Nat) (n w : Nat) : Bool := decide (w ∈ es) || as.any fun s => decide (s ≤ w) && decide ((w - s) % n = 0)
def told (es as : List Nat) (n w : Nat) : Option Int := if inSet es as n w then some 0 else none
def rowR (es as : List Nat) (n : Nat) : Rw := flatR ((List.range (ups (es ++ as))).map (told es as n)) ((List.range n).map fun i => told es as n (ups (es ++ as) + i))
/-- the least start of a remainder tells all -/
theorem sub_mod0 {s w n : Nat} (le : s ≤ w) : (w - s) % n = 0 ↔ s % n = w % n := by
  constructor
  · intro h
    obtain ⟨k, hk⟩ := Nat.dvd_of_mod_eq_zero h
    rw [show w = s + n * k by omega, Nat.add_mul_mod_self_left]
  · intro h
    have e1 := Nat.div_add_mod w n
    have e2 := Nat.div_add_mod s n
    have e3 : w - s = n * (w / n - s / n) := by
      rw [Nat.mul_sub]
      omega
    rw [e3, Nat.mul_mod_right]
theorem find_any {as : List Nat} {n w L : Nat} (asc : as.Pairwise (· < ·)) (hL : w < L) : decide ((as.find? fun s => decide (s % n = w % n)).getD L ≤ w) = as.any fun s => decide (s ≤ w) && decide ((w - s) % n = 0) := by
  rw [Bool.eq_iff_iff, decide_eq_true_eq, List.any_eq_true]
  simp only [Bool.and_eq_true, decide_eq_true_eq]
  cases e : as.find? fun s => decide (s % n = w % n) with
  | none =>
    rw [List.find?_eq_none] at e
    simp only [Option.getD_none]
    constructor
    · intro h
      omega
    · rintro ⟨s, hs, le, z⟩
      have := e s hs
      simp only [decide_eq_true_eq] at this
      exact absurd ((sub_mod0 le).mp z) this
  | some s0 =>
    rw [List.find?_eq_some_iff_append] at e
    obtain ⟨p0, l1, l2, rfl, no⟩ := e
    simp only [decide_eq_true_eq] at p0
    simp only [Option.getD_some]
    constructor
    · intro le
      exact ⟨s0, by simp, le, (sub_mod0 le).mpr p0⟩
    · rintro ⟨s, hs, le, z⟩
      have ps := (sub_mod0 le).mp z
      rcases List.mem_append.mp hs with h | h
      · have := no s h
        simp [ps] at this
      · rcases List.mem_cons.mp h with rfl | h
        · exact le
        · have := (List.pairwise_cons.mp (List.pairwise_append.mp asc).2.1).1 s h
          omega
theorem yi_flat {l m : Ol} (h1 : Yi ta σ H fun v H' => SqE K H' v (l.map ov)) (h2 : EvL tb σ H (m.map ov)) (m0 : 0 < m.length) (l1 : l.length ≤ 20000) (m1 : m.length ≤ 10000) : Yi (tCall (spFlat K C) [] E0 (tCons ta (tCons tb tNil))) σ H (RowAt K C (lf (flatR l m))) := fun H1 e1 Q q =>
  h1 H1 e1 _ fun v H2 e2 s => h2 H2 (e1.trans e2) _ fun b H3 _ e3 hb => ⟨v, b, l, m, rfl, s.mono e3, sq_of hb, m0, l1, m1, fun v' H' e' ra => q v' H' ((e2.trans e3).trans e') ra⟩
theorem told_ov (es as : List Nat) (n w : Nat) : (if inSet es as n w then V.int 0 else .non) = ov (told es as n w) := by
  unfold told
  split <;> rfl
theorem natv_int (l : List Nat) : l.map natV = (l.map fun n => ((n : Nat) : Int)).map V.int := by
  rw [List.map_map] <;> rfl
theorem ups_max (l : List Nat) : (((ups l : Nat) : Int) - 1) ∈ ((-1 : Int) :: l.map fun n => ((n : Nat) : Int)) ∧ ∀ y ∈ ((-1 : Int) :: l.map fun n => ((n : Nat) : Int)), y ≤ ((ups l : Nat) : Int) - 1 := by
  refine ⟨?_, fun y hy => ?_⟩
  · cases l with
    | nil => exact List.mem_cons_self
    | cons a l =>
      obtain ⟨h1, h2⟩ := ups_mem (l := a :: l) (List.cons_ne_nil _ _)
      exact List.mem_cons_of_mem _ (List.mem_map.mpr ⟨_, h1, by omega⟩)
  · rcases List.mem_cons.mp hy with rfl | hy
    · omega
    · obtain ⟨n, hn, rfl⟩ := List.mem_map.mp hy
      have := ups_lt hn
      omega
theorem asc_few : ∀ {l : List Nat} {a b : Nat}, l.Pairwise (· < ·) → (∀ n ∈ l, a ≤ n ∧ n ≤ b) → l.length + a ≤ b + 1 ∨ l = []
  | [], _, _, _, _ => .inr rfl
  | x :: l, a, b, p, h => by
    obtain ⟨p1, p2⟩ := List.pairwise_cons.mp p
    have hx := h x List.mem_cons_self
    rcases asc_few (a := x + 1) (b := b) p2 fun n hn => ⟨p1 n hn, (h n (List.mem_cons_of_mem _ hn)).2⟩ with z | rfl
    · exact .inl (by rw [List.length_cons]; omega)
    · exact .inl (by simp; omega)
theorem MemOk.few {l : List Nat} (h : MemOk l) : l.length ≤ 1000 := by
  rcases asc_few (a := 0) (b := 999) h.asc fun n hn => ⟨Nat.zero_le _, h.hi n hn⟩ with z | rfl
  · omega
  · exact Nat.zero_le _
theorem drop_range {α : Type} (top n : Nat) (u : Nat → α) : ((List.range (top + n)).drop top).map u = (List.range n).map fun i => u (top + i) := by
  rw [List.range_add, List.drop_left' (by simp), List.map_map] <;> rfl
theorem top_le {es as : List Nat} (me : MemOk es) (ma : MemOk as) : ups (es ++ as) ≤ 1000 := ups_le fun x hx => by
  rcases List.mem_append.mp hx with h | h
  · have := me.hi x h; omega
  · have := ma.hi x h; omega
theorem rowR_ok {es as : List Nat} {n : Nat} (me : MemOk es) (ma : MemOk as) (h0 : 0 < n) (h1 : n ≤ 1000) : RwOk 0 (rowR es as n) := by
  have := top_le me ma
  exact flat_ok (by simp; omega) (by rw [List.length_map, List.length_range]; omega) (by simp; omega)
def spRowOf (K : PySem.W.Frag) (C : Addr) : Sp := fun vs H Q _ => ∃ (p q : Addr) (es as : List Nat) (n : Nat), vs = [.ref p, .ref q, natV n] ∧ SqT K H p (es.map natV) ∧ SqT K H q (as.map natV) ∧ MemOk es ∧ MemOk as ∧ 0 < n ∧ n ≤ 1000 ∧ ∀ v' H', Ex H H' → RowAt K C (lf (rowR es as n)) v' H' → Q v' H'
end
end SwX
set_option Elab.async false
set_option linter.all false
set_option maxRecDepth 100000
set_option maxHeartbeats 4000000
/-! sets: members, texts -/
namespace SwX
open PySem PySem.Spec PyProof.Rows L2 Evl
section
variable {K : PySem.W.Frag} {C : Addr} {H H' : Hp} {σ : L2.St} {te ta tb tc to : TE} {v x y : V} {r : Rw} {B : Int} {tt : TT}
def memL (r : Rw) (a b : Nat) : List Nat := ((List.range (b - a)).filter fun i => (r.at (a + i)).isSome).map fun i => a + i
def spMem (K : PySem.W.Frag) (C : Addr) : Sp := fun vs H Q _ => ∃ (v : V) (r : Rw) (a b : Nat) (B : Int), vs = [v, natV a, natV b] ∧ RowAt K C r v H ∧ RwOk B r ∧ a ≤ b ∧ b ≤ 40000 ∧ ∀ u H', H u = none → Ex H H' → H' u = some (.lst ((memL r a b).map natV)) → Q (.ref u) H'
theorem el_mem {a b : Nat} (hv : RowAt K C r v H) (ok : RwOk B r) (ha : a ≤ b) (hb : b ≤ 40000) (h1 : Ev ta σ H v) (h2 : Ev tb σ H (natV a)) (h3 : Ev tc σ H (natV b)) : EvL (tCall (spMem K C) [] E0 (tCons ta (tCons tb (tCons tc tNil)))) σ H ((memL r a b).map natV) := fun H1 e1 Q q =>
  (ea_cons h1 (ea_cons h2 (ea_cons h3 ea_nil)) : EvA _ σ H [v, natV a, natV b]) H1 e1 _ fun H2 e2 => ⟨v, r, a, b, B, rfl, hv.mono (e1.trans e2), ok, ha, hb, fun u H' hu e' h => q u H' (fresh_back e2 hu) (e2.trans e') h⟩
/-! texts -/
def thenL : List Nat := [116, 104, 101, 110]
def byL : List Nat := [98, 121]
def noneL : List Nat := [110, 111, 110, 101]
/-- the words of a set: early members, later members, the period -/
def wordsS (es as : List Nat) (p : Nat) : List (List Nat) := es.map TL.numL ++ (if as = [] then [] else [thenL] ++ as.map TL.numL ++ [byL, TL.numL p])
def textS (es as : List Nat) (p : Nat) : List Nat := if wordsS es as p = [] then noneL else TL.joinL [32] (wordsS es as p)
def textR (r : Rw) : List Nat := textS (memL r 0 r.h) (memL r r.h (r.h + r.c)) r.c
def spTextR (K : PySem.W.Frag) (C : Addr) : Sp := fun vs H Q _ => ∃ (v : V) (r : Rw) (B : Int), vs = [v] ∧ RowAt K C r v H ∧ RwOk B r ∧ r.h + r.c ≤ 1000 ∧ ∀ H', Ex H H' → Q (.str (SX.S (textR r))) H'
theorem ev_strN {o : Nat} (h : Ev te σ H (natV o)) (l : o ≤ 100000) : Ev (tCB rStrY (tCons te tNil)) σ H (.str (SX.S (TL.numL o))) := fun H1 e1 Q q => h H1 e1 _ fun H2 e2 => .inl ⟨o, rfl, by
  have : (o : Int).natAbs.log2 < 17 := by
    by_cases z : o = 0
    · subst z
      decide
    · exact (Nat.log2_lt (by omega)).mpr (by omega)
  omega, by rw [numS]; exact q H2 e2⟩
theorem ev_joinW {sep : List Nat} {l : List (List Nat)} {p : Addr} {B : Nat} (ho : Ev to σ H (.str (SX.S sep))) (he : Ev te σ H (.ref p)) (hp : SqL K H p ((l.map SX.S).map V.str) ∨ SqT K H p ((l.map SX.S).map V.str)) (hB : ∀ x ∈ l, x.length ≤ B) (small : B ≤ 100 ∧ l.length ≤ 20000 ∧ sep.length ≤ 10) :
    Ev (tM1 (rJoin K) to te) σ H (.str (SX.S (TL.joinL sep l))) := fun H1 e1 Q q => ho H1 e1 _ fun H2 e2 => ⟨⟨_, rfl⟩, he H2 (e1.trans e2) _ fun H3 e3 => by
  refine ⟨SX.S sep, p, _, rfl, rfl, hp.imp (ex_l ((e1.trans e2).trans e3)) (ex_t ((e1.trans e2).trans e3)), ?_, by rw [SX.join_S]; exact q H3 (e2.trans e3)⟩
  have z := sum_small hB
  obtain ⟨b, c, d⟩ := small
  have m1 : B * l.length ≤ 100 * 20000 := Nat.mul_le_mul b c
  have m2 : (l.map SX.S).length * (SX.S sep).length ≤ 20000 * 10 := Nat.mul_le_mul (by rw [List.length_map]; exact c) (by rw [SX.S_len]; exact d)
  omega⟩
theorem memL_len (r : Rw) (a b : Nat) : (memL r a b).length ≤ b - a := by
  unfold memL
  rw [List.length_map]
  exact Nat.le_trans (List.length_filter_le _ _) (by simp)
theorem memL_lt {r : Rw} {a b n : Nat} (h : n ∈ memL r a b) : a ≤ n ∧ n < b := by
  obtain ⟨i, hi, rfl⟩ := List.mem_map.mp h
  have := List.mem_range.mp (List.mem_filter.mp hi).1
  omega
theorem numL_small {n : Nat} (h : n ≤ 9999) : (TL.numL n).length ≤ 4 := TL.numL_len (by decide) (by omega)
theorem nat_get {l : List Nat} {i : Nat} {x : V} (h : (l.map natV)[i]? = some x) : ∃ n, l[i]? = some n ∧ x = natV n := by
  rw [List.getElem?_map] at h
  obtain ⟨n, h1, h2⟩ := Option.map_eq_some_iff.mp h
  exact ⟨n, h1, h2.symm⟩
theorem words_given (l : List Nat) : given (l.map natV).length (fun _ => true) (fun i => V.str (SX.S (TL.numL (l.getD i 0)))) = (l.map TL.numL).map fun x => .str (SX.S x) := by
  rw [given_all, List.length_map]
  refine List.ext_getElem? fun i => ?_
  rw [List.getElem?_map, List.getElem?_map, List.getElem?_map]
  by_cases h : i < l.length
  · rw [List.getElem?_range h, List.getElem?_eq_getElem h]
    show some (V.str (SX.S (TL.numL (l.getD i 0)))) = some (V.str (SX.S (TL.numL l[i])))
    rw [List.getD_eq_getElem?_getD, List.getElem?_eq_getElem h] <;> rfl
  · rw [List.getElem?_eq_none (by simp; omega), List.getElem?_eq_none (by omega)] <;> rfl
theorem da_nats : ∀ l : List Nat, Paired (fun d v => Da K H v d) (l.map fun n => PyData.int (n : Nat)) (l.map natV)
  | [] => .nil
  | n :: r => .cons (.int _) (da_nats r)
theorem da_strs : ∀ l : List (List Nat), Paired (fun d v => Da K H v d) (l.map fun x => PyData.str (SX.S x)) (l.map fun x => V.str (SX.S x))
  | [] => .nil
  | n :: r => .cons (.str _) (da_strs r)
/-- a word of texts: few signs, each below 1000 -/
def WordOk (x : List Nat) : Prop := x.length ≤ 10 ∧ ∀ c ∈ x, c < 1000
theorem word_num {n : Nat} (h : n ≤ 9999) : WordOk (TL.numL n) := ⟨Nat.le_trans (numL_small h) (by decide), fun c hc => by
  have := TL.numL_digits n c hc
  omega⟩
theorem word_lay {x : List Nat} (h : ∀ c ∈ x, c < 1000) : (PyData.str (SX.S x)).canLay0 = true := by
  show PyData.strOk (SX.S x) = true
  unfold PyData.strOk
  rw [← Array.all_toList]
  show x.all _ = true
  rw [List.all_eq_true]
  exact fun c hc => decide_eq_true (by have := h c hc; omega)
theorem atm_word {x : List Nat} (h : WordOk x) : Atm (.str (SX.S x)) := ⟨word_lay h.2, Nat.le_refl _, rfl⟩
theorem words_ok {es as : List Nat} {p : Nat} (h1 : ∀ n ∈ es, n ≤ 9999) (h2 : ∀ n ∈ as, n ≤ 9999) (hp : p ≤ 9999) : ∀ x ∈ wordsS es as p, WordOk x := fun x hx => by
  unfold wordsS at hx
  rcases List.mem_append.mp hx with h | h
  · obtain ⟨n, hn, rfl⟩ := List.mem_map.mp h
    exact word_num (h1 n hn)
  · split at h
    · cases h
    · rcases List.mem_append.mp h with h | h
      · rcases List.mem_append.mp h with h | h
        · rw [List.mem_singleton.mp h]
          exact ⟨by decide, by decide⟩
        · obtain ⟨n, hn, rfl⟩ := List.mem_map.mp h
          exact word_num (h2 n hn)
      · rcases List.mem_cons.mp h with rfl | h
        · exact ⟨by decide, by decide⟩
        · rw [List.mem_singleton.mp h]
          exact word_num hp
theorem words_len (es as : List Nat) (p : Nat) : (wordsS es as p).length ≤ es.length + as.length + 3 := by
  unfold wordsS
  split <;> simp <;> omega
theorem eqv_nilL (l : List PyData) : PyData.eqv (.list l) (.list []) = decide (l = []) := by
  cases l with
  | nil => rfl
  | cons a r => simp [PyData.eqv, PyData.eqvAll]
theorem ea_starL {tr : TA} {xs vs : List V} (h : EvL te σ H xs) (hr : EvA tr σ H vs) : EvA (StX.tStar K te tr) σ H (xs ++ vs) := fun H1 e1 Q q =>
  h H1 e1 _ fun p H2 _ e2 hp => ⟨p, xs, rfl, .inr (sq_of hp), hr H2 (e1.trans e2) _ fun H3 e3 => q H3 (e2.trans e3)⟩
end
end SwX
set_option Elab.async false
set_option linter.all false
set_option maxRecDepth 100000
set_option maxHeartbeats 4000000
/-! sets: the class -/
namespace SwX
open PySem PySem.Spec PyProof.Rows L2 Evl
theorem passE0 {X : Cx} : Passes (L2.CX X.prog X.w) X E0 := fun pins σ H s e s' I z => by
  obtain ⟨_, _, _, _, _, _, _, _, _, _, _, _, h⟩ := z
  exact h.elim
/-- what is looked up of an own class for isinstance -/
structure OwnC (K : PySem.W.Frag) (C : Addr) : Prop where
  cls : Cls K C
  ha : PySem.W.findIn K (.ref C) "__class__" = some (some (.builtin "object.__class__"))
  hn : PySem.W.specialIn K (.builtin "object.__class__") "__get__" = some (some (.builtin "getset_descriptor.__get__"))
  ht : PySem.W.takesIn K (.builtin "object.__class__") = some true
  hm : PySem.W.mroIn K C (.type "object") = some true
  kt : PySem.W.kitOne K (.ref C) (.ref C) = some true
/-- the class of sets, that of rows -/
structure SetC (K : PySem.W.Frag) (Cw Cr : Addr) : Prop where
  o : OwnC K Cw
  n1 : NoAttr K Cw "told"
  r : RowC K Cr
section
variable {K : PySem.W.Frag} {C Cw Cr : Addr} {H H' : Hp} {σ : L2.St} {te ta tb : TE} {v : V} {r : Rw} {B : Int}
/-- the set with the row r at v -/
def SetAt (K : PySem.W.Frag) (Cw Cr : Addr) (r : Rw) (v : V) (H : Hp) : Prop := ∃ (a dx : Addr) (x : V), v = .ref a ∧ H a = some (.ins Cw dx [("told", x)]) ∧ RowAt K Cr r x H
theorem SetAt.mono (e : Ex H H') (h : SetAt K Cw Cr r v H) : SetAt K Cw Cr r v H' := by
  obtain ⟨a, dx, x, rfl, h1, h2⟩ := h
  exact ⟨a, dx, x, rfl, e _ _ h1, h2.mono e⟩
theorem SetAt.is (h : SetAt K Cw Cr r v H) : ∃ a, v = .ref a ∧ IsI H a Cw := by
  obtain ⟨a, dx, x, rfl, h1, _⟩ := h
  exact ⟨a, rfl, dx, _, h1⟩
theorem ev_told (c : SetC K Cw Cr) (h : Ev te σ H v) (hv : SetAt K Cw Cr r v H) : ∃ x, Ev (tFld K te "told") σ H x ∧ RowAt K Cr r x H := by
  obtain ⟨a, dx, x, rfl, h1, h2⟩ := hv
  exact ⟨x, ev_fld c.o.cls c.n1 h h1 rfl, h2⟩
theorem ev_isOwn (c : OwnC K C) (h : Ev te σ H v) (i : ∃ a, v = .ref a ∧ IsI H a C) : Ev (tCB (rIsi K) (tCons te (tCons (tC (.ref C)) tNil))) σ H (.bl true) := fun H1 e1 Q q => h H1 e1 _ fun H2 e2 => by
  obtain ⟨a, rfl, dx, fs, h1⟩ := i
  exact ⟨.ref a, .ref C, .ref C, .ref C, true, rfl, .own C, .base (.ins (e2 _ _ (e1 _ _ h1)) c.cls c.ha c.hn c.ht c.hm), c.kt, q H2 e2⟩
end
/-- made of these -/
def setR (es as : List Nat) (n : Nat) : Rw := lf (lf (rowR es as n))
def spWInit (K : PySem.W.Frag) (Cw Cr C0 C10 C14 : Addr) : Sp := fun vs H Q E => ∃ (a dx : Addr) (v1 v2 v3 : V) (D1 D2 D3 : PyData), vs = [.ref a, v1, v2, v3] ∧ H a = some (.ins Cw dx []) ∧ Da K (less a H) v1 D1 ∧ Da K (less a H) v2 D2 ∧ Da K (less a H) v3 D3 ∧
  (∀ r, chkM D1 = some r → Thr E C10 "index" H (ov (r.map fun n => ((n : Nat) : Int)))) ∧
  (chkM D1 = none → ∀ r, chkM D2 = some r → Thr E C10 "index" H (ov (r.map fun n => ((n : Nat) : Int)))) ∧
  (chkM D1 = none → chkM D2 = none → btwO 1 (some 1000) D3 = false → Thr E C0 "given" H v3) ∧
  ∀ es as n, D1 = natD es → D2 = natD as → D3 = .int (n : Nat) → MemOk es → MemOk as → 0 < n → n ≤ 1000 →
    (1000 < (setR es as n).h + (setR es as n).c → Thr E C14 "limit" H (.int 1000)) ∧
    ((setR es as n).h + (setR es as n).c ≤ 1000 → ∀ H', Ex (less a H) H' → SetAt K Cw Cr (setR es as n) (.ref a) H' → Q .non H')
def spSetN (K : PySem.W.Frag) (Cw Cr : Addr) (g : Rw → V) : Sp := fun vs H Q _ => ∃ (v : V) (r : Rw) (B : Int), vs = [v] ∧ SetAt K Cw Cr r v H ∧ RwOk B r ∧ r.h + r.c ≤ 1000 ∧ ∀ H', Ex H H' → Q (g r) H'
def inW (r : Rw) : PyData → Bool
  | .int i => decide (0 ≤ i) && (r.at i.toNat).isSome
  | _ => false
def spSetIn (K : PySem.W.Frag) (Cw Cr : Addr) : Sp := fun vs H Q _ => ∃ (v x : V) (r : Rw) (D : PyData) (B : Int), vs = [v, x] ∧ SetAt K Cw Cr r v H ∧ RwOk B r ∧ Da K H x D ∧ ∀ H', Ex H H' → Q (.bl (inW r D)) H'
/-- the first member from w on -/
def onw (r : Rw) (w : Nat) : Option Nat := ((List.range (max w r.h + r.c - w)).map fun i => w + i).find? fun i => (r.at i).isSome
def onI (r : Rw) (w : Nat) : Option Int := (onw r w).map fun n => ((n : Nat) : Int)
def spOnw (K : PySem.W.Frag) (Cw Cr : Addr) : Sp := fun vs H Q _ => ∃ (v : V) (r : Rw) (w : Nat) (B : Int), vs = [v, natV w] ∧ SetAt K Cw Cr r v H ∧ RwOk B r ∧ r.h + r.c ≤ 1000 ∧ w ≤ 40000 ∧ ∀ H', Ex H H' → Q (ov (onI r w)) H'
def spSetEq (K : PySem.W.Frag) (Cw Cr : Addr) : Sp := fun vs H Q _ => ∃ (v u : V) (r s : Rw) (B : Int), vs = [v, u] ∧ SetAt K Cw Cr r v H ∧ SetAt K Cw Cr s u H ∧ RwOk B r ∧ RwOk B s ∧ ∀ H', Ex H H' → Q (.bl (decide (r = s))) H'
theorem da_natI {K : PySem.W.Frag} {H : Hp} {v : V} {ns : List Nat} (h : Da K H v (natD ns)) : ∃ p, v = .ref p ∧ SqT K H p (ns.map natV) := by
  obtain ⟨p, xs, rfl, hp, pr⟩ := da_items h
  have e : xs = ns.map natV := by
    clear hp h
    induction ns generalizing xs with
    | nil => cases pr; rfl
    | cons n l ih =>
      cases pr with
      | cons d r =>
        cases d
        rw [ih _ r] <;> rfl
  subst e
  exact ⟨p, rfl, hp⟩
theorem row_upd {K : PySem.W.Frag} {Cw Cr : Addr} {H : Hp} {r : Rw} {x : V} {a dx : Addr} {o : HO} (h : H a = some (.ins Cw dx [])) (ra : RowAt K Cr r x H) : RowAt K Cr r x (upd H a o) := by
  obtain ⟨b, dy, p, q, s, rfl, h1, h2, h3, h4⟩ := ra
  exact ⟨b, dy, p, q, s, rfl, by rw [upd_ne (fun z => by rw [z, h] at h1; cases h1)]; exact h1, sqt_upd h h2, sqt_upd h h3, sqt_upd h h4⟩
/-- what the class of sets gives, all promises together -/
theorem ev_spN {K : PySem.W.Frag} {Cw Cr : Addr} {H : Hp} {σ : L2.St} {ta : TE} {v : V} {r : Rw} {B : Int} {g : Rw → V} (h : Ev ta σ H v) (hv : SetAt K Cw Cr r v H) (ok : RwOk B r) (le : r.h + r.c ≤ 1000) : Ev (tProp Cw (spSetN K Cw Cr g) [] E0 ta) σ H (g r) := fun H1 e1 Q q => h H1 e1 _ fun H2 e2 => by
  have hv2 := hv.mono (e1.trans e2)
  have hv3 := hv2
  obtain ⟨a, dx, x, rfl, h1, _⟩ := hv2
  exact ⟨a, dx, _, rfl, h1, .ref a, r, B, rfl, hv3, ok, le, fun H3 e3 => q H3 (e2.trans e3)⟩
theorem ev_spM {K : PySem.W.Frag} {Cw Cr : Addr} {m : Str} {H : Hp} {σ : L2.St} {ta : TE} {v : V} {r : Rw} {B : Int} {g : Rw → V} (h : Ev ta σ H v) (hv : SetAt K Cw Cr r v H) (ok : RwOk B r) (le : r.h + r.c ≤ 1000) (nm : m ≠ "told") : Ev (tMeth Cw m (spSetN K Cw Cr g) [] E0 ta tNil) σ H (g r) := by
  have hv' := hv
  obtain ⟨a, dx, x, rfl, h1, _⟩ := hv
  exact ev_hm h h1 (by rw [List.lookup_cons, show (m == ("told" : Str)) = false from by simpa using nm] <;> rfl) ea_nil fun H1 Q e k => ⟨.ref a, r, B, rfl, hv'.mono e, ok, le, k⟩
/-- `in` of a set -/
structure SetIn (P : Program) (w : World) (K : PySem.W.Frag) (mg : Str → Option Value) (base : Heap) (Cw Cr : Addr) : Prop where
  ex : ∃ f fd, FnOk P w K mg base CX0 2 f fd ["self", "value"] (spSetIn K Cw Cr) ∧ Spc K Cw "__contains__" f ∧ Binds K fd ["self", "value"] []
theorem setIn {X : Cx} {Cw Cr : Addr} (K : PySem.W.Frag) (S : SetIn X.prog X.w X.K X.mg X.base Cw Cr) (hr : Room 2 X.A) (h : X.K = K := by rfl) : OpR X (compareOp .In) (rInOwn Cw (spSetIn K Cw Cr) E0) := by
  subst h
  obtain ⟨f, fd, F, s, b⟩ := S.ex
  exact op_inOwn F s b pass0 hr
theorem rv_setIn {K : PySem.W.Frag} {Cw Cr : Addr} {H : Hp} {x v : V} {r : Rw} {B : Int} {D : PyData} (hv : SetAt K Cw Cr r v H) (ok : RwOk B r) (hx : Da K H x D) : RV (rInOwn Cw (spSetIn K Cw Cr) E0) x v H (.bl (inW r D)) := fun H1 e1 Q q => by
  have hv1 := hv.mono e1
  obtain ⟨a, rfl, i⟩ := hv1.is
  exact ⟨a, rfl, i, .ref a, x, r, D, B, rfl, hv1, ok, hx.mono e1, fun H' e' => ⟨_, rfl, q H' e'⟩⟩
theorem ev_max2' {σ : L2.St} {H : Hp} {ta tb : TE} {a b : Nat} (ha : Ev ta σ H (natV a)) (hb : Ev tb σ H (natV b)) : Ev (tCB (fun xs H Q => ∃ i j, xs = [.int i, .int j] ∧ Q (.int (if j > i then j else i)) H) (tCons ta (tCons tb tNil))) σ H (natV (max a b)) := fun H1 e Q q =>
  ha H1 e _ fun H2 e2 => hb H2 (e.trans e2) _ fun H3 e3 => ⟨_, _, rfl, by
    have : (if ((b : Nat) : Int) > ((a : Nat) : Int) then ((b : Nat) : Int) else ((a : Nat) : Int)) = ((max a b : Nat) : Int) := by
      split <;> omega
    rw [this]
    exact q H3 (e2.trans e3)⟩
theorem onw_some {r : Rw} {w i : Nat} (hi : i < max w r.h + r.c - w) (h : (r.at (w + i)).isSome = true) (no : ∀ j, j < i → (r.at (w + j)).isSome = false) : onw r w = some (w + i) := by
  unfold onw
  have e : (List.range (max w r.h + r.c - w)).find? ((fun i => (r.at i).isSome) ∘ fun i => w + i) = some i := List.find?_eq_some_iff_getElem.mpr ⟨h, i, by simpa using hi, by simp, fun j hj => by simpa using no j hj⟩
  rw [List.find?_map, e] <;> rfl
theorem onw_none {r : Rw} {w : Nat} (no : ∀ j, j < max w r.h + r.c - w → (r.at (w + j)).isSome = false) : onw r w = none := by
  unfold onw
  rw [List.find?_map, List.find?_eq_none.mpr fun j hj => by simpa using no j (List.mem_range.mp hj)] <;> rfl
def isFin (r : Rw) : Bool := decide (memL r r.h (r.h + r.c) = [])
def reprS (r : Rw) : List Nat := [87, 101, 105, 103, 104, 116, 115, 32] ++ textR r
section
variable {K : PySem.W.Frag} {Cw Cr : Addr} {H : Hp} {σ : L2.St} {te ta tb : TE} {v x y : V} {r s : Rw} {B B' : Int}
theorem ol_len {r : Rw} {B : Int} (ok : RwOk B r) : r.head.length ≤ 100000 ∧ r.cycle.length ≤ 100000 ∧ r.steps.length ≤ 100000 := by
  have h1 : r.head.length ≤ 20000 := ok.hs
  have h2 : r.cycle.length ≤ 10000 := ok.cs
  have h3 : r.steps.length = r.cycle.length := ok.len
  omega
theorem yi_key (h : Ev te σ H x) (ra : RowAt K Cr r x H) (ok : RwOk B r) : Yi (tMeth Cr "key" (spKey K Cr) [] E0 te tNil) σ H fun v H' => Da K H' v (rwD r) := fun H1 e1 Q q => h H1 e1 _ fun H2 e2 => by
  have ra2 := ra.mono (e1.trans e2)
  have ra3 := ra2
  obtain ⟨a, dx, p, t, u, rfl, h1, _⟩ := ra2
  exact ⟨a, dx, _, rfl, h1, by rfl, .ref a, r, rfl, ra3, ol_len ok, fun u H' e' d => q (.ref u) H' (e2.trans e') d⟩
theorem eqvAll_od : ∀ l m : Ol, PyData.eqvAll (l.map od) (m.map od) = decide (l = m)
  | [], [] => by simp [PyData.eqvAll]
  | [], b :: m => by simp [PyData.eqvAll]
  | a :: l, [] => by simp [PyData.eqvAll]
  | a :: l, b :: m => by
    simp only [List.map_cons, PyData.eqvAll, eqv_od, eqvAll_od l m]
    rw [Bool.eq_iff_iff]
    simp
theorem eqv_ol (l m : Ol) : PyData.eqv (.tuple (l.map od)) (.tuple (m.map od)) = decide (l = m) := by
  simp only [PyData.eqv]
  exact eqvAll_od l m
theorem eqv_rw (r s : Rw) : PyData.eqv (rwD r) (rwD s) = decide (r = s) := by
  unfold rwD
  simp only [PyData.eqv, PyData.eqvAll, eqvAll_od]
  cases r
  cases s
  rw [Bool.eq_iff_iff]
  simp
theorem pl_rw (r : Rw) : Pl (rwD r) := by
  have a : ∀ l : Ol, ∀ o ∈ l, Atm (od o) := fun l o _ => atm_od o
  have d : ∀ l : Ol, PyData.depthAll (l.map od) ≤ 0 := fun l => depth_all fun o _ => (atm_od o).d
  have d1 := d r.head
  have d2 := d r.cycle
  have d3 := d r.steps
  unfold rwD
  refine ⟨?_, shaped_of ?_ ?_⟩
  · simp only [PyData.hasDict, PyData.hasDictAll, nodict_all fun o _ => (atm_od o).n, Bool.or_self]
  · simp only [PyData.canLay0, PyData.canLayAll0, lay_all fun o _ => (atm_od o).l, Bool.and_self]
  · simp only [PyData.depth, PyData.depthAll]
    omega
theorem ev_keyEq (h1 : Ev ta σ H x) (h2 : Ev tb σ H y) (ra : RowAt K Cr r x H) (rb : RowAt K Cr s y H) (ok : RwOk B r) (ok' : RwOk B s) : Ev (tOp (fun x y H Q => rEq x y H Q ∨ rEqDat K id x y H Q) (tMeth Cr "key" (spKey K Cr) [] E0 ta tNil) (tMeth Cr "key" (spKey K Cr) [] E0 tb tNil)) σ H (.bl (decide (r = s))) := fun H1 e1 Q q =>
  yi_key h1 ra ok H1 e1 _ fun v H2 e2 d => yi_key h2 rb ok' H2 (e1.trans e2) _ fun w H3 e3 d' => .inr ⟨_, _, d.mono e3, d', pl_rw r, pl_rw s, by rw [eqv_rw]; exact q H3 (e2.trans e3)⟩
theorem ev_textR (h : Ev te σ H x) (ra : RowAt K Cr r x H) (ok : RwOk B r) (le : r.h + r.c ≤ 1000) : Ev (tCall (spTextR K Cr) [] E0 (tCons te tNil)) σ H (.str (SX.S (textR r))) := ev_hc (ea_cons h ea_nil) fun H1 Q e k => ⟨x, r, B, rfl, ra.mono e, ok, le, k⟩
theorem ev_strS {z : Str} (h : Ev te σ H (.str z)) : Ev (tCB rStrY (tCons te tNil)) σ H (.str z) := fun H1 e1 Q q => h H1 e1 _ fun H2 e2 => .inr ⟨z, rfl, q H2 e2⟩
theorem joinL_small {B : Nat} {sep : List Nat} : ∀ {l : List (List Nat)}, (∀ x ∈ l, x.length ≤ B) → (TL.joinL sep l).length ≤ (B + sep.length) * l.length
  | [], _ => Nat.zero_le _
  | [x], h => by
    have := h x List.mem_cons_self
    show x.length ≤ _
    simp
    omega
  | x :: y :: l, h => by
    have z := joinL_small (sep := sep) (l := y :: l) fun u hu => h u (List.mem_cons_of_mem _ hu)
    have := h x List.mem_cons_self
    show (x ++ (sep ++ TL.joinL sep (y :: l))).length ≤ _
    rw [List.length_append, List.length_append, List.length_cons (a := x), Nat.mul_add, Nat.mul_one]
    omega
theorem textR_words (ok : RwOk B r) (le : r.h + r.c ≤ 1000) : (∀ x ∈ wordsS (memL r 0 r.h) (memL r r.h (r.h + r.c)) r.c, WordOk x) ∧ (wordsS (memL r 0 r.h) (memL r r.h (r.h + r.c)) r.c).length ≤ 1003 := by
  have la := memL_len r r.h (r.h + r.c)
  have l0 := memL_len r 0 r.h
  have := words_len (memL r 0 r.h) (memL r r.h (r.h + r.c)) r.c
  exact ⟨words_ok (fun n hn => by have := memL_lt hn; omega) (fun n hn => by have := memL_lt hn; omega) (by omega), by omega⟩
theorem textR_len (ok : RwOk B r) (le : r.h + r.c ≤ 1000) : (textR r).length ≤ 12000 := by
  obtain ⟨h1, h2⟩ := textR_words ok le
  unfold textR textS
  split
  · decide
  · have := joinL_small (B := 10) (sep := [32]) fun x hx => (h1 x hx).1
    have m : (10 + ([32] : List Nat).length) * (wordsS (memL r 0 r.h) (memL r r.h (r.h + r.c)) r.c).length ≤ (10 + 1) * 1003 := Nat.mul_le_mul_left _ h2
    omega
theorem js_wr (h : Ev te σ H x) (ra : RowAt K Cr r x H) (ok : RwOk B r) (le : r.h + r.c ≤ 1000) : Ev (fun σ H Q => tJs [tC (.str (SX.S [87, 101, 105, 103, 104, 116, 115, 32])), tFmt (tCall (spTextR K Cr) [] E0 (tCons te tNil))] Str.empty σ H fun out H1 => Q (.str out) H1) σ H (.str (SX.S (reprS r))) := fun H1 e1 Q q => by
  have e0 : Str.empty = SX.S [] := rfl
  have l1 := textR_len ok le
  rw [e0]
  refine ⟨_, rfl, by rw [SX.S_cat, SX.S_len]; exact sz_of (by simp), ?_⟩
  refine (ev_fmtS (ev_textR h ra ok le) (by omega) : Ev _ σ H _) H1 e1 _ fun H2 e2 => ⟨_, rfl, by rw [SX.S_cat, SX.S_cat, SX.S_len]; exact sz_of (by simp; omega), ?_⟩
  show Q (.str (SX.S [] ++ _ ++ SX.S (textR r))) H2
  rw [SX.S_cat, SX.S_cat, List.nil_append]
  exact q H2 e2
end
end SwX
set_option Elab.async false
set_option linter.all false
set_option maxRecDepth 100000
set_option maxHeartbeats 4000000
/-! sets, plain: the least form is told by the members alone -/
namespace SwX
open PySem PySem.Spec PyProof.Rows L2 Evl
/-! ### periods of a set of numbers -/
def EvP (f : Nat → Bool) (p h : Nat) : Prop := ∀ n, h ≤ n → f (n + p) = f n
theorem EvP.mul {f : Nat → Bool} {p h : Nat} (e : EvP f p h) : ∀ k n, h ≤ n → f (n + k * p) = f n
  | 0, n, _ => by rw [Nat.zero_mul, Nat.add_zero]
  | k + 1, n, hn => by
    rw [Nat.succ_mul, ← Nat.add_assoc, e _ (by omega)]
    exact e.mul k n hn
theorem EvP.mod {f : Nat → Bool} {p h : Nat} (e : EvP f p h) {n i : Nat} (hn : h ≤ n) : f (n + i % p) = f (n + i) := by
  have z := e.mul (i / p) (n + i % p) (by omega)
  rw [← z, Nat.add_assoc, Nat.mul_comm, Nat.mod_add_div]
theorem EvP.up {f : Nat → Bool} {p h h' : Nat} (e : EvP f p h) (le : h ≤ h') : EvP f p h' := fun n hn => e n (Nat.le_trans le hn)
structure Least (f : Nat → Bool) (h p : Nat) : Prop where
  pos : 0 < p
  per : EvP f p h
  minp : ∀ q h', 0 < q → EvP f q h' → p ≤ q
  minh : ∀ h', EvP f p h' → h ≤ h'
theorem Least.uniq {f : Nat → Bool} {h p h' p' : Nat} (a : Least f h p) (b : Least f h' p') : h = h' ∧ p = p' := by
  have e : p = p' := Nat.le_antisymm (a.minp _ _ b.pos b.per) (b.minp _ _ a.pos a.per)
  subst e
  exact ⟨Nat.le_antisymm (a.minh _ b.per) (b.minh _ a.per), rfl⟩
theorem least_ex {P : Nat → Prop} : ∀ n, P n → ∃ m, P m ∧ ∀ q, P q → m ≤ q := fun n => by
  induction n using Nat.strongRecOn with
  | _ n ih =>
    intro hn
    by_cases h : ∃ q, q < n ∧ P q
    · obtain ⟨q, lt, hq⟩ := h
      exact ih q lt hq
    · exact ⟨n, hn, fun q hq => Nat.le_of_not_lt fun lt => h ⟨q, lt, hq⟩⟩
/-- a set with the period c from h on: its least period divides c and holds from h on -/
theorem least_div {f : Nat → Bool} {c h : Nat} (c0 : 0 < c) (e : EvP f c h) : ∃ p, 0 < p ∧ c % p = 0 ∧ p ≤ c ∧ EvP f p h ∧ ∀ q h', 0 < q → EvP f q h' → p ≤ q := by
  obtain ⟨p, ⟨p0, h1, e1⟩, min⟩ := least_ex (P := fun q => 0 < q ∧ ∃ h', EvP f q h') c ⟨c0, h, e⟩
  have lt := Nat.mod_lt c p0
  have z : c % p = 0 := by
    refine Nat.eq_zero_of_not_pos fun pos => ?_
    have := min (c % p) ⟨pos, max h h1, fun n hn => by
      have n1 : h ≤ n := Nat.le_trans (Nat.le_max_left _ _) hn
      have n2 : h1 ≤ n := Nat.le_trans (Nat.le_max_right _ _) hn
      rw [e1.mod n2]
      exact e n n1⟩
    omega
  refine ⟨p, p0, z, min c ⟨c0, h, e⟩, fun n hn => ?_, fun q h' q0 e' => min q ⟨q0, h', e'⟩⟩
  have k := e.mul h1 n hn
  have k2 := e.mul h1 (n + p) (by omega)
  have ge : h1 ≤ n + h1 * c := by
    have : h1 * 1 ≤ h1 * c := Nat.mul_le_mul_left _ c0
    omega
  have k3 := e1 (n + h1 * c) ge
  rw [← k, ← k2, ← k3]
  congr 1
  omega
/-! ### rows that tell 0 or nothing -/
def zo (f : Nat → Bool) (w : Nat) : Option Int := if f w then some 0 else none
structure Flat (f : Nat → Bool) (r : Rw) : Prop where
  ok : RwOk 0 r
  at_ : ∀ w, r.at w = zo f w
theorem zo_inj {f : Nat → Bool} {a b : Nat} (h : zo f a = zo f b) : f a = f b := by
  unfold zo at h
  cases ha : f a <;> cases hb : f b <;> simp [ha, hb] at h <;> rfl
section
variable {f : Nat → Bool} {r : Rw} {p w : Nat}
theorem Flat.per (F : Flat f r) : EvP f r.c r.h := fun n hn => by
  have e := stp_ge F.ok hn
  have s := F.ok.small
  cases o : r.rise n with
  | none =>
    rw [o] at e
    obtain ⟨h1, h2⟩ := stp_none e
    rw [F.at_] at h1 h2
    exact (zo_inj (h1.trans h2.symm)).symm
  | some d =>
    rw [o] at e
    obtain ⟨x, h1, h2⟩ := stp_some e
    have z := s _ _ o
    have d0 : d = 0 := by omega
    rw [d0, Int.add_zero] at h2
    rw [F.at_] at h1 h2
    exact (zo_inj (h1.trans h2.symm)).symm
theorem Flat.stp (F : Flat f r) (a b : Nat) : r.stp a b = if f a = f (a + b) then some (zo f a) else none := by
  unfold Rw.stp
  rw [F.at_, F.at_]
  unfold zo
  cases ha : f a <;> cases hb : f (a + b) <;> simp
theorem Flat.hasP (F : Flat f r) (p0 : 0 < p) : hasP r p = true ↔ EvP f p r.h := by
  have cp := F.ok.pos
  constructor
  · intro h n hn
    obtain ⟨i, rfl⟩ := Nat.exists_eq_add_of_le hn
    have lt := Nat.mod_lt i cp
    obtain ⟨o, eo⟩ := hasP_some h (i := i % r.c) (by omega)
    rw [F.stp] at eo
    have e1 : f (r.h + i % r.c) = f (r.h + i % r.c + p) := by
      by_cases z : f (r.h + i % r.c) = f (r.h + i % r.c + p)
      · exact z
      · rw [if_neg z] at eo
        cases eo
    have e2 := F.per.mod (i := i) (Nat.le_refl r.h)
    have e3 := F.per.mod (n := r.h + p) (i := i) (by omega)
    rw [show r.h + i + p = r.h + p + i by omega, ← e3, show r.h + p + i % r.c = r.h + i % r.c + p by omega, ← e1, e2]
  · intro e
    unfold SwX.hasP
    rw [Bool.and_eq_true, List.all_eq_true, List.all_eq_true]
    have st : ∀ i, r.stp (r.h + i) p = some (zo f (r.h + i)) := fun i => by rw [F.stp, if_pos (e _ (by omega)).symm]
    refine ⟨fun i _ => by rw [st] <;> rfl, fun i _ => decide_eq_true ?_⟩
    rw [st, st]
    unfold zo
    rw [e.mod (Nat.le_refl r.h)]
theorem pers_asc (r : Rw) : (pers r).Pairwise (· < ·) := by
  unfold pers
  refine List.Pairwise.filter _ (List.pairwise_map.mpr ?_)
  exact (List.pairwise_lt_range).imp fun h => by omega
theorem Flat.perOf (F : Flat f r) : 0 < perOf r ∧ EvP f (perOf r) r.h ∧ ∀ q h', 0 < q → EvP f q h' → perOf r ≤ q := by
  obtain ⟨h1, h2, h3, h4⟩ := pers_of (perOf_mem F.ok)
  refine ⟨h1, (F.hasP h1).mp h4, ?_⟩
  obtain ⟨p, p0, pd, pc, pe, min⟩ := least_div F.ok.pos F.per
  have m : p ∈ pers r := List.mem_filter.mpr ⟨List.mem_map.mpr ⟨p - 1, List.mem_range.mpr (by omega), by omega⟩, by unfold perB; rw [pd, (F.hasP p0).mpr pe] <;> rfl⟩
  have le : SwX.perOf r ≤ p := by
    obtain ⟨a, l, e⟩ := pers_ne F.ok
    have asc := pers_asc r
    unfold SwX.perOf
    rw [e] at m asc ⊢
    show a ≤ p
    rcases List.mem_cons.mp m with rfl | m
    · exact Nat.le_refl _
    · exact Nat.le_of_lt ((List.pairwise_cons.mp asc).1 p m)
  exact fun q h' q0 e => Nat.le_trans le (min q h' q0 e)
theorem zo_per {h n : Nat} (e : EvP f p h) (hn : h ≤ n) (i : Nat) : zo f (n + i % p) = zo f (n + i) := by
  unfold zo
  rw [e.mod hn]
/-- a row whose parts are told by f -/
theorem flat_mk {h : Nat} (ok : RwOk 0 r) (rh : r.h = h) (rc : r.c = p) (h1 : ∀ i, i < h → Ol.g r.head i = zo f i) (h2 : ∀ i, i < p → Ol.g r.cycle i = zo f (h + i)) (e : EvP f p h) : Flat f r := ⟨ok, fun w => by
  have cp := ok.pos
  by_cases lt : w < r.h
  · rw [Rw.at_lt lt]
    exact h1 w (by omega)
  · rw [Rw.at_ge lt]
    have b := ok.both ((w - r.h) % r.c) (Nat.mod_lt _ cp)
    have c1 := h2 ((w - h) % p) (by rw [← rc]; exact Nat.mod_lt _ cp)
    rw [zo_per e (Nat.le_refl h), show h + (w - h) = w by omega] at c1
    rw [rh, rc] at b ⊢
    rw [c1] at b ⊢
    cases z : zo f w with
    | none => rfl
    | some x =>
      have x0 : x = 0 := by
        unfold zo at z
        split at z
        · exact (Option.some.inj z).symm
        · cases z
      rw [z] at b
      cases s : Ol.g r.steps ((w - h) % p) with
      | none => cases b.mpr s
      | some y =>
        have sm := ok.small _ _ s
        have y0 : y = 0 := by omega
        rw [x0, y0]
        simp [farV]⟩
theorem Flat.withP (F : Flat f r) (p0 : 0 < p) (e : EvP f p r.h) (p1 : p ≤ 10000) : Flat f (withP r p) ∧ (SwX.withP r p).c = p := by
  have ec : (SwX.withP r p).c = p := by unfold SwX.withP Rw.c; simp
  have ok : RwOk 0 (SwX.withP r p) := with_ok F.ok p0 p1 fun i _ => by
    rw [F.stp, if_pos (e _ (by omega)).symm]
    refine ⟨_, rfl, fun x hx => ?_⟩
    unfold zo at hx
    split at hx
    · have := Option.some.inj hx
      omega
    · cases hx
  refine ⟨flat_mk (h := r.h) ok rfl ec (fun i hi => ?_) (fun i hi => ?_) e, ec⟩
  · have := F.at_ i
    rw [Rw.at_lt hi] at this
    exact this
  · show Ol.g ((List.range p).map fun i => r.at (r.h + i)) i = _
    rw [g_map hi, F.at_]
theorem strB_iff (F : Flat f r) {w : Nat} (e : EvP f r.c (w + 1)) : strB r w = true ↔ f w = f (w + r.c) := by
  have cp := F.ok.pos
  have far : r.h ≤ w + r.c * (1 + r.h / r.c) := by
    have := Nat.div_add_mod r.h r.c
    have := Nat.mod_lt r.h cp
    rw [Nat.mul_add, Nat.mul_one]
    omega
  have rs : r.rise (w + r.c * (1 + r.h / r.c)) = zo f (w + r.c) := by
    have z := stp_ge F.ok far
    rw [F.stp, if_pos (F.per _ far).symm] at z
    rw [← Option.some.inj z]
    unfold zo
    have := e.mul (r.h / r.c) (w + r.c) (by omega)
    rw [← this]
    congr 3
    rw [Nat.mul_add, Nat.mul_one, Nat.mul_comm (r.h / r.c)]
    omega
  unfold strB
  rw [decide_eq_true_eq, rs, F.stp]
  constructor
  · intro h
    by_cases z : f w = f (w + r.c)
    · exact z
    · rw [if_neg z] at h
      cases h
  · intro z
    rw [if_pos z]
    unfold zo
    rw [z]
theorem down_least (F : Flat f r) : ∀ n, EvP f r.c n → EvP f r.c (downS r n) ∧ ∀ h', EvP f r.c h' → downS r n ≤ h'
  | 0, e => ⟨e, fun h' _ => Nat.zero_le _⟩
  | n + 1, e => by
    have s := strB_iff F e
    unfold downS
    by_cases z : strB r n = true
    · rw [if_pos z]
      refine down_least F n fun m hm => ?_
      rcases Nat.lt_or_eq_of_le hm with h | rfl
      · exact e m h
      · exact (s.mp z).symm
    · rw [if_neg z]
      refine ⟨e, fun h' e' => Nat.le_of_not_lt fun lt => z (s.mpr ?_)⟩
      exact (e' n (by omega)).symm
/-- the least form of a row of a set -/
theorem Flat.lf (F : Flat f r) : Flat f (lf r) ∧ Least f (SwX.lf r).h (SwX.lf r).c := by
  obtain ⟨p0, pe, pm⟩ := F.perOf
  obtain ⟨q1, q2, _, _⟩ := pers_of (perOf_mem F.ok)
  obtain ⟨F1, c1⟩ := F.withP p0 pe (Nat.le_trans q2 F.ok.cs)
  have h1 : (SwX.withP r (SwX.perOf r)).h = r.h := rfl
  have pe1 : EvP f (SwX.withP r (SwX.perOf r)).c r.h := by rw [c1]; exact pe
  obtain ⟨d1, d2⟩ := down_least F1 r.h pe1
  have dl := down_le (SwX.withP r (SwX.perOf r)) r.h
  rw [c1] at d1 d2
  have ok := lf_ok F.ok
  have eh : (SwX.lf r).h = downS (SwX.withP r (SwX.perOf r)) r.h := by
    show ((SwX.withP r (SwX.perOf r)).head.take _).length = _
    rw [List.length_take]
    exact Nat.min_eq_left dl
  have ec : (SwX.lf r).c = SwX.perOf r := by
    show ((List.range (SwX.withP r (SwX.perOf r)).c).map _).length = _
    rw [List.length_map, List.length_range, c1]
  refine ⟨flat_mk ok eh ec (fun i hi => ?_) (fun i hi => ?_) d1, by rw [eh, ec]; exact ⟨p0, d1, pm, d2⟩⟩
  · show Ol.g (r.head.take _) i = _
    have z := F.at_ i
    rw [Rw.at_lt (Nat.lt_of_lt_of_le hi dl)] at z
    rw [← z]
    unfold Ol.g
    rw [List.getD_eq_getElem?_getD, List.getD_eq_getElem?_getD, List.getElem?_take_of_lt hi]
  · show Ol.g ((List.range (SwX.withP r (SwX.perOf r)).c).map fun i => (SwX.withP r (SwX.perOf r)).at (downS (SwX.withP r (SwX.perOf r)) r.h + i)) i = _
    rw [c1, g_map hi, F1.at_]
/-- rows of the same set, both least, are the same -/
theorem row_ext {r s : Rw} (F : Flat f r) (G : Flat f s) (a : Least f r.h r.c) (b : Least f s.h s.c) : r = s := by
  obtain ⟨eh, ec⟩ := a.uniq b
  have hl : ∀ {t : Rw}, Flat f t → t.head = (List.range t.h).map (zo f) := fun {t} T => by
    refine List.ext_getElem? fun i => ?_
    by_cases h : i < t.h
    · have z := T.at_ i
      rw [Rw.at_lt h] at z
      rw [List.getElem?_map, List.getElem?_range h, List.getElem?_eq_getElem h]
      unfold Ol.g at z
      rw [List.getD_eq_getElem?_getD, List.getElem?_eq_getElem h] at z
      exact congrArg some z
    · rw [List.getElem?_eq_none (Nat.le_of_not_lt h), List.getElem?_eq_none (by simp; omega)]
  have hc : ∀ {t : Rw}, Flat f t → t.cycle = (List.range t.c).map fun i => zo f (t.h + i) := fun {t} T => by
    refine List.ext_getElem? fun i => ?_
    by_cases h : i < t.c
    · have z := at_cyc T.ok h
      rw [T.at_] at z
      rw [List.getElem?_map, List.getElem?_range h, List.getElem?_eq_getElem h]
      unfold Ol.g at z
      rw [List.getD_eq_getElem?_getD, List.getElem?_eq_getElem h] at z
      exact congrArg some z.symm
    · rw [List.getElem?_eq_none (Nat.le_of_not_lt h), List.getElem?_eq_none (by simp; omega)]
  have hs : ∀ {t : Rw}, Flat f t → t.steps = (List.range t.c).map fun i => zo f (t.h + i) := fun {t} T => by
    refine List.ext_getElem? fun i => ?_
    by_cases h : i < t.c
    · have h' : i < t.steps.length := by rw [T.ok.len]; exact h
      have z := stp_ge T.ok (w := t.h + i) (by omega)
      rw [T.stp, if_pos (T.per _ (by omega)).symm] at z
      have z := Option.some.inj z
      unfold Rw.rise Ol.g at z
      rw [show t.h + i - t.h = i by omega, Nat.mod_eq_of_lt h, List.getD_eq_getElem?_getD, List.getElem?_eq_getElem h'] at z
      rw [List.getElem?_map, List.getElem?_range h, List.getElem?_eq_getElem h']
      exact congrArg some z.symm
    · rw [List.getElem?_eq_none (by rw [T.ok.len]; omega), List.getElem?_eq_none (by simp; omega)]
  have e1 : r.head = s.head := by rw [hl F, hl G, eh]
  have e2 : r.cycle = s.cycle := by rw [hc F, hc G, eh, ec]
  have e3 : r.steps = s.steps := by rw [hs F, hs G, eh, ec]
  cases r
  cases s
  simp only at e1 e2 e3
  rw [e1, e2, e3]
end
end SwX
set_option Elab.async false
set_option linter.all false
set_option maxRecDepth 100000
set_option maxHeartbeats 4000000
/-! sets: what laws draw, their models -/
namespace SwX
open PySem PySem.Spec PyProof.Rows L2 Evl
section
variable {K : PySem.W.Frag} {σ : L2.St} {G H : Hp} {a : Addr} {te ta tb : TE} {v : V} {m : Nat} {w : World} {D : Ends} {tz : TS}
/-- ascending numbers below a bound -/
structure Rise (high : Nat) (ns : List Nat) : Prop where
  asc : ns.Pairwise (· < ·)
  lt : ∀ n ∈ ns, n < high
theorem ints_nat : ∀ {ns : List Int}, (∀ n ∈ ns, 0 ≤ n) → ∃ ms : List Nat, ns = ms.map fun m => ((m : Nat) : Int)
  | [], _ => ⟨[], rfl⟩
  | n :: l, h => by
    obtain ⟨ms, e⟩ := ints_nat (ns := l) fun x hx => h x (List.mem_cons_of_mem _ hx)
    have := h n List.mem_cons_self
    exact ⟨n.toNat :: ms, by rw [List.map_cons, ← e, Int.toNat_of_nonneg this]⟩
theorem rising_of {high : Nat} (h : DrL a te σ G m fun v => ∃ k : Int, v = .int k ∧ 0 ≤ k ∧ k < (high : Nat)) (hm : m < 64) (e : Ex G H) (p : Pur H a) (Q : VK)
    (k : ∀ ns q H1, Rise high ns → ns.length ≤ m → H1 q = some (.tup (ns.map natV)) → q ≠ a → Ex G H1 → Pur H1 a → Q (.ref q) H1) :
    tCB (rTupOf K) (tCons (tCB (rSortedSet w) (tCons (tCB (rSetOfL K w) (tCons te tNil)) tNil)) tNil) σ H Q :=
  h H e p _ fun l xs H1 lx px hl nl e1 p1 => by
    obtain ⟨ns, en, hb⟩ : ∃ ns : List Int, xs = ns.map V.int ∧ ∀ n ∈ ns, 0 ≤ n ∧ n < (high : Nat) := by
      clear hl lx
      induction xs with
      | nil => exact ⟨[], rfl, fun n hn => nomatch hn⟩
      | cons x xs ih =>
        obtain ⟨ns, e, hb⟩ := ih fun y hy => px y (List.mem_cons_of_mem _ hy)
        obtain ⟨j, rfl, j0, j1⟩ := px x List.mem_cons_self
        refine ⟨j :: ns, by rw [e] <;> rfl, fun n hn => ?_⟩
        rcases List.mem_cons.mp hn with rfl | hn
        · exact ⟨j0, j1⟩
        · exact hb n hn
    subst en
    rw [List.length_map] at lx
    refine ⟨l, ns, rfl, sq_of hl, by omega, fun c n hc hn => ?_⟩
    have pc := pur_new p1 hc (o := SetO w c (fun j => decide (j ∈ ns)) n)
    refine ⟨c, _, n, rfl, upd_same, by omega, fun out q asc mem len hq => ?_⟩
    have pq := pur_new pc hq (o := .lst (out.map V.int))
    obtain ⟨ms, rfl⟩ := ints_nat (ns := out) fun n hn => (hb n (by have := (mem n).mp hn; simpa using this)).1
    refine ⟨q, _, rfl, .inl ⟨.inl (.inl upd_same), fun u hu => ?_⟩⟩
    refine k ms u _ ⟨?_, fun n hn => ?_⟩ ?_ (by rw [upd_same, List.map_map] <;> rfl) ((pq.ne hu)) (((e1.trans (Ex.new hc)).trans (Ex.new hq)).trans (Ex.new hu)) (pur_new pq hu)
    · exact (List.pairwise_map.mp asc).imp fun h => by omega
    · have := (hb n (by have := (mem n).mp (List.mem_map.mpr ⟨n, hn, rfl⟩); simpa using this)).2
      omega
    · rw [List.length_map] at len
      omega
def spRising : Sp := fun vs H Q _ => ∃ (a : Addr) (many high : Nat), vs = [.ref a, natV many, natV high] ∧ Pur H a ∧ many ≤ 50 ∧ 0 < high ∧ high ≤ 1000000 ∧ ∀ ns q H', Rise high ns → ns.length ≤ many → H' q = some (.tup (ns.map natV)) → q ≠ a → Ex (less a H) H' → Pur H' a → Q (.ref q) H'
theorem el_addX {xs ys : List V} (h1 : EvL ta σ H xs) (h2 : EvL tb σ H ys) (l : xs.length + ys.length ≤ 100000) : EvL (tOp (rAddX K) ta tb) σ H (xs ++ ys) := fun H1 e1 Q q =>
  h1 H1 e1 _ fun p H2 _ e2 hp => h2 H2 (e1.trans e2) _ fun p' H3 _ e3 hp' => .inr (.inl ⟨p, p', xs, ys, rfl, rfl, e3 _ _ hp, hp', sz_of l, fun c hc => q c _ (fresh_back (e2.trans e3) hc) ((e2.trans e3).trans (Ex.new hc)) upd_same⟩)
theorem el_listE {xs : List V} (h : Ev te σ H v) (s : SqE K H v xs) : EvL (tCB (fun vs H Q => ∃ p ys, vs = [.ref p] ∧ (SqL K H p ys ∨ SqT K H p ys) ∧ ∀ l, H l = none → Q (.ref l) (upd H l (.lst ys))) (tCons te tNil)) σ H xs := fun H1 e1 Q q => h H1 e1 _ fun H2 e2 => by
  obtain ⟨p, rfl, s | s⟩ := s
  · exact ⟨p, xs, rfl, .inr (ex_t (e1.trans e2) s), fun l hl => q l _ (fresh_back e2 hl) (e2.trans (Ex.new hl)) upd_same⟩
  · exact ⟨p, xs, rfl, .inl (ex_l (e1.trans e2) s), fun l hl => q l _ (fresh_back e2 hl) (e2.trans (Ex.new hl)) upd_same⟩
theorem rep_flat (x : V) : ∀ n : Nat, (List.replicate n [x]).flatten = List.replicate n x
  | 0 => rfl
  | n + 1 => by rw [List.replicate_succ, List.flatten_cons, rep_flat x n, List.replicate_succ] <;> rfl
theorem el_rep {x : V} {n : Nat} (h1 : EvL ta σ H [x]) (h2 : Ev tb σ H (natV n)) (hn : n ≤ 100000) : EvL (tOp rRep ta tb) σ H (List.replicate n x) := fun H1 e1 Q q =>
  h1 H1 e1 _ fun p H2 _ e2 hp => h2 H2 (e1.trans e2) _ fun H3 e3 => ⟨p, (n : Nat), [x], rfl, rfl, e3 _ _ hp, by omega, by omega, by rw [Int.toNat_natCast]; simp; exact sz_of hn, fun c hc => q c _ (fresh_back (e2.trans e3) hc) ((e2.trans e3).trans (Ex.new hc)) (by rw [upd_same, Int.toNat_natCast, rep_flat])⟩
/-- a range with a step -/
theorem rgc_up {i j c : Nat} (h : i < j) (c0 : 0 < c) (hj : j ≤ 1000000) (hc : c ≤ 1000000) : RgC (i : Nat) (j : Nat) (c : Nat) ((j - i - 1) / c + 1) := by
  have e : Builtin.Range.rangeSize (i : Nat) (j : Nat) (c : Nat) = (((j - i - 1) / c + 1 : Nat) : Int) := by
    unfold Builtin.Range.rangeSize
    rw [if_pos (by omega), if_pos (by omega), Int.natCast_add, Int.natCast_ediv, show ((j : Int) - (i : Int) - 1) = ((j - i - 1 : Nat) : Int) by omega] <;> rfl
  refine ⟨by omega, by omega, ?_, e⟩
  have d : (j - i - 1) / c ≤ 1000000 := Nat.le_trans (Nat.div_le_self _ _) (by omega)
  unfold Builtin.Range.small
  rw [e]
  generalize (j - i - 1) / c = n at d
  simp only [Builtin.Range.rangeFitsLong, Bool.and_eq_true, Bool.or_eq_true, decide_eq_true_eq, beq_iff_eq, show ((c : Nat) : Int) > 0 by omega, if_true]
  omega
theorem s_forR3 {ti : TA} {tu : TS} {j : Nat} {lo hi c : Int} {n : Nat} (h : EvA ti σ H [.int lo, .int hi, .int c]) (rg : RgC lo hi c n) (Pv : Nat → L2.St → Hp → Prop) (h0 : ∀ H1, Ex H H1 → Pv 0 σ H1)
    (hs : ∀ (i : Nat) σ' H', i < n → Pv i σ' H' → tu { D with nx := Pv (i + 1), ct := Pv (i + 1), bk := D.nx } (σ'.set j (some (.int (lo + (i : Nat) * c)))) H') (hd : ∀ σ' H', Pv n σ' H' → D.nx σ' H') : tFor (iRng3 ti) (gName j) tu D σ H :=
  h H (Ex.refl H) _ fun H1 e => ⟨lo, hi, c, n, rfl, rg, for_rangeC Pv (h0 H1 e) hs hd⟩
theorem s_retTupY {t : TA} {R : List V → Hp → Prop} (h : Ys t σ H R) (m : ∀ l H H', Ex H H' → R l H → R l H') (n : ∀ l H, R l H → l.length ≤ 1000) (k : ∀ l u H1, Ex H H1 → R l H1 → H1 u = some (.tup l) → D.rt (.ref u) H1) : tRet (tTup t) D σ H :=
  h H (Ex.refl H) _ fun l H1 e1 z => ⟨sz_of (Nat.le_trans (n l H1 z) (by decide)), fun u hu => k l u _ (e1.trans (Ex.new hu)) (m l _ _ (Ex.new hu) z) upd_same⟩
theorem ys_LL {t1 t2 : TE} {xs ys : List V} (h1 : EvL t1 σ H xs) (h2 : EvL t2 σ H ys) : Ys (tCons t1 (tCons t2 tNil)) σ H fun vs H' => ∃ d1 d2 : Addr, vs = [.ref d1, .ref d2] ∧ H' d1 = some (.lst xs) ∧ H' d2 = some (.lst ys) := fun H6 e6 Q' q' =>
  h1 H6 e6 _ fun d1 H7 _ e7 g1 => h2 H7 (e6.trans e7) _ fun d2 H8 _ e8 g2 => q' [.ref d1, .ref d2] H8 (e7.trans e8) ⟨d1, d2, rfl, e8 _ _ g1, g2⟩
def modB (es as : List Nat) : Nat := max 1 (ups (es ++ as))
/-- a set as two lists of truths -/
def ModAt (f : Nat → Bool) (b c : Nat) (v : V) (H : Hp) : Prop := ∃ t d1 d2 : Addr, v = .ref t ∧ H t = some (.tup [.ref d1, .ref d2]) ∧ H d1 = some (.lst ((List.range b).map fun i => .bl (f i))) ∧ H d2 = some (.lst ((List.range c).map fun i => .bl (f (b + i))))
theorem ModAt.mono {f : Nat → Bool} {b c : Nat} {H' : Hp} (e : Ex H H') (h : ModAt f b c v H) : ModAt f b c v H' := by
  obtain ⟨t, d1, d2, rfl, h1, h2, h3⟩ := h
  exact ⟨t, d1, d2, rfl, e _ _ h1, e _ _ h2, e _ _ h3⟩
def spModel (K : PySem.W.Frag) : Sp := fun vs H Q _ => ∃ (p q : Addr) (es as : List Nat) (n hi : Nat), vs = [.ref p, .ref q, natV n] ∧ SqT K H p (es.map natV) ∧ SqT K H q (as.map natV) ∧ Rise hi es ∧ Rise hi as ∧ hi ≤ 2000 ∧ 0 < n ∧ n ≤ 2000 ∧ ∀ v H', Ex H H' → ModAt (inSet es as n) (modB es as) n v H' → Q v H'
theorem set_marks {N j : Nat} (g : Nat → Bool) : ((List.range N).map fun i => V.bl (g i)).set j (.bl true) = (List.range N).map fun i => V.bl (g i || decide (i = j)) := by
  refine List.ext_getElem? fun i => ?_
  rw [List.getElem?_set, List.getElem?_map, List.getElem?_map, List.length_map, List.length_range]
  by_cases h : i < N
  · rw [List.getElem?_range h]
    by_cases e : j = i
    · subst e
      rw [if_pos rfl, if_pos h]
      simp
    · rw [if_neg e]
      have : i ≠ j := fun z => e z.symm
      simp [this]
  · rw [List.getElem?_eq_none (by simp; omega)]
    by_cases e : j = i
    · subst e
      rw [if_pos rfl, if_neg h] <;> rfl
    · rw [if_neg e] <;> rfl
theorem marks_congr {N : Nat} {g g' : Nat → Bool} (h : ∀ i, i < N → g i = g' i) : ((List.range N).map fun i => V.bl (g i)) = (List.range N).map fun i => V.bl (g' i) := List.map_congr_left fun i hi => by rw [h i (List.mem_range.mp hi)]
/-- the turns of a step range that hit -/
def hits (s n t w : Nat) : Bool := (List.range t).any fun i => decide (w = s + i * n)
theorem hits_succ (s n t w : Nat) : hits s n (t + 1) w = (hits s n t w || decide (w = s + t * n)) := by
  unfold hits
  rw [List.range_succ, List.any_append]
  simp
theorem hits_all {s n N w : Nat} (n0 : 0 < n) (hs : s < N) (hw : w < N) : hits s n ((N - s - 1) / n + 1) w = (decide (s ≤ w) && decide ((w - s) % n = 0)) := by
  unfold hits
  rw [Bool.eq_iff_iff]
  simp only [List.any_eq_true, List.mem_range, decide_eq_true_eq, Bool.and_eq_true]
  constructor
  · rintro ⟨i, hi, rfl⟩
    refine ⟨Nat.le_add_right _ _, ?_⟩
    rw [Nat.add_sub_cancel_left, Nat.mul_mod_left]
  · rintro ⟨le, z⟩
    obtain ⟨k, hk⟩ := Nat.dvd_of_mod_eq_zero z
    refine ⟨k, ?_, by rw [Nat.mul_comm]; omega⟩
    have : k ≤ (N - s - 1) / n := (Nat.le_div_iff_mul_le n0).mpr (by rw [Nat.mul_comm]; omega)
    omega
theorem Rise.few {hi : Nat} {l : List Nat} (h : Rise hi l) : l.length ≤ hi := by
  cases hi with
  | zero =>
    cases l with
    | nil => exact Nat.le_refl _
    | cons a l => exact absurd (h.lt a List.mem_cons_self) (Nat.not_lt_zero _)
  | succ b =>
    rcases asc_few (a := 0) (b := b) h.asc fun n hn => ⟨Nat.zero_le _, by have := h.lt n hn; omega⟩ with z | rfl
    · omega
    · exact Nat.zero_le _
theorem modB_max (es as : List Nat) : (((modB es as : Nat) : Int) - 1) ∈ ((0 : Int) :: (es ++ as).map fun n => ((n : Nat) : Int)) ∧ ∀ y ∈ ((0 : Int) :: (es ++ as).map fun n => ((n : Nat) : Int)), y ≤ ((modB es as : Nat) : Int) - 1 := by
  have z := ups_max (es ++ as)
  unfold modB
  refine ⟨?_, fun y hy => ?_⟩
  · by_cases h : ups (es ++ as) ≤ 1
    · rw [Nat.max_eq_left h]
      exact List.mem_cons_self
    · rw [Nat.max_eq_right (by omega)]
      rcases List.mem_cons.mp z.1 with e | e
      · omega
      · exact List.mem_cons_of_mem _ e
  · have le : ups (es ++ as) ≤ max 1 (ups (es ++ as)) := Nat.le_max_right _ _
    have le1 : 1 ≤ max 1 (ups (es ++ as)) := Nat.le_max_left _ _
    rcases List.mem_cons.mp hy with rfl | hy
    · omega
    · have := z.2 y (List.mem_cons_of_mem _ hy)
      omega
theorem modB_le {es as : List Nat} {hi : Nat} (he : Rise hi es) (ha : Rise hi as) (h : 0 < hi) : modB es as ≤ hi := Nat.max_le.mpr ⟨h, ups_le fun n hn => by
  rcases List.mem_append.mp hn with z | z
  · exact he.lt n z
  · exact ha.lt n z⟩
end
end SwX
set_option Elab.async false
set_option linter.all false
set_option maxRecDepth 100000
set_option maxHeartbeats 4000000
/-! sets, plain: a law's least form -/
namespace SwX
open PySem PySem.Spec PyProof.Rows L2 Evl
section
variable {f : Nat → Bool} {b c h p : Nat}
theorem per_cong {x y : Nat} (e : EvP f p h) (hx : h ≤ x) (hy : h ≤ y) (z : x % p = y % p) : f x = f y := by
  rcases Nat.le_total x y with le | le
  · obtain ⟨k, hk⟩ := Nat.dvd_of_mod_eq_zero ((sub_mod0 le).mpr z)
    have := e.mul k x hx
    rw [← this]
    congr 1
    rw [Nat.mul_comm]
    omega
  · obtain ⟨k, hk⟩ := Nat.dvd_of_mod_eq_zero ((sub_mod0 le).mpr z.symm)
    have := e.mul k y hy
    rw [← this]
    congr 1
    rw [Nat.mul_comm]
    omega
/-- an index counted from b, by remainders -/
theorem idx_cong {a : Int} {m : Nat} (p0 : 0 < p) (ha : a % (p : Nat) = (m : Nat) % (p : Nat)) : ((a - (b : Nat)) % (p : Nat)).toNat < p ∧ (b + ((a - (b : Nat)) % (p : Nat)).toNat) % p = m % p ∧ (((a - (b : Nat)) % (p : Nat)).toNat : Int) = (a - (b : Nat)) % (p : Nat) := by
  have n0 := Int.emod_nonneg (a - (b : Nat)) (show ((p : Nat) : Int) ≠ 0 by omega)
  have n1 := Int.emod_lt_of_pos (a - (b : Nat)) (show (0 : Int) < (p : Nat) by omega)
  have e := Int.toNat_of_nonneg n0
  refine ⟨by omega, ?_, e⟩
  have z : (((b + ((a - (b : Nat)) % (p : Nat)).toNat) % p : Nat) : Int) = ((m % p : Nat) : Int) := by
    rw [Int.natCast_emod, Int.natCast_emod, Int.natCast_add, e, ← ha, Int.add_comm, Int.emod_add_emod]
    congr 1
    omega
  exact_mod_cast z
def cycL (f : Nat → Bool) (b c : Nat) : List Bool := (List.range c).map fun i => f (b + i)
def sizeB (f : Nat → Bool) (b c s : Nat) : Bool := decide (c % s = 0) && decide ((cycL f b c).drop s = (cycL f b c).take (c - s))
def lsz (f : Nat → Bool) (b c : Nat) : List Nat := ((List.range c).map (· + 1)).filter (sizeB f b c)
theorem drop_take {s : Nat} (hs : s ≤ c) : (cycL f b c).drop s = (cycL f b c).take (c - s) ↔ ∀ i, i < c - s → f (b + (s + i)) = f (b + i) := by
  unfold cycL
  constructor
  · intro h i hi
    have e := congrArg (fun l => l[i]?) h
    simp only [List.getElem?_drop, List.getElem?_take_of_lt hi, List.getElem?_map, List.getElem?_range (show s + i < c by omega), List.getElem?_range (show i < c by omega), Option.map_some] at e
    exact Option.some.inj e
  · intro h
    refine List.ext_getElem? fun i => ?_
    by_cases hi : i < c - s
    · rw [List.getElem?_drop, List.getElem?_take_of_lt hi, List.getElem?_map, List.getElem?_map, List.getElem?_range (by omega), List.getElem?_range (by omega)]
      exact congrArg some (h i hi)
    · rw [List.getElem?_eq_none (by simp; omega), List.getElem?_eq_none (by simp; omega)]
theorem sizeB_iff {s : Nat} (c0 : 0 < c) (e : EvP f c b) (s0 : 0 < s) (hs : s ≤ c) : sizeB f b c s = true ↔ c % s = 0 ∧ EvP f s b := by
  unfold sizeB
  rw [Bool.and_eq_true, decide_eq_true_eq, decide_eq_true_eq, drop_take hs]
  constructor
  · rintro ⟨d, h⟩
    refine ⟨d, ?_⟩
    have chain : ∀ k i, i + k * s < c → f (b + (i + k * s)) = f (b + i) := fun k => by
      induction k with
      | zero => intro i _; simp
      | succ k ih =>
        intro i hi
        have hk : i + (k + 1) * s = s + (i + k * s) := by rw [Nat.succ_mul]; omega
        rw [hk] at hi ⊢
        rw [h (i + k * s) (by omega)]
        exact ih i (by omega)
    -- the remainder tells
    have base : ∀ j, j < c → f (b + j) = f (b + j % s) := fun j hj => by
      have z := chain (j / s) (j % s) (by rw [Nat.mul_comm, Nat.mod_add_div]; exact hj)
      rwa [Nat.mul_comm, Nat.mod_add_div] at z
    intro n hn
    obtain ⟨i, rfl⟩ := Nat.exists_eq_add_of_le hn
    have r1 := e.mod (i := i) (Nat.le_refl b)
    have r2 := e.mod (i := i + s) (Nat.le_refl b)
    rw [Nat.add_assoc, ← r2, ← r1, base _ (Nat.mod_lt _ c0), base (i % c) (Nat.mod_lt _ c0)]
    congr 2
    rw [Nat.mod_mod_of_dvd _ (Nat.dvd_of_mod_eq_zero d), Nat.mod_mod_of_dvd _ (Nat.dvd_of_mod_eq_zero d), Nat.add_mod_right]
  · rintro ⟨d, h⟩
    refine ⟨d, fun i _ => ?_⟩
    rw [show b + (s + i) = b + i + s by omega]
    exact h _ (by omega)
/-- what Least tells of a set with the period c from b on -/
theorem Least.at_ (L : Least f h p) (c0 : 0 < c) (e : EvP f c b) : c % p = 0 ∧ p ≤ c ∧ h ≤ b ∧ EvP f p b := by
  obtain ⟨q, q0, qd, qc, qe, qm⟩ := least_div c0 e
  have ep : p = q := Nat.le_antisymm (L.minp q b q0 qe) (qm p h L.pos L.per)
  subst ep
  exact ⟨qd, qc, L.minh b qe, qe⟩
theorem lsz_head (L : Least f h p) (c0 : 0 < c) (e : EvP f c b) : ∃ l, lsz f b c = p :: l := by
  obtain ⟨d, pc, hb, pe⟩ := L.at_ c0 e
  have m : p ∈ lsz f b c := List.mem_filter.mpr ⟨List.mem_map.mpr ⟨p - 1, List.mem_range.mpr (by have := L.pos; omega), by have := L.pos; omega⟩, (sizeB_iff c0 e L.pos pc).mpr ⟨d, pe⟩⟩
  have asc : (lsz f b c).Pairwise (· < ·) := List.Pairwise.filter _ (List.pairwise_map.mpr (List.pairwise_lt_range.imp fun h => by omega))
  have all : ∀ q ∈ lsz f b c, p ≤ q := fun q hq => by
    obtain ⟨m1, m2⟩ := List.mem_filter.mp hq
    obtain ⟨j, hj, rfl⟩ := List.mem_map.mp m1
    have := List.mem_range.mp hj
    exact L.minp _ b (Nat.succ_pos j) ((sizeB_iff c0 e (Nat.succ_pos j) (by omega)).mp m2).2
  cases z : lsz f b c with
  | nil => rw [z] at m; cases m
  | cons a l =>
    rw [z] at m asc all
    have le := all a List.mem_cons_self
    rcases List.mem_cons.mp m with rfl | hm
    · exact ⟨l, rfl⟩
    · have := (List.pairwise_cons.mp asc).1 p hm
      omega
end
section
variable {K : PySem.W.Frag} {H : Hp} {σ : L2.St} {te : TE} {D : Ends} {tz : TS}
theorem q_asgNT {t : Addr} {x y : V} {i j : Nat} (h : Ev te σ H (.ref t)) (ht : SqT K H t [x, y]) (k : ∀ H1, Ex H H1 → tz D ((σ.set i (some x)).set j (some y)) H1) : tSeq (tAsg te (gTup K 2 (gCons (gName i) (gCons (gName j) gNil)))) tz D σ H :=
  h H (Ex.refl H) _ fun H1 e1 => ⟨t, _, rfl, ex_t e1 ht, rfl, x, [y], rfl, y, [], rfl, rfl, k H1 e1⟩
theorem da_bools (f : Nat → Bool) : ∀ l : List Nat, Paired (fun d v => Da K H v d) (l.map fun i => PyData.bool (f i)) (l.map fun i => V.bl (f i))
  | [] => .nil
  | n :: r => .cons (.bl _) (da_bools f r)
theorem da_bl : ∀ l : List Bool, Paired (fun d v => Da K H v d) (l.map PyData.bool) (l.map V.bl)
  | [] => .nil
  | n :: r => .cons (.bl _) (da_bl r)
theorem atm_bl (b : Bool) : Atm (.bool b) := ⟨rfl, Nat.le_refl _, rfl⟩
theorem eqvAll_bl : ∀ l m : List Bool, PyData.eqvAll (l.map PyData.bool) (m.map PyData.bool) = decide (l = m)
  | [], [] => by simp [PyData.eqvAll]
  | [], b :: m => by simp [PyData.eqvAll]
  | a :: l, [] => by simp [PyData.eqvAll]
  | a :: l, b :: m => by
    have e : PyData.eqv (.bool a) (.bool b) = decide (a = b) := by cases a <;> cases b <;> simp [PyData.eqv]
    simp only [List.map_cons, PyData.eqvAll, e, eqvAll_bl l m]
    rw [Bool.eq_iff_iff]
    simp
theorem cycV (f : Nat → Bool) (b c : Nat) : ((List.range c).map fun i => V.bl (f (b + i))) = (cycL f b c).map V.bl := by
  unfold cycL
  rw [List.map_map] <;> rfl
theorem get_bl {f : Nat → Bool} {n i : Nat} (h : i < n) : ((List.range n).map fun i => V.bl (f i))[i]? = some (.bl (f i)) := by rw [List.getElem?_map, List.getElem?_range h] <;> rfl
end
def spLeast : Sp := fun vs H Q _ => ∃ (v : V) (f : Nat → Bool) (b c h p : Nat), vs = [v] ∧ ModAt f b c v H ∧ b ≤ 4000 ∧ 0 < c ∧ c ≤ 4000 ∧ EvP f c b ∧ Least f h p ∧ ∀ v' H', Ex H H' → ModAt f h p v' H' → Q v' H'
end SwX
set_option Elab.async false
set_option linter.all false
set_option maxRecDepth 100000
set_option maxHeartbeats 4000000
/-! sets: what is due, what is shown -/
namespace SwX
open PySem PySem.Spec PyProof.Rows L2 Evl
/-! ### plain -/
def eM (f : Nat → Bool) (h : Nat) : List Nat := (List.range h).filter f
def lM (f : Nat → Bool) (h p : Nat) : List Nat := ((List.range p).filter fun i => f (h + i)).map fun i => h + i
def textF (f : Nat → Bool) (h p : Nat) : List Nat := textS (eM f h) (lM f h p) p
def wWord : List Nat := [87, 101, 105, 103, 104, 116, 115, 32]
def firstF (f : Nat → Bool) (h p : Nat) : Option Nat := (eM f h ++ lM f h p).head?
def dueF (f : Nat → Bool) (h p : Nat) : List PyData := [.int (h : Nat), .int (p : Nat), .str (SX.S (textF f h p)), .str (SX.S (wWord ++ textF f h p)), .bool (decide (lM f h p = [])), od ((firstF f h p).map fun n => ((n : Nat) : Int)), .bool (firstF f h p).isSome]
section
variable {f : Nat → Bool} {r : Rw} {h p : Nat}
theorem Flat.some_ (F : Flat f r) (w : Nat) : (r.at w).isSome = f w := by
  rw [F.at_]
  unfold zo
  cases f w <;> rfl
theorem Flat.early (F : Flat f r) (h : Nat) : memL r 0 h = eM f h := by
  unfold memL eM
  have e : (fun i => (r.at (0 + i)).isSome) = f := funext fun i => by rw [F.some_, Nat.zero_add]
  rw [e]
  simp
theorem Flat.late (F : Flat f r) (h p : Nat) : memL r h (h + p) = lM f h p := by
  unfold memL lM
  have e : (fun i => (r.at (h + i)).isSome) = fun i => f (h + i) := funext fun i => F.some_ _
  rw [e, Nat.add_sub_cancel_left]
theorem Flat.text (F : Flat f r) : textR r = textF f r.h r.c := by
  unfold textR textF
  rw [F.early, F.late]
theorem members_all (f : Nat → Bool) (h p : Nat) : (List.range (h + p)).filter f = eM f h ++ lM f h p := by
  unfold eM lM
  rw [List.range_add, List.filter_append, List.filter_map] <;> rfl
theorem Flat.first (F : Flat f r) : onw r 0 = firstF f r.h r.c := by
  unfold onw firstF
  rw [← members_all, List.head?_filter]
  have e : (fun i => (r.at i).isSome) = f := funext fun i => F.some_ _
  have e2 : ((List.range (max 0 r.h + r.c - 0)).map fun i => 0 + i) = List.range (r.h + r.c) := by
    rw [Nat.zero_max, Nat.sub_zero]
    simp
  rw [e, e2]
def shownD (r : Rw) : List PyData := [.int (r.h : Nat), .int (r.c : Nat), .str (SX.S (textR r)), .str (SX.S (reprS r)), .bool (isFin r), od (onI r 0), .bool (onw r 0).isSome]
theorem Flat.shown (F : Flat f r) : shownD r = dueF f r.h r.c := by
  unfold shownD dueF reprS isFin onI
  rw [F.text, F.first, F.late] <;> rfl
theorem textF_ok (le : h + p ≤ 1000) : (textF f h p).length ≤ 12000 ∧ ∀ c ∈ textF f h p, c < 1000 := by
  have se : ∀ n ∈ eM f h, n ≤ 9999 := fun n hn => by have := List.mem_range.mp (List.mem_filter.mp hn).1; omega
  have sl : ∀ n ∈ lM f h p, n ≤ 9999 := fun n hn => by
    obtain ⟨i, hi, rfl⟩ := List.mem_map.mp hn
    have := List.mem_range.mp (List.mem_filter.mp hi).1
    omega
  have ok := words_ok (p := p) se sl (by omega)
  have l1 : (eM f h).length ≤ h := Nat.le_trans (List.length_filter_le _ _) (by simp)
  have l2 : (lM f h p).length ≤ p := by unfold lM; rw [List.length_map]; exact Nat.le_trans (List.length_filter_le _ _) (by simp)
  have wl := words_len (eM f h) (lM f h p) p
  unfold textF textS
  split
  · exact ⟨by decide, by decide⟩
  · constructor
    · have := joinL_small (B := 10) (sep := [32]) fun x hx => (ok x hx).1
      have m : (10 + ([32] : List Nat).length) * (wordsS (eM f h) (lM f h p) p).length ≤ (10 + 1) * 1003 := Nat.mul_le_mul_left _ (by omega)
      omega
    · have key : ∀ l : List (List Nat), (∀ x ∈ l, ∀ c ∈ x, c < 1000) → ∀ c ∈ TL.joinL [32] l, c < 1000 := fun l => by
        induction l with
        | nil => intro _ c hc; cases hc
        | cons x l ih =>
          intro hl c hc
          cases l with
          | nil => exact hl x List.mem_cons_self c hc
          | cons y l =>
            have hc' : c ∈ x ++ ([32] ++ TL.joinL [32] (y :: l)) := hc
            rcases List.mem_append.mp hc' with z | z
            · exact hl x List.mem_cons_self c z
            · rcases List.mem_append.mp z with z | z
              · rw [List.mem_singleton.mp z]
                decide
              · exact ih (fun x hx => hl x (List.mem_cons_of_mem _ hx)) c z
      exact key _ fun x hx => (ok x hx).2
theorem lv_str {x : List Nat} (h : ∀ c ∈ x, c < 1000) : (PyData.str (SX.S x)).leavesShort 100 = true := by
  show ((SX.S x).cps.toList.all fun c => decide (c < 16 ^ 8)) = true
  rw [List.all_eq_true]
  exact fun c hc => decide_eq_true (Nat.lt_of_lt_of_le (h c hc) (by decide))
theorem firstF_lt {n : Nat} (h' : firstF f h p = some n) : n < h + p := by
  unfold firstF at h'
  rw [← members_all, List.head?_filter] at h'
  exact List.mem_range.mp (List.mem_of_find?_eq_some h')
theorem good_nat {n : Nat} (l : n ≤ 100000) : Good (.int (n : Nat)) 0 137 := good_int (i := (n : Int)) (by rw [Int.natAbs_natCast]; exact Nat.lt_of_le_of_lt l (by decide))
theorem good_first (le : h + p ≤ 1000) : Good (od ((firstF f h p).map fun n => ((n : Nat) : Int))) 0 137 := by
  cases e : firstF f h p with
  | none => exact ⟨rfl, Nat.le_refl _, rfl, Nat.zero_le _⟩
  | some n =>
    have := firstF_lt e
    exact good_nat (by omega)
theorem good_due (le : h + p ≤ 1000) : Good (.list (dueF f h p)) 2 30000 := by
  obtain ⟨tl, tc⟩ := textF_ok (f := f) le
  have g1 := good_nat (n := h) (by omega)
  have g2 := good_nat (n := p) (by omega)
  have g3 := good_first (f := f) le
  have wc : ∀ c ∈ wWord ++ textF f h p, c < 1000 := fun c hc => by
    rcases List.mem_append.mp hc with z | z
    · have : ∀ c ∈ wWord, c < 1000 := by decide
      exact this c z
    · exact tc c z
  have s1 : (PyData.str (SX.S (textF f h p))).weight ≤ 12000 := by
    show (SX.S (textF f h p)).cps.size ≤ 12000
    have := SX.S_len (textF f h p)
    exact Nat.le_trans (Nat.le_of_eq this) tl
  have s2 : (PyData.str (SX.S (wWord ++ textF f h p))).weight ≤ 12008 := by
    show (SX.S (wWord ++ textF f h p)).cps.size ≤ 12008
    have := SX.S_len (wWord ++ textF f h p)
    refine Nat.le_trans (Nat.le_of_eq this) ?_
    rw [List.length_append]
    have : wWord.length = 8 := rfl
    omega
  unfold dueF
  refine ⟨?_, ?_, ?_, ?_⟩
  · show PyData.showableAll _ = true
    have st : ∀ x : Str, (PyData.str x).showable = true := fun _ => rfl
    have bt : ∀ x : Bool, (PyData.bool x).showable = true := fun _ => rfl
    simp only [PyData.showableAll]
    rw [g1.sh, g2.sh, g3.sh, st, st, bt, bt] <;> rfl
  · have d1 := g1.dp
    have d2 := g2.dp
    have d3 := g3.dp
    simp only [PyData.depth, PyData.depthAll] at *
    omega
  · simp only [PyData.leavesShort, PyData.leavesShortAll] at *
    have l1 := g1.lv
    have l2 := g2.lv
    have l3 := g3.lv
    have l4 := lv_str tc
    have l5 := lv_str wc
    simp only [PyData.leavesShort] at l1 l2 l4 l5
    rw [l1, l2, l3, l4, l5] <;> rfl
  · have w1 := g1.wt
    have w2 := g2.wt
    have w3 := g3.wt
    have wb : ∀ b : Bool, (PyData.bool b).weight = 0 := fun _ => by simp only [PyData.weight]
    show PyData.weightAll _ ≤ 30000
    have b1 := wb (decide (lM f h p = []))
    have b2 := wb (firstF f h p).isSome
    simp only [PyData.weightAll]
    omega
end
/-! ### the class, as laws use it -/
structure SetO (P : Program) (w : World) (K : PySem.W.Frag) (mg : Str → Option Value) (base : Heap) (Cw Cr : Addr) : Prop where
  c : SetC K Cw Cr
  str : ∃ f fd, FnOk P w K mg base CX0 4 f fd ["self"] (spSetN K Cw Cr fun r => .str (SX.S (textR r))) ∧ Spc K Cw "__str__" f ∧ Binds K fd ["self"] []
  rep : ∃ f fd, FnOk P w K mg base CX0 4 f fd ["self"] (spSetN K Cw Cr fun r => .str (SX.S (reprS r))) ∧ Spc K Cw "__repr__" f ∧ Binds K fd ["self"] []
  tru : ∃ f fd, FnOk P w K mg base CX0 6 f fd ["self"] (spSetN K Cw Cr fun r => .bl (onw r 0).isSome) ∧ Spc K Cw "__bool__" f ∧ Binds K fd ["self"] []
  eq : ∃ f fd, FnOk P w K mg base CX0 2 f fd ["self", "other"] (spSetEq K Cw Cr) ∧ Spc K Cw "__eq__" f ∧ Binds K fd ["self", "other"] [] ∧ eqOnly K Cw f = true
section
variable {X : Cx} {Cw Cr : Addr} (K : PySem.W.Frag) (O : SetO X.prog X.w X.K X.mg X.base Cw Cr) (hr : Room 8 X.A) (h : X.K = K := by rfl)
include O hr h
theorem setStr : CallR X (.type "str") (rStrOwn Cw (spSetN K Cw Cr fun r => .str (SX.S (textR r))) E0) := by
  subst h
  obtain ⟨f, fd, F, s, b⟩ := O.str
  exact call_strOwn F s b pass0 ((hr.mono (show 6 ≤ 8 by decide)).in1.in1)
theorem setRepr : CallR X (.builtin "repr") (rReprOwn Cw (spSetN K Cw Cr fun r => .str (SX.S (reprS r)))) := by
  subst h
  obtain ⟨f, fd, F, s, b⟩ := O.rep
  exact call_reprOwn F s b ((hr.mono (show 5 ≤ 8 by decide)).in1)
theorem setBool : CallR X (.type "bool") (rBoolOwn Cw (spSetN K Cw Cr fun r => .bl (onw r 0).isSome) E0) := by
  subst h
  obtain ⟨f, fd, F, s, b⟩ := O.tru
  exact call_boolOwn F s b pass0 (hr.in1.in1)
theorem setEq : OpR X (compareOp .Eq) (rOwnB Cw (spSetEq K Cw Cr) E0 id) := by
  subst h
  obtain ⟨f, fd, F, s, b, _⟩ := O.eq
  exact op_eqOwn F s b pass0 (hr.mono (by decide))
theorem setNe : OpR X (compareOp .NotEq) (rOwnB Cw (spSetEq K Cw Cr) E0 not) := by
  subst h
  obtain ⟨f, fd, F, s, b, e⟩ := O.eq
  exact op_neOwn F e b pass0 ((hr.mono (show 3 ≤ 8 by decide)).in1)
end
section
variable {K : PySem.W.Frag} {Cw Cr : Addr} {H : Hp} {σ : L2.St} {te ta tb : TE} {v u : V} {r s : Rw} {B B' : Int}
theorem ev_setStr (h : Ev te σ H v) (hv : SetAt K Cw Cr r v H) (ok : RwOk B r) (le : r.h + r.c ≤ 1000) : Ev (tCB (rStrOwn Cw (spSetN K Cw Cr fun r => .str (SX.S (textR r))) E0) (tCons te tNil)) σ H (.str (SX.S (textR r))) := fun H1 e1 Q q => h H1 e1 _ fun H2 e2 => by
  have h2 := hv.mono (e1.trans e2)
  obtain ⟨a, rfl, i⟩ := h2.is
  exact ⟨a, rfl, i, .ref a, r, B, rfl, h2, ok, le, fun H3 e3 => ⟨_, rfl, q H3 (e2.trans e3)⟩⟩
theorem ev_setRepr (h : Ev te σ H v) (hv : SetAt K Cw Cr r v H) (ok : RwOk B r) (le : r.h + r.c ≤ 1000) : Ev (tCB (rReprOwn Cw (spSetN K Cw Cr fun r => .str (SX.S (reprS r)))) (tCons te tNil)) σ H (.str (SX.S (reprS r))) := fun H1 e1 Q q => h H1 e1 _ fun H2 e2 => by
  have h2 := hv.mono (e1.trans e2)
  obtain ⟨a, rfl, i⟩ := h2.is
  exact ⟨a, rfl, i, .ref a, r, B, rfl, h2, ok, le, fun H3 e3 => ⟨_, rfl, q H3 (e2.trans e3)⟩⟩
theorem ev_setBool (h : Ev te σ H v) (hv : SetAt K Cw Cr r v H) (ok : RwOk B r) (le : r.h + r.c ≤ 1000) : Ev (tCB (rBoolOwn Cw (spSetN K Cw Cr fun r => .bl (onw r 0).isSome) E0) (tCons te tNil)) σ H (.bl (onw r 0).isSome) := fun H1 e1 Q q => h H1 e1 _ fun H2 e2 => by
  have h2 := hv.mono (e1.trans e2)
  obtain ⟨a, rfl, i⟩ := h2.is
  exact ⟨a, rfl, i, .ref a, r, B, rfl, h2, ok, le, fun H3 e3 => ⟨_, rfl, q H3 (e2.trans e3)⟩⟩
theorem ev_setEq {g : Bool → Bool} (h1 : Ev ta σ H v) (h2 : Ev tb σ H u) (hv : SetAt K Cw Cr r v H) (hu : SetAt K Cw Cr s u H) (ok : RwOk B r) (ok' : RwOk B s) : Ev (tOp (rOwnB Cw (spSetEq K Cw Cr) E0 g) ta tb) σ H (.bl (g (decide (r = s)))) := fun H1 e1 Q q => h1 H1 e1 _ fun H2 e2 => h2 H2 (e1.trans e2) _ fun H3 e3 => by
  have v3 := hv.mono ((e1.trans e2).trans e3)
  have u3 := hu.mono ((e1.trans e2).trans e3)
  obtain ⟨a, rfl, i⟩ := v3.is
  obtain ⟨b, rfl, j⟩ := u3.is
  exact ⟨a, b, rfl, rfl, i, j, .ref a, .ref b, r, s, B, rfl, v3, u3, ok, ok', fun H4 e4 => ⟨_, rfl, q H4 ((e2.trans e3).trans e4)⟩⟩
theorem yi_least {f : Nat → Bool} {b c h p : Nat} (hv : ModAt f b c v H) (hb : b ≤ 4000) (c0 : 0 < c) (hc : c ≤ 4000) (e : EvP f c b) (L : Least f h p) (h1 : Ev te σ H v) : Yi (tCall spLeast [] E0 (tCons te tNil)) σ H (ModAt f h p) := fun H1 e1 Q q =>
  h1 H1 e1 _ fun H2 e2 => ⟨v, f, b, c, h, p, rfl, hv.mono (e1.trans e2), hb, c0, hc, e, L, fun v' H' e' m => q v' H' (e2.trans e') m⟩
/-- a pair of lists taken apart -/
theorem q_asgYT {f : Nat → Bool} {h p i j : Nat} {tz : TS} {D : Ends} (y : Yi te σ H (ModAt f h p)) (k : ∀ d1 d2 H1, Ex H H1 → H1 d1 = some (.lst ((List.range h).map fun i => .bl (f i))) → H1 d2 = some (.lst ((List.range p).map fun i => .bl (f (h + i)))) → tz D ((σ.set i (some (.ref d1))).set j (some (.ref d2))) H1) : tSeq (tAsg te (gTup K 2 (gCons (gName i) (gCons (gName j) gNil)))) tz D σ H :=
  y H (Ex.refl H) _ fun v H1 e1 z => by
    obtain ⟨t, d1, d2, rfl, h0, h1, h2⟩ := z
    exact ⟨t, _, rfl, .inl (.inl h0), rfl, _, _, rfl, _, _, rfl, rfl, k d1 d2 H1 e1 h1 h2⟩
theorem any_true (f : Nat → Bool) (h p : Nat) : (((List.range p).map fun i => PyData.bool (f (h + i))).any fun z => PyData.eqv z (.bool true)) = !decide (lM f h p = []) := by
  rw [Bool.eq_iff_iff, List.any_eq_true, Bool.not_eq_true', decide_eq_false_iff_not]
  constructor
  · rintro ⟨z, hz, e⟩
    obtain ⟨i, hi, rfl⟩ := List.mem_map.mp hz
    have fi : f (h + i) = true := by
      cases x : f (h + i) with
      | true => rfl
      | false => rw [x] at e; simp [PyData.eqv] at e
    exact List.ne_nil_of_mem (List.mem_map.mpr ⟨i, List.mem_filter.mpr ⟨hi, fi⟩, rfl⟩)
  · intro ne
    obtain ⟨n, hn⟩ := List.exists_mem_of_ne_nil _ ne
    obtain ⟨i, hi, rfl⟩ := List.mem_map.mp hn
    obtain ⟨h1, h2⟩ := List.mem_filter.mp hi
    exact ⟨_, List.mem_map.mpr ⟨i, h1, rfl⟩, by rw [h2]; simp [PyData.eqv]⟩
theorem eM_lt {f : Nat → Bool} {h n : Nat} (hn : n ∈ eM f h) : n < h := List.mem_range.mp (List.mem_filter.mp hn).1
theorem lM_lt {f : Nat → Bool} {h p n : Nat} (hn : n ∈ lM f h p) : h ≤ n ∧ n < h + p := by
  obtain ⟨i, hi, rfl⟩ := List.mem_map.mp hn
  have := List.mem_range.mp (List.mem_filter.mp hi).1
  omega
theorem eM_len (f : Nat → Bool) (h : Nat) : (eM f h).length ≤ h := Nat.le_trans (List.length_filter_le _ _) (by simp)
theorem lM_len (f : Nat → Bool) (h p : Nat) : (lM f h p).length ≤ p := by
  unfold lM
  rw [List.length_map]
  exact Nat.le_trans (List.length_filter_le _ _) (by simp)
/-- " ".join(words) if words != [] else "none" -/
theorem ev_words {te te' : TE} {ws : List (List Nat)} {es as : List Nat} {p : Nat} {D : Addr} (h1 : Ev te σ H (.ref D)) (h2 : Ev te' σ H (.ref D)) (hD : H D = some (.lst (ws.map fun x => .str (SX.S x)))) (ew : wordsS es as p = ws) (wl : ∀ x ∈ ws, WordOk x) (wn : ws.length ≤ 3000) :
    Ev (tIf (tTest (tOp (fun x y H Q => rNe x y H Q ∨ rEqDat K not x y H Q) te (tLst tNil))) (tM1 (rJoin K) (tC (.str (SX.S [32]))) te') (tC (.str (SX.S noneL)))) σ H (.str (SX.S (textS es as p))) := by
  refine ev_if (b := !decide (ws = [])) (et_B (ev_opL h1 (el_lst ea_nil (by simp)) fun u H5 hu e5 => rv_neDat (d := .list (ws.map fun x => .str (SX.S x))) (e := .list []) (da_list (e5 _ _ hD) (da_strs ws)) (da_list hu .nil) (pl_atmL fun x hx => atm_word (wl x hx)) ⟨rfl, by decide⟩ (by rw [eqv_nilL, Bool.eq_iff_iff, decide_eq_true_eq, decide_eq_true_eq, List.map_eq_nil_iff]))) (fun z => ?_) fun z => ?_
  · have e : textS es as p = TL.joinL [32] ws := by unfold textS; rw [ew, if_neg (by simpa using z)]
    rw [e]
    exact ev_joinW (B := 10) ev_c h2 (.inl (sq_of (by rw [hD, List.map_map] <;> rfl))) (fun x hx => (wl x hx).1) ⟨by decide, by omega, by decide⟩
  · have e : textS es as p = noneL := by unfold textS; rw [ew, if_pos (by simpa using z)]
    rw [e]
    exact ev_c
theorem el_addV {p : Addr} {xs ys : List V} (h1 : Ev ta σ H (.ref p)) (hp : H p = some (.lst xs)) (h2 : EvL tb σ H ys) (l : xs.length + ys.length ≤ 100000) : EvL (tOp (rAddX K) ta tb) σ H (xs ++ ys) := fun H1 e1 Q q =>
  h1 H1 e1 _ fun H2 e2 => h2 H2 (e1.trans e2) _ fun p' H3 _ e3 hp' => .inr (.inl ⟨p, p', xs, ys, rfl, rfl, e3 _ _ (e2 _ _ (e1 _ _ hp)), hp', sz_of l, fun c hc => q c _ (fresh_back (e2.trans e3) hc) ((e2.trans e3).trans (Ex.new hc)) upd_same⟩)
end
end SwX
set_option Elab.async false
set_option linter.all false
set_option maxRecDepth 100000
set_option maxHeartbeats 4000000
/-! sets: lists that draw; a set written otherwise; the form of what is made -/
namespace SwX
open PySem PySem.Spec PyProof.Rows L2 Evl
section
variable {K : PySem.W.Frag} {σ : L2.St} {G H : Hp} {a : Addr} {te ta tb tl : TE} {v : V} {P : V → Prop} {R R' : List V → Prop} {D : Ends} {tz : TS} {t : TT} {xs : List V} {w : World}
/-- a new list; it may draw -/
def DrLs (a : Addr) (te : TE) (σ : L2.St) (G : Hp) (R : List V → Prop) : Prop := ∀ H1, Ex G H1 → Pur H1 a → ∀ Q : VK, (∀ l zs H2, R zs → H2 l = some (.lst zs) → l ≠ a → Ex G H2 → Pur H2 a → Q (.ref l) H2) → te σ H1 Q
theorem drs_ev (h : EvL te σ G xs) (r : R xs) : DrLs a te σ G R := fun H1 e p Q q => h H1 e _ fun l H2 hl e2 h2 => q l xs H2 r h2 (p.ne hl) (e.trans e2) (p.keep e2)
theorem drs_if {B : Bool → Prop} (h : DrT a t σ G B) (h1 : B true → DrLs a ta σ G R) (h2 : B false → DrLs a tb σ G R) : DrLs a (tIf t ta tb) σ G R := fun H1 e p Q q => h H1 e p _ fun b H2 r e2 p2 => by
  cases b with
  | true =>
    show ta σ H2 Q
    exact h1 r H2 e2 p2 Q q
  | false =>
    show tb σ H2 Q
    exact h2 r H2 e2 p2 Q q
theorem drs_cat {M : Addr} (hx : Ev ta σ G (.ref M)) (hM : G M = some (.lst xs)) (h : DrLs a tb σ G R) (l : ∀ ys, R ys → xs.length + ys.length ≤ 100000 ∧ R' (xs ++ ys)) : DrLs a (tOp (rAddX K) ta tb) σ G R' := fun H1 e p Q q =>
  hx H1 e _ fun H2 e2 => h H2 (e.trans e2) (p.keep e2) _ fun l' ys H3 r h3 _ e3 p3 => .inr (.inl ⟨M, l', xs, ys, rfl, rfl, e3 _ _ hM, h3, sz_of (l ys r).1, fun c hc => q c _ _ (l ys r).2 upd_same (p3.ne hc) (e3.trans (Ex.new hc)) (pur_new p3 hc)⟩)
theorem q_asgDrs {i : Nat} (h : DrLs a te σ G R) (e : Ex G H) (p : Pur H a) (k : ∀ l zs H1, R zs → H1 l = some (.lst zs) → l ≠ a → Ex G H1 → Pur H1 a → tz D (σ.set i (some (.ref l))) H1) : tSeq (tAsg te (gName i)) tz D σ H := h H e p _ k
theorem dt_or {u : TT} {B B1 B2 : Bool → Prop} (h1 : DrT a t σ G B1) (h2 : B1 false → DrT a u σ G B2) (f : B1 true → B true) (g : ∀ b, B1 false → B2 b → B b) : DrT a (tOr t u) σ G B := fun H1 e p Q q => h1 H1 e p _ fun b H2 r e2 p2 => by
  cases b with
  | false =>
    show u σ H2 Q
    exact h2 r H2 e2 p2 Q fun b H3 r' e3 p3 => q b H3 (g b r r') e3 p3
  | true =>
    show Q true H2
    exact q true H2 (f r) e2 p2
/-- [te for x in a tuple], te draws -/
theorem drs_lcT {j : Nat} {vs : List Nat} {s : Addr} (n : G a = none) (h0 : Ev tl σ G (.ref s)) (hx : SqT K G s xs) (hm : xs.length ≤ 1000) (hw : ∀ x, wipe ((wipe σ vs).set j (some x)) vs = wipe σ vs)
    (he : ∀ x G', G' a = none → Ex G G' → x ∈ xs → Dr a te ((wipe σ vs).set j (some x)) G' P) : DrLs a (tLc (iTup K tl) (gName j) tYes te vs) σ G fun zs => zs.length = xs.length ∧ ∀ z ∈ zs, P z := fun H1 e1 p1 Q q =>
  h0 H1 e1 _ fun H2 e2 => ⟨s, rfl, ⟨xs, ex_t (e1.trans e2) hx⟩, fun D' hD => by
    have p2 := p1.keep e2
    have ne := p2.ne hD
    refine lc_tup (xs := xs) (fun i H' => ∃ acc, H' D' = some (.lst acc) ∧ acc.length = i ∧ (∀ x ∈ acc, P x) ∧ Ex G H' ∧ Pur H' a) ⟨[], upd_same, rfl, (fun _ h => nomatch h), (e1.trans e2).trans (Ex.new hD), pur_new p2 hD⟩ (fun i H' _ z => ?_) (fun i x H' hi z => ⟨hw _, ?_⟩) fun H' z => ?_
    · obtain ⟨acc, _, _, _, ea, _⟩ := z
      exact ex_t ea hx
    · obtain ⟨acc, ha, la, pa, ea, pu⟩ := z
      have lt : i < xs.length := (List.getElem?_eq_some_iff.mp hi).1
      show te ((wipe σ vs).set j (some x)) H' fun y H4 => ∃ acc, H4 D' = some (.lst acc) ∧ acc.length < sizeLine ∧ ∃ acc', upd H4 D' (.lst (acc ++ [y])) D' = some (.lst acc') ∧ acc'.length = i + 1 ∧ (∀ x ∈ acc', P x) ∧ Ex G (upd H4 D' (.lst (acc ++ [y]))) ∧ Pur (upd H4 D' (.lst (acc ++ [y]))) a
      refine he _ (less a H') less_at (ex_less n ea) (List.mem_of_getElem? hi) H' less_ex pu _ fun y H4 py e4 p4 => ?_
      refine ⟨acc, e4 _ _ (by rw [less_ne ne]; exact ha), sz_lt (by omega), _, upd_same, by simp [la], fun x hx => ?_, ?_, ?_⟩
      · rcases List.mem_append.mp hx with hx | hx
        · exact pa x hx
        · rw [List.mem_singleton.mp hx]
          exact py
      · intro b o hb
        by_cases z : b = D'
        · subst z
          have := (e1.trans e2) _ _ hb
          rw [hD] at this
          cases this
        · rw [upd_ne z]
          exact e4 _ _ (by rw [less_ne (fun w => by rw [w, n] at hb; cases hb)]; exact ea _ _ hb)
      · obtain ⟨x, y', z, e, r⟩ := p4
        exact ⟨x, y', z, by rw [upd_ne (Ne.symm ne)]; exact e, r⟩
    · obtain ⟨acc, ha, la, pa, ea, pu⟩ := z
      exact q D' acc H' ⟨la, pa⟩ ha ne ea pu⟩
/-- tuple(sorted(set(a list))) -/
theorem yi_sortedV {M : Addr} {ms : List Nat} (hx : Ev te σ H (.ref M)) (hM : H M = some (.lst (ms.map natV))) (few : ms.length < 64) : Yi (tCB (rTupOf K) (tCons (tCB (rSortedSet w) (tCons (tCB (rSetOfL K w) (tCons te tNil)) tNil)) tNil)) σ H fun v H' => ∃ (q : Addr) (ns : List Nat), v = .ref q ∧ H' q = some (.tup (ns.map natV)) ∧ ns.Pairwise (· < ·) ∧ ∀ x, x ∈ ns ↔ x ∈ ms := fun H1 e1 Q k =>
  hx H1 e1 _ fun H2 e2 => by
    have hm := e2 _ _ (e1 _ _ hM)
    rw [natv_int] at hm
    refine ⟨M, _, rfl, sq_of hm, by rw [List.length_map]; omega, fun c n hc hn => ?_⟩
    rw [List.length_map] at hn
    refine ⟨c, _, n, rfl, upd_same, by omega, fun out q asc mem len hq => ?_⟩
    obtain ⟨ns, rfl⟩ := ints_nat (ns := out) fun n hn => by
      have := (mem n).mp hn
      simp only [decide_eq_true_eq, List.mem_map] at this
      obtain ⟨m, _, rfl⟩ := this
      omega
    refine ⟨q, _, rfl, .inl ⟨.inl (.inl upd_same), fun u hu => ?_⟩⟩
    refine k (.ref u) _ (((e2.trans (Ex.new hc)).trans (Ex.new hq)).trans (Ex.new hu)) ⟨u, ns, rfl, by rw [upd_same, List.map_map] <;> rfl, (List.pairwise_map.mp asc).imp fun h => by omega, fun x => ?_⟩
    have z := mem ((x : Nat) : Int)
    simp only [decide_eq_true_eq, List.mem_map] at z
    constructor
    · intro h
      obtain ⟨m, hm, e⟩ := z.mp ⟨x, h, rfl⟩
      obtain rfl : m = x := by omega
      exact hm
    · intro h
      obtain ⟨m, hm, e⟩ := z.mpr ⟨x, h, rfl⟩
      obtain rfl : m = x := by omega
      exact hm
theorem ys_YYE {t1 t2 t3 : TE} {F1 F2 : V → Hp → Prop} {x : V} (h1 : Yi t1 σ H F1) (h2 : Yi t2 σ H F2) (h3 : Ev t3 σ H x) (m1 : ∀ v H H', Ex H H' → F1 v H → F1 v H') (m2 : ∀ v H H', Ex H H' → F2 v H → F2 v H') : Ys (tCons t1 (tCons t2 (tCons t3 tNil))) σ H fun vs H' => ∃ v1 v2, vs = [v1, v2, x] ∧ F1 v1 H' ∧ F2 v2 H' := fun H6 e6 Q q =>
  h1 H6 e6 _ fun v1 H7 e7 f1 => h2 H7 (e6.trans e7) _ fun v2 H8 e8 f2 => h3 H8 ((e6.trans e7).trans e8) _ fun H9 e9 => q [v1, v2, x] H9 ((e7.trans e8).trans e9) ⟨v1, v2, rfl, m1 _ _ _ (e8.trans e9) f1, m2 _ _ _ e9 f2⟩
theorem ys_LLn {t1 t2 : TE} {xs ys : List V} (h1 : EvL t1 σ H xs) (h2 : EvL t2 σ H ys) (pu : Pur H a) : Ys (tCons t1 (tCons t2 tNil)) σ H fun vs H' => ∃ d1 d2 : Addr, vs = [.ref d1, .ref d2] ∧ d1 ≠ a ∧ d2 ≠ a ∧ H' d1 = some (.lst xs) ∧ H' d2 = some (.lst ys) := fun H6 e6 Q' q' =>
  h1 H6 e6 _ fun d1 H7 n7 e7 g1 => h2 H7 (e6.trans e7) _ fun d2 H8 n8 e8 g2 => q' [.ref d1, .ref d2] H8 (e7.trans e8) ⟨d1, d2, rfl, (pu.keep e6).ne n7, (pu.keep (e6.trans e7)).ne n8, e8 _ _ g1, g2⟩
theorem s_retLstY {ta : TA} {F : List V → Hp → Prop} (h : Ys ta σ H F) (m : ∀ l H H', Ex H H' → F l H → F l H') (n : ∀ l H, F l H → l.length ≤ 1000) (k : ∀ l u H1, Ex H H1 → F l H1 → H1 u = some (.lst l) → D.rt (.ref u) H1) : tRet (tLst ta) D σ H :=
  h H (Ex.refl H) _ fun l H1 e1 z => ⟨sz_of (Nat.le_trans (n l H1 z) (by decide)), fun u hu => k l u _ (e1.trans (Ex.new hu)) (m l _ _ (Ex.new hu) z) upd_same⟩
theorem bls_of : ∀ {zs : List V}, (∀ z ∈ zs, ∃ b, z = .bl b) → ∃ bs : List Bool, zs = bs.map V.bl
  | [], _ => ⟨[], rfl⟩
  | z :: zs, h => by
    obtain ⟨bs, e⟩ := bls_of (zs := zs) fun y hy => h y (List.mem_cons_of_mem _ hy)
    obtain ⟨b, rfl⟩ := h z List.mem_cons_self
    exact ⟨b :: bs, by rw [e] <;> rfl⟩
end
/-! ### plain: a set written otherwise -/
theorem inSet_iff {es as : List Nat} {n w : Nat} : inSet es as n w = true ↔ w ∈ es ∨ ∃ s ∈ as, s ≤ w ∧ (w - s) % n = 0 := by
  unfold inSet
  simp [List.any_eq_true]
/-- members and starts after i of the starts -/
structure Othr (es as : List Nat) (n m : Nat) (lt : List Bool) (ms ss : List Nat) (i : Nat) : Prop where
  m1 : ∀ x ∈ ms, x ∈ es ∨ x ∈ as
  m2 : ∀ x ∈ es, x ∈ ms
  m3 : ∀ j s, j < i → as[j]? = some s → lt[j]? = some true → s ∈ ms
  s1 : ∀ x, x ∈ ss ↔ ∃ j s b k, j < i ∧ as[j]? = some s ∧ lt[j]? = some b ∧ k < m ∧ x = s + (if b = true then n else 0) + k * n
  ml : ms.length ≤ es.length + i
  sl : ss.length = i * m
theorem Othr.init (es as : List Nat) (n m : Nat) (lt : List Bool) : Othr es as n m lt es [] 0 := ⟨fun x h => .inl h, fun x h => h, fun j s h => absurd h (Nat.not_lt_zero j), fun x => ⟨fun h => (nomatch h), fun ⟨j, s, b, k, h, _⟩ => absurd h (Nat.not_lt_zero j)⟩, Nat.le_refl _, by simp⟩
theorem Othr.step {es as : List Nat} {n m : Nat} {lt : List Bool} {ms ss ys : List Nat} {i s : Nat} {b : Bool} (h : Othr es as n m lt ms ss i) (hs : as[i]? = some s) (hb : lt[i]? = some b) (hy : ys = [s] ∨ ys = []) (bt : b = true → ys = [s]) :
    Othr es as n m lt (ms ++ ys) (ss ++ (List.range m).map fun k => s + (if b = true then n else 0) + k * n) (i + 1) := by
  refine ⟨fun x hx => ?_, fun x hx => List.mem_append_left _ (h.m2 x hx), fun j s' hj hs' hl => ?_, fun x => ?_, ?_, ?_⟩
  · rcases List.mem_append.mp hx with hx | hx
    · exact h.m1 x hx
    · rcases hy with rfl | rfl
      · rw [List.mem_singleton.mp hx]
        exact .inr (List.mem_of_getElem? hs)
      · cases hx
  · rcases Nat.lt_succ_iff_lt_or_eq.mp hj with lt | rfl
    · exact List.mem_append_left _ (h.m3 j s' lt hs' hl)
    · rw [hs] at hs'
      rw [hb] at hl
      obtain rfl := Option.some.inj hs'
      rw [bt (Option.some.inj hl)]
      simp
  · rw [List.mem_append, h.s1, List.mem_map]
    constructor
    · rintro (⟨j, s', b', k, hj, r⟩ | ⟨k, hk, rfl⟩)
      · exact ⟨j, s', b', k, by omega, r⟩
      · exact ⟨i, s, b, k, Nat.lt_succ_self i, hs, hb, List.mem_range.mp hk, rfl⟩
    · rintro ⟨j, s', b', k, hj, hs', hb', hk, rfl⟩
      rcases Nat.lt_succ_iff_lt_or_eq.mp hj with lt | rfl
      · exact .inl ⟨j, s', b', k, lt, hs', hb', hk, rfl⟩
      · rw [hs] at hs'
        rw [hb] at hb'
        obtain rfl := Option.some.inj hs'
        obtain rfl := Option.some.inj hb'
        exact .inr ⟨k, List.mem_range.mpr hk, rfl⟩
  · rw [List.length_append]
    have := h.ml
    rcases hy with rfl | rfl
    · simp only [List.length_cons, List.length_nil]
      omega
    · simp only [List.length_nil]
      omega
  · rw [List.length_append, h.sl, List.length_map, List.length_range, Nat.succ_mul]
theorem Othr.same {es as es' as' : List Nat} {n m : Nat} {lt : List Bool} {ms ss : List Nat} (h : Othr es as n m lt ms ss as.length) (ll : lt.length = as.length) (m0 : 0 < m) (em : ∀ x, x ∈ es' ↔ x ∈ ms) (ea : ∀ x, x ∈ as' ↔ x ∈ ss) (w : Nat) : inSet es' as' (m * n) w = inSet es as n w := by
  rw [Bool.eq_iff_iff, inSet_iff, inSet_iff]
  constructor
  · rintro (hw | ⟨s', hs', le, z⟩)
    · rcases h.m1 w ((em w).mp hw) with h1 | h1
      · exact .inl h1
      · exact .inr ⟨w, h1, Nat.le_refl w, by rw [Nat.sub_self, Nat.zero_mod]⟩
    · obtain ⟨j, s, b, k, hj, hs, hb, hk, rfl⟩ := (h.s1 s').mp ((ea s').mp hs')
      obtain ⟨q, hq⟩ := Nat.dvd_of_mod_eq_zero z
      refine .inr ⟨s, List.mem_of_getElem? hs, by omega, ?_⟩
      have e : w - s = ((if b = true then 1 else 0) + k + m * q) * n := by
        have e1 : m * n * q = m * q * n := by rw [Nat.mul_assoc, Nat.mul_comm n q, ← Nat.mul_assoc]
        rw [Nat.add_mul, Nat.add_mul]
        rw [e1] at hq
        cases b
        · simp only [Bool.false_eq_true, if_false] at hq le ⊢
          omega
        · simp only [if_true] at hq le ⊢
          omega
      rw [e, Nat.mul_mod_left]
  · rintro (hw | ⟨s, hs, le, z⟩)
    · exact .inl ((em w).mpr (h.m2 w hw))
    · obtain ⟨j, hs⟩ := List.getElem?_of_mem hs
      have jl : j < as.length := (List.getElem?_eq_some_iff.mp hs).1
      obtain ⟨b, hb⟩ : ∃ b, lt[j]? = some b := ⟨lt[j]'(by omega), List.getElem?_eq_getElem (by omega)⟩
      obtain ⟨q, hq⟩ := Nat.dvd_of_mod_eq_zero z
      have key : ∀ c q' : Nat, w - s = (c + q') * n → (c = if b = true then 1 else 0) → inSet es' as' (m * n) w = true := by
        intro c q' e hc
        have dm := Nat.div_add_mod q' m
        have lm := Nat.mod_lt q' m0
        have e2 : (c + q') * n = c * n + (m * (q' / m)) * n + (q' % m) * n := by rw [← Nat.add_mul, ← Nat.add_mul, Nat.add_assoc, dm]
        have ec : c * n = if b = true then n else 0 := by subst hc; cases b <;> simp
        refine inSet_iff.mpr (.inr ⟨s + (if b = true then n else 0) + (q' % m) * n, (ea _).mpr ((h.s1 _).mpr ⟨j, s, b, q' % m, jl, hs, hb, lm, rfl⟩), ?_, ?_⟩)
        · rw [← ec]
          omega
        · have : w - (s + (if b = true then n else 0) + q' % m * n) = m * n * (q' / m) := by
            rw [← ec, show m * n * (q' / m) = m * (q' / m) * n by rw [Nat.mul_assoc, Nat.mul_comm n, ← Nat.mul_assoc]]
            omega
          rw [this, Nat.mul_mod_right]
      cases b with
      | false => exact inSet_iff.mp (key 0 q (by rw [Nat.zero_add, hq, Nat.mul_comm]) rfl)
      | true =>
        cases q with
        | zero =>
          have : w = s := by omega
          subst this
          exact .inl ((em w).mpr (h.m3 j w jl hs hb))
        | succ q => exact inSet_iff.mp (key 1 q (by rw [hq, Nat.mul_comm, Nat.add_comm 1]) rfl)
/-! ### what is made is the least form -/
theorem inSet_per {es as : List Nat} {n : Nat} : EvP (inSet es as n) n (ups (es ++ as)) := fun w hw => by
  rw [Bool.eq_iff_iff, inSet_iff, inSet_iff]
  have no : ∀ x, ups (es ++ as) ≤ x → ¬ x ∈ es := fun x hx h => by
    have := ups_lt (List.mem_append_left as h)
    omega
  constructor
  · rintro (h | ⟨s, hs, le, z⟩)
    · exact absurd h (no _ (by omega))
    · have := ups_lt (List.mem_append_right es hs)
      refine .inr ⟨s, hs, by omega, ?_⟩
      rw [show w + n - s = w - s + n by omega, Nat.add_mod_right] at z
      exact z
  · rintro (h | ⟨s, hs, le, z⟩)
    · exact absurd h (no _ hw)
    · refine .inr ⟨s, hs, by omega, ?_⟩
      rw [show w + n - s = w - s + n by omega, Nat.add_mod_right]
      exact z
theorem row_flat {es as : List Nat} {n : Nat} (me : MemOk es) (ma : MemOk as) (h0 : 0 < n) (h1 : n ≤ 1000) : Flat (inSet es as n) (rowR es as n) := by
  refine flat_mk (h := ups (es ++ as)) (p := n) (rowR_ok me ma h0 h1) ?_ ?_ (fun i hi => ?_) (fun i hi => ?_) inSet_per
  · unfold rowR flatR Rw.h
    simp
  · unfold rowR flatR Rw.c
    simp
  · show Ol.g ((List.range (ups (es ++ as))).map (told es as n)) i = _
    rw [g_map hi] <;> rfl
  · show Ol.g ((List.range n).map fun i => told es as n (ups (es ++ as) + i)) i = _
    rw [g_map hi] <;> rfl
theorem setR_flat {es as : List Nat} {n : Nat} (me : MemOk es) (ma : MemOk as) (h0 : 0 < n) (h1 : n ≤ 1000) : Flat (inSet es as n) (setR es as n) ∧ Least (inSet es as n) (setR es as n).h (setR es as n).c := (row_flat me ma h0 h1).lf.1.lf
theorem setR_le {es as : List Nat} {n : Nat} (me : MemOk es) (ma : MemOk as) (h0 : 0 < n) (h1 : n ≤ 1000) : (setR es as n).h ≤ ups (es ++ as) ∧ (setR es as n).c ≤ n := by
  obtain ⟨F, L⟩ := setR_flat me ma h0 h1
  obtain ⟨pd, pc, hb, pe⟩ := L.at_ h0 (inSet_per (es := es) (as := as) (n := n))
  exact ⟨hb, pc⟩
theorem setR_same {es as es' as' : List Nat} {n n' : Nat} (me : MemOk es) (ma : MemOk as) (h0 : 0 < n) (h1 : n ≤ 1000) (me' : MemOk es') (ma' : MemOk as') (h0' : 0 < n') (h1' : n' ≤ 1000) (e : ∀ w, inSet es' as' n' w = inSet es as n w) : setR es' as' n' = setR es as n := by
  obtain ⟨F, L⟩ := setR_flat me ma h0 h1
  obtain ⟨F', L'⟩ := setR_flat me' ma' h0' h1'
  have e' : inSet es' as' n' = inSet es as n := funext e
  rw [e'] at F' L'
  exact row_ext F' F L' L
theorem Rise.mem {hi : Nat} {l : List Nat} (h : Rise hi l) (le : hi ≤ 1000) : MemOk l := ⟨h.asc, fun n hn => by have := h.lt n hn; omega⟩
/-! ### a set made in a law -/
/-- the class is made with all its arguments; it may let an exception out -/
structure HasNE (P : Program) (w : World) (K : PySem.W.Frag) (mg : Str → Option Value) (base : Heap) (x : Str) (C : Addr) (k : Nat) (ps : List Str) (sp : Sp) : Prop where
  g : mg x = some (.ref C)
  ex : ∃ f fd, Mk K C f ∧ FnOk P w K mg base (L2.CX P w) k f fd ps sp ∧ Binds K fd ps []
section
variable {X : Cx} {k : Nat} {C : Addr} {m x : Str} {ps : List Str} {sp : Sp} {e : Expr} {es : List Expr} {t : TA} {p pos : Pos} {E : XK}
theorem pe_hnE (D : HasNE X.prog X.w X.K X.mg X.base x C k ps sp) (hr : Room (k + 1) X.A) (hx : Passes (L2.CX X.prog X.w) X E) (ha : PA X (e :: es) t) (hg : Gl X x := by rfl) (hdb : (x == ("__debug__" : Str)) = false := by decide)
    (he : starEach (e :: es) X.env = (false, eval e X.env) :: starEach es X.env := by rfl) (hpl : (backTo pos (starEach es X.env)).any (·.1) = false := by rfl) : PE X (.Call (.Name x p) (e :: es) [] pos) (tMake C sp [] E t) := by
  obtain ⟨f, fd, M, F, b⟩ := D.ex
  exact pe_make M F hr hg D.g b .nil hx ha hdb he hpl
end
theorem natD_inj : ∀ {l m : List Nat}, natD l = natD m → l = m := by
  intro l m h
  have h := PyData.tuple.inj h
  induction l generalizing m with
  | nil => cases m with
    | nil => rfl
    | cons b m => cases h
  | cons a l ih => cases m with
    | nil => cases h
    | cons b m =>
      rw [List.map_cons, List.map_cons] at h
      obtain ⟨h1, h2⟩ := List.cons.inj h
      have h1 := PyData.int.inj h1
      obtain rfl : a = b := by omega
      rw [ih (congrArg PyData.tuple h2) h2]
section
variable {K : PySem.W.Frag} {σ : L2.St} {G H : Hp} {a Cw Cr C0 C10 C14 : Addr} {te ta tb : TE} {t : TA} {v : V} {P P1 P2 : V → Prop} {D : Ends} {tz : TS} {es as : List Nat} {n : Nat}
theorem yi_set (h : Ys t σ H fun vs H' => ∃ p q : Addr, vs = [.ref p, .ref q, natV n] ∧ SqT K H' p (es.map natV) ∧ SqT K H' q (as.map natV)) (me : MemOk es) (ma : MemOk as) (n0 : 0 < n) (n1 : n ≤ 1000) (le : (setR es as n).h + (setR es as n).c ≤ 1000) :
    Yi (tMake Cw (spWInit K Cw Cr C0 C10 C14) [] E0 t) σ H (SetAt K Cw Cr (setR es as n)) := fun H1 e1 Q q =>
  h H1 e1 _ fun vs H2 e2 z x dx hx hdx ne => by
    obtain ⟨p, t, rfl, s1, s2⟩ := z
    have b := made_ex (C := Cw) hx hdx
    refine ⟨x, dx, .ref p, .ref t, natV n, natD es, natD as, .int (n : Nat), rfl, upd_same, (da_tuple s1 (da_nats _)).mono b, (da_tuple s2 (da_nats _)).mono b, .int _, fun r hr => ?_, fun _ r hr => ?_, fun _ _ hb => ?_, fun es' as' n' h1 h2 h3 me' ma' n0' n1' => ?_⟩
    · rw [chkM_nat me] at hr
      cases hr
    · rw [chkM_nat ma] at hr
      cases hr
    · simp only [btwO] at hb
      have z : (decide ((1 : Int) ≤ (n : Nat)) && decide (((n : Nat) : Int) ≤ 1000)) = true := by
        rw [Bool.and_eq_true, decide_eq_true_eq, decide_eq_true_eq]
        omega
      rw [z] at hb
      cases hb
    · obtain rfl := natD_inj h1
      obtain rfl := natD_inj h2
      obtain rfl : n = n' := by
        have := PyData.int.inj h3
        omega
      exact ⟨fun lt => absurd lt (by omega), fun _ H' e' sa => ⟨rfl, q (.ref x) H' (e2.trans (b.trans e')) sa⟩⟩
theorem ys_ea {vs : List V} {F : List V → Hp → Prop} (h : EvA t σ H vs) (f : ∀ H', Ex H H' → F vs H') : Ys t σ H F := fun H1 e1 Q q => h H1 e1 _ fun H2 e2 => q vs H2 e2 (f H2 (e1.trans e2))
theorem ys_YY {F1 F2 : V → Hp → Prop} (h1 : Yi ta σ H F1) (h2 : Yi tb σ H F2) (m1 : ∀ v H H', Ex H H' → F1 v H → F1 v H') : Ys (tCons ta (tCons tb tNil)) σ H fun vs H' => ∃ v1 v2, vs = [v1, v2] ∧ F1 v1 H' ∧ F2 v2 H' := fun H6 e6 Q q =>
  h1 H6 e6 _ fun v1 H7 e7 f1 => h2 H7 (e6.trans e7) _ fun v2 H8 e8 f2 => q [v1, v2] H8 (e7.trans e8) ⟨v1, v2, rfl, m1 _ _ _ e8 f1, f2⟩
theorem q_parDr {i j : Nat} (h1 : Dr a ta σ G P1) (h2 : Dr a tb σ G P2) (e : Ex G H) (p : Pur H a) (k : ∀ v w H1, P1 v → P2 w → Ex G H1 → Pur H1 a → tz D ((σ.set i (some v)).set j (some w)) H1) : tSeq (tPar i j (tCons ta (tCons tb tNil))) tz D σ H :=
  h1 H e p _ fun v H1 pv e1 p1 => h2 H1 e1 p1 _ fun w H2 pw e2 p2 => ⟨v, w, rfl, k v w H2 pv pw e2 p2⟩
theorem dr_pickK {xs : List V} (n : G a = none) (ha : EvL ta σ G xs) (hb : ∀ G', G' a = none → Ex G G' → Dr a tb σ G' fun v => ∃ k, v = .int k ∧ 0 ≤ k ∧ k < xs.length) : Dr a (tOp (rIx K) ta tb) σ G fun v => v ∈ xs := fun H1 e p Q q =>
  ha H1 e _ fun l H2 hl e2 h2 => by
    have ne := p.ne hl
    refine hb (less a H2) less_at (ex_less n (e.trans e2)) H2 less_ex (p.keep e2) _ fun k H3 pk e3 p3 => ?_
    obtain ⟨k, rfl, k0, k1⟩ := pk
    obtain ⟨v, hv, hv2⟩ := atI_nat k0 k1
    exact .inl ⟨l, xs, k, v, rfl, rfl, sq_of (e3 _ _ (by rw [less_ne ne]; exact h2)), hv, q v H3 (List.mem_of_getElem? hv2) ((ex_less n (e.trans e2)).trans e3) p3⟩
end
end SwX
set_option Elab.async false
set_option linter.all false
set_option maxRecDepth 100000
set_option maxHeartbeats 2000000
/-! looks at the module for the sets: properties, own classes, the exceptions that are raised -/
namespace SwX
open PySem PySem.Spec PyProof.Rows L2
def propB (K : PySem.W.Frag) (C : Addr) (m : PySem.Str) : Bool := He.eqO (PySem.W.findIn K (.ref C) m) (some (some (.ref (He.ma K C m)))) && (He.eqO (PySem.W.specialIn K (.ref (He.ma K C m)) "__get__") (some (some (.builtin "property.__get__"))) && (decide (PySem.W.takesIn K (.ref (He.ma K C m)) = some true) && (match PySem.W.recIn K (He.ma K C m) "property" with
  | some (.ref _ :: _) => true
  | _ => false)))
theorem propB_ok {K : PySem.W.Frag} {C : Addr} {m : PySem.Str} (h : propB K C m = true) : PropOf K C m (He.ma K C m) (He5.wf K C "property" m) := by
  unfold propB at h
  simp only [Bool.and_eq_true] at h
  obtain ⟨h1, h2, h3, h4⟩ := h
  refine ⟨He.eqO_ok h1, He.eqO_ok h2, of_decide_eq_true h3, ?_⟩
  unfold He5.wf
  split at h4
  · rename_i f rest e
    rw [e]
    exact ⟨rest, rfl⟩
  · cases h4
def ownB (K : PySem.W.Frag) (C : Addr) : Bool := He.eqO (PySem.W.findIn K (.ref C) "__class__") (some (some (.builtin "object.__class__"))) && (He.eqO (PySem.W.specialIn K (.builtin "object.__class__") "__get__") (some (some (.builtin "getset_descriptor.__get__"))) && (decide (PySem.W.takesIn K (.builtin "object.__class__") = some true) && (decide (PySem.W.mroIn K C (.type "object") = some true) && decide (PySem.W.kitOne K (.ref C) (.ref C) = some true))))
theorem ownB_ok {K : PySem.W.Frag} {C : Addr} (c : Cls K C) (h : ownB K C = true) : OwnC K C := by
  unfold ownB at h
  simp only [Bool.and_eq_true] at h
  obtain ⟨h1, h2, h3, h4, h5⟩ := h
  exact ⟨c, He.eqO_ok h1, He.eqO_ok h2, of_decide_eq_true h3, of_decide_eq_true h4, of_decide_eq_true h5⟩
def excB (K : PySem.W.Frag) (i : Nat) : Bool := oexB K (bsZ i) (CxZ K i) && (decide (PySem.W.typeIn K (.ref (CxZ K i)) = some (.type "type")) && (He.eqO (PySem.W.findIn K (.ref (CxZ K i)) (exFld i)) (some none) && iniB K (CxZ K i)))
theorem excB_ok {P : Program} {w : World} {K : PySem.W.Frag} {mg : Str → Option Value} {base : Heap} {i : Nat} (h : excB K i = true) (g : mg (exNm i) = some (.ref (CxZ K i)))
    (D : Oex K (CxZ K i) → Free K (CxZ K i) (exFld i) → Ini K (CxZ K i) (He.ma K (CxZ K i) "__init__") → mg (exNm i) = some (.ref (CxZ K i)) → HasX P w K mg base (exNm i) 1 (CxZ K i) 1 [exFld i] (fun us ws => us ++ ws.reverse) (spIni1 (CxZ K i) (exFld i))) : ExH P w K mg base i (CxZ K i) := by
  unfold excB at h
  simp only [Bool.and_eq_true] at h
  obtain ⟨h1, h2, h3, h4⟩ := h
  exact ⟨D (oex_of h1) (free_of (He.eqO_ok h3)) (ini_of h4) g, of_decide_eq_true h2⟩
end SwX
set_option Elab.async false
set_option linter.all false
set_option maxRecDepth 100000
set_option maxHeartbeats 2000000
/-! a leaner hook: only what some names reach is looked at, each object once -/
namespace SwX
open PySem PySem.Spec PyProof.Rows L2
def obsN (n : Nat) (xs : List PySem.Str) (fa : List He.Fa) (fn : List He5.DefA) (tf : TfZ) (ex : PySem.W.Frag → Bool) (g : Addr → Option Obj) : AlZ := obsZK fa fn tf ex g (He.frT g (asN g n xs))
def hookN (n : Nat) (xs : List PySem.Str) (fa : List He.Fa) (fn : List He5.DefA) (tf : TfZ) (ex : PySem.W.Frag → Bool) : PySem.W.Hook where
  α := AlZ
  obs := fun s => obsN n xs fa fn tf ex s.heap.get?
  val := fun _ => (true, He5.valA fn)
  says := fun _ h => ∃ K : PySem.W.Frag, K.In h ∧ SaysZ fa fn tf ex h K
  of := fun _ _ e => ⟨_, He.frT_in, saysN_of e⟩
  keeps := fun _ _ _ ⟨K, hK, c⟩ k => ⟨K, PySem.W.Frag.In.keeps hK k, ⟨c.sys, c.more, c.sd, c.hd, c.out, fun p hp => k _ _ (c.empty p hp)⟩⟩
theorem obsN_eq {n : Nat} {xs : List PySem.Str} {fa : List He.Fa} {fn : List He5.DefA} {tf : TfZ} {ex : PySem.W.Frag → Bool} {g : Addr → Option Obj} {s : Shared} (h : ∀ a, g a = s.heap.get? a) : obsN n xs fa fn tf ex g = (hookN n xs fa fn tf ex).obs s := by
  have e : g = s.heap.get? := funext h
  rw [e] <;> rfl
end SwX
set_option Elab.async false
set_option linter.all false
set_option maxRecDepth 100000
set_option maxHeartbeats 2000000
/-! the leaner hook, with dicts of the module that have text keys -/
namespace SwX
open PySem PySem.Spec PyProof.Rows L2
theorem SaysD2.tab {ts : List He.Tab} {w : World} {K : PySem.W.Frag} (c : SaysD2 ts w K) (i : Nat) {t : He.Tab} (h : ts[i]? = some t := by rfl) : ∃ es n, KDict K w (t.1 K) es n := by
  have e2 : (ts.map fun t : He.Tab => He.dicW K (t.1 K))[i]? = (ts.map fun t : He.Tab => some (He.keysIn w.params t.2))[i]? := by rw [c]
  rw [List.getElem?_map, List.getElem?_map, h] at e2
  exact He.dicW_ok (Option.some.inj e2)
end SwX
set_option Elab.async false
set_option linter.all false
set_option maxRecDepth 100000
set_option maxHeartbeats 4000000
/-! tuple * int, any int up to a thousand -/
namespace SwX
open PySem PySem.Spec PyProof.Rows L2
theorem tuple_mul_1 (l : Addr) (items : Array Value) (n : Nat) (dd : Option Addr) (sl : Array (Option Value)) (x : Int) (u : Tok) (c0 : (decide (x < -(2 ^ 63)) || decide (x ≥ 2 ^ 63)) = false) (c1 : (items.isEmpty || x == 1) = true) :
    Meets (Builtin.«tuple.__mul__» ⟨[.ref l, .int x u], []⟩) (fun _ R s => s.heap.get? l = some { cls := .type "tuple", dict := dd, data := .seq items n, slots := sl } ∧ R (.ok (.ret (Value.ref l))) s) :=
  .of_wp fun prog w A R s h => by
    obtain ⟨hp, g, d, tk, os⟩ := s
    obtain ⟨hl, h⟩ := h
    have f1 := AutoSeq1.idx_int
    wp_walk using wpAny_loadPart' hl
    repeat (first
      | (refine wpAny_ite_false (decide_eq_false (by rw [c0]; exact Bool.false_ne_true)) ?_; wp_walk using wpAny_loadPart' hl)
      | (refine wpAny_ite_true (decide_eq_true (by rw [c1])) ?_; wp_walk using wpAny_loadPart' hl))
    exact ⟨_, rfl, h⟩
theorem tuple_mul_0 (l : Addr) (items : Array Value) (n : Nat) (dd : Option Addr) (sl : Array (Option Value)) (x : Int) (u : Tok) (c0 : (decide (x < -(2 ^ 63)) || decide (x ≥ 2 ^ 63)) = false) (c1 : (items.isEmpty || x == 1) = false) (c2 : (decide (x ≤ 0) || items.isEmpty) = true) :
    Meets (Builtin.«tuple.__mul__» ⟨[.ref l, .int x u], []⟩) (fun _ R s => s.heap.get? l = some { cls := .type "tuple", dict := dd, data := .seq items n, slots := sl } ∧
      R (.ok (.ret (Value.ref s.heap.objs.size))) { s with heap := s.heap.push { cls := Value.type "tuple", data := Data.seq #[] }, toks := s.toks }) :=
  .of_wp fun prog w A R s h => by
    obtain ⟨hp, g, d, tk, os⟩ := s
    obtain ⟨hl, h⟩ := h
    have f1 := AutoSeq1.idx_int
    wp_walk using wpAny_loadPart' hl
    repeat (first
      | (refine wpAny_ite_false (decide_eq_false (by rw [c0]; exact Bool.false_ne_true)) ?_; wp_walk using wpAny_loadPart' hl)
      | (refine wpAny_ite_false (decide_eq_false (by rw [c1]; exact Bool.false_ne_true)) ?_; wp_walk using wpAny_loadPart' hl)
      | (refine wpAny_ite_true (decide_eq_true (by rw [c2])) ?_; wp_walk using wpAny_loadPart' hl))
    exact ⟨_, rfl, h⟩
/-- tuple * k, k from 0 to a thousand, the tuple not empty; once: the tuple itself -/
def rRepT3 (K : PySem.W.Frag) : R2 := fun x y H Q => ∃ l k xs, x = .ref l ∧ y = .int k ∧ SqT K H l xs ∧ xs ≠ [] ∧ 0 ≤ k ∧ k ≤ 1000 ∧ xs.length ≤ 1000 ∧ (k = 1 → Q (.ref l) H) ∧ (k ≠ 1 → ∀ p, H p = none → Q (.ref p) (upd H p (.tup (List.replicate k.toNat xs).flatten)))
section
variable {X : Cx}
theorem op_repT3 : OpR X (binaryOp .Mult) (rRepT3 X.K) := by
  intro pins s σ H x y v u Q I rx ry h
  obtain ⟨l, k, xs, rfl, rfl, hT, hne, h1, h2, hz, q1, q⟩ := h
  by_cases k2 : 2 ≤ k
  · exact op_repT pins s σ H _ _ v u Q I rx ry ⟨l, k, xs, rfl, rfl, hT, hne, k2, h2, hz, q (by omega)⟩
  cases rx
  obtain ⟨t, rfl⟩ := ry
  obtain ⟨its, r, ⟨⟨cls, dd, data, sl⟩, ho, hc, n, hd⟩, hs⟩ := I.tuple hT
  simp only at hc hd
  subst hc hd
  have hle : its.length = xs.length := r.length.symm
  have hi : its.toArray.isEmpty = false := by
    cases its with
    | nil => exact absurd (List.eq_nil_of_length_eq_zero (by rw [← hle]; rfl)) hne
    | cons a b => rfl
  have c0 : (decide (k < -(2 ^ 63)) || decide (k ≥ 2 ^ 63)) = false := by
    rw [decide_eq_false (by omega), decide_eq_false (by omega)] <;> rfl
  by_cases e1 : k = 1
  · subst e1
    refine wpAny_binaryOp_repeat_ref (T := "tuple") (U := "int") (by decide) ⟨_, ho, rfl⟩ (fun s' => typeIs_int s' 1 t) noFill_tuple_mul F.fills_int_mul F.slot_int_rmul repeat_tuple F.slot_int_index.lookup
      (call_meets F.slot_int_rmul (typeIs_int s 1 t) F.entry_int_rmul (F.args_int_rmul_2 _ _) (int_rmul_tuple 1 t l its.toArray n dd sl)
        ⟨ho, rfl, ⟨_, ho, rfl⟩, call_meets F.slot_tuple_mul ⟨_, ho, rfl⟩ F.entry_tuple_mul (F.args_tuple_mul_2 _ _) (tuple_mul_1 l its.toArray n dd sl 1 t c0 (by simp)) ⟨ho, ?_⟩⟩)
    exact ⟨.ref l, H, I, rfl, q1 rfl⟩
  · have e0 : k = 0 := by omega
    subst e0
    refine wpAny_binaryOp_repeat_ref (T := "tuple") (U := "int") (by decide) ⟨_, ho, rfl⟩ (fun s' => typeIs_int s' 0 t) noFill_tuple_mul F.fills_int_mul F.slot_int_rmul repeat_tuple F.slot_int_index.lookup
      (call_meets F.slot_int_rmul (typeIs_int s 0 t) F.entry_int_rmul (F.args_int_rmul_2 _ _) (int_rmul_tuple 0 t l its.toArray n dd sl)
        ⟨ho, rfl, ⟨_, ho, rfl⟩, call_meets F.slot_tuple_mul ⟨_, ho, rfl⟩ F.entry_tuple_mul (F.args_tuple_mul_2 _ _) (tuple_mul_0 l its.toArray n dd sl 0 t c0 (by rw [hi]; rfl) (by simp)) ⟨ho, ?_⟩⟩)
    exact ⟨.ref s.heap.objs.size, _, I.laid (t' := s.toks) (o := .tup []) (fun b ob q => Heap.get?_push_of_some _ q) (Nat.le_refl _) ⟨by rw [sizeLine_eq]; simp, _, .nil, IsTup.new _ _⟩, rfl, q (by omega) _ (I.hok.fresh (Nat.le_refl _))⟩
end
end SwX
set_option Elab.async false
set_option linter.all false
set_option maxRecDepth 100000
set_option maxHeartbeats 4000000
/-! verdicts: what was told by _law_caught is what is due -/
namespace SwX
open PySem PySem.Spec PyProof.Rows L2 Evl
/-- none: nothing is raised; else the number of the exception and what it keeps -/
abbrev Vd : Type := Option (Int × PyData)
def vdD : Vd → List PyData
  | none => []
  | some (c, d) => [.int c, .str (PyData.shown (.list [d]))]
def vdL : Vd → List V
  | none => []
  | some (c, d) => [.int c, .str (PyData.shown (.list [d]))]
def vtL : Vd → Str → List V
  | none, z => [.str "told", .str z]
  | some (c, d), _ => [.int c, .str (PyData.shown (.list [d]))]
def VdLay (r : Vd) : Prop := ∀ c d, r = some (c, d) → (PyData.str (PyData.shown (.list [d]))).canLay0 = true
theorem vd_da {K : PySem.W.Frag} {H : Hp} {q : Addr} {r : Vd} (h : H q = some (.lst (vdL r))) : Da K H (.ref q) (.list (vdD r)) := by
  cases r with
  | none => exact da_list h .nil
  | some o => exact da_list h (.cons (.int _) (.cons (.str _) .nil))
theorem vd_pl {r : Vd} (h : VdLay r) : Pl (.list (vdD r)) := by
  cases r with
  | none =>
    show Pl (.list [])
    exact ⟨rfl, by decide⟩
  | some o =>
    obtain ⟨c, d⟩ := o
    have z := h c d rfl
    have e : vdD (some (c, d)) = [.int c, .str (PyData.shown (.list [d]))] := rfl
    refine ⟨?_, shaped_of ?_ ?_⟩
    · rw [e] <;> rfl
    · rw [e]
      simp only [PyData.canLay0, PyData.canLayAll0] at z ⊢
      simp [z]
    · rw [e]
      show (PyData.depthAll [_, _]) + 1 ≤ 64
      simp [PyData.depthAll, PyData.depth]
theorem vd_eqv (r : Vd) : PyData.eqv (.list (vdD r)) (.list (vdD r)) = true := by
  cases r with
  | none => rfl
  | some o =>
    obtain ⟨c, d⟩ := o
    show PyData.eqv (.list [.int c, .str _]) (.list [.int c, .str _]) = true
    simp [PyData.eqv, PyData.eqvAll]
theorem vd_nil (r : Vd) : PyData.eqv (.list (vdD r)) (.list []) = r.isNone := by
  cases r with
  | none => rfl
  | some o =>
    obtain ⟨c, d⟩ := o
    rfl
def spTold (K : PySem.W.Frag) : Sp := fun vs H Q _ => ∃ (p q : Addr) (r : Vd) (z : Str), vs = [.ref p, .ref q] ∧ H p = some (.lst (vtL r z)) ∧ H q = some (.lst (vdL r)) ∧ VdLay r ∧ ∀ H', Ex H H' → Q (.bl true) H'
/-! ### texts of integers can be laid out -/
theorem strOk_of {x : Str} (h : ∀ c ∈ x.cps.toList, c < 0x110000) : (PyData.str x).canLay0 = true := by
  show PyData.strOk x = true
  unfold PyData.strOk
  rw [← Array.all_toList]
  rw [List.all_eq_true]
  exact fun c hc => decide_eq_true (h c hc)
theorem int_signs (i : Int) : ∀ c ∈ (PyData.shown (.int i)).cps.toList, c < 0x110000 := fun c hc => by
  refine Nat.lt_of_not_le fun le => ?_
  exact PyProof.Rows.shown_int_free' (k := c) ⟨by omega, by omega⟩ i hc
theorem lay_int (i : Int) : (PyData.str (PyData.shown (.list [.int i]))).canLay0 = true := strOk_of fun c hc => by
  rw [PyData.shown_list] at hc
  have e : Str.join (", " : Str) (PyData.shownAll [.int i]) = PyData.shown (.int i) := by
    simp only [PyData.shownAll]
    rfl
  rw [e] at hc
  have e2 : (("[" : Str) ++ PyData.shown (.int i) ++ ("]" : Str)).cps.toList = ("[" : Str).cps.toList ++ (PyData.shown (.int i)).cps.toList ++ ("]" : Str).cps.toList := by
    show (_ ++ _ ++ _ : Array Nat).toList = _
    simp
  rw [e2] at hc
  have hb : ∀ c ∈ ("[" : Str).cps.toList, c < 0x110000 := by decide +kernel
  have hd : ∀ c ∈ ("]" : Str).cps.toList, c < 0x110000 := by decide +kernel
  rcases List.mem_append.mp hc with hc | hc
  · rcases List.mem_append.mp hc with hc | hc
    · exact hb c hc
    · exact int_signs i c hc
  · exact hd c hc
end SwX
set_option Elab.async false
set_option linter.all false
set_option maxRecDepth 100000
set_option maxHeartbeats 4000000
/-! lists of data in which an item is drawn -/
namespace SwX
open PySem PySem.Spec PyProof.Rows L2 Evl
section
variable {K : PySem.W.Frag} {σ : L2.St} {H H' : Hp} {a : Addr} {te : TE} {ta : TA} {v x : V} {d : PyData} {ds es : List PyData} {D : Ends} {tz : TS} {R : List PyData → Prop}
/-- the items, beside the purse, are data of which R holds -/
def DsA (K : PySem.W.Frag) (a : Addr) (ta : TA) (σ : L2.St) (H : Hp) (R : List PyData → Prop) : Prop := ∀ H1, Ex (less a H) H1 → Pur H1 a → ∀ Q : List V → Hp → Prop, (∀ ds vs H2, R ds → Ex (less a H1) H2 → Pur H2 a → Paired (fun d v => DaA K a d v H2) ds vs → Q vs H2) → ta σ H1 Q
theorem ds_nil (r : R []) : DsA K a tNil σ H R := fun H1 e p Q q => q [] [] H1 r less_ex p .nil
theorem ds_cons (h : ∀ H1, Ex (less a H) H1 → Pur H1 a → Yi te σ H1 (DaA K a d)) (t : DsA K a ta σ H fun ds => R (d :: ds)) : DsA K a (tCons te ta) σ H R := fun H1 e p Q q =>
  h H1 e p H1 (Ex.refl H1) _ fun v H2 e2 z => t H2 (e.trans e2) (p.keep e2) _ fun ds vs H3 r e3 p3 pr => q (d :: ds) (v :: vs) H3 r ((less_mono e2).trans e3) p3 (.cons (daA_from z e3) pr)
theorem ds_draw {P : Int → Prop} (h : ∀ H1, Ex (less a H) H1 → Dr a te σ (less a H1) fun v => ∃ i : Int, v = .int i ∧ P i) (t : ∀ i, P i → DsA K a ta σ H fun ds => R (.int i :: ds)) : DsA K a (tCons te ta) σ H R := fun H1 e p Q q =>
  h H1 e H1 less_ex p _ fun v H2 pv e2 p2 => by
    obtain ⟨i, rfl, pi⟩ := pv
    exact t i pi H2 ((ex_less less_at e).trans e2) p2 _ fun ds vs H3 r e3 p3 pr => q (.int i :: ds) (.int i :: vs) H3 r ((ex_less less_at e2).trans e3) p3 (.cons (.int i) pr)
theorem q_asgDs {i : Nat} (h : DsA K a ta σ H R) (p : Pur H a) (l : ∀ ds, R ds → ds.length ≤ 1000) (k : ∀ ds c H1, R ds → LstOf (DaA K a) ds (.ref c) H1 → Ex (less a H) H1 → Pur H1 a → tz D (σ.set i (some (.ref c))) H1) : tSeq (tAsg (tLst ta) (gName i)) tz D σ H :=
  h H less_ex p _ fun ds vs H2 r e2 p2 pr => ⟨sz_of (by rw [← paired_len pr]; have := l ds r; omega), fun c hc => k ds c _ r ⟨c, vs, rfl, upd_same, paired_mono (Ex.new hc) daA_mono pr⟩ (e2.trans (Ex.new hc)) (p2.keep (Ex.new hc))⟩
/-- a constant among the items -/
theorem dc_c {v : V} (q : ∀ G, Da K G v d) (t : DsA K a ta σ H fun ds => R (d :: ds)) : DsA K a (tCons (tC v) ta) σ H R := ds_cons (fun H1 _ _ => yi_dat ev_c q) t
theorem paired_revD {α β : Type} {F : α → β → Prop} : ∀ {is : List α} {vs : List β}, Paired F is vs → Paired F is.reverse vs.reverse
  | _, _, .nil => .nil
  | _, _, .cons h t => by
    rw [List.reverse_cons, List.reverse_cons]
    exact paired_append (paired_revD t) (.cons h .nil)
/-- t[::-1] -/
theorem yi_drev (pu : Pur H a) (ha : Ev te σ H v) (hv : DaA K a (.tuple ds) v H) : Yi (tRevT K te) σ H (DaA K a (.tuple ds.reverse)) := fun H1 e1 Q q => by
  obtain ⟨p, xs, rfl, hp, pr⟩ := daA_items hv
  refine eu_rev ha (sqt_more hp) H1 e1 _ fun u H2 hu e2 h2 => q (.ref u) H2 e2 (da_tuple (.inl (.inl ?_)) (paired_revD (paired_mono (F := fun d v H => DaA K a d v H) (e1.trans e2) (fun d v H H' e h => daA_mono d v H H' e h) pr)))
  rw [less_ne ((pu.keep e1).ne hu)]
  exact h2
end
end SwX
set_option Elab.async false
set_option linter.all false
set_option maxRecDepth 100000
set_option maxHeartbeats 4000000
/-! new data by draws -/
namespace SwX
open PySem PySem.Spec PyProof.Rows L2 Evl
section
variable {K : PySem.W.Frag} {H H' H1 H2 G B : Hp} {a : Addr} {σ : L2.St} {te tl : TE} {v : V} {d : PyData}
theorem nw_ex : Ex (nw H H') H' := fun b o h => by
  unfold nw at h
  split at h
  · exact h
  · cases h
theorem nw_at {b : Addr} {o : HO} (n : H b = none) (e : H' b = some o) : nw H H' b = some o := by
  unfold nw
  rw [if_pos n, e]
/-- all that is there is there still -/
def Dom (H H' : Hp) : Prop := ∀ b, H b ≠ none → H' b ≠ none
theorem Dom.trans (h : Dom H H1) (k : Dom H1 H2) : Dom H H2 := fun b z => k b (h b z)
theorem dom_ex (e : Ex H H') : Dom H H' := fun b z w => by
  cases q : H b with
  | none => exact z q
  | some o => rw [e b o q] at w; cases w
theorem dom_less (e : Ex (less a H) H') (p : Pur H' a) : Dom H H' := fun b z w => by
  by_cases q : b = a
  · obtain ⟨o, h⟩ := p.is
    rw [q, h] at w
    cases w
  · cases r : H b with
    | none => exact z r
    | some o =>
      have := e b o (by rw [less_ne q]; exact r)
      rw [this] at w
      cases w
theorem Dom.no {b : Addr} (h : Dom H H') (n : H' b = none) : H b = none := Classical.byContradiction fun z => h b z n
/-- newer against less -/
theorem nw_from (dm : Dom H H1) (e : Ex (nw H1 H2) H') : Ex (nw H1 H2) (nw H H') := fun b o h => by
  have z := e b o h
  unfold nw at h
  split at h
  · rename_i n
    exact nw_at (dm.no n) z
  · cases h
theorem nw_up (e : Ex (less a H1) H2) (ha : H a ≠ none) : Ex (nw H H1) (nw H H2) := fun b o h => by
  have n : H b = none := by
    unfold nw at h
    split at h
    · assumption
    · cases h
  have q : b ≠ a := fun w => ha (by rw [← w]; exact n)
  have z := nw_ex b o h
  exact nw_at n (e b o (by rw [less_ne q]; exact z))
theorem nw_upE (e : Ex H1 H2) : Ex (nw H H1) (nw H H2) := fun b o h => by
  have n : H b = none := by
    unfold nw at h
    split at h
    · assumption
    · cases h
  exact nw_at n (e b o (nw_ex b o h))
theorem nw_upd {b : Addr} {o : HO} (h : H b ≠ none) : nw H (upd H1 b o) = nw H H1 := by
  funext c
  unfold nw
  split
  · rename_i n
    rw [upd_ne (fun w => h (by rw [← w]; exact n))]
  · rfl
theorem nw_less (p : H a ≠ none) : Ex (nw H H') (less a H') := fun b o h => by
  have q : b ≠ a := fun w => by
    unfold nw at h
    split at h
    · rename_i n
      exact p (by rw [← w]; exact n)
    · cases h
  rw [less_ne q]
  exact nw_ex b o h
theorem dr_pickX {xs : List V} {l : Addr} {ta tb : TE} (n : G a = none) (ha : Ev ta σ G (.ref l)) (hl : G l = some (.lst xs)) (hb : ∀ G', G' a = none → Ex G G' → Dr a tb σ G' fun v => ∃ k, v = .int k ∧ 0 ≤ k ∧ k < xs.length) : Dr a (tOp (rIx K) ta tb) σ G fun v => v ∈ xs := fun H1 e p Q q =>
  ha H1 e _ fun H2 e2 => by
    have ne : l ≠ a := fun w => by rw [w, n] at hl; cases hl
    refine hb (less a H2) less_at (ex_less n (e.trans e2)) H2 less_ex (p.keep e2) _ fun k H3 pk e3 p3 => ?_
    obtain ⟨k, rfl, k0, k1⟩ := pk
    obtain ⟨v, hv, hv2⟩ := atI_nat k0 k1
    exact .inl ⟨l, xs, k, v, rfl, rfl, sq_of (e3 _ _ (by rw [less_ne ne]; exact e2 _ _ (e _ _ hl))), hv, q v H3 (List.mem_of_getElem? hv2) ((ex_less n (e.trans e2)).trans e3) p3⟩
theorem paired_of {α β : Type} {F : α → β → Prop} : ∀ {is : List α} {vs : List β}, vs.length = is.length → (∀ (i : Nat) x y, is[i]? = some x → vs[i]? = some y → F x y) → Paired F is vs
  | [], [], _, _ => .nil
  | [], _ :: _, l, _ => by cases l
  | _ :: _, [], l, _ => by cases l
  | x :: is, y :: vs, l, h => .cons (h 0 x y rfl rfl) (paired_of (Nat.succ.inj l) fun i x y h1 h2 => h (i + 1) x y (by simpa using h1) (by simpa using h2))
/-- te gives new data, by draws -/
def DrN (K : PySem.W.Frag) (a : Addr) (te : TE) (σ : L2.St) (G : Hp) (R : PyData → Prop) : Prop := ∀ H1, Ex G H1 → Pur H1 a → ∀ Q : VK, (∀ v d H2, R d → Da K (nw H1 H2) v d → Ex (less a H1) H2 → Pur H2 a → Q v H2) → te σ H1 Q
/-- [te for x in a tuple], new data by draws -/
theorem lc_N {p : Addr} {xs : List V} {j : Nat} {vs : List Nat} {R : Nat → PyData → Prop} (n : G a = none) (h0 : Ev tl σ G (.ref p)) (hx : SqT K G p xs) (hm : xs.length ≤ 1000) (hw : ∀ x, wipe ((wipe σ vs).set j (some x)) vs = wipe σ vs)
    (he : ∀ i x, xs[i]? = some x → DrN K a te ((wipe σ vs).set j (some x)) G (R i)) {H1 : Hp} (e1 : Ex G H1) (p1 : Pur H1 a) {Q : VK} (k : ∀ D zs ds H2, H2 D = some (.lst zs) → H1 D = none → Paired (fun d v => Da K (nw H1 H2) v d) ds zs → ds.length = xs.length → (∀ i d, ds[i]? = some d → R i d) → Ex (less a H1) H2 → Pur H2 a → Q (.ref D) H2) : tLc (iTup K tl) (gName j) tYes te vs σ H1 Q :=
  h0 H1 e1 _ fun H2 e2 => ⟨p, rfl, ⟨xs, ex_t (e1.trans e2) hx⟩, fun D hD => by
    have p2 := p1.keep e2
    have ne := p2.ne hD
    have hD1 : H1 D = none := fresh_back e2 hD
    obtain ⟨oa, ha⟩ := p1.is
    have na1 : H1 a ≠ none := by rw [ha]; exact fun z => by cases z
    have hBD : upd H2 D (.lst []) D ≠ none := by rw [upd_same]; exact fun z => by cases z
    have hBa : upd H2 D (.lst []) a ≠ none := by
      rw [upd_ne (Ne.symm ne), e2 _ _ ha]
      exact fun z => by cases z
    refine lc_tup (xs := xs) (fun i H' => ∃ acc ds, H' D = some (.lst acc) ∧ Paired (fun d v => Da K (nw (upd H2 D (.lst [])) H') v d) ds acc ∧ ds.length = i ∧ (∀ i d, ds[i]? = some d → R i d) ∧ Ex (less a H2) H' ∧ Dom (upd H2 D (.lst [])) H' ∧ Pur H' a) ⟨[], [], upd_same, .nil, rfl, (fun i d z => by simp at z), less_ex.trans (Ex.new hD), fun _ z => z, pur_new p2 hD⟩ (fun i H' _ z => ?_) (fun i x H' hi z => ⟨hw _, ?_⟩) fun H' z => ?_
    · obtain ⟨acc, ds, _, _, _, _, ex, _⟩ := z
      exact ex_t ((ex_less n (e1.trans e2)).trans ex) hx
    · obtain ⟨acc, ds, hacc, pr, ld, rd, ex, dm, pu⟩ := z
      have lt : i < xs.length := (List.getElem?_eq_some_iff.mp hi).1
      have la := paired_len pr
      show te ((wipe σ vs).set j (some x)) H' fun y H4 => ∃ acc, H4 D = some (.lst acc) ∧ acc.length < sizeLine ∧ ∃ acc' ds', upd H4 D (.lst (acc ++ [y])) D = some (.lst acc') ∧ Paired (fun d v => Da K (nw (upd H2 D (.lst [])) (upd H4 D (.lst (acc ++ [y])))) v d) ds' acc' ∧ ds'.length = i + 1 ∧ (∀ i d, ds'[i]? = some d → R i d) ∧ Ex (less a H2) (upd H4 D (.lst (acc ++ [y]))) ∧ Dom (upd H2 D (.lst [])) (upd H4 D (.lst (acc ++ [y]))) ∧ Pur (upd H4 D (.lst (acc ++ [y]))) a
      refine he i x hi H' ((ex_less n (e1.trans e2)).trans ex) pu _ fun y d H4 rdy dy e4 p4 => ?_
      refine ⟨acc, e4 _ _ (by rw [less_ne ne]; exact hacc), sz_lt (by omega), acc ++ [y], ds ++ [d], upd_same, ?_, by rw [List.length_append, ld]; rfl, fun i' d' h' => ?_, ?_, ?_, ?_⟩
      · rw [nw_upd hBD]
        refine paired_append (paired_mono (F := fun d v H => Da K H v d) (nw_up e4 hBa) (fun _ _ _ _ e h => Da.mono e h) pr) (.cons (Da.mono (nw_from dm nw_ex) dy) .nil)
      · rw [List.getElem?_append] at h'
        split at h'
        · exact rd i' d' h'
        · rename_i ge
          have : i' = i := by
            have := (List.getElem?_eq_some_iff.mp h').1
            simp at this
            omega
          subst this
          rw [ld, Nat.sub_self] at h'
          cases h'
          exact rdy
      · intro b o hb
        have q1 : b ≠ a := fun w => by rw [w, less_at] at hb; cases hb
        have q2 : b ≠ D := fun w => by rw [w, less_ne ne, hD] at hb; cases hb
        rw [upd_ne q2]
        exact e4 _ _ (by rw [less_ne q1]; exact ex _ _ hb)
      · refine (dm.trans (dom_less e4 p4)).trans fun b z => ?_
        by_cases q : b = D
        · rw [q, upd_same]
          exact fun w => by cases w
        · rw [upd_ne q]
          exact z
      · obtain ⟨x1, x2, x3, hp, r⟩ := p4
        exact ⟨x1, x2, x3, by rw [upd_ne (Ne.symm ne)]; exact hp, r⟩
    · obtain ⟨acc, ds, hacc, pr, ld, rd, ex, dm, pu⟩ := z
      exact k D acc ds H' hacc hD1 (paired_mono (F := fun d v H => Da K H v d) (nw_from (dom_ex (e2.trans (Ex.new hD))) nw_ex) (fun _ _ _ _ e h => Da.mono e h) pr) ld rd ((less_mono e2).trans ex) pu⟩
/-- new data in a new list, none of which leans on the list -/
def NewL (K : PySem.W.Frag) (l : Addr) (H H' : Hp) (ds : List PyData) (vs : List V) : Prop := ∃ B : Hp, B l ≠ none ∧ Dom H B ∧ Dom B H' ∧ Paired (fun d v => Da K (nw B H') v d) ds vs
/-- [te for i in range(a drawn number)], new data by draws -/
theorem lc_NR {t0 : TE} {m : Nat} {j : Nat} {vs : List Nat} {Rk : Nat → Prop} {R : Nat → PyData → Prop} (n : G a = none) (h0 : ∀ G', G' a = none → Ex G G' → Dr a t0 σ G' fun v => ∃ k : Nat, v = .int (k : Int) ∧ k ≤ m ∧ Rk k) (hm : m ≤ 1000) (hw : ∀ x, wipe ((wipe σ vs).set j (some x)) vs = wipe σ vs)
    (he : ∀ i, i < m → DrN K a te ((wipe σ vs).set j (some (.int (i : Nat)))) G (R i)) {H1 : Hp} (e1 : Ex G H1) (p1 : Pur H1 a) {Q : VK} (k : ∀ D zs ds H2, H2 D = some (.lst zs) → H1 D = none → NewL K D H1 H2 ds zs → Rk ds.length → ds.length ≤ m → (∀ i d, ds[i]? = some d → R i d) → Ex (less a H1) H2 → Pur H2 a → Q (.ref D) H2) : tLc (iRng1 (tCons t0 tNil)) (gName j) tYes te vs σ H1 Q :=
  h0 (less a H1) less_at (ex_less n e1) H1 less_ex p1 _ fun v0 H2 pv e2 p2 => by
    obtain ⟨kk, rfl, km, rk⟩ := pv
    refine ⟨(kk : Int), rfl, by omega, by omega, fun D hD => ?_⟩
    have ne := p2.ne hD
    have hD1 : H1 D = none := (dom_less e2 p2).no hD
    obtain ⟨oa, ha⟩ := p1.is
    have na1 : H1 a ≠ none := by rw [ha]; exact fun z => by cases z
    have hBD : upd H2 D (.lst []) D ≠ none := by rw [upd_same]; exact fun z => by cases z
    have hBa : upd H2 D (.lst []) a ≠ none := by
      rw [upd_ne (Ne.symm ne)]
      obtain ⟨ob, hb⟩ := p2.is
      rw [hb]
      exact fun z => by cases z
    refine lc_range (lo := 0) (n := (kk : Int).toNat) (fun i H' => ∃ acc ds, H' D = some (.lst acc) ∧ Paired (fun d v => Da K (nw (upd H2 D (.lst [])) H') v d) ds acc ∧ ds.length = i ∧ (∀ i d, ds[i]? = some d → R i d) ∧ Ex (less a H2) H' ∧ Dom (upd H2 D (.lst [])) H' ∧ Pur H' a) ⟨[], [], upd_same, .nil, rfl, (fun i d z => by simp at z), less_ex.trans (Ex.new hD), fun _ z => z, pur_new p2 hD⟩ (fun i H' hi z => ⟨hw _, ?_⟩) fun H' z => ?_
    · obtain ⟨acc, ds, hacc, pr, ld, rd, ex, dm, pu⟩ := z
      have lt : i < m := by omega
      have la := paired_len pr
      show te ((wipe σ vs).set j (some (.int (0 + (i : Int))))) H' fun y H4 => ∃ acc, H4 D = some (.lst acc) ∧ acc.length < sizeLine ∧ ∃ acc' ds', upd H4 D (.lst (acc ++ [y])) D = some (.lst acc') ∧ Paired (fun d v => Da K (nw (upd H2 D (.lst [])) (upd H4 D (.lst (acc ++ [y])))) v d) ds' acc' ∧ ds'.length = i + 1 ∧ (∀ i d, ds'[i]? = some d → R i d) ∧ Ex (less a H2) (upd H4 D (.lst (acc ++ [y]))) ∧ Dom (upd H2 D (.lst [])) (upd H4 D (.lst (acc ++ [y]))) ∧ Pur (upd H4 D (.lst (acc ++ [y]))) a
      rw [Int.zero_add]
      refine he i lt H' ((((ex_less n e1).trans (ex_less less_at e2))).trans ex) pu _ fun y d H4 rdy dy e4 p4 => ?_
      refine ⟨acc, e4 _ _ (by rw [less_ne ne]; exact hacc), sz_lt (by omega), acc ++ [y], ds ++ [d], upd_same, ?_, by rw [List.length_append, ld]; rfl, fun i' d' h' => ?_, ?_, ?_, ?_⟩
      · rw [nw_upd hBD]
        refine paired_append (paired_mono (F := fun d v H => Da K H v d) (nw_up e4 hBa) (fun _ _ _ _ e h => Da.mono e h) pr) (.cons (Da.mono (nw_from dm nw_ex) dy) .nil)
      · rw [List.getElem?_append] at h'
        split at h'
        · exact rd i' d' h'
        · rename_i ge
          have : i' = i := by
            have := (List.getElem?_eq_some_iff.mp h').1
            simp at this
            omega
          subst this
          rw [ld, Nat.sub_self] at h'
          cases h'
          exact rdy
      · intro b o hb
        have q1 : b ≠ a := fun w => by rw [w, less_at] at hb; cases hb
        have q2 : b ≠ D := fun w => by rw [w, less_ne ne, hD] at hb; cases hb
        rw [upd_ne q2]
        exact e4 _ _ (by rw [less_ne q1]; exact ex _ _ hb)
      · refine (dm.trans (dom_less e4 p4)).trans fun b z => ?_
        by_cases q : b = D
        · rw [q, upd_same]
          exact fun w => by cases w
        · rw [upd_ne q]
          exact z
      · obtain ⟨x1, x2, x3, hp, r⟩ := p4
        exact ⟨x1, x2, x3, by rw [upd_ne (Ne.symm ne)]; exact hp, r⟩
    · obtain ⟨acc, ds, hacc, pr, ld, rd, ex, dm, pu⟩ := z
      exact k D acc ds H' hacc hD1 ⟨upd H2 D (.lst []), hBD, (dom_less e2 p2).trans (dom_ex (Ex.new hD)), dm, pr⟩ (by rw [ld]; simpa using rk) (by omega) rd ((ex_less less_at e2).trans ex) pu
/-! ### put together -/
theorem drn_is {R R' : PyData → Prop} (h : DrN K a te σ G R) (f : ∀ d, R d → R' d) : DrN K a te σ G R' := fun H1 e p Q q => h H1 e p Q fun v d H2 r dv e2 p2 => q v d H2 (f d r) dv e2 p2
theorem drn_ev {R : PyData → Prop} (h : Ev te σ G v) (q : ∀ G', Da K G' v d) (r : R d) : DrN K a te σ G R := fun H1 e p Q k => h H1 e _ fun H2 e2 => k v d H2 r (q _) (less_ex.trans e2) (p.keep e2)
theorem drn_dr {P : V → Prop} {R : PyData → Prop} (n : G a = none) (h : ∀ G', G' a = none → Ex G G' → Dr a te σ G' P) (q : ∀ v, P v → ∃ d, R d ∧ ∀ G', Da K G' v d) : DrN K a te σ G R := fun H1 e p Q k =>
  h (less a H1) less_at (ex_less n e) H1 less_ex p _ fun v H2 pv e2 p2 => by
    obtain ⟨d, r, da⟩ := q v pv
    exact k v d H2 r (da _) e2 p2
def DrNs (K : PySem.W.Frag) (a : Addr) (ta : TA) (σ : L2.St) (G : Hp) (R : List PyData → Prop) : Prop := ∀ H1, Ex G H1 → Pur H1 a → ∀ Q : List V → Hp → Prop, (∀ vs ds H2, R ds → Paired (fun d v => Da K (nw H1 H2) v d) ds vs → Ex (less a H1) H2 → Pur H2 a → Q vs H2) → ta σ H1 Q
theorem drns_nil {R : List PyData → Prop} (r : R []) : DrNs K a tNil σ G R := fun H1 e p Q k => k [] [] H1 r .nil less_ex p
theorem nw_two (p : H a ≠ none) (e2 : Ex (less a H) H1) (p1 : Pur H1 a) (e3 : Ex (less a H1) H2) : Ex (nw H H1) (nw H H2) ∧ Ex (nw H1 H2) (nw H H2) := ⟨nw_up e3 p, nw_from (dom_less e2 p1) nw_ex⟩
theorem pur_some (p : Pur H a) : H a ≠ none := by
  obtain ⟨o, h⟩ := p.is
  rw [h]
  exact fun z => by cases z
theorem drns_cons {ta : TA} {R1 : PyData → Prop} {R : List PyData → Prop} (n : G a = none) (h : DrN K a te σ G R1) (t : ∀ d, R1 d → DrNs K a ta σ G fun ds => R (d :: ds)) : DrNs K a (tCons te ta) σ G R := fun H1 e p Q k =>
  h H1 e p _ fun v d H2 r dv e2 p2 => t d r H2 ((ex_less n e).trans e2) p2 _ fun vs ds H3 rs pr e3 p3 => by
    obtain ⟨x1, x2⟩ := nw_two (pur_some p) e2 p2 e3
    exact k (v :: vs) (d :: ds) H3 rs (.cons (Da.mono x1 dv) (paired_mono (F := fun d v H => Da K H v d) x2 (fun _ _ _ _ e h => Da.mono e h) pr)) ((ex_less less_at e2).trans e3) p3
theorem drn_tup {ta : TA} {R : List PyData → Prop} (h : DrNs K a ta σ G R) (l : ∀ ds, R ds → ds.length ≤ 1000) : DrN K a (tTup ta) σ G fun d => ∃ ds, d = .tuple ds ∧ R ds := fun H1 e p Q k =>
  h H1 e p _ fun vs ds H2 r pr e2 p2 => ⟨sz_of (by rw [← paired_len pr]; have := l ds r; omega), fun c hc => by
    have n1 : H1 c = none := (dom_less e2 p2).no hc
    exact k (.ref c) (.tuple ds) _ ⟨ds, rfl, r⟩ (da_tuple (.inl (.inl (nw_at n1 upd_same))) (paired_mono (F := fun d v H => Da K H v d) (nw_upE (Ex.new hc)) (fun _ _ _ _ e h => Da.mono e h) pr)) (e2.trans (Ex.new hc)) (p2.keep (Ex.new hc))⟩
/-- te gives a new list of new data -/
def DrNl (K : PySem.W.Frag) (a : Addr) (te : TE) (σ : L2.St) (G : Hp) (R : List PyData → Prop) : Prop := ∀ H1, Ex G H1 → Pur H1 a → ∀ Q : VK, (∀ l vs ds H2, R ds → H2 l = some (.lst vs) → H1 l = none → NewL K l H1 H2 ds vs → Ex (less a H1) H2 → Pur H2 a → Q (.ref l) H2) → te σ H1 Q
theorem drnl_is {R R' : List PyData → Prop} (h : DrNl K a te σ G R) (f : ∀ d, R d → R' d) : DrNl K a te σ G R' := fun H1 e p Q q => h H1 e p Q fun l vs ds H2 r => q l vs ds H2 (f ds r)
theorem drnl_lst {ta : TA} {R : List PyData → Prop} (h : DrNs K a ta σ G R) (l : ∀ ds, R ds → ds.length ≤ 1000) : DrNl K a (tLst ta) σ G R := fun H1 e p Q k =>
  h H1 e p _ fun vs ds H2 r pr e2 p2 => ⟨sz_of (by rw [← paired_len pr]; have := l ds r; omega), fun c hc => by
    have n1 : H1 c = none := (dom_less e2 p2).no hc
    refine k c vs ds _ r upd_same n1 ⟨upd H1 c (.lst []), (by rw [upd_same]; exact fun z => by cases z), dom_ex (Ex.new n1), fun b z => ?_, paired_mono (F := fun d v H => Da K H v d) (fun b o h => ?_) (fun _ _ _ _ e h => Da.mono e h) pr⟩ (e2.trans (Ex.new hc)) (p2.keep (Ex.new hc))
    · by_cases q : b = c
      · rw [q, upd_same]; exact fun w => by cases w
      · rw [upd_ne q] at z ⊢
        exact dom_less e2 p2 b z
    · have z := nw_ex b o h
      have nb : b ≠ c := fun w => by rw [w, hc] at z; cases z
      have n2 : H1 b = none := by
        unfold nw at h
        split at h
        · assumption
        · cases h
      exact nw_at (by rw [upd_ne nb]; exact n2) (by rw [upd_ne nb]; exact z)⟩
theorem drnl_lcR {t0 : TE} {m : Nat} {j : Nat} {vs : List Nat} {Rk : Nat → Prop} {R : Nat → PyData → Prop} (n : G a = none) (h0 : ∀ G', G' a = none → Ex G G' → Dr a t0 σ G' fun v => ∃ k : Nat, v = .int (k : Int) ∧ k ≤ m ∧ Rk k) (hm : m ≤ 1000) (hw : ∀ x, wipe ((wipe σ vs).set j (some x)) vs = wipe σ vs)
    (he : ∀ i, i < m → DrN K a te ((wipe σ vs).set j (some (.int (i : Nat)))) G (R i)) : DrNl K a (tLc (iRng1 (tCons t0 tNil)) (gName j) tYes te vs) σ G fun ds => Rk ds.length ∧ ds.length ≤ m ∧ ∀ (i : Nat) d, ds[i]? = some d → R i d := fun H1 e p Q k =>
  lc_NR n h0 hm hw he e p fun D zs ds H2 hD nD pr rk lm rd e2 p2 => k D zs ds H2 ⟨rk, lm, rd⟩ hD nD pr e2 p2
theorem drn_tupOf {R : List PyData → Prop} (h : DrNl K a te σ G R) : DrN K a (tCB (rTupOf K) (tCons te tNil)) σ G fun d => ∃ ds, d = .tuple ds ∧ R ds := fun H1 e p Q k =>
  h H1 e p _ fun l vs ds H2 r hl nl ⟨B, _, dB, _, pr⟩ e2 p2 => ⟨l, vs, rfl, .inl ⟨sq_of hl, fun c hc => by
    have n1 : H1 c = none := (dom_less e2 p2).no hc
    exact k (.ref c) (.tuple ds) _ ⟨ds, rfl, r⟩ (da_tuple (.inl (.inl (nw_at n1 upd_same))) (paired_mono (F := fun d v H => Da K H v d) ((nw_from dB nw_ex).trans (nw_upE (Ex.new hc))) (fun _ _ _ _ e h => Da.mono e h) pr)) (e2.trans (Ex.new hc)) (p2.keep (Ex.new hc))⟩⟩
end
end SwX
set_option Elab.async false
set_option linter.all false
set_option maxRecDepth 100000
set_option maxHeartbeats 4000000
/-! list(zip(t, u)), t and u tuples -/
namespace SwX
open PySem PySem.Spec PyProof.Rows L2 Evl
section
variable {P : Program} {w : World} {A : Around} {E : Value → Shared → Prop} {s : Shared}
/-- the next pair while the last one is held by the list -/
theorem zipH_item {z TI TO T i1 i2 l1 l2 : Addr} {f : Bool} {oT : Obj} {k1 k2 : Nat} {xs ys : Array Value} {x y : Value} {Q : Option Value → Shared → Prop} (D : ZipApart z TI TO i1 i2 l1 l2) (hz : IsZipHeld s.heap z TI TO T f) (hT : s.heap.get? T = some oT)
    (hTI : IsPair s.heap TI (.ref i1) (.ref i2)) (h1 : s.heap.IsTupleIter i1 l1 k1) (h2 : s.heap.IsTupleIter i2 l2 k2) (hl1 : s.heap.IsTuple l1 xs) (hl2 : s.heap.IsTuple l2 ys) (hx : xs[k1]? = some x) (hy : ys[k2]? = some y)
    (q : ∀ h', IsZipHeld h' z TI TO T true → h'.IsTupleIter i1 l1 (k1 + 1) → h'.IsTupleIter i2 l2 (k2 + 1) → IsPair h' s.heap.objs.size x y → h'.objs.size = s.heap.objs.size + 1 →
      (∀ c o, c ≠ z → c ≠ i1 → c ≠ i2 → s.heap.get? c = some o → h'.get? c = some o) → Q (some (.ref s.heap.objs.size)) { s with heap := h' }) : wpAny (model P w) A (pyNext (.ref z)) Q E s := by
  have ty : s.TypeIs (.ref z) "zip" := ⟨_, hz, rfl⟩
  unfold pyNext
  refine wpAny_bind (wpAny_attempt (wpAny_callSpecial?_slot (name := Str.ofString "__next__") ty F.slot_zip_next (wpAny_call_entry F.slot_zip_next ty F.entry_zip_next (?_ : wpAny _ _ (field (.ref z) 2 >>= _) _ _ _) (F.args_zip_next_1 _))))
  refine wpAny_bind (wpAny_field hz rfl (x := .bool false) rfl (?_ : wpAny _ _ (field (.ref z) 3 >>= _) _ _ _))
  refine wpAny_bind (wpAny_field hz rfl (x := .ref TI) rfl (wpAny_bind (wpAny_seqItems hTI rfl (?_ : wpAny _ _ (Builtin.SmallTypes.ownedTupleIsFree (.ref z) >>= _) _ _ _))))
  refine wpAny_bind (wpAny_tupleHeld_zip hz hT fun g1 z1 s1 => ?_)
  simp only [Bool.false_eq_true, if_false]
  refine wpAny_bind ?_
  rw [← Array.forIn_toList]
  simp only [List.forIn_cons, List.forIn_nil]
  refine wpAny_bind (wpAny_bind (wpAny_holding (?_ : wpAny _ _ (Builtin.SmallTypes.nextOf (.ref i1) >>= _) _ _ _)))
  refine wpAny_bind (RZ.nextOf_tuple_item (s := { s with heap := g1 }) (h1.extBut s1.extBut D.i1z) (hl1.extBut s1.extBut D.l1z) hx fun g2 a2 s2 => wpAny_pure (wpAny_pure ?_))
  refine wpAny_bind (wpAny_bind (wpAny_holding (?_ : wpAny _ _ (Builtin.SmallTypes.nextOf (.ref i2) >>= _) _ _ _)))
  refine wpAny_bind (RZ.nextOf_tuple_item (s := { s with heap := g2 }) ((h2.extBut s1.extBut D.i2z).extBut s2.extBut D.i12.symm) ((hl2.extBut s1.extBut D.l2z).extBut s2.extBut D.l2i1) hy fun g3 a3 s3 => wpAny_pure (wpAny_pure (wpAny_pure ?_)))
  show wpAny _ _ (newTuple [x, y] >>= _) _ _ _
  refine wpAny_bind (wpAny_newTuple ?_)
  have sz : g3.objs.size = s.heap.objs.size := by rw [s3.1, s2.1, s1.1]
  have z3 : IsZipHeld g3 z TI TO T true := s3.extBut _ _ D.i2z.symm (s2.extBut _ _ D.i1z.symm z1)
  have kp : ∀ c o, c ≠ z → c ≠ i1 → c ≠ i2 → s.heap.get? c = some o → g3.get? c = some o := fun c o c1 c2 c3 e => s3.extBut _ _ c3 (s2.extBut _ _ c2 (s1.extBut _ _ c1 e))
  refine wpAny_pure ⟨_, rfl, wpAny_pure (?_ : Q (some (.ref g3.objs.size)) _)⟩
  have pr : IsPair (g3.push { cls := .type "tuple", data := .seq #[x, y] }) g3.objs.size x y := Heap.get?_push_size _ rfl
  have sz2 : (g3.push { cls := .type "tuple", data := .seq #[x, y] }).objs.size = g3.objs.size + 1 := Heap.size_push ..
  rw [sz] at pr sz2 ⊢
  exact q _ (Heap.get?_push_of_some _ z3) ((a2.extBut s3.extBut D.i12).at fun o e => Heap.get?_push_of_some _ e) (a3.at fun o e => Heap.get?_push_of_some _ e) pr sz2 fun c o c1 c2 c3 e => Heap.get?_push_of_some _ (kp c o c1 c2 c3 e)
/-- the end while the last pair is held -/
theorem zipH_end {z TI TO T i1 i2 l1 l2 : Addr} {f : Bool} {oT : Obj} {k1 : Nat} {xs : Array Value} {Q : Option Value → Shared → Prop} (hh : A.handled = none) (D : ZipApart z TI TO i1 i2 l1 l2) (hz : IsZipHeld s.heap z TI TO T f) (hT : s.heap.get? T = some oT)
    (hTI : IsPair s.heap TI (.ref i1) (.ref i2)) (h1 : s.heap.IsTupleIter i1 l1 k1) (hl1 : s.heap.IsTuple l1 xs) (hx : xs[k1]? = none)
    (q : ∀ h', (∀ c o, c ≠ z → c ≠ i1 → c ≠ i2 → s.heap.get? c = some o → h'.get? c = some o) → Q none { s with heap := h' }) : wpAny (model P w) A (pyNext (.ref z)) Q E s := by
  have ty : s.TypeIs (.ref z) "zip" := ⟨_, hz, rfl⟩
  unfold pyNext
  refine wpAny_bind (wpAny_attempt (wpAny_callSpecial?_slot (name := Str.ofString "__next__") ty F.slot_zip_next (wpAny_call_entry F.slot_zip_next ty F.entry_zip_next (?_ : wpAny _ _ (field (.ref z) 2 >>= _) _ _ _) (F.args_zip_next_1 _))))
  refine wpAny_bind (wpAny_field hz rfl (x := .bool false) rfl (?_ : wpAny _ _ (field (.ref z) 3 >>= _) _ _ _))
  refine wpAny_bind (wpAny_field hz rfl (x := .ref TI) rfl (wpAny_bind (wpAny_seqItems hTI rfl (?_ : wpAny _ _ (Builtin.SmallTypes.ownedTupleIsFree (.ref z) >>= _) _ _ _))))
  refine wpAny_bind (wpAny_tupleHeld_zip hz hT fun g1 z1 s1 => ?_)
  simp only [Bool.false_eq_true, if_false]
  refine wpAny_bind ?_
  rw [← Array.forIn_toList]
  simp only [List.forIn_cons, List.forIn_nil]
  refine wpAny_bind (wpAny_bind (wpAny_holding (?_ : wpAny _ _ (Builtin.SmallTypes.nextOf (.ref i1) >>= _) _ _ _)))
  refine wpAny_bind (RZ.nextOf_tuple_end (s := { s with heap := g1 }) hh (h1.extBut s1.extBut D.i1z) (hl1.extBut s1.extBut D.l1z) hx fun g2 e s2 he => ?_)
  obtain ⟨oe, hoe, hce⟩ := he
  refine wpAny_bind (wpAny_isInstance (T := "StopIteration") (b := true) ⟨oe, hoe, hce⟩ isSubtype_stop ?_)
  exact wpAny_pure (q _ fun c o c1 c2 _ x => s2 _ _ c2 (s1.extBut _ _ c1 x))
/-- the zip between two turns -/
def ZipSt (h : Heap) (z TI TO i1 i2 l1 l2 S : Addr) (xs ys : Array Value) (i : Nat) : Prop :=
  ((i = 0 ∧ IsZip h z TI TO .none ∧ IsPair h TO .none .none) ∨ ∃ T f oT, IsZipHeld h z TI TO T f ∧ h.get? T = some oT ∧ T ≠ z ∧ T ≠ i1 ∧ T ≠ i2 ∧ T ≠ S) ∧
    IsPair h TI (.ref i1) (.ref i2) ∧ h.IsTupleIter i1 l1 i ∧ h.IsTupleIter i2 l2 i ∧ h.IsTuple l1 xs ∧ h.IsTuple l2 ys
/-- the list of pairs so far -/
structure PairsAt (xs ys : Array Value) (lo : Addr) (h : Heap) (as : List Addr) : Prop where
  above : ∀ a ∈ as, lo ≤ a
  nd : as.Nodup
  pr : ∀ (j : Nat) (a : Addr), as[j]? = some a → ∃ x y, xs[j]? = some x ∧ ys[j]? = some y ∧ IsPair h a x y
structure Low (z TI TO i1 i2 S lo : Addr) : Prop where
  lz : z < lo
  lti : TI < lo
  lto : TO < lo
  li1 : i1 < lo
  li2 : i2 < lo
  ls : S < lo
  sz : S ≠ z
  sTI : S ≠ TI
  sTO : S ≠ TO
  s1 : S ≠ i1
  s2 : S ≠ i2
theorem pairsAt_more {xs ys : Array Value} {lo : Addr} {h h' : Heap} {as : List Addr} {x y : Value} {c : Addr} (g : PairsAt xs ys lo h as) (up : ∀ b o, lo ≤ b → h.get? b = some o → h'.get? b = some o) (lc : lo ≤ c) (nc : c ∉ as) (hx : xs[as.length]? = some x) (hy : ys[as.length]? = some y) (hp : IsPair h' c x y) : PairsAt xs ys lo h' (as ++ [c]) where
  above := fun a ha => by
    rcases List.mem_append.mp ha with ha | ha
    · exact g.above a ha
    · rw [List.mem_singleton.mp ha]; exact lc
  nd := by
    rw [List.nodup_append]
    exact ⟨g.nd, by simp, fun y hy z hz e => nc (by rw [List.mem_singleton.mp hz] at e; exact e ▸ hy)⟩
  pr := fun j b hj => by
    rcases Nat.lt_trichotomy j as.length with q | q | q
    · rw [List.getElem?_append_left q] at hj
      obtain ⟨x', y', e1, e2, e3⟩ := g.pr j b hj
      exact ⟨x', y', e1, e2, up _ _ (g.above b (List.mem_of_getElem? hj)) e3⟩
    · subst q
      rw [List.getElem?_append_right (Nat.le_refl _), Nat.sub_self] at hj
      obtain rfl : c = b := by simpa using hj
      exact ⟨x, y, hx, hy, hp⟩
    · rw [List.getElem?_eq_none (by rw [List.length_append, List.length_singleton]; omega)] at hj
      cases hj
theorem zip_extend_loop {z TI TO i1 i2 l1 l2 S lo : Addr} {xs ys : Array Value} {h0 : Heap} {res : Value} {R : Result → Shared → Prop} (hh : A.handled = none) (D : ZipApart z TI TO i1 i2 l1 l2) (W : Low z TI TO i1 i2 S lo) (sl1 : S ≠ l1) (sl2 : S ≠ l2) (same : xs.size = ys.size) (few : xs.size ≤ 1000)
    (k : ∀ h' tk acc c as, (∀ b o, b < lo → b ≠ z → b ≠ TO → b ≠ i1 → b ≠ i2 → b ≠ S → h0.get? b = some o → h'.get? b = some o) → h'.get? S = some { cls := .type "list", dict := none, data := .seq acc c, slots := #[] } → as.length = xs.size → PairsAt xs ys lo h' as → acc.toList = as.map Value.ref → R (.ok (.ret res)) { s with heap := h', toks := tk }) :
    ∀ (m i : Nat) (h : Heap) (tk c : Nat) (acc : Array Value) (as : List Addr), xs.size - i = m → i ≤ xs.size → ZipSt h z TI TO i1 i2 l1 l2 S xs ys i → (∀ b o, b < lo → b ≠ z → b ≠ TO → b ≠ i1 → b ≠ i2 → b ≠ S → h0.get? b = some o → h.get? b = some o) →
      h.get? S = some { cls := .type "list", dict := none, data := .seq acc c, slots := #[] } → acc.toList = as.map Value.ref → as.length = i → PairsAt xs ys lo h as → lo ≤ h.objs.size → codeAny (model P w) A (.builtin "list.extend.loop" ⟨[.ref S, .ref z, res], []⟩) R { s with heap := h, toks := tk } := by
  intro m
  induction m with
  | zero =>
    intro i h tk c acc as e0 le st kp hS ea el g hlo
    have ei : i = xs.size := by omega
    subst ei
    refine codeAny_builtin PySem.F.entry_extend_loop ?_
    rw [Around.under_plainId PySem.F.plain_extend_loop _]
    show wpAny _ A.in1 (pyNext (.ref z) >>= _) _ _ _
    have fin : ∀ h' : Heap, (∀ b o, b ≠ z → b ≠ TO → b ≠ i1 → b ≠ i2 → h.get? b = some o → h'.get? b = some o) → R (.ok (.ret res)) { s with heap := h', toks := tk } := fun h' up => by
      refine k h' tk acc c as (fun b o b0 b1 b2 b3 b4 b5 e => up b o b1 b2 b3 b4 (kp b o b0 b1 b2 b3 b4 b5 e)) (up S _ W.sz W.sTO W.s1 W.s2 hS) el ⟨g.above, g.nd, fun j a hj => ?_⟩ ea
      obtain ⟨x, y, e1, e2, e3⟩ := g.pr j a hj
      have la := g.above a (List.mem_of_getElem? hj)
      exact ⟨x, y, e1, e2, up a _ (Nat.ne_of_gt (Nat.lt_of_lt_of_le W.lz la)) (Nat.ne_of_gt (Nat.lt_of_lt_of_le W.lto la)) (Nat.ne_of_gt (Nat.lt_of_lt_of_le W.li1 la)) (Nat.ne_of_gt (Nat.lt_of_lt_of_le W.li2 la)) e3⟩
    obtain ⟨zs, hTI, t1, t2, p1, p2⟩ := st
    rcases zs with ⟨_, hz, hTO⟩ | ⟨T, f, oT, hz, hT, _⟩
    · exact wpAny_bind (RZ.pyNext_zipT_end (s := { s with heap := h, toks := tk }) (A := A.in1) hh D hz hTI hTO t1 t2 p1 p2 (.inl (by simp)) fun h' up => wpAny_pure (fin h' fun b o b1 b2 b3 b4 e => up b o b1 b2 b3 b4 e))
    · exact wpAny_bind (zipH_end (s := { s with heap := h, toks := tk }) (A := A.in1) hh D hz hT hTI t1 p1 (by simp) fun h' up => wpAny_pure (fin h' fun b o b1 b2 b3 b4 e => up b o b1 b3 b4 e))
  | succ m ih =>
    intro i h tk c acc as e0 le st kp hS ea el g hlo
    have lt : i < xs.size := by omega
    obtain ⟨x, hx⟩ : ∃ x, xs[i]? = some x := ⟨_, Array.getElem?_eq_getElem lt⟩
    obtain ⟨y, hy⟩ : ∃ y, ys[i]? = some y := ⟨_, Array.getElem?_eq_getElem (by omega)⟩
    have sz : acc.size = i := by rw [← Array.length_toList, ea, List.length_map, el]
    refine codeAny_builtin PySem.F.entry_extend_loop ?_
    rw [Around.under_plainId PySem.F.plain_extend_loop _]
    show wpAny _ A.in1 (pyNext (.ref z) >>= _) _ _ _
    -- the turn, once the pair is there
    have turn : ∀ (h' : Heap) (f : Bool) (T : Addr) (oT : Obj), IsZipHeld h' z TI TO T f → h'.get? T = some oT → T ≠ z → T ≠ i1 → T ≠ i2 → T ≠ S → h'.IsTupleIter i1 l1 (i + 1) → h'.IsTupleIter i2 l2 (i + 1) → IsPair h' h.objs.size x y → h'.objs.size = h.objs.size + 1 →
        (∀ b o, b ≠ z → b ≠ TO → b ≠ i1 → b ≠ i2 → h.get? b = some o → h'.get? b = some o) →
        wpAny (model P w) A.in1 (updateSeq S (·.push (Value.ref h.objs.size)) >>= fun _ => again (.builtin "list.extend.loop" ⟨[.ref S, .ref z, res], []⟩)) (fun fin s' => match fin with | .done f => R (.ok f) s' | .again c' => c'.quiet = true ∧ codeAny (model P w) A c' R s') (fun e s' => R (.error e) s') { s with heap := h', toks := tk } := by
      intro h' f T oT hz hT T1 T2 T3 T4 t1 t2 hp hsz up
      have hS' := up S _ W.sz W.sTO W.s1 W.s2 hS
      have put : ∀ b o, b ≠ S → h'.get? b = some o → (h'.update S (Obj.mapSeq (·.push (Value.ref h.objs.size)))).get? b = some o := fun b o hb e => (Heap.get?_update_other _ _ (Ne.symm hb)).trans e
      have lS : S < h.objs.size := Nat.lt_of_lt_of_le W.ls hlo
      have newS : h.objs.size ≠ S := Nat.ne_of_gt lS
      obtain ⟨_, hTI, _, _, p1, p2⟩ := st
      refine wpAny_bind (wpAny_updateSeq hS' rfl (wpAny_pure ⟨plainId_quiet PySem.F.plain_extend_loop _, ih (i + 1) _ tk _ (acc.push (Value.ref h.objs.size)) (as ++ [h.objs.size]) (by omega) lt ⟨.inr ⟨T, f, oT, put _ _ W.sz.symm hz, put _ _ T4 hT, T1, T2, T3, T4⟩, put _ _ W.sTI.symm (up TI _ D.TIz D.TITO D.TIi1 D.TIi2 hTI), t1.at fun o e => put _ o W.s1.symm e, t2.at fun o e => put _ o W.s2.symm e, ?_, ?_⟩
        (fun b o b0 b1 b2 b3 b4 b5 e => put b o b5 (up b o b1 b2 b3 b4 (kp b o b0 b1 b2 b3 b4 b5 e))) (Heap.get?_update_self _ hS' rfl) (by rw [Array.toList_push, ea, List.map_append]; rfl) (by rw [List.length_append, el]; rfl) (pairsAt_more g (fun b o lb e => put b o (Nat.ne_of_gt (Nat.lt_of_lt_of_le W.ls lb)) (up b o (Nat.ne_of_gt (Nat.lt_of_lt_of_le W.lz lb)) (Nat.ne_of_gt (Nat.lt_of_lt_of_le W.lto lb)) (Nat.ne_of_gt (Nat.lt_of_lt_of_le W.li1 lb)) (Nat.ne_of_gt (Nat.lt_of_lt_of_le W.li2 lb)) e)) hlo (fun hm => by obtain ⟨j, hj⟩ := List.mem_iff_getElem?.mp hm; obtain ⟨_, _, _, _, e3⟩ := g.pr j _ hj; exact Nat.lt_irrefl _ (Heap.lt_size e3)) (by rw [el]; exact hx) (by rw [el]; exact hy) (put _ _ newS hp)) ?_⟩) (by rw [sz]; have := sizeLine_eq; omega) (by show (acc.push (Value.ref h.objs.size)).size ≤ sizeLine + 1; rw [Array.size_push, sz]; have := sizeLine_eq; omega))
      · obtain ⟨o, ho, r⟩ := p1
        exact ⟨o, put _ _ sl1.symm (up _ _ D.l1z D.l1TO D.l1i1 D.l1i2 ho), r⟩
      · obtain ⟨o, ho, r⟩ := p2
        exact ⟨o, put _ _ sl2.symm (up _ _ D.l2z D.l2TO D.l2i1 D.l2i2 ho), r⟩
      · exact Nat.le_trans hlo (Nat.le_of_lt (Heap.lt_size (put _ _ newS hp)))
    have nz : h.objs.size ≠ z ∧ h.objs.size ≠ i1 ∧ h.objs.size ≠ i2 ∧ h.objs.size ≠ S := ⟨Nat.ne_of_gt (Nat.lt_of_lt_of_le W.lz hlo), Nat.ne_of_gt (Nat.lt_of_lt_of_le W.li1 hlo), Nat.ne_of_gt (Nat.lt_of_lt_of_le W.li2 hlo), Nat.ne_of_gt (Nat.lt_of_lt_of_le W.ls hlo)⟩
    obtain ⟨zs, hTI, t1, t2, p1, p2⟩ := id st
    rcases zs with ⟨_, hz, hTO⟩ | ⟨T, f, oT, hz, hT, T1, T2, T3, T4⟩
    · exact wpAny_bind (RZ.pyNext_zipT_item (s := { s with heap := h, toks := tk }) (A := A.in1) D hz hTI hTO t1 t2 p1 p2 hx hy fun h' a1 _ a3 a4 a5 a6 up => turn h' false h.objs.size _ a1 a5 nz.1 nz.2.1 nz.2.2.1 nz.2.2.2 a3 a4 a5 a6 up)
    · exact wpAny_bind (zipH_item (s := { s with heap := h, toks := tk }) (A := A.in1) D hz hT hTI t1 t2 p1 p2 hx hy fun h' a1 a3 a4 a5 a6 up => turn h' true T oT a1 (up T oT T1 T2 T3 hT) T1 T2 T3 T4 a3 a4 a5 a6 fun b o b1 _ b3 b4 e => up b o b1 b3 b4 e)
theorem zip_no_len : typeLookup (.type "zip") "__len__" = pure none := am_miss_of_fast (by decide +kernel)
theorem zip_no_hint : typeLookup (.type "zip") "__length_hint__" = pure none := am_miss_of_fast (by decide +kernel)
theorem zip_hint {z : Addr} {Q : Bool → Shared → Prop} (ty : s.TypeIs (.ref z) "zip") (q : Q true s) : wpAny (model P w) A (Builtin.List.listLengthHint (.ref z)) Q E s := by
  unfold Builtin.List.listLengthHint
  refine wpAny_bind (wpAny_specialOf ty zip_no_len ?_)
  refine wpAny_ite_split (fun c => absurd c (by decide)) fun _ => ?_
  refine wpAny_ite_split (fun c => absurd c (by decide)) fun _ => ?_
  refine wpAny_bind (wpAny_specialOf ty zip_no_hint ?_)
  exact wpAny_pure q
theorem zipSt_keep {h h' : Heap} {z TI TO i1 i2 l1 l2 S : Addr} {xs ys : Array Value} (st : ZipSt h z TI TO i1 i2 l1 l2 S xs ys 0) (up : ∀ b o, b ≠ S → h.get? b = some o → h'.get? b = some o) (W1 : S ≠ z) (W2 : S ≠ TI) (W3 : S ≠ TO) (W4 : S ≠ i1) (W5 : S ≠ i2) (W6 : S ≠ l1) (W7 : S ≠ l2) : ZipSt h' z TI TO i1 i2 l1 l2 S xs ys 0 := by
  obtain ⟨zs, hTI, t1, t2, ⟨o1, p1, r1⟩, ⟨o2, p2, r2⟩⟩ := st
  refine ⟨?_, up _ _ W2.symm hTI, t1.at fun o e => up _ o W4.symm e, t2.at fun o e => up _ o W5.symm e, ⟨o1, up _ _ W6.symm p1, r1⟩, ⟨o2, up _ _ W7.symm p2, r2⟩⟩
  rcases zs with ⟨e, hz, hTO⟩ | ⟨T, f, oT, hz, hT, T1, T2, T3, T4⟩
  · exact .inl ⟨e, up _ _ W1.symm hz, up _ _ W3.symm hTO⟩
  · exact .inr ⟨T, f, oT, up _ _ W1.symm hz, up _ _ T4 hT, T1, T2, T3, T4⟩
/-- list(z), z a fresh zip of two tuples -/
theorem list_of_zip {z TI TO i1 i2 l1 l2 : Addr} {xs ys : Array Value} {Q : Value → Shared → Prop} (hh : A.handled = none) (D : ZipApart z TI TO i1 i2 l1 l2) (hz : IsZip s.heap z TI TO .none) (hTI : IsPair s.heap TI (.ref i1) (.ref i2)) (hTO : IsPair s.heap TO .none .none)
    (t1 : s.heap.IsTupleIter i1 l1 0) (t2 : s.heap.IsTupleIter i2 l2 0) (p1 : s.heap.IsTuple l1 xs) (p2 : s.heap.IsTuple l2 ys) (same : xs.size = ys.size) (few : xs.size ≤ 1000)
    (k : ∀ h' tk acc c as, (∀ b o, b ≠ z → b ≠ TO → b ≠ i1 → b ≠ i2 → s.heap.get? b = some o → h'.get? b = some o) → h'.get? s.heap.objs.size = some { cls := .type "list", dict := none, data := .seq acc c, slots := #[] } → as.length = xs.size → PairsAt xs ys (s.heap.objs.size + 1) h' as → acc.toList = as.map Value.ref → Q (.ref s.heap.objs.size) { s with heap := h', toks := tk }) :
    wpAny (model P w) A (call (.type "list") [.ref z]) Q E s := by
  refine callType_codes (Q₁ := fun v s1 => v = .ref s.heap.objs.size ∧ s1 = { s with heap := s.heap.push { cls := .type "list", data := .seq #[] } }) PySem.F.called_list (PySem.F.typeCall_list_1 _) PySem.F.entry_list_init (code_list_new _ ⟨rfl, rfl⟩) fun v s1 h1 => ?_
  obtain ⟨rfl, rfl⟩ := h1
  have hS : (s.heap.push { cls := .type "list", data := .seq #[] }).get? s.heap.objs.size = some { cls := .type "list", data := .seq #[] } := Heap.get?_push_size _ rfl
  have size1 : (s.heap.push { cls := .type "list", data := .seq #[] }).objs.size = s.heap.objs.size + 1 := Heap.size_push ..
  have lt : ∀ {b o}, s.heap.get? b = some o → b < s.heap.objs.size := fun e => Heap.lt_size e
  obtain ⟨x1, a1, _⟩ := id t1
  obtain ⟨x2, a2, _⟩ := id t2
  obtain ⟨y1, b1, _⟩ := id p1
  obtain ⟨y2, b2, _⟩ := id p2
  have up1 : ∀ b o, s.heap.get? b = some o → (s.heap.push { cls := .type "list", data := .seq #[] }).get? b = some o := fun b o e => Heap.get?_push_of_some _ e
  have st0 : ZipSt (s.heap.push { cls := .type "list", data := .seq #[] }) z TI TO i1 i2 l1 l2 s.heap.objs.size xs ys 0 := ⟨.inl ⟨rfl, up1 _ _ hz, up1 _ _ hTO⟩, up1 _ _ hTI, t1.at fun o e => up1 _ o e, t2.at fun o e => up1 _ o e, ⟨y1, up1 _ _ b1, ‹_›⟩, ⟨y2, up1 _ _ b2, ‹_›⟩⟩
  have W : Low z TI TO i1 i2 s.heap.objs.size (s.heap.objs.size + 1) := ⟨Nat.lt_succ_of_lt (lt hz), Nat.lt_succ_of_lt (lt hTI), Nat.lt_succ_of_lt (lt hTO), Nat.lt_succ_of_lt (lt a1), Nat.lt_succ_of_lt (lt a2), Nat.lt_succ_self _, Nat.ne_of_gt (lt hz), Nat.ne_of_gt (lt hTI), Nat.ne_of_gt (lt hTO), Nat.ne_of_gt (lt a1), Nat.ne_of_gt (lt a2)⟩
  have sl1 : s.heap.objs.size ≠ l1 := Nat.ne_of_gt (lt b1)
  have sl2 : s.heap.objs.size ≠ l2 := Nat.ne_of_gt (lt b2)
  generalize hS0 : s.heap.objs.size = S at hS st0 W sl1 sl2 size1 ⊢
  generalize hg : s.heap.push { cls := .type "list", data := .seq #[] } = g at hS st0 size1 up1 ⊢
  refine ⟨⟨_, hS, rfl⟩, PySem.F.args_list_init_2 _ _, ?_⟩
  show wpAny _ _ (do let old ← Builtin.List.listItems (.ref S); Builtin.List.listUpdate (.ref S) (fun _ => #[]); letGo old.toList.reverse; Builtin.List.listExtendWith (.ref S) (.ref z) .none) _ _ _
  refine wpAny_bind ?_
  unfold Builtin.List.listItems
  refine wpAny_bind (wpAny_seqItems hS rfl (wpAny_pure ?_))
  show wpAny _ _ (updateSeq S (fun _ => #[]) >>= fun _ => letGo (#[] : Array Value).toList.reverse >>= fun _ => Builtin.List.listExtendWith (.ref S) (.ref z) .none) _ _ _
  refine wpAny_bind (wpAny_updateSeq hS rfl ?_)
  have hS2 := Heap.get?_update_self (Obj.mapSeq (fun _ => (#[] : Array Value))) hS rfl
  have up2 : ∀ b o, b ≠ S → g.get? b = some o → (g.update S (Obj.mapSeq (fun _ => (#[] : Array Value)))).get? b = some o := fun b o hb e => (Heap.get?_update_other _ _ (Ne.symm hb)).trans e
  refine wpAny_bind (wpAny_letGo ?_)
  have st2 := zipSt_keep st0 up2 W.sz W.sTI W.sTO W.s1 W.s2 sl1 sl2
  unfold Builtin.List.listExtendWith
  have hz2 : IsZip (g.update S (Obj.mapSeq (fun _ => (#[] : Array Value)))) z TI TO .none := up2 _ _ W.sz.symm (up1 _ _ hz)
  have ty : Shared.TypeIs { s with heap := g.update S (Obj.mapSeq (fun _ => (#[] : Array Value))) } (.ref z) "zip" := ⟨_, hz2, rfl⟩
  refine wpAny_bind (wpAny_typeOf (T := "zip") ty ?_)
  have n1 : Builtin.List.listSameRef (.ref S) (.ref z) = false := by simp [Builtin.List.listSameRef, W.sz]
  have n2 : (Value.type "zip" == Value.type "list") = false := by decide
  have n3 : (Value.type "zip" == Value.type "tuple") = false := by decide
  simp only [n1, n2, n3, Bool.or_false, Bool.false_eq_true, if_false]
  refine wpAny_bind (wpAny_pyIter_zip hz2 (wpAny_bind (wpAny_holding (zip_hint ty ?_))))
  refine wpAny_ite_split (fun _ => ?_) fun c => absurd c (by simp)
  refine wpAny_bind (wpAny_rule (wpAny_bind (?_ : wpAny _ _ (updateSeq S (·.push .none) >>= fun _ => updateSeq S (·.pop)) _ _ _)))
  refine wpAny_bind (wpAny_updateSeq hS2 rfl ?_)
  have hS3 := Heap.get?_update_self (Obj.mapSeq (·.push Value.none)) hS2 rfl
  refine wpAny_updateSeq (hz := by seq_fits) hS3 rfl ?_
  have hS4 := Heap.get?_update_self (Obj.mapSeq (·.pop)) hS3 rfl
  have up4 : ∀ b o, b ≠ S → (g.update S (Obj.mapSeq (fun _ => (#[] : Array Value)))).get? b = some o → (((g.update S (Obj.mapSeq (fun _ => (#[] : Array Value)))).update S (Obj.mapSeq (·.push Value.none))).update S (Obj.mapSeq (·.pop))).get? b = some o := fun b o hb e => (Heap.get?_update_other _ _ (Ne.symm hb)).trans ((Heap.get?_update_other _ _ (Ne.symm hb)).trans e)
  refine wpAny_pure ⟨plainId_quiet PySem.F.plain_extend_loop _, ?_⟩
  refine zip_extend_loop (A := A.in1) (s := s) (h0 := s.heap) hh D W sl1 sl2 same few (fun h' tk acc c as kp a b c' d => ?_) xs.size 0 _ s.toks _ #[] [] (Nat.sub_zero _) (Nat.zero_le _) (zipSt_keep st2 up4 W.sz W.sTI W.sTO W.s1 W.s2 sl1 sl2) (fun b o _ _ _ _ _ hb e => up4 b o hb (up2 b o hb (up1 b o e))) hS4 rfl rfl ⟨(fun _ h => nomatch h), List.nodup_nil, (fun j a h => by simp at h)⟩ ?_
  · have := k h' tk acc c as (fun b o b1 b2 b3 b4 e => kp b o (Nat.lt_succ_of_lt (by rw [← hS0]; exact lt e)) b1 b2 b3 b4 (by rw [← hS0]; exact Nat.ne_of_lt (lt e)) e) (by rw [hS0]; exact a) b (by rw [hS0]; exact c') d
    rw [hS0] at this
    exact ⟨rfl, this⟩
  · rw [Heap.size_update, Heap.size_update, Heap.size_update, size1]
    exact Nat.le_refl _
end
end SwX
set_option Elab.async false
set_option linter.all false
set_option maxRecDepth 100000
set_option maxHeartbeats 4000000
/-! the expression list(zip(a, b)) -/
namespace SwX
open PySem PySem.Spec PyProof.Rows L2 Evl
/-- pairs tracked at their addresses -/
def putP : Hp → List Addr → List (V × V) → Hp
  | H, a :: as, p :: ps => putP (upd H a (.tup [p.1, p.2])) as ps
  | H, _, _ => H
theorem putP_off {b : Addr} : ∀ (as : List Addr) (ps : List (V × V)) (H : Hp), b ∉ as → putP H as ps b = H b
  | [], _, _, _ => rfl
  | _ :: _, [], _, _ => rfl
  | a :: as, p :: ps, H, h => by
    show putP (upd H a (.tup [p.1, p.2])) as ps b = H b
    rw [putP_off as ps _ fun z => h (.tail _ z), upd_ne fun z => h (by rw [z]; exact .head _)]
theorem putP_at : ∀ (as : List Addr) (ps : List (V × V)) (H : Hp), as.length = ps.length → as.Nodup → Paired (fun (t : Addr) (p : V × V) => putP H as ps t = some (.tup [p.1, p.2])) as ps
  | [], [], _, _, _ => .nil
  | [], _ :: _, _, h, _ => by cases h
  | _ :: _, [], _, h, _ => by cases h
  | a :: as, p :: ps, H, h, hn => by
    have hn' := List.nodup_cons.mp hn
    refine .cons ?_ (putP_at as ps (upd H a (.tup [p.1, p.2])) (Nat.succ.inj h) hn'.2)
    show putP (upd H a (.tup [p.1, p.2])) as ps a = some (.tup [p.1, p.2])
    rw [putP_off as ps _ hn'.1, upd_same]
section
variable {X : Cx}
theorem pairs_laid {pins : List (Addr × Obj)} {σ : L2.St} {H : Hp} {s : Shared} {h' : Heap} {tk : Nat} {S lo : Addr} {xs ys : List V} {us vs : List Value} {acc : Array Value} {c : Nat} {as : List Addr} (I : Inv X pins σ H s) (rx : Vals xs us) (ry : Vals ys vs) (few : xs.length ≤ 1000)
    (kp : ∀ b o, s.heap.get? b = some o → h'.get? b = some o) (hS : h'.get? S = some { cls := .type "list", dict := none, data := .seq acc c, slots := #[] }) (lS : s.heap.objs.size ≤ S) (lo1 : S < lo) (la : as.length = xs.length) (ly : xs.length = ys.length) (g : PairsAt us.toArray vs.toArray lo h' as) (ea : acc.toList = as.map Value.ref) :
    ∃ H' : Hp, Ex H H' ∧ H S = none ∧ H' S = some (.lst (as.map V.ref)) ∧ Paired (fun (t : Addr) (p : V × V) => H' t = some (.tup [p.1, p.2])) as (xs.zip ys) ∧ Inv X pins σ H' { s with heap := h', toks := tk } := by
  have nS : S ∉ as := fun z => Nat.lt_irrefl _ (Nat.lt_of_lt_of_le lo1 (g.above _ z))
  have new : ∀ t ∈ as, H t = none := fun t ht => I.hok.fresh (Nat.le_trans lS (Nat.le_trans (Nat.le_of_lt lo1) (g.above t ht)))
  have newS : H S = none := I.hok.fresh lS
  have lz : (xs.zip ys).length = as.length := by rw [List.length_zip, la]; omega
  have atP := putP_at as (xs.zip ys) (upd H S (.lst (as.map V.ref))) lz.symm g.nd
  have off : ∀ b, b ∉ as → b ≠ S → putP (upd H S (.lst (as.map V.ref))) as (xs.zip ys) b = H b := fun b h1 h2 => by rw [putP_off as _ _ h1, upd_ne h2]
  have low : ∀ b o, s.heap.get? b = some o → b ∉ as ∧ b ≠ S := fun b o e => ⟨fun z => absurd (Heap.lt_size e) (Nat.not_lt.mpr (Nat.le_trans lS (Nat.le_trans (Nat.le_of_lt lo1) (g.above b z)))), Nat.ne_of_lt (Nat.lt_of_lt_of_le (Heap.lt_size e) lS)⟩
  have kp2 : ∀ b u, H b = some u → (putP (upd H S (.lst (as.map V.ref))) as (xs.zip ys)) b = some u := fun b u e => by
    rw [off b (fun z => by rw [new b z] at e; cases e) (fun z => by rw [z, newS] at e; cases e)]
    exact e
  have eS : putP (upd H S (.lst (as.map V.ref))) as (xs.zip ys) S = some (.lst (as.map V.ref)) := by rw [putP_off as _ _ nS, upd_same]
  refine ⟨putP (upd H S (.lst (as.map V.ref))) as (xs.zip ys), kp2, newS, eS, atP, ?_⟩
  refine I.call' (ch := []) rfl ⟨fun b o q _ _ _ => kp b o q, fun b o q _ _ _ => ⟨o.slots, kp b o q⟩, fun b o q n _ => ?_, fun b o q _ => ⟨o, kp b o q⟩, fun b xs q => kp2 b _ q, fun b o u q => kp2 b _ q, fun b ps q => ⟨#[], by rw [kp2 b _ q]; simp⟩⟩ (fun b u q => ?_) I.bare fun b z => by simp at z
  · obtain ⟨z1, z2⟩ := low b o q
    rw [off b z1 z2]
    exact n
  · by_cases hb : b ∈ as
    · obtain ⟨j, pk, e1, e2, e3⟩ := LiI.paired_ix atP hb
      rw [e3] at q
      cases q
      obtain ⟨x, y, f1, f2, f3⟩ := g.pr j b e1
      rw [List.getElem?_zip_eq_some] at e2
      obtain ⟨u1, g1, r1⟩ := Vals.get rx e2.1
      obtain ⟨u2, g2, r2⟩ := Vals.get ry e2.2
      have f1' : us[j]? = some x := by simpa using f1
      have f2' : vs[j]? = some y := by simpa using f2
      rw [f1'] at g1
      rw [f2'] at g2
      cases g1
      cases g2
      exact ⟨by show 2 ≤ sizeLine; decide, [x, y], .cons r1 (.cons r2 .nil), ⟨_, f3, rfl, _, rfl⟩⟩
    · by_cases hb2 : b = S
      · rw [hb2] at q ⊢
        rw [eS] at q
        cases q
        refine ⟨by rw [List.length_map, la]; exact Nat.le_trans few (by decide), acc.toList, c, by rw [ea]; exact LiI.vals_refs as, ?_⟩
        rw [Array.toArray_toList]
        exact hS
      · rw [off b hb hb2] at q
        exact (I.hok b u q).stay (fun d v _ y => kp d v y) (fun d y => kp2 d _ y) fun d xs y => kp2 d _ y
def tListZip (K : PySem.W.Frag) (ta : TA) : TE := fun σ H Q => ta σ H fun vs H1 => ∃ (a b : Addr) (xs ys : List V), vs = [.ref a, .ref b] ∧ SqT K H1 a xs ∧ SqT K H1 b ys ∧ xs.length = ys.length ∧ xs.length ≤ 1000 ∧
  ∀ (l : Addr) (ts : List Addr) (H2 : Hp), Ex H1 H2 → H1 l = none → H2 l = some (.lst (ts.map V.ref)) → Paired (fun (t : Addr) (p : V × V) => H2 t = some (.tup [p.1, p.2])) ts (xs.zip ys) → Q (.ref l) H2
theorem pe_listZip {e e2 : Expr} {ta : TA} {p p2 pos pos2 : Pos} (hc : X.calm = true) (hg : Gl X "list") (hm : X.mg "list" = none) (hg2 : Gl X "zip") (hm2 : X.mg "zip" = none) (ha : PA X [e, e2] ta)
    (na : starEach [.Call (.Name "zip" p2) [e, e2] [] pos2] X.env = (false, eval (.Call (.Name "zip" p2) [e, e2] [] pos2) X.env) :: starEach [] X.env := by rfl)
    (hs : starEach [e, e2] X.env = (false, eval e X.env) :: starEach [e2] X.env := by rfl) (hpl : (backTo pos2 (starEach [e2] X.env)).any (·.1) = false := by rfl) :
    PE X (.Call (.Name "list" p) [.Call (.Name "zip" p2) [e, e2] [] pos2] [] pos) (tListZip X.K ta) := by
  refine ⟨fun pins s σ H Q I h => ?_⟩
  refine Call_ (ld_blt I hg hm boot_list (PyProof.Rows.callWith_type1 (args_cons ?_ na) na))
  refine Call_ (ld_blt I hg2 hm2 PyProof.Rows.boot_zip (PyProof.Rows.callWith_type1 (thn (ha.run pos2 pins s σ H _ I h) fun us s1 ⟨vs, H1, I1, r1, q1⟩ => ?_) hs hpl))
  obtain ⟨a, b, xs, ys, rfl, hqx, hqy, same, few, q⟩ := q1
  cases r1 with
  | cons r rr =>
    cases rr with
    | cons r' rr =>
      cases rr
      cases r
      cases r'
      obtain ⟨its, rv, p1, _⟩ := I1.tuple hqx
      obtain ⟨its2, rv2, p2, _⟩ := I1.tuple hqy
      obtain ⟨o1, ho1, _⟩ := id p1
      obtain ⟨o2, ho2, _⟩ := id p2
      have T1 : s1.heap.IsTuple a its.toArray := p1
      have T2 : s1.heap.IsTuple b its2.toArray := p2
      refine RZ.call_zipT T1 T2 fun h' hz hTI hTO t1 t2 hsz hk => args_nil ?_
      have D := PySem.W.ktu_apart s1.heap.objs.size a b (Heap.lt_size ho1) (Heap.lt_size ho2)
      have n1 : its.length = xs.length := rv.length.symm
      have n2 : its2.length = ys.length := rv2.length.symm
      refine list_of_zip (s := { s1 with heap := h' }) (xs := its.toArray) (ys := its2.toArray) (I1.ok.hd hc) D hz hTI hTO t1 t2 (by obtain ⟨o, e, r⟩ := T1; exact ⟨o, hk _ _ e, r⟩) (by obtain ⟨o, e, r⟩ := T2; exact ⟨o, hk _ _ e, r⟩) (by simp; omega) (by simp; omega) fun h2 tk acc c as kp hS la g ea => ?_
      have le0 : s1.heap.objs.size ≤ h'.objs.size := by rw [hsz]; exact Nat.le_add_right _ _
      have ne4 : ∀ (b : Addr) (k : Nat), b < s1.heap.objs.size → b ≠ s1.heap.objs.size + k := fun b k l => Nat.ne_of_lt (Nat.lt_of_lt_of_le l (Nat.le_add_right _ _))
      obtain ⟨H2, x2, nl, hl, pr, J⟩ := pairs_laid (tk := tk) (S := h'.objs.size) (lo := h'.objs.size + 1) I1 rv rv2 few (fun b o e => kp b o (ne4 b 4 (Heap.lt_size e)) (ne4 b 3 (Heap.lt_size e)) (Nat.ne_of_lt (Heap.lt_size e)) (ne4 b 1 (Heap.lt_size e)) (hk b o e)) hS le0 (Nat.lt_succ_self _) (by simpa [n1] using la) same g ea
      exact ⟨.ref _, H2, J, rfl, q _ as H2 x2 nl hl pr⟩
end
end SwX
set_option Elab.async false
set_option linter.all false
set_option maxRecDepth 100000
set_option maxHeartbeats 4000000
/-! sets of tuples of any kind: how many stand in them -/
namespace SwX
open PySem PySem.Spec PyProof.Rows L2
/-- a kind of tuples that can stand in a set -/
structure SK (P : Program) (w : World) (κ : Type) [DecidableEq κ] where
  is' : Heap → κ → Addr → Prop
  hs : κ → Int
  tk : κ → Nat
  grow : ∀ {h h' : Heap} {k : κ} {a : Addr}, is' h k a → (∀ b o, h.get? b = some o → h'.get? b = some o) → is' h' k a
  hashed : ∀ {A : Around} {E : Value → Shared → Prop} {s : Shared} {k : κ} {a : Addr} {Q : Int → Shared → Prop}, A.units + 8 < cLine → is' s.heap k a → Q (hs k) { s with toks := s.toks + tk k } → wpAny (model P w) A (pyHash (.ref a)) Q E s
  same : ∀ {A : Around} {E : Value → Shared → Prop} {s : Shared} {x y : κ} {a b : Addr} {Q : Bool → Shared → Prop}, A.units + 8 < cLine → is' s.heap x a → is' s.heap y b → Q (decide (x = y)) s → wpAny (model P w) A (eqBool (.ref a) (.ref b)) Q E s
  calm : ∀ {A : Around} {E : Value → Shared → Prop} {s : Shared} {k : κ} {a : Addr} {Q : Bool → Shared → Prop}, is' s.heap k a → Q true s → wpAny (model P w) A (eqIsQuiet 8 (.ref a)) Q E s
  noCl : ∀ {A : Around} {E : Value → Shared → Prop} {s : Shared} {k : κ} {a : Addr} {Q : Bool → Shared → Prop}, is' s.heap k a → Q false s → wpAny (model P w) A (ofAClassStatement 8 (.ref a)) Q E s
  byV : ∀ {A : Around} {E : Value → Shared → Prop} {s : Shared} {k : κ} {a : Addr} {Q : Bool → Shared → Prop}, is' s.heap k a → (∀ b, Q b s) → wpAny (model P w) A (hashByValue 8 (.ref a)) Q E s
/-- the rows of the table -/
def rws {P : Program} {w : World} {κ : Type} [DecidableEq κ] (k : SK P w κ) (L : List (Addr × κ)) : List (Int × Value) := L.map fun q => (k.hs q.2, Value.ref q.1)
/-- a set with these keys -/
structure SR {P : Program} {w : World} {κ : Type} [DecidableEq κ] (k : SK P w κ) (h : Heap) (S : Addr) (L : List (Addr × κ)) (es : Array (Int × Value)) (ep : Nat) (t : SetTable) : Prop where
  ob : ∃ o : Obj, h.get? S = some o ∧ o.ExactSet ∧ o.data = .set es ep t
  rw' : es.toList = rws k L
  tab : TabOk t (L.map fun q => k.hs q.2)
  nd : (L.map Prod.snd).Nodup
  room : L.length * 5 < t.mask * 3
  few : L.length < 64
section
variable {P : Program} {w : World} {A : Around} {E : Value → Shared → Prop} {s : Shared} {κ : Type} [DecidableEq κ] {k : SK P w κ}
variable {S : Addr} {L : List (Addr × κ)} {es : Array (Int × Value)} {ep : Nat} {t : SetTable} {h : Heap}
theorem rws_size {es : Array (Int × Value)} {L : List (Addr × κ)} (e : es.toList = rws k L) : es.size = L.length := by
  have q := congrArg List.length e
  simpa [rws] using q
theorem SR.fit (R : SR k h S L es ep t) : t.fits es.size = true := by
  have a := R.tab.sz
  have b := rws_size R.rw'
  have c := R.room
  simp only [List.length_map] at a
  simp only [SetTable.fits, SetTable.fill, R.tab.dm, Bool.and_eq_true, beq_iff_eq, decide_eq_true_eq, Array.size_empty]
  omega
theorem SR.ent (R : SR k h S L es ep t) {i : Nat} {q : Addr × κ} (e : L[i]? = some q) : es[i]? = some (k.hs q.2, Value.ref q.1) := by
  rw [← Array.getElem?_toList, R.rw', rws, List.getElem?_map, e]; rfl
theorem SR.odd (R : SR k h S L es ep t) : t.gaveWay = false := by
  simp only [SetTable.gaveWay, mask_odd R.tab.mok]; rfl
theorem SR.alike (R : SR k h S L es ep t) {h' : Heap} (q : ∀ o, h.get? S = some o → h'.get? S = some o) : SR k h' S L es ep t := by
  obtain ⟨o, ho, z⟩ := R.ob
  exact ⟨⟨o, q o ho, z⟩, R.rw', R.tab, R.nd, R.room, R.few⟩
theorem dum_next (m : Nat) : ∀ (n : Nat) (p : SetTable.Probe), p.dummy = none → (nth m p n).dummy = none
  | 0, _, e => e
  | n + 1, p, e => dum_next m n (adv m p) (by unfold adv; split <;> exact e)
/-- whether the search shows itself -/
theorem shows_not {x : Addr} {key : κ} {Q : Bool → Shared → Prop} (hx : k.is' s.heap key x) : ∀ (ys : List Value), (∀ y ∈ ys, ∃ k2 c, y = Value.ref c ∧ k.is' s.heap k2 c) → Q false s → wpAny (model P w) A (searchCouldBeSeen (.ref x) ys) Q E s := by
  intro ys hy q
  unfold searchCouldBeSeen
  refine wpAny_bind (wpAny_forIn_list _ (fun more r s1 => r.1 = none ∧ s1 = s ∧ ∀ y ∈ more, ∃ k2 c, y = Value.ref c ∧ k.is' s.heap k2 c) _ ?_ ?_ _ _ ⟨rfl, rfl, hy⟩)
  · rintro v more r s1 ⟨_, rfl, al⟩
    obtain ⟨k2, c, rfl, hc⟩ := al v (List.mem_cons_self ..)
    have al2 : ∀ y ∈ more, ∃ k2 c, y = Value.ref c ∧ k.is' s1.heap k2 c := fun u hu => al u (.tail _ hu)
    dsimp only
    split
    · exact wpAny_pure ⟨rfl, rfl, al2⟩
    · refine wpAny_bind (k.calm hx ?_)
      refine wp_if_neg (by simp) ?_
      refine wpAny_bind (k.calm hc ?_)
      refine wp_if_neg (by simp) ?_
      refine wpAny_bind (k.noCl hx ?_)
      refine wp_if_neg (by simp) ?_
      refine wpAny_bind (k.noCl hc ?_)
      refine wp_if_neg (by simp) ?_
      exact wpAny_pure ⟨rfl, rfl, al2⟩
  · rintro ⟨r1, r2⟩ s1 ⟨e, rfl, _⟩
    obtain rfl : r1 = none := e
    exact wpAny_pure q
/-- the search, from any state of its way on -/
theorem sk_from (R : SR k s.heap S L es ep t) (al : ∀ q ∈ L, k.is' s.heap q.2 q.1) {x : Addr} {key : κ} (hx : k.is' s.heap key x) (hu : A.units + 8 < cLine) {Q : SetFound → Shared → Prop} (yes : key ∈ L.map Prod.snd → Q (.there none) s) :
    ∀ (f K : Nat) (p : SetTable.Probe) (stand : Option SetTable.Probe), stand.getD (t.probeStart (k.hs key)) = p → p.dummy = none → K < 10 * SetTable.turns t.mask → K < f →
      (∀ c, c < K → (nth t.mask p c).j ∈ t.place.toList) → (nth t.mask p K).j ∉ t.place.toList →
      (∀ (i : Nat) q, L[i]? = some q → q.2 = key → ∃ c, c < K ∧ t.place.toList[i]? = some (nth t.mask p c).j) →
      (key ∉ L.map Prod.snd → Q (.free (nth t.mask p K).j false) s) → wpAny (model P w) A (setSearchFrom S (.ref x) (k.hs key) true f stand) Q E s
  | 0, _, _, _, _, _, _, z, _, _, _, _ => absurd z (Nat.not_lt_zero _)
  | f + 1, K, p, stand, e0, dn, kb, kf, occ, fr, there, no => by
    obtain ⟨o, ho, _, hd⟩ := R.ob
    have hashAt : ∀ (i : Nat) q, L[i]? = some q → (es[i]?.map (·.1)).getD 0 = k.hs q.2 := fun i q e => by rw [R.ent e]; rfl
    rw [setSearchFrom_succ]
    refine wpAny_bind (wpAny_setState_of ho hd R.fit ?_)
    dsimp only
    refine wp_if_neg (by rw [R.odd]; decide) ?_
    try refine wpAny_bind (wpAny_pure ?_)
    have pr : ∀ m, SetTable.probe.go t (fun i => (es[i]?.map (·.1)).getD 0) (k.hs key) (10 * SetTable.turns t.mask) p = some m → t.probe (fun i => (es[i]?.map (·.1)).getD 0) (k.hs key) (stand.getD (t.probeStart (k.hs key))) = some m := fun m z => by rw [e0]; exact z
    rcases go_spec t R.tab.ris R.tab.dm (fun i => (es[i]?.map (·.1)).getD 0) (k.hs key) (10 * SetTable.turns t.mask) K p dn kb occ fr with ⟨c, i, ck, pi, hi, before, met⟩ | ⟨none', met⟩
    · rw [pr _ met]
      dsimp only
      have il : i < L.length := by
        have a := (List.getElem?_eq_some_iff.mp pi).1
        have b := R.tab.sz
        simp only [List.length_map] at b
        simp only [Array.length_toList] at a
        omega
      obtain ⟨q, hq⟩ : ∃ q, L[i]? = some q := ⟨_, List.getElem?_eq_getElem il⟩
      have qm : q ∈ L := List.mem_of_getElem? hq
      have sl : t.slot (nth t.mask p c).j = .live i := slot_live R.tab.ris pi
      have go : wpAny (model P w) A (searchRest S (.ref x) (k.hs key) true f es t (nth t.mask p c).j i (nth t.mask p (c + 1))) Q E s := by
        unfold searchRest
        rw [R.ent hq]
        dsimp only
        refine wpAny_bind (wpAny_holding (k.same hu (al q qm) hx ?_))
        refine wpAny_bind (wpAny_setState_of ho hd R.fit ?_)
        dsimp only
        by_cases eq : q.2 = key
        · exact wp_if_pos (by simp [eq]) (wpAny_pure (yes (List.mem_map.mpr ⟨q, qm, eq⟩)))
        · refine wp_if_neg (by simp [eq]) ?_
          try refine wpAny_bind (wpAny_pure ?_)
          rw [sameMem]
          simp only [if_true, sl, R.ent hq]
          refine wpAny_bind (wpAny_isSame_ref_self (wpAny_bind (wpAny_pure ?_)))
          simp only [if_true]
          refine wp_if_neg (by simp [eq]) ?_
          have sh : ∀ m, nth t.mask (nth t.mask p (c + 1)) m = nth t.mask p (c + 1 + m) := fun m => (nth_add t.mask (c + 1) p m).symm
          refine sk_from R al hx hu yes f (K - (c + 1)) (nth t.mask p (c + 1)) _ rfl (dum_next _ _ _ dn) (by omega) (by omega) (fun d hd' => by rw [sh]; exact occ _ (by omega)) (by rw [sh, show c + 1 + (K - (c + 1)) = K by omega]; exact fr) (fun i2 q2 h2 k2 => ?_) (fun nm => by rw [sh, show c + 1 + (K - (c + 1)) = K by omega]; exact no nm)
          obtain ⟨d, dK, pd⟩ := there i2 q2 h2 k2
          rcases Nat.lt_trichotomy d c with z | z | z
          · exact absurd ((hashAt i2 q2 h2).trans (congrArg k.hs k2)) (before d i2 z pd)
          · subst z
            have s2 := slot_live R.tab.ris pd
            rw [sl] at s2
            injection s2 with s2
            rw [← s2, hq] at h2
            exact absurd ((congrArg Prod.snd (Option.some.inj h2)).trans k2) eq
          · exact ⟨d - (c + 1), by omega, by rw [sh, show c + 1 + (d - (c + 1)) = d by omega]; exact pd⟩
      by_cases ld : t.led = true
      · refine wp_if_neg (by simp [ld]) ?_
        try refine wpAny_bind (wpAny_pure ?_)
        exact go
      · refine wp_if_pos (by simp [ld]) (wpAny_bind (shows_not hx _ (fun y hy => ?_) ?_))
        · obtain ⟨e, he, rfl⟩ := List.mem_map.mp hy
          have he1 : e ∈ es.toList := by
            have z : e ∈ es ∧ e.1 = k.hs key := by simpa using he
            simpa using z.1
          rw [R.rw'] at he1
          obtain ⟨q2, m2, rfl⟩ := List.mem_map.mp he1
          exact ⟨q2.2, q2.1, rfl, al q2 m2⟩
        · refine wp_if_neg (by decide) ?_
          try refine wpAny_bind (wpAny_pure ?_)
          exact go
    · rw [pr _ met]
      dsimp only
      refine wpAny_pure (no fun hm => ?_)
      obtain ⟨q, qm, qk⟩ := List.mem_map.mp hm
      obtain ⟨i, il, ei⟩ := List.getElem_of_mem qm
      have hq : L[i]? = some q := by rw [List.getElem?_eq_getElem il, ei]
      obtain ⟨c, ck, pc⟩ := there i q hq qk
      exact none' c i ck pc ((hashAt i q hq).trans (congrArg k.hs qk))
theorem sk_search (R : SR k s.heap S L es ep t) (al : ∀ q ∈ L, k.is' s.heap q.2 q.1) {x : Addr} {key : κ} (hx : k.is' s.heap key x) (hu : A.units + 8 < cLine) {Q : SetFound → Shared → Prop} (yes : key ∈ L.map Prod.snd → Q (.there none) s)
    (no : ∀ K, key ∉ L.map Prod.snd → way t.mask (k.hs key) K ∉ t.place.toList → (∀ c, c < K → way t.mask (k.hs key) c ∈ t.place.toList) → Q (.free (way t.mask (k.hs key) K) false) s) :
    wpAny (model P w) A (setSearch S (.ref x) (k.hs key) true) Q E s := by
  have rm := R.room
  obtain ⟨K, kb, fr, occ⟩ := R.tab.first (by rw [List.length_map]; omega) (k.hs key)
  have few : 10 * SetTable.turns t.mask ≤ 1420 := by
    unfold SetTable.turns
    rcases R.tab.mok with e | e | e <;> omega
  unfold setSearch
  refine sk_from R al hx hu yes 100000 K _ none rfl rfl kb (by omega) occ fr (fun i q hq hk => ?_) fun nm => no K nm fr occ
  have il : i < t.place.toList.length := by
    have a := (List.getElem?_eq_some_iff.mp hq).1
    have b := R.tab.sz
    simp only [List.length_map] at b
    simp only [Array.length_toList]
    omega
  obtain ⟨c, ck, e⟩ := R.tab.before fr (i := i) (by rw [List.getElem?_map, hq, ← hk]; rfl) (List.getElem?_eq_getElem il)
  exact ⟨c, ck, by rw [List.getElem?_eq_getElem il]; exact congrArg some e.symm⟩
/-- the rows in another order -/
theorem rws_order (order : Array Nat) (e : es.toList = rws k L) (pm : order.toList.Perm (List.range L.length)) :
    ∃ L2, (order.filterMap (es[·]?)).toList = rws k L2 ∧ L2.Perm L ∧ (L2.map fun q => k.hs q.2) = order.toList.map fun i => (es.map (·.1)).getD i 0 := by
  have sz := rws_size e
  have one : ∀ i (l : i < L.length), es[i]? = some (k.hs (L[i]).2, Value.ref (L[i]).1) := fun i l => by
    rw [← Array.getElem?_toList, e, rws, List.getElem?_map, List.getElem?_eq_getElem l]; rfl
  have step : ∀ l : List Nat, (∀ i ∈ l, i < L.length) → l.filterMap (fun i => es[i]?) = rws k (l.filterMap fun i => L[i]?) ∧ ((l.filterMap fun i => L[i]?).map fun q => k.hs q.2) = l.map fun i => (es.map (·.1)).getD i 0 := by
    intro l
    induction l with
    | nil => intro _; exact ⟨rfl, rfl⟩
    | cons i l ih =>
      intro hl
      have il := hl i (.head _)
      obtain ⟨a, b⟩ := ih fun j hj => hl j (.tail _ hj)
      have g1 : (es.map (·.1)).getD i 0 = k.hs (L[i]).2 := by
        have z : (es.map (·.1))[i]? = some (k.hs (L[i]).2) := by rw [Array.getElem?_map, one i il]; rfl
        simp [Array.getD_eq_getD_getElem?, z]
      rw [List.filterMap_cons_some (one i il), List.filterMap_cons_some (List.getElem?_eq_getElem il), List.map_cons, List.map_cons, a, b, g1]
      exact ⟨rfl, rfl⟩
  obtain ⟨a, b⟩ := step order.toList fun i m => List.mem_range.mp (pm.mem_iff.mp m)
  refine ⟨_, by simpa using a, ?_, b⟩
  have id' : ∀ n, n ≤ L.length → (List.range n).filterMap (fun i => L[i]?) = L.take n := by
    intro n
    induction n with
    | zero => intro _; rfl
    | succ n ih => intro l; rw [List.range_succ, List.filterMap_append, ih (by omega), List.take_succ, List.getElem?_eq_getElem (by omega), List.filterMap_cons_some (List.getElem?_eq_getElem (by omega))]; rfl
  have z := pm.filterMap (fun i => L[i]?)
  rwa [id' _ (Nat.le_refl _), List.take_length] at z
/-- laid anew, greater -/
theorem sk_relay {o : Obj} (ho : s.heap.get? S = some o) (hx : o.ExactSet) (hd : o.data = .set es ep t) (e : es.toList = rws k L) (sz : t.place.size = es.size) (dm : t.dummies = #[]) (fl : es.size ≤ t.mask) (nd : (L.map Prod.snd).Nodup) (few : L.length < 64)
    {wanted M : Nat} (hw : SetTable.sizeAbove wanted - 1 = M) (hM : MaskOk M) (h128 : SetTable.sizeAbove wanted ≤ 128) (rm : L.length * 5 < M * 3) {Q : Unit → Shared → Prop}
    (q : ∀ h' L' es' ep' t', Heap.SameBut S s.heap h' → SR k h' S L' es' ep' t' → L'.Perm L → Q () { s with heap := h' }) : wpAny (model P w) A (setRelay S wanted) Q E s := by
  have sl := rws_size e
  have ft : t.fits es.size = true := by
    simp only [SetTable.fits, SetTable.fill, dm, Bool.and_eq_true, beq_iff_eq, decide_eq_true_eq, Array.size_empty]
    omega
  obtain ⟨t', order, el, pm, T, em, _, _, _⟩ := relaid_ok t (hs := es.map (·.1)) hw hM (by rw [Array.size_map]; omega)
  rw [Array.size_map, sl] at pm
  obtain ⟨L2, r1, r2, r3⟩ := rws_order (k := k) order e pm
  rw [← r3] at T
  have s2 : (order.filterMap (es[·]?)).size = es.size := by rw [rws_size r1, r2.length_eq, sl]
  rw [setRelay_eq]
  refine wpAny_bind (wpAny_setState_of ho hd ft ?_)
  dsimp only
  refine wp_if_neg (by rw [sizeLine_eq]; omega) ?_
  try refine wpAny_bind (wpAny_pure ?_)
  rw [el]
  dsimp only
  refine wpAny_bind (wp_if_neg (by rw [s2]; simp) ?_)
  try refine wpAny_bind (wpAny_pure ?_)
  refine wpAny_pure (wpAny_storeSet_of ho hd ?_ (by rw [s2, sl, sizeLine_eq]; omega))
  refine q _ L2 _ (ep + 1) t' (Heap.SameBut.update ..) ⟨⟨_, store_at ho hd, ⟨hx.1, hx.2.1, hx.2.2⟩, rfl⟩, r1, T, (r2.map Prod.snd).nodup_iff.mpr nd, by rw [r2.length_eq, em]; exact rm, by rw [r2.length_eq]; exact few⟩ r2
theorem tabOk_flag {t : SetTable} {l : List Int} (T : TabOk t l) (b : Bool) : TabOk { t with plain := b } l := ⟨T.ris, T.dm, T.sz, T.mok, T.bd, T.reach⟩
/-- one more is put in -/
theorem sk_add (R : SR k s.heap S L es ep t) (al : ∀ q ∈ L, k.is' s.heap q.2 q.1) {x : Addr} {key : κ} (hx : k.is' s.heap key x) (hu : A.units + 8 < cLine) (few : L.length + 1 < 64) {Q : Bool → Shared → Prop}
    (q : ∀ b h' L' es' ep' t', Heap.SameBut S s.heap h' → SR k h' S L' es' ep' t' → (key ∈ L.map Prod.snd → L' = L) → (key ∉ L.map Prod.snd → L'.Perm ((x, key) :: L)) → Q b { s with heap := h' }) :
    wpAny (model P w) A (setAddHashed S (.ref x) (k.hs key)) Q E s := by
  obtain ⟨o, ho, ex, hd⟩ := R.ob
  have sl := rws_size R.rw'
  have rm := R.room
  unfold setAddHashed
  refine wpAny_holding ?_
  rw [show (100000 : Nat) = 99999 + 1 from rfl, setAddHashedIn_succ]
  refine wpAny_bind (wpAny_setState_of ho hd R.fit ?_)
  dsimp only
  refine wp_if_neg (by simp [byScan, Value.scannable]) ?_
  try refine wpAny_bind (wpAny_pure ?_)
  refine wpAny_bind (sk_search R al hx hu (fun hm => ?_) fun K hm fr occ => ?_)
  · dsimp only
    exact wpAny_pure (q false s.heap L es ep t (Heap.SameBut.refl S s.heap) R (fun _ => rfl) fun z => absurd hm z)
  dsimp only
  refine wpAny_bind (wpAny_setState_of ho hd R.fit ?_)
  dsimp only
  obtain ⟨i1, i2, i3, i4, _, _, _, _, i9⟩ := R.tab.put fr occ
  generalize t.put (way t.mask (k.hs key) K) = pt at i1 i3 i4 i9 ⊢
  obtain ⟨t1, p⟩ := pt
  dsimp only at i1 i3 i4 i9 ⊢
  subst i1
  have it : (SetTable.insertAt es (SetTable.below t.place (way t.mask (k.hs key) K)) (k.hs key, Value.ref x)).toList = rws k (L.take (SetTable.below t.place (way t.mask (k.hs key) K)) ++ (x, key) :: L.drop (SetTable.below t.place (way t.mask (k.hs key) K))) := by
    rw [SetTable.toList_insertAt, R.rw']
    simp [rws]
  generalize SetTable.below t.place (way t.mask (k.hs key) K) = p at i2 i3 it ⊢
  have pm := put_perm L p (x, key)
  have ln : (L.take p ++ (x, key) :: L.drop p).length = L.length + 1 := pm.length_eq
  have i3' : TabOk t1 ((L.take p ++ (x, key) :: L.drop p).map fun q => k.hs q.2) := by simpa using i3
  have sz1 := rws_size it
  rw [ln] at sz1
  have nd1 : ((L.take p ++ (x, key) :: L.drop p).map Prod.snd).Nodup := (pm.map Prod.snd).nodup_iff.mpr (by rw [List.map_cons]; exact List.nodup_cons.mpr ⟨hm, R.nd⟩)
  generalize SetTable.insertAt es p (k.hs key, Value.ref x) = es1 at it sz1 ⊢
  generalize L.take p ++ (x, key) :: L.drop p = L1 at pm ln i3' nd1 it
  have rest : ∀ t2 : SetTable, TabOk t2 (L1.map fun q => k.hs q.2) → t2.mask = t.mask → t2.fill = L.length + 1 → wpAny (model P w) A (do
      storeSet S es1 t2
      if (!false && t2.tooFull) = true then setRelay S (SetTable.grown (es.size + 1))
      return true) Q E s := by
    intro t2 T mk fill
    refine wpAny_bind (wpAny_storeSet_of ho hd ?_ (by rw [sz1, sizeLine_eq]; omega))
    have sb : Heap.SameBut S s.heap (s.heap.update S (Obj.putSet es1 t2)) := Heap.SameBut.update ..
    have ho1 := store_at (es' := es1) (t' := t2) ho hd
    generalize s.heap.update S (Obj.putSet es1 t2) = h1 at sb ho1 ⊢
    by_cases full : t2.tooFull = true
    · have fu : (L.length + 1) * 5 ≥ t2.mask * 3 := by
        have z := full
        simp only [SetTable.tooFull, decide_eq_true_eq, fill] at z
        exact z
      rw [sl]
      have two : (t.mask = 7 ∧ L.length = 4) ∨ (t.mask = 31 ∧ L.length = 18) := by
        rcases R.tab.mok with e | e | e <;> rw [mk] at fu <;> omega
      have tz := T.sz
      rw [List.length_map, ln] at tz
      have go : ∀ M, SetTable.sizeAbove (SetTable.grown (L.length + 1)) - 1 = M → MaskOk M → SetTable.sizeAbove (SetTable.grown (L.length + 1)) ≤ 128 → (L.length + 1) * 5 < M * 3 →
          wpAny (model P w) A (setRelay S (SetTable.grown (L.length + 1))) (fun _ s1 => wpAny (model P w) A (pure true) Q E s1) E { s with heap := h1 } := fun M a b c d => by
        refine sk_relay (k := k) (s := { s with heap := h1 }) ho1 ⟨ex.1, ex.2.1, ex.2.2⟩ rfl it (by omega) T.dm (by rw [sz1, mk]; rcases two with z | z <;> omega) nd1 (by omega) a b c (by rw [ln]; exact d) fun h2 L2 es2 ep2 t2 sb2 R2 pm2 => ?_
        exact wpAny_pure (q true h2 L2 es2 ep2 t2 (sb.trans sb2) R2 (fun z => absurd z hm) fun _ => pm2.trans pm)
      first
        | refine wpAny_bind (wp_if_pos (by simp [full]) ?_)
        | refine wp_if_pos (by simp [full]) (wpAny_bind ?_)
      rcases two with ⟨_, e⟩ | ⟨_, e⟩
      · exact go 31 (by rw [e, size_20]) (.inr (.inl rfl)) (by rw [e, size_20]; decide) (by omega)
      · exact go 127 (by rw [e, size_76]) (.inr (.inr rfl)) (by rw [e, size_76]; decide) (by omega)
    · have nf : (L.length + 1) * 5 < t2.mask * 3 := by
        have z := full
        simp only [SetTable.tooFull, decide_eq_true_eq, fill] at z
        omega
      have fin : Q true { s with heap := h1 } := q true h1 L1 es1 (ep + 1) t2 sb ⟨⟨_, ho1, ⟨ex.1, ex.2.1, ex.2.2⟩, rfl⟩, it, T, nd1, by omega, by omega⟩ (fun z => absurd z hm) fun _ => pm
      first
        | exact wp_if_neg (by simp [full]) (wpAny_pure fin)
        | exact wpAny_bind (wp_if_neg (by simp [full]) (wpAny_pure (wpAny_pure fin)))
  have f1 : t1.fill = L.length + 1 := by rw [i9, List.length_map]
  by_cases pl : t1.plain = true
  · first
      | refine wpAny_bind (wp_if_pos pl (k.byV hx fun b => ?_))
      | refine wp_if_pos pl (wpAny_bind (k.byV hx fun b => ?_))
    cases b
    · exact rest _ (tabOk_flag i3' false) i4 f1
    · exact rest _ i3' i4 f1
  · first
      | refine wpAny_bind (wp_if_neg pl (wpAny_pure ?_))
      | refine wp_if_neg pl ?_
    exact rest _ i3' i4 f1
end
end SwX
set_option Elab.async false
set_option linter.all false
set_option maxRecDepth 100000
set_option maxHeartbeats 4000000
/-! recipes (a text, a number, a tuple of texts) and texts in sets -/
namespace SwX
open PySem PySem.Spec PyProof.Rows L2
section
variable {P : Program} {w : World} {A : Around} {E : Value → Shared → Prop} {s : Shared}
/-! ### hashes of tuples with items of several kinds -/
def HashIs (P : Program) (w : World) (h : Heap) (v : Value) (z : Int × Nat) : Prop :=
  ∀ (A : Around) (E : Value → Shared → Prop) (s : Shared) (Q : Int → Shared → Prop), A.units + 4 < cLine → s.heap = h → Q z.1 { s with toks := s.toks + z.2 } → wpAny (model P w) A (pyHash v) Q E s
def sumT (zs : List (Int × Nat)) : Nat := (zs.map Prod.snd).sum
theorem hash_mixed {a : Addr} {o : Obj} {items : Array Value} {n : Nat} {zs : List (Int × Nat)} {Q : Int → Shared → Prop} (hu : A.units + 6 < cLine) (ho : s.heap.get? a = some o) (hc : o.cls = .type "tuple") (hd : o.data = .seq items n)
    (all : Paired (HashIs P w s.heap) items.toList zs) (q : Q (reduceHash (Builtin.Tuple.tupleHashOf (zs.map Prod.fst))) { s with toks := s.toks + (sumT zs + 1) }) : wpAny (model P w) A (pyHash (.ref a)) Q E s := by
  have ty : s.TypeIs (.ref a) "tuple" := ⟨o, ho, hc⟩
  unfold pyHash pyHashByItsType
  refine wpAny_bind (wpAny_cRoomFor_or (.inr (by omega)) (wpAny_bind (wpAny_specialOf ty F.slot_tuple_hash.lookup ?_)))
  refine wp_if_neg (by rw [beq_builtin_none]; decide) ?_
  try refine wpAny_bind (wpAny_pure ?_)
  refine wpAny_bind (wpAny_specialOf ty F.slot_tuple_hash.lookup ?_)
  show wpAny _ _ (callSpecialIfBoundUnlessNone? (.ref a) "__hash__" _ >>= _) Q E s
  refine wpAny_bind (wpAny_callSpecialIfBoundUnlessNone?_slot ty F.slot_tuple_hash (wpAny_call_entry F.slot_tuple_hash ty F.entry_tuple_hash ?_ (F.args_tuple_hash_1 _)))
  show wpAny _ _ (Builtin.Tuple.tupleItemsOf (.ref a) >>= _) _ _ s
  refine wpAny_bind (wpAny_tupleItemsOf ho hd (wpAny_bind ?_))
  rw [← Array.forIn_toList]
  refine wpAny_forIn_list _ (fun more (b : Array Int) s1 => ∃ gone left, zs = gone ++ left ∧ Paired (HashIs P w s.heap) more left ∧ b.toList = gone.map Prod.fst ∧ s1 = { s with toks := s.toks + sumT gone }) _ ?_ ?_ _ _ ⟨[], zs, rfl, all, rfl, rfl⟩
  · rintro x more b s1 ⟨gone, left, e, pl, hb, rfl⟩
    cases pl with
    | @cons _ z _ left' h1 pl' =>
      refine wpAny_bind (h1 _ _ _ _ (by show A.units + 1 + 4 < cLine; omega) rfl ?_)
      have fin : ∃ gone' left2, zs = gone' ++ left2 ∧ Paired (HashIs P w s.heap) more left2 ∧ (b.push z.1).toList = gone'.map Prod.fst ∧ ({ s with toks := s.toks + sumT gone + z.2 } : Shared) = { s with toks := s.toks + sumT gone' } :=
        ⟨gone ++ [z], left', by rw [e]; simp, pl', by simp [hb], by simp [sumT, Nat.add_assoc]⟩
      first
        | exact wpAny_pure fin
        | exact wpAny_bind (wpAny_pure (wpAny_pure fin))
  · rintro b s1 ⟨gone, left, e, pl, hb, rfl⟩
    cases pl
    rw [List.append_nil] at e
    subst e
    show wpAny _ _ (retInt (Builtin.Tuple.tupleHashOf b.toList)) _ _ _
    rw [hb]
    refine wpAny_ret_mkInt ?_
    show wpAny _ _ (if (decide (-(2 : Int) ^ 63 ≤ Builtin.Tuple.tupleHashOf (zs.map Prod.fst)) && decide (Builtin.Tuple.tupleHashOf (zs.map Prod.fst) < 2 ^ 63)) = true then _ else _) Q E _
    unfold reduceHash at q
    split
    · rename_i c
      rw [if_pos c] at q
      exact wpAny_pure (by simpa [Nat.add_assoc] using q)
    · rename_i c
      rw [if_neg c] at q
      exact wpAny_bind (wpAny_rule (wpAny_pure (by simpa [Nat.add_assoc] using q)))
/-! ### == of such tuples -/
def EqIs (P : Program) (w : World) (s : Shared) (p : Value × Value) (b : Bool) : Prop :=
  ∀ (A : Around) (E : Value → Shared → Prop) (Q : Bool → Shared → Prop), A.units + 4 < cLine → Q b s → wpAny (model P w) A (eqBool p.1 p.2) Q E s
theorem eq_tree_mixed {a b : Addr} {oa ob : Obj} {xs ys : Array Value} {na nb : Nat} {fl : List Bool} {R : PySem.Fin → Shared → Prop} (hu : A.units + 4 < cLine) (ha : s.heap.get? a = some oa) (da : oa.data = .seq xs na) (hb : s.heap.get? b = some ob) (cb : ob.cls = .type "tuple")
    (db : ob.data = .seq ys nb) (all : Paired (EqIs P w s) (List.zip xs.toList ys.toList) fl) (q : R (.done (.ret (.bool (fl.all id && (xs.size == ys.size))))) s) : wpAny (model P w) A (Builtin.«tuple.__eq__» ⟨[.ref a, .ref b], []⟩) R E s := by
  have ty : s.TypeIs (.ref b) "tuple" := ⟨ob, hb, cb⟩
  show wpAny _ _ (isInstance (.ref b) (.type "tuple") >>= _) _ _ s
  refine wpAny_bind (wpAny_isInstance ty isSubtype_tuple_tuple ?_)
  simp only [Bool.not_true, Bool.false_eq_true, if_false]
  refine wpAny_bind (wpAny_tupleItemsOf ha da (wpAny_bind (wpAny_tupleItemsOf hb db (wpAny_bind ?_))))
  refine wpAny_forIn_list _ (fun more r s1 => r.1 = none ∧ s1 = s ∧ ∃ left, Paired (EqIs P w s) more left ∧ left.all id = fl.all id) _ ?_ ?_ _ _ ⟨rfl, rfl, fl, all, rfl⟩
  · rintro ⟨u, v⟩ more r s1 ⟨_, rfl, left, pl, el⟩
    cases pl with
    | @cons _ z _ left' h1 pl' =>
      refine wpAny_bind (h1 _ _ _ hu ?_)
      cases z with
      | true =>
        simp only [Bool.not_true, Bool.false_eq_true, if_false]
        exact wpAny_pure ⟨rfl, rfl, left', pl', by rw [← el]; rfl⟩
      | false =>
        simp only [Bool.not_false, if_true]
        have no : fl.all id = false := by rw [← el]; rfl
        rw [no, Bool.false_and] at q
        exact wpAny_bind (wpAny_pure (wpAny_pure (wpAny_pure q)))
  · rintro ⟨r1, r2⟩ s1 ⟨e, rfl, left, pl, el⟩
    obtain rfl : r1 = none := e
    cases pl
    rw [← el] at q
    exact wpAny_pure (show R (.done (.ret (.bool (xs.size == ys.size)))) s1 by simpa using q)
theorem eq_mixed {a b : Addr} {oa ob : Obj} {xs ys : Array Value} {na nb : Nat} {fl : List Bool} {Q : Bool → Shared → Prop} (hu : A.units + 6 < cLine) (ha : s.heap.get? a = some oa) (ca : oa.cls = .type "tuple") (da : oa.data = .seq xs na) (hb : s.heap.get? b = some ob)
    (cb : ob.cls = .type "tuple") (db : ob.data = .seq ys nb) (all : Paired (EqIs P w s) (List.zip xs.toList ys.toList) fl) (own : a = b → (fl.all id && (xs.size == ys.size)) = true) (q : Q (fl.all id && (xs.size == ys.size)) s) : wpAny (model P w) A (eqBool (.ref a) (.ref b)) Q E s := by
  unfold eqBool
  try with_reducible refine wpAny_holding ?_
  show wpAny _ _ (if (Value.ref a == Value.ref b) = true then _ else _) Q E s
  by_cases ab : (Value.ref a == Value.ref b) = true
  · refine wp_if_pos ab ?_
    have e : a = b := by
      have z := eq_of_beq ab
      injection z
    rw [own e] at q
    exact wpAny_bind (wpAny_rule (wpAny_pure q))
  · refine wp_if_neg ab ?_
    have ta : s.TypeIs (.ref a) "tuple" := ⟨oa, ha, ca⟩
    have tb : s.TypeIs (.ref b) "tuple" := ⟨ob, hb, cb⟩
    exact wpAny_bind (wpAny_richCompare_same_room (op := .Eq) ta tb F.slot_tuple_eq (wpAny_call_entry F.slot_tuple_eq ta F.entry_tuple_eq (eq_tree_mixed (by show A.units + 1 + 4 < cLine; omega) ha da hb cb db all ⟨_, rfl, (fun e => nomatch e), wpAny_truthy_bool q⟩) (F.args_tuple_eq_2 _ _)) (by omega))
/-! ### the small questions, one level after another -/
theorem calm_level {a : Addr} {o : Obj} {items : Array Value} {n d : Nat} {Q : Bool → Shared → Prop} (ho : s.heap.get? a = some o) (hc : o.cls = .type "tuple") (hd : o.data = .seq items n)
    (all : ∀ v ∈ items.toList, ∀ Q : Bool → Shared → Prop, Q true s → wpAny (model P w) A (eqIsQuiet d v) Q E s) (q : Q true s) : wpAny (model P w) A (eqIsQuiet (d + 1) (.ref a)) Q E s := by
  have ty : s.TypeIs (.ref a) "tuple" := ⟨o, ho, hc⟩
  unfold eqIsQuiet
  refine wpAny_bind (wpAny_specialOf ty F.slot_tuple_eq.lookup ?_)
  show wpAny _ _ (isInstance (.ref a) (.type "tuple") >>= _) _ _ s
  refine wpAny_bind (wpAny_isInstance ty isSubtype_tuple_tuple ?_)
  simp only [Bool.not_true, Bool.false_eq_true, if_false]
  refine wpAny_bind (wpAny_seqItems ho hd (wpAny_bind ?_))
  show wpAny _ _ (forIn items _ _) _ _ s
  rw [← Array.forIn_toList]
  refine wpAny_forIn_list _ (fun more r s1 => r.1 = none ∧ s1 = s ∧ ∀ v ∈ more, ∀ Q : Bool → Shared → Prop, Q true s → wpAny (model P w) A (eqIsQuiet d v) Q E s) _ ?_ ?_ _ _ ⟨rfl, rfl, all⟩
  · rintro v more r s1 ⟨_, rfl, al⟩
    refine wpAny_bind (al v (.head _) _ ?_)
    simp only [Bool.not_true, Bool.false_eq_true, if_false]
    exact wpAny_pure ⟨rfl, rfl, fun u m => al u (.tail _ m)⟩
  · rintro ⟨r1, r2⟩ s1 ⟨e, rfl, _⟩
    obtain rfl : r1 = none := e
    exact wpAny_pure q
theorem noCl_level {a : Addr} {o : Obj} {items : Array Value} {n d : Nat} {Q : Bool → Shared → Prop} (ho : s.heap.get? a = some o) (hc : o.cls = .type "tuple") (hd : o.data = .seq items n)
    (all : ∀ v ∈ items.toList, ∀ Q : Bool → Shared → Prop, Q false s → wpAny (model P w) A (ofAClassStatement d v) Q E s) (q : Q false s) : wpAny (model P w) A (ofAClassStatement (d + 1) (.ref a)) Q E s := by
  have ty : s.TypeIs (.ref a) "tuple" := ⟨o, ho, hc⟩
  unfold ofAClassStatement
  refine wpAny_bind (wpAny_typeOf ty ?_)
  dsimp only
  simp only [show (("tuple" : String) == "tuple") = true from by decide, if_true, Bool.not_true, Bool.false_eq_true, if_false]
  try refine wpAny_bind (wpAny_pure ?_)
  try simp only [Bool.not_true, Bool.false_eq_true, if_false]
  show wpAny _ _ (seqItems? (.ref a) >>= _) _ _ s
  refine wpAny_bind (wpAny_seqItems ho hd ?_)
  dsimp only
  refine wpAny_bind ?_
  show wpAny _ _ (forIn items _ _) _ _ s
  rw [← Array.forIn_toList]
  refine wpAny_forIn_list _ (fun more r s1 => r.1 = none ∧ s1 = s ∧ ∀ v ∈ more, ∀ Q : Bool → Shared → Prop, Q false s → wpAny (model P w) A (ofAClassStatement d v) Q E s) _ ?_ ?_ _ _ ⟨rfl, rfl, all⟩
  · rintro v more r s1 ⟨_, rfl, al⟩
    refine wpAny_bind (al v (.head _) _ ?_)
    simp only [Bool.false_eq_true, if_false]
    exact wpAny_pure ⟨rfl, rfl, fun u m => al u (.tail _ m)⟩
  · rintro ⟨r1, r2⟩ s1 ⟨e, rfl, _⟩
    obtain rfl : r1 = none := e
    exact wpAny_pure q
theorem byV_level {a : Addr} {o : Obj} {items : Array Value} {n d : Nat} {Q : Bool → Shared → Prop} (ho : s.heap.get? a = some o) (hc : o.cls = .type "tuple") (hd : o.data = .seq items n)
    (all : ∀ v ∈ items.toList, ∀ Q : Bool → Shared → Prop, (∀ b, Q b s) → wpAny (model P w) A (hashByValue d v) Q E s) (q : ∀ b, Q b s) : wpAny (model P w) A (hashByValue (d + 1) (.ref a)) Q E s := by
  have ty : s.TypeIs (.ref a) "tuple" := ⟨o, ho, hc⟩
  unfold hashByValue
  refine wpAny_bind (wpAny_specialOf ty F.slot_tuple_hash.lookup ?_)
  show wpAny _ _ (seqItems? (.ref a) >>= _) _ _ s
  refine wpAny_bind (wpAny_seqItems ho hd (wpAny_bind ?_))
  show wpAny _ _ (forIn items _ _) _ _ s
  rw [← Array.forIn_toList]
  refine wpAny_forIn_list _ (fun more r s1 => r.1 = none ∧ s1 = s ∧ ∀ v ∈ more, ∀ Q : Bool → Shared → Prop, (∀ b, Q b s) → wpAny (model P w) A (hashByValue d v) Q E s) _ ?_ ?_ _ _ ⟨rfl, rfl, all⟩
  · rintro v more r s1 ⟨_, rfl, al⟩
    refine wpAny_bind (al v (.head _) _ fun b => ?_)
    cases b
    · simp only [Bool.not_false, if_true]
      first
        | exact wpAny_pure (wpAny_pure (q _))
        | exact wpAny_pure (q _)
        | exact wpAny_pure (wpAny_pure (wpAny_pure (q _)))
        | exact wpAny_bind (wpAny_pure (wpAny_pure (q _)))
        | exact wpAny_bind (wpAny_pure (q _))
    · simp only [Bool.not_true, Bool.false_eq_true, if_false]
      exact wpAny_pure ⟨rfl, rfl, fun u m => al u (.tail _ m)⟩
  · rintro ⟨r1, r2⟩ s1 ⟨e, rfl, _⟩
    obtain rfl : r1 = none := e
    exact wpAny_pure (q _)
end
/-! ### recipes -/
abbrev RcK : Type := Str × Int × List Str
def IsRc (P : Program) (w : World) (h : Heap) (z : RcK) (a : Addr) : Prop :=
  ∃ (o : Obj) (items : Array Value) (n : Nat) (t u : Tok) (b : Addr), h.get? a = some o ∧ o.cls = .type "tuple" ∧ o.data = .seq items n ∧ items.toList = [.str z.1 t, .int z.2.1 u, .ref b] ∧ IsTupleKey (PySem.strKind P w) h z.2.2 b
theorem strs_items {P : Program} {w : World} {xs : List Str} {vs : List Value} (h : ItemsAre (PySem.strKind P w) xs vs) : ∀ v ∈ vs, ∃ x t, v = Value.str x t := by
  induction h with
  | nil => intro v m; cases m
  | @cons x v xs vs h1 _ ih =>
    intro u m
    rcases List.mem_cons.mp m with rfl | m
    · obtain ⟨t, e⟩ := Value.isStrOf_shape h1
      exact ⟨x, t, e⟩
    · exact ih u m
def rcHash (P : Program) (w : World) (z : RcK) : Int := reduceHash (Builtin.Tuple.tupleHashOf [hashStr w z.1, (intKind P w).hash z.2.1, tupleKeyHash (PySem.strKind P w) z.2.2])
theorem dec3 (x y : RcK) : (decide (x.1 = y.1) && (decide (x.2.1 = y.2.1) && (decide (x.2.2 = y.2.2) && true))) = decide (x = y) := by
  obtain ⟨a, b, c⟩ := x
  obtain ⟨a', b', c'⟩ := y
  simp only [Bool.and_true, Prod.mk.injEq, Bool.decide_and]
def rcKind (P : Program) (w : World) : SK P w RcK where
  is' := IsRc P w
  hs := rcHash P w
  tk := fun z => sumT [(hashStr w z.1, 1), ((intKind P w).hash z.2.1, 1), (tupleKeyHash (PySem.strKind P w) z.2.2, z.2.2.length + 1)] + 1
  grow := fun ⟨o, items, n, t, u, b, ho, hc, hd, hi, ⟨o2, i2, n2, ho2, r⟩⟩ k => ⟨o, items, n, t, u, b, k _ _ ho, hc, hd, hi, o2, i2, n2, k _ _ ho2, r⟩
  hashed := by
    rintro A E s ⟨x, i, ps⟩ a Q hu ⟨o, items, n, t, u, b, ho, hc, hd, hi, hb⟩ q
    refine hash_mixed (zs := [(hashStr w x, 1), ((intKind P w).hash i, 1), (tupleKeyHash (PySem.strKind P w) ps, ps.length + 1)]) (by omega) ho hc hd ?_ q
    rw [hi]
    refine .cons (fun A E s Q _ _ q => (PySem.strKind P w).pyHash (k := x) (by simp [PySem.strKind, Value.isStrOf]) q) (.cons (fun A E s Q _ _ q => (intKind P w).pyHash (k := i) (intKind_is P w i u) q) (.cons (fun A E s1 Q hu e q => ?_) .nil))
    exact wpAny_pyHash_tuple (by omega) (by rw [e]; exact hb) q
  same := by
    rintro A E s ⟨x, i, ps⟩ ⟨y, j, rs⟩ a b Q hu ⟨o, items, n, t, u, c, ho, hc, hd, hi, hb⟩ ⟨o2, items2, n2, t2, u2, c2, ho2, hc2, hd2, hi2, hb2⟩ q
    have sz : (items.size == items2.size) = true := by
      rw [← Array.length_toList, ← Array.length_toList, hi, hi2]; rfl
    have all : (([decide (x = y), decide (i = j), decide (ps = rs)] : List Bool).all id && (items.size == items2.size)) = decide (((x, i, ps) : RcK) = (y, j, rs)) := by
      rw [sz, ← dec3]
      simp [Bool.and_assoc]
    refine eq_mixed (fl := [decide (x = y), decide (i = j), decide (ps = rs)]) (by omega) ho hc hd ho2 hc2 hd2 ?_ ?_ (by rw [all]; exact q)
    · rw [hi, hi2]
      refine .cons (fun A E Q _ q => (PySem.strKind P w).eqBool (a := x) (b := y) (by simp [PySem.strKind, Value.isStrOf]) (by simp [PySem.strKind, Value.isStrOf]) q) (.cons (fun A E Q _ q => (intKind P w).eqBool (a := i) (b := j) (intKind_is P w i u) (intKind_is P w j u2) q) (.cons (fun A E Q hu q => ?_) .nil))
      exact wpAny_eqBool_tuple (by omega) hb hb2 q
    · rintro rfl
      obtain rfl : o = o2 := Option.some.inj (ho.symm.trans ho2)
      rw [hd] at hd2
      injection hd2 with e1 _
      subst e1
      rw [hi] at hi2
      simp only [List.cons.injEq, Value.str.injEq, Value.int.injEq, Value.ref.injEq, and_true] at hi2
      obtain ⟨⟨e1, _⟩, ⟨e2, _⟩, e3⟩ := hi2
      subst e1 e2 e3
      have e4 : ps = rs := hb.inj hb2
      subst e4
      rw [sz]; simp
  calm := by
    rintro A E s ⟨x, i, ps⟩ a Q ⟨o, items, n, t, u, b, ho, hc, hd, hi, ⟨o2, i2, n2, ho2, hc2, hd2, ps2⟩⟩ q
    refine calm_level ho hc hd ?_ q
    rw [hi]
    intro v m Q q
    rcases List.mem_cons.mp m with rfl | m
    · rw [eqIsQuiet_byValue _ rfl]; exact wpAny_pure q
    rcases List.mem_cons.mp m with rfl | m
    · rw [eqIsQuiet_byValue _ rfl]; exact wpAny_pure q
    obtain rfl := List.mem_singleton.mp m
    refine calm_level (d := 6) ho2 hc2 hd2 (fun v m Q q => ?_) q
    obtain ⟨y, t, rfl⟩ := strs_items ps2 v m
    rw [eqIsQuiet_byValue _ rfl]; exact wpAny_pure q
  noCl := by
    rintro A E s ⟨x, i, ps⟩ a Q ⟨o, items, n, t, u, b, ho, hc, hd, hi, ⟨o2, i2, n2, ho2, hc2, hd2, ps2⟩⟩ q
    refine noCl_level ho hc hd ?_ q
    rw [hi]
    intro v m Q q
    rcases List.mem_cons.mp m with rfl | m
    · exact wpAny_pure q
    rcases List.mem_cons.mp m with rfl | m
    · exact wpAny_pure q
    obtain rfl := List.mem_singleton.mp m
    refine noCl_level (d := 6) ho2 hc2 hd2 (fun v m Q q => ?_) q
    obtain ⟨y, t, rfl⟩ := strs_items ps2 v m
    exact wpAny_pure q
  byV := by
    rintro A E s ⟨x, i, ps⟩ a Q ⟨o, items, n, t, u, b, ho, hc, hd, hi, ⟨o2, i2, n2, ho2, hc2, hd2, ps2⟩⟩ q
    refine byV_level ho hc hd ?_ q
    rw [hi]
    intro v m Q q
    rcases List.mem_cons.mp m with rfl | m
    · exact wpAny_pure (q _)
    rcases List.mem_cons.mp m with rfl | m
    · exact wpAny_pure (q _)
    obtain rfl := List.mem_singleton.mp m
    refine byV_level (d := 6) ho2 hc2 hd2 (fun v m Q q => ?_) q
    obtain ⟨y, t, rfl⟩ := strs_items ps2 v m
    exact wpAny_pure (q _)
end SwX
set_option Elab.async false
set_option linter.all false
set_option maxRecDepth 100000
set_option maxHeartbeats 4000000
/-! len(set(a tuple)): of texts, of recipes -/
namespace SwX
open PySem PySem.Spec PyProof.Rows L2
section
variable {P : Program} {w : World} {A : Around} {s : Shared}
/-- the loop that fills a set, with what is so of the heap behind each item -/
theorem set_loopJ {It : Addr} {fp wr : List Addr} {G : Array GenState → Array GenState → Prop} {n : Nat} {Pv : Nat → Value → Prop} {St : Nat → Shared → Prop} {R : Result → Shared → Prop}
    (W : WalksS P w A.in1 It fp wr G n Pv St) (S : Addr) (out : S ∉ fp) (J : Nat → Heap → Prop) (keep : ∀ i h h', J i h → (∀ b o, b ∉ wr → h.get? b = some o → h'.get? b = some o) → J i h')
    (add : ∀ (E : Value → Shared → Prop) i v (s : Shared) (Q : Bool → Shared → Prop), i < n → Pv i v → J i s.heap → (∀ b h' tk, Heap.SameBut S s.heap h' → J (i + 1) h' → s.toks ≤ tk → Q b { s with heap := h', toks := tk }) → wpAny (model P w) A.in1 (setAdd S v) Q E s) :
    ∀ (k i : Nat) (s : Shared), n - i = k → i ≤ n → St i s → J i s.heap → (∀ s', Moved (S :: wr) G s s' → J n s'.heap → R (.ok (.ret .none)) s') → codeAny (model P w) A (.builtin "set.update.loop" ⟨[.ref S, .ref It], []⟩) R s := by
  have no : S ∉ wr := fun z => out (W.sub _ z)
  have up : ∀ b ∈ wr, b ∈ S :: wr := fun b m => .tail _ m
  intro k
  induction k with
  | zero =>
    intro i s e0 le st j q
    obtain rfl : i = n := by omega
    refine codeAny_builtin F.entry_set_update_loop ?_
    rw [Around.under_plainId F.plain_set_update_loop _]
    show wpAny _ A.in1 (pyNext (.ref It) >>= _) _ _ s
    refine wpAny_bind (W.done s _ _ st fun s1 mv => (?_ : wpAny _ A.in1 (ret Value.none) _ _ s1))
    exact wpAny_pure (q s1 (mv.mono up) (keep _ _ _ j mv.heap))
  | succ k ih =>
    intro i s e0 le st j q
    have lt : i < n := by omega
    refine codeAny_builtin F.entry_set_update_loop ?_
    rw [Around.under_plainId F.plain_set_update_loop _]
    show wpAny _ A.in1 (pyNext (.ref It) >>= _) _ _ s
    refine wpAny_bind (W.item i s _ _ lt st fun v s1 pv st1 mv => (?_ : wpAny _ A.in1 (holding [v] (setAdd S v) >>= _) _ _ s1))
    refine wpAny_bind (wpAny_holding (add _ i v s1 _ lt pv (keep _ _ _ j mv.heap) fun b h' tk sb j2 le2 => ?_))
    refine wpAny_pure ⟨plainId_quiet F.plain_set_update_loop _, ih (i + 1) _ (by omega) lt (W.frame _ s1 _ _ st1 le2 fun b m o e => ?_) j2 fun s2 mv2 j3 => ?_⟩
    · rw [sb.2 b fun z => out (z ▸ m)]; exact e
    · refine q s2 (Moved.trans W.gtrans ((mv.mono up).then_heap le2 fun b o m e => ?_) mv2) j3
      rw [sb.2 b fun z => m (z ▸ .head _)]; exact e
/-- set(t), t a tuple -/
theorem set_of_tupJ {l : Addr} {items : Array Value} {Q : Value → Shared → Prop} {E : Value → Shared → Prop} (J : Nat → Heap → Prop) (hh : A.handled = none) (hl : s.heap.IsTuple l items)
    (j0 : ∀ h', h'.get? s.heap.objs.size = some (set0 w) → (∀ b o, s.heap.get? b = some o → h'.get? b = some o) → J 0 h')
    (keep : ∀ i h h', J i h → (∀ b o, b ≠ s.heap.objs.size + 1 → h.get? b = some o → h'.get? b = some o) → J i h')
    (add : ∀ (E : Value → Shared → Prop) (B : Around) i v (s1 : Shared) (Q : Bool → Shared → Prop), B.units ≤ A.units + 8 → i < items.size → items[i]? = some v → J i s1.heap → (∀ b h' tk, Heap.SameBut s.heap.objs.size s1.heap h' → J (i + 1) h' → s1.toks ≤ tk → Q b { s1 with heap := h', toks := tk }) → wpAny (model P w) B (setAdd s.heap.objs.size v) Q E s1)
    (k : ∀ (h' : Heap) (tk : Nat), J items.size h' → (∀ b o, s.heap.get? b = some o → h'.get? b = some o) → Q (.ref s.heap.objs.size) { s with heap := h', toks := tk }) :
    wpAny (model P w) A (call (.type "set") [.ref l]) Q E s := by
  obtain ⟨c, tl, mro⟩ := F.called_set.mro
  have q1 := F.called_set.made
  have q2 := F.called_set.sub
  have q3 := F.called_set.notType
  have q4 := F.called_set.canCreate
  have q5 := F.typeCall_set_1 (.ref l)
  refine wpAny_call (codeAny_of_tree (?_ : wpAny _ _ (callAny (.type "set") _) _ _ _))
  refine wpAny_pure ⟨Code.quiet_builtin _ (by decide +kernel), codeAny_builtin F.entry_type_call ?_⟩
  rw [Around.under_plain (weight_type_call_type "set" [.ref l] []) rfl]
  repeat (any_goals (first | assumption | wp_step))
  refine codeAny_mono (code_set_led1 (.ref l) (E := E) (Q₁ := fun v s1 => v = .ref s.heap.objs.size ∧ s1 = { s with heap := s.heap.push (set0 w) }) ⟨rfl, rfl⟩) fun r s1 z => ?_
  cases r with
  | error e => exact z
  | ok fl =>
    cases fl with
    | next => exact z.elim
    | brk => exact z.elim
    | cont => exact z.elim
    | ret v =>
      obtain ⟨rfl, rfl⟩ := z
      have at0 : (s.heap.push (set0 w)).get? s.heap.objs.size = some (set0 w) := Heap.get?_push_size _ rfl
      have ty : Shared.TypeIs { s with heap := s.heap.push (set0 w) } (.ref s.heap.objs.size) "set" := ⟨_, at0, rfl⟩
      have q6 := F.called_set.init.lookup
      have q7 := F.called_set.init.bind (.ref s.heap.objs.size)
      repeat (any_goals (first | assumption | wp_step))
      refine codeAny_mono (codeAny_call_builtin (R := wants (fun r s2 => r = .none ∧ ∃ h' tk, s2 = { s with heap := h', toks := tk } ∧ J items.size h' ∧ ∀ b o, s.heap.get? b = some o → h'.get? b = some o) E)
        F.called_set.init.plain F.entry_set_init (check_set_init_1 ty ?_)) fun r2 s2 z2 => ?_
      · obtain ⟨⟨oc, od, dt, sl⟩, atl, cl, nl, dl⟩ := hl
        obtain rfl : oc = .type "tuple" := cl
        obtain rfl : dt = .seq items nl := dl
        have atl2 : (s.heap.push (set0 w)).get? l = some { cls := .type "tuple", dict := od, data := .seq items nl, slots := sl } := Heap.get?_push_of_some _ atl
        have q8 := F.sub_tuple_set
        have q9 := F.sub_tuple_frozenset
        have q10 : (Value.type "tuple" == Value.type "dict") = false := by decide
        have tup : s.heap.IsTuple l items := ⟨_, atl, rfl, nl, rfl⟩
        have tup1 : (s.heap.push (set0 w)).IsTuple l items := ⟨_, atl2, rfl, nl, rfl⟩
        unfold Builtin.«set.__init__» noKeywords Builtin.Frozenset.updateFrom
        generalize hIt : pyIter = IT
        wp_walk
        subst hIt
        refine wpAny_pyIter_tuple tup1 ?_
        refine wpAny_bind (wpAny_runValue ?_)
        have size1 : (s.heap.push (set0 w)).objs.size = s.heap.objs.size + 1 := Heap.size_push ..
        have lt : l < s.heap.objs.size := Heap.lt_size atl
        have ne1 : l ≠ (s.heap.push (set0 w)).objs.size := by rw [size1]; exact Nat.ne_of_lt (Nat.lt_succ_of_lt lt)
        have out : s.heap.objs.size ∉ [(s.heap.push (set0 w)).objs.size, l] := by
          rw [size1]
          intro z
          rcases List.mem_cons.mp z with e | e
          · exact absurd e (Nat.ne_of_lt (Nat.lt_succ_self _))
          · exact absurd (List.mem_singleton.mp e) (Nat.ne_of_gt lt)
        have old : ∀ b o, s.heap.get? b = some o → ((s.heap.push (set0 w)).push { cls := .type "tuple_iterator", data := .fields #[.ref l, .int 0 0] }).get? b = some o := fun b o e => Heap.get?_push_of_some _ (Heap.get?_push_of_some _ e)
        refine set_loopJ ((Walks.tuple (by simp [hh]) _ l ne1 items).toS) s.heap.objs.size out J (fun i h h' j z => keep i h h' j fun b o e => z b o (by rw [size1]; simpa using e)) (fun E i v s1 Q lt pv j z => add E _ i v s1 Q (by show A.units + 1 + 1 + 1 ≤ A.units + 8; omega) lt pv j z)
          (items.size - 0) 0 _ (by omega) (Nat.zero_le _) ⟨⟨_, Heap.get?_push_size _ rfl, rfl, rfl⟩, tup1.push _⟩ (j0 _ (Heap.get?_push_of_some _ at0) old) fun s' mv j => ?_
        obtain ⟨h', g', d', tk', os'⟩ := s'
        obtain rfl : g' = s.gens := mv.gens
        obtain rfl : d' = s.drawn := mv.drawn
        obtain rfl : os' = s.os := mv.os
        show wpAny _ _ _ _ _ _
        refine wpAny_pure (?_ : wpAny _ _ (ret Value.none) _ _ _)
        refine wpAny_pure ⟨rfl, h', tk', rfl, j, fun b o e => mv.heap b o (fun z => ?_) (old b o e)⟩
        have lb := Heap.lt_size e
        rw [size1] at z
        rcases List.mem_cons.mp z with e | e
        · exact absurd e (Nat.ne_of_lt lb)
        · exact absurd (List.mem_singleton.mp e) (Nat.ne_of_lt (Nat.lt_succ_of_lt lb))
      · cases r2 with
        | error e => exact z2
        | ok fl =>
          cases fl with
          | next => exact z2.elim
          | brk => exact z2.elim
          | cont => exact z2.elim
          | ret v =>
            obtain ⟨rfl, h', tk, rfl, j, kp⟩ := z2
            repeat (any_goals (first | assumption | wp_step))
            exact k _ _ j kp
end
end SwX
set_option Elab.async false
set_option linter.all false
set_option maxRecDepth 100000
set_option maxHeartbeats 4000000
namespace SwX
open PySem PySem.Spec PyProof.Rows L2
/-! ### how many -/
/-- a number of different ones in a list -/
def Cnt {α : Type} (l : List α) (c : Nat) : Prop := c ≤ l.length ∧ (c = l.length ↔ l.Nodup)
theorem Cnt.nil {α : Type} : Cnt ([] : List α) 0 := ⟨Nat.le_refl _, by simp⟩
theorem Cnt.old {α : Type} {l : List α} {c : Nat} {x : α} (h : Cnt l c) (m : x ∈ l) : Cnt (l ++ [x]) c := by
  obtain ⟨a, b⟩ := h
  rw [Cnt, List.length_append, List.length_singleton]
  refine ⟨by omega, fun e => by omega, fun nd => ?_⟩
  rw [List.nodup_append] at nd
  exact absurd rfl (nd.2.2 x m x (List.mem_singleton.mpr rfl))
theorem Cnt.new {α : Type} {l : List α} {c : Nat} {x : α} (h : Cnt l c) (m : x ∉ l) : Cnt (l ++ [x]) (c + 1) := by
  obtain ⟨a, b⟩ := h
  rw [Cnt, List.length_append, List.length_singleton]
  refine ⟨by omega, fun e => ?_, fun nd => ?_⟩
  · rw [List.nodup_append]
    refine ⟨b.mp (by omega), by simp, fun y hy z hz e => m ?_⟩
    rw [List.mem_singleton.mp hz] at e
    exact e ▸ hy
  · rw [List.nodup_append] at nd
    have := b.mpr nd.1
    omega
theorem take_snoc {α : Type} {l : List α} {i : Nat} {x : α} (h : l[i]? = some x) : l.take (i + 1) = l.take i ++ [x] := by
  rw [List.take_succ, h]; rfl
/-- a set of so many -/
def SetLen (h : Heap) (a : Addr) (n : Nat) : Prop := ∃ (o : Obj) (es : Array (Int × Value)) (ep : Nat) (t : SetTable), h.get? a = some o ∧ o.ExactSet ∧ o.data = .set es ep t ∧ t.fits es.size = true ∧ es.size = n ∧ n < 100000
def SetN (a : Addr) (n : Nat) : HO := .ext fun h => SetLen h a n
theorem setN_new {P : Program} {w : World} {H : Hp} {h : Heap} {a : Addr} {n : Nat} (R : SetLen h a n) : ObjOk P w H h a (SetN a n) := by
  have ⟨o, _, _, _, ho, _⟩ := R
  exact ⟨R, ⟨o, ho⟩, fun h1 h2 ⟨o, es, ep, t, ho, z⟩ k => ⟨o, es, ep, t, k o ho, z⟩⟩
section
variable {X : Cx}
/-- set(t), t a tuple of texts -/
def rSetStr (K : PySem.W.Frag) : List V → Hp → VK → Prop := fun vs H Q => ∃ (a : Addr) (xs : List Str), vs = [.ref a] ∧ SqT K H a (xs.map V.str) ∧ xs.length ≤ 1000 ∧ ∀ p n, H p = none → Cnt xs n → Q (.ref p) (upd H p (SetN p n))
theorem cr_setStr (hc : X.calm = true) : CallR X (.type "set") (rSetStr X.K) := by
  intro pins s σ H vs us Q I r h
  obtain ⟨a, xs, rfl, hq, few, q⟩ := h
  rw [Vals.ref1 r]
  obtain ⟨its, rv, tup, hz⟩ := I.tuple hq
  have ln : its.length = xs.length := by rw [← rv.length, List.length_map]
  have txt : ∀ (i : Nat) (v : Value), its.toArray[i]? = some v → ∃ x t, xs[i]? = some x ∧ v = Value.str x t := fun i v e => by
    have e' : its[i]? = some v := by simpa using e
    have il : i < xs.length := by rw [← ln]; exact (List.getElem?_eq_some_iff.mp e').1
    obtain ⟨u, e2, r2⟩ := rv.get (i := i) (x := .str xs[i]) (by simp [List.getElem?_map, List.getElem?_eq_getElem il])
    rw [e'] at e2
    obtain rfl := Option.some.inj e2
    obtain ⟨t, rfl⟩ := r2
    exact ⟨xs[i], t, List.getElem?_eq_getElem il, rfl⟩
  refine set_of_tupJ (fun i h => ∃ c, h.SetOf (PySem.strKind X.prog X.w) s.heap.objs.size (fun k => decide (k ∈ xs.take i)) c ∧ Cnt (xs.take i) c) (I.ok.hd hc) (let ⟨o, e1, e2, n, e3⟩ := tup; ⟨o, e1, e2, n, e3⟩) (fun h' at0 _ => ?_) (fun i h h' j z => ?_) (fun E B i v s1 Q _ lt e j z => ?_) fun h' tk j kp => ?_
  · exact ⟨0, ⟨_, #[], 0, _, at0, ⟨rfl, rfl, rfl⟩, rfl, (fun e he => by simp at he), (fun k => by simp), by decide, by rfl, rfl⟩, Cnt.nil⟩
  · obtain ⟨c, ⟨o, es, ep, t, ho, r⟩, cn⟩ := j
    exact ⟨c, ⟨o, es, ep, t, z _ _ (Nat.ne_of_lt (Nat.lt_succ_self _)) ho, r⟩, cn⟩
  · obtain ⟨c, so, cn⟩ := j
    obtain ⟨x, t, ex, rfl⟩ := txt i v e
    have cl : c + 1 < scanBound := by
      have a := cn.1
      rw [List.length_take] at a
      unfold scanBound
      omega
    unfold setAdd
    refine wpAny_holding (wpAny_bind ((PySem.strKind X.prog X.w).pyHash (k := x) (by simp [PySem.strKind, Value.isStrOf]) ?_))
    refine wpAny_setAddHashed_of (knd := PySem.strKind X.prog X.w) (by simp [PySem.strKind, Value.isStrOf]) rfl (s := { s1 with toks := s1.toks + 1 }) so cl fun h' sb so2 => ?_
    refine z _ _ _ sb ⟨if x ∈ xs.take i then c else c + 1, ?_, ?_⟩ (by show s1.toks ≤ s1.toks + 1; omega)
    · have e1 : (fun k' => decide (k' ∈ xs.take i) || decide (k' = x)) = fun k' => decide (k' ∈ xs.take (i + 1)) := by
        funext k'
        rw [take_snoc ex]
        simp [List.mem_append]
      rw [e1] at so2
      simpa using so2
    · rw [take_snoc ex]
      split
      · rename_i m
        exact cn.old m
      · rename_i m
        exact cn.new m
  · obtain ⟨c, ⟨o, es, ep, t, ho, ex, hd, _, _, _, ft, sz⟩, cn⟩ := j
    rw [List.take_of_length_le (by simp [ln])] at cn
    have hn : H s.heap.objs.size = none := I.hok.fresh (Nat.le_refl _)
    exact ⟨.ref _, upd H s.heap.objs.size (SetN s.heap.objs.size c), I.laid (t' := tk) kp (Nat.le_refl _) (setN_new ⟨o, es, ep, t, ho, ex, hd, ft, sz, by have := cn.1; omega⟩), rfl, q _ c hn cn⟩
/-- a recipe, abstractly -/
def RcAt (K : PySem.W.Frag) (H : Hp) (z : RcK) (v : V) : Prop := ∃ a b, v = .ref a ∧ SqT K H a [.str z.1, .int z.2.1, .ref b] ∧ SqT K H b (z.2.2.map V.str)
theorem items_str {P : Program} {w : World} : ∀ {k : List Str} {us : List Value}, Vals (k.map V.str) us → ItemsAre (PySem.strKind P w) k us
  | [], _, .nil => .nil
  | x :: k, _, .cons r t => by
    obtain ⟨tk, rfl⟩ := r
    exact .cons (by simp [PySem.strKind, Value.isStrOf]) (items_str t)
theorem rc_raw {pins : List (Addr × Obj)} {σ : L2.St} {H : Hp} {s : Shared} (I : Inv X pins σ H s) {z : RcK} {v : V} {u : Value} (h : RcAt X.K H z v) (r : RelV v u) : ∃ a, u = .ref a ∧ IsRc X.prog X.w s.heap z a := by
  obtain ⟨a, b, rfl, h1, h2⟩ := h
  cases r
  obtain ⟨i1, r1, ⟨o1, ho1, hc1, n1, hd1⟩, _⟩ := I.tuple h1
  obtain ⟨i2, r2, ⟨o2, ho2, hc2, n2, hd2⟩, _⟩ := I.tuple h2
  refine ⟨a, rfl, ?_⟩
  cases r1 with
  | cons a1 r1 =>
    obtain ⟨t, rfl⟩ := a1
    cases r1 with
    | cons a2 r1 =>
      obtain ⟨u, rfl⟩ := a2
      cases r1 with
      | cons a3 r1 =>
        cases a3
        cases r1
        exact ⟨o1, _, n1, t, u, b, ho1, hc1, hd1, rfl, o2, _, n2, ho2, hc2, hd2, by simpa using items_str r2⟩
/-- set(t), t a tuple of recipes -/
def rSetRc (K : PySem.W.Frag) : List V → Hp → VK → Prop := fun vs H Q => ∃ (a : Addr) (us : List V) (zs : List RcK), vs = [.ref a] ∧ SqT K H a us ∧ Paired (RcAt K H) zs us ∧ zs.length < 60 ∧ ∀ p n, H p = none → Cnt zs n → Q (.ref p) (upd H p (SetN p n))
theorem paired_at {α β : Type} {R : α → β → Prop} : ∀ {xs : List α} {ys : List β}, Paired R xs ys → ∀ {i : Nat} {y : β}, ys[i]? = some y → ∃ x, xs[i]? = some x ∧ R x y
  | _, _, .nil, i, y, e => by simp at e
  | _, _, .cons r t, 0, y, e => by simp at e; subst e; exact ⟨_, rfl, r⟩
  | _, _, .cons r t, i + 1, y, e => by
    obtain ⟨x, e1, r1⟩ := paired_at t (i := i) (y := y) (by simpa using e)
    exact ⟨x, by simpa using e1, r1⟩
theorem paired_lenO {α β : Type} {R : α → β → Prop} : ∀ {xs : List α} {ys : List β}, Paired R xs ys → xs.length = ys.length
  | _, _, .nil => rfl
  | _, _, .cons _ t => by rw [List.length_cons, List.length_cons, paired_lenO t]
theorem cr_setRc (hc : X.calm = true) (hu : X.A.units + 64 < cLine) : CallR X (.type "set") (rSetRc X.K) := by
  intro pins s σ H vs us Q I r h
  obtain ⟨a, ws, zs, rfl, hq, pz, few, q⟩ := h
  rw [Vals.ref1 r]
  obtain ⟨its, rv, tup, hz⟩ := I.tuple hq
  have ln : its.length = zs.length := by rw [← rv.length, paired_lenO pz]
  have rc : ∀ (i : Nat) (v : Value), its.toArray[i]? = some v → ∃ z b, zs[i]? = some z ∧ v = Value.ref b ∧ IsRc X.prog X.w s.heap z b := fun i v e => by
    have e' : its[i]? = some v := by simpa using e
    obtain ⟨y, e2, r2⟩ := paired_at rv e'
    obtain ⟨z, e3, r3⟩ := paired_at pz e2
    obtain ⟨b, rfl, r4⟩ := rc_raw I r3 r2
    exact ⟨z, b, e3, rfl, r4⟩
  let KD := rcKind X.prog X.w
  refine set_of_tupJ (fun i h => (∀ b o, s.heap.get? b = some o → h.get? b = some o) ∧ ∃ L es ep t, SR KD h s.heap.objs.size L es ep t ∧ (∀ q ∈ L, KD.is' s.heap q.2 q.1) ∧ (∀ x, x ∈ L.map Prod.snd ↔ x ∈ zs.take i) ∧ Cnt (zs.take i) L.length) (I.ok.hd hc) (let ⟨o, e1, e2, n, e3⟩ := tup; ⟨o, e1, e2, n, e3⟩) (fun h' at0 old => ?_) (fun i h h' j z => ?_) (fun E B i v s1 Q hB lt e j z => ?_) fun h' tk j kp => ?_
  · refine ⟨old, [], #[], 0, _, ⟨⟨_, at0, ⟨rfl, rfl, rfl⟩, rfl⟩, rfl, ⟨List.Pairwise.nil, rfl, rfl, .inl rfl, (fun x hx => by cases hx), (fun i h j hi => by simp at hi)⟩, List.nodup_nil, ?_, ?_⟩, (fun q m => by cases m), (fun x => by simp), Cnt.nil⟩
    · show 0 * 5 < 7 * 3
      decide
    · show 0 < 64
      decide
  · obtain ⟨old, L, es, ep, t, R, al, me, cn⟩ := j
    refine ⟨fun b o e => z b o ?_ (old b o e), L, es, ep, t, R.alike fun o e => z _ o (Nat.ne_of_lt (Nat.lt_succ_self _)) e, al, me, cn⟩
    exact Nat.ne_of_lt (Nat.lt_succ_of_lt (Heap.lt_size e))
  · obtain ⟨old, L, es, ep, t, R, al, me, cn⟩ := j
    obtain ⟨x, b, ex, rfl, ib⟩ := rc i v e
    have ib1 : KD.is' s1.heap x b := KD.grow ib old
    have cl : L.length + 1 < 64 := by
      have a := cn.1
      rw [List.length_take] at a
      omega
    unfold setAdd
    refine wpAny_holding (wpAny_bind (KD.hashed (by omega) ib1 ?_))
    refine sk_add (k := KD) (s := { s1 with toks := s1.toks + KD.tk x }) R (fun q m => KD.grow (al q m) old) ib1 (by omega) cl fun bb h' L' es' ep' t' sb R' same new => ?_
    refine z _ _ _ sb ⟨fun c o e => ?_, L', es', ep', t', R', ?_⟩ (by show s1.toks ≤ s1.toks + _; omega)
    · rw [sb.2 c (Nat.ne_of_lt (Heap.lt_size e))]
      exact old c o e
    · rw [take_snoc ex]
      by_cases m : x ∈ L.map Prod.snd
      · rw [same m]
        refine ⟨al, fun y => ?_, cn.old ((me x).mp m)⟩
        rw [me y, List.mem_append]
        exact ⟨.inl, fun o => o.elim id fun e => List.mem_singleton.mp e ▸ (me x).mp m⟩
      · have pm := new m
        refine ⟨fun q mq => ?_, fun y => ?_, ?_⟩
        · rcases List.mem_cons.mp (pm.mem_iff.mp mq) with rfl | mq
          · exact ib
          · exact al q mq
        · rw [(pm.map Prod.snd).mem_iff, List.map_cons, List.mem_cons, me y, List.mem_append, List.mem_singleton]
          exact or_comm
        · rw [pm.length_eq, List.length_cons]
          exact cn.new fun z => m ((me x).mpr z)
  · obtain ⟨_, L, es, ep, t, R, al, me, cn⟩ := j
    rw [List.take_of_length_le (by simp [ln])] at cn
    obtain ⟨o, ho, ex, hd⟩ := R.ob
    have hn : H s.heap.objs.size = none := I.hok.fresh (Nat.le_refl _)
    exact ⟨.ref _, upd H s.heap.objs.size (SetN s.heap.objs.size L.length), I.laid (t' := tk) kp (Nat.le_refl _) (setN_new ⟨o, es, ep, t, ho, ex, hd, R.fit, rws_size R.rw', by have := cn.1; omega⟩), rfl, q _ _ hn cn⟩
/-- len of such a set -/
def rLenN : List V → Hp → VK → Prop := fun vs H Q => ∃ (a : Addr) (n : Nat), vs = [.ref a] ∧ H a = some (SetN a n) ∧ Q (.int (n : Nat)) H
theorem cr_lenN : CallR X (.builtin "len") rLenN := by
  intro pins s σ H vs us Q I r h
  obtain ⟨a, n, rfl, ha, q⟩ := h
  rw [Vals.ref1 r]
  obtain ⟨o, es, ep, t, ho, ex, hd, ft, sz, few⟩ : SetLen s.heap a n := (I.hok a _ ha).1
  refine call_len_set ho ex hd ft (by omega) ⟨.int n, H, I.tok _, ⟨_, by rw [sz]⟩, q⟩
end
end SwX
set_option Elab.async false
set_option linter.all false
set_option maxRecDepth 100000
set_option maxHeartbeats 4000000
/-! a law of calls with tables -/
namespace SwX
open PySem PySem.Spec PyProof.Rows L2 Evl
open LamX (Tabs ExtN)
theorem sql_ext {K : PySem.W.Frag} {H H' : Hp} {a : Addr} {xs : List V} (h : SqL K H a xs) (e : ExtN H H') : SqL K H' a xs := by
  rcases h with (h | ⟨o, h⟩) | h
  · exact .inl (.inl (e _ _ h fun _ z => nomatch z))
  · exact .inl (.inr ⟨o, e _ _ h fun _ z => nomatch z⟩)
  · exact .inr h
theorem extn_less {H H' : Hp} {D : Addr} (e : ExtN H H') : ExtN (less D H) (less D H') := fun b o h n => by
  obtain ⟨h1, ne⟩ := less_some h
  rw [less_ne ne]
  exact e b o h1 n
theorem tabs_mut {T : List (Addr × Str)} {H : Hp} {D : Addr} {xs ys : List V} (t : Tabs T H) (h : H D = some (.lst xs)) : Tabs T (upd H D (.lst ys)) := fun p hp => by
  obtain ⟨ps, h1, h2, h3⟩ := t p hp
  refine ⟨ps, by rw [upd_ne (fun z => by rw [z, h] at h1; cases h1)]; exact h1, h2, fun pos cv hc => ?_⟩
  obtain ⟨c, e1, e2⟩ := h3 pos cv hc
  exact ⟨c, e1, by rw [upd_ne (fun z => by rw [z, h] at e2; cases e2)]; exact e2⟩
theorem ext_fresh {H H1 H2 : Hp} {b : Addr} (hb : H b = none) (e1 : Ex H H1) (e2 : ExL b H1 H2) : ExtN H H2 := fun q o h n => by
  have ne : q ≠ b := fun z => by rw [z, hb] at h; cases h
  exact e2 q o (bare_of (by rw [less_ne ne]; exact e1 _ _ h) n)
theorem s_allR {K : PySem.W.Frag} {σ : L2.St} {H : Hp} {D : Ends} {ta : TA} {te : TE} {tt : TT} {g : TG} {vs : List Nat} {n : Int} (h : EvA ta σ H [.int n]) (hn : 0 ≤ n ∧ n ≤ 40000) (Pv : Addr → Nat → Hp → Prop) (h0 : ∀ H1 D, Ex H H1 → H1 D = none → Pv D 0 (upd H1 D (.lst [])))
    (hs : ∀ (Dl : Addr) (i : Nat) (H' : Hp), i < n.toNat → Pv Dl i H' → g (.int (0 + (i : Int))) (wipe σ vs) H' fun σ2 H2 => wipe σ2 vs = wipe σ vs ∧ tt σ2 H2 fun b H3 => if b = true then te σ2 H3 fun y H4 => ∃ acc, H4 Dl = some (.lst acc) ∧ acc.length < sizeLine ∧ Pv Dl (i + 1) (upd H4 Dl (.lst (acc ++ [y]))) else Pv Dl (i + 1) H3)
    (hd : ∀ Dl H', Pv Dl n.toNat H' → ∃ bs : List Bool, SqL K H' Dl (bs.map V.bl) ∧ D.rt (.bl (bs.all id)) H') : tRet (tCB (rAll K) (tCons (tLc (iRng1 ta) g tt te vs) tNil)) D σ H :=
  h H (Ex.refl H) _ fun H1 e1 => ⟨n, rfl, by omega, by omega, fun Dl hD => lc_range (lo := 0) (n := n.toNat) (Pv Dl) (h0 H1 Dl e1 hD) (hs Dl) fun H' p => by
    obtain ⟨bs, h1, h2⟩ := hd Dl H' p
    exact ⟨Dl, bs, rfl, h1, h2⟩⟩
/-- how often the law goes round -/
def turnsL (hi : Int) (ns : List Int) : Int := if (if hi < ns.length then hi else ns.length) > 2 then (if hi < ns.length then hi else ns.length) else 2
theorem turns_ok {hi : Int} (h : hi ≤ 5) (ns : List Int) : 0 ≤ turnsL hi ns ∧ turnsL hi ns ≤ 5 := by
  unfold turnsL
  split <;> (try split) <;> omega
def spLawT (K : PySem.W.Frag) (T : List (Addr × Str)) : Sp := fun vs H Q _ => ∃ (a : Addr) (ns : List Int), vs = [.ref a] ∧ SqL K H a (ns.map V.int) ∧ Tabs T H ∧ ∀ H', Q (.bl true) H'
def spRightT (T : List (Addr × Str)) : Sp := fun vs H Q _ => ∃ a : Addr, vs = [.ref a] ∧ Pur H a ∧ Tabs T H ∧ ∀ H', ExL a H H' → Tabs T H' → Q (.bl true) H'
end SwX
set_option Elab.async false
set_option linter.all false
set_option maxRecDepth 100000
set_option maxHeartbeats 4000000
/-! sets: own instances sought in them; sets made in each way; lists of sets -/
namespace SwX
open PySem PySem.Spec PyProof.Rows L2 Evl
section
variable {K : PySem.W.Frag} {σ : L2.St} {G H H1 H' : Hp} {a Cw Cr C0 C10 C14 : Addr} {te ta tb tc : TE} {t : TA} {v v1 v2 v3 x : V} {D : Ends} {tz : TS} {es as : List Nat} {n : Nat} {r : Rw} {D1 D2 D3 : PyData} {E : XK} {Q : VK}
/-! ### an own instance asked -/
def spIsIntI (Cw : Addr) : Sp := fun vs H Q _ => ∃ a : Addr, vs = [.ref a] ∧ IsI H a Cw ∧ ∀ H', Ex H H' → Q (.bl false) H'
theorem isI_mono {b C : Addr} (e : Ex H H') (i : IsI H b C) : IsI H' b C := by
  obtain ⟨dx, fs, h⟩ := i
  exact ⟨dx, fs, e _ _ h⟩
theorem ev_isOwnT {n : String} (c : OwnC K Cw) (kI : PySem.W.kitOne K (.ref Cw) (.type n) = some false) (h : Ev te σ H (.ref a)) (i : IsI H a Cw) : Ev (tCB (rIsi K) (tCons te (tCons (tC (.ty n)) tNil))) σ H (.bl false) := fun H1 e1 Q q => h H1 e1 _ fun H2 e2 => by
  obtain ⟨dx, fs, h1⟩ := i
  exact ⟨.ref a, .ty n, .ref Cw, .type n, false, rfl, .ty n, .base (.ins (e2 _ _ (e1 _ _ h1)) c.cls c.ha c.hn c.ht c.hm), kI, q H2 e2⟩
/-- x in the set at v: data or another set -/
def spSetInX (K : PySem.W.Frag) (Cw Cr : Addr) : Sp := fun vs H Q E => spSetIn K Cw Cr vs H Q E ∨ ∃ (v : V) (r : Rw) (b : Addr), vs = [v, .ref b] ∧ SetAt K Cw Cr r v H ∧ IsI H b Cw ∧ ∀ H', Ex H H' → Q (.bl false) H'
structure SetInX (P : Program) (w : World) (K : PySem.W.Frag) (mg : Str → Option Value) (base : Heap) (Cw Cr : Addr) : Prop where
  ex : ∃ f fd, FnOk P w K mg base CX0 2 f fd ["self", "value"] (spSetInX K Cw Cr) ∧ Spc K Cw "__contains__" f ∧ Binds K fd ["self", "value"] []
theorem setInX {X : Cx} {Cw Cr : Addr} (K : PySem.W.Frag) (S : SetInX X.prog X.w X.K X.mg X.base Cw Cr) (hr : Room 2 X.A) (h : X.K = K := by rfl) : OpR X (compareOp .In) (rInOwn Cw (spSetInX K Cw Cr) E0) := by
  subst h
  obtain ⟨f, fd, F, s, b⟩ := S.ex
  exact op_inOwn F s b pass0 hr
/-- what may be asked: data, or another set -/
def AskB (r : Rw) : Option PyData → Bool
  | some D => inW r D
  | none => false
def AskAt (K : PySem.W.Frag) (Cw : Addr) (o : Option PyData) (x : V) (H : Hp) : Prop := match o with
  | some D => Da K H x D
  | none => ∃ b, x = .ref b ∧ IsI H b Cw
theorem ask_mono (o : Option PyData) (x : V) (H H' : Hp) (e : Ex H H') (h : AskAt K Cw o x H) : AskAt K Cw o x H' := by
  cases o with
  | some D => exact Da.mono e h
  | none =>
    obtain ⟨b, rfl, i⟩ := h
    exact ⟨b, rfl, isI_mono e i⟩
theorem rv_ask {o : Option PyData} {B : Int} (hv : SetAt K Cw Cr r v H) (ok : RwOk B r) (hx : AskAt K Cw o x H) : RV (rInOwn Cw (spSetInX K Cw Cr) E0) x v H (.bl (AskB r o)) := fun H1 e1 Q q => by
  have hv1 := hv.mono e1
  obtain ⟨a, rfl, i⟩ := hv1.is
  refine ⟨a, rfl, i, ?_⟩
  cases o with
  | some D => exact .inl ⟨.ref a, x, r, D, B, rfl, hv1, ok, Da.mono e1 hx, fun H' e' => ⟨_, rfl, q H' e'⟩⟩
  | none =>
    obtain ⟨b, rfl, j⟩ := hx
    exact .inr ⟨.ref a, r, b, rfl, hv1, isI_mono e1 j, fun H' e' => ⟨_, rfl, q H' e'⟩⟩
/-! ### making -/
structure WOut (K : PySem.W.Frag) (Cw Cr C0 C10 C14 : Addr) (D1 D2 D3 : PyData) (v3 : V) (E : XK) (H : Hp) (Q : VK) : Prop where
  w1 : ∀ r, chkM D1 = some r → Thr E C10 "index" H (ov (r.map fun n => ((n : Nat) : Int)))
  w2 : chkM D1 = none → ∀ r, chkM D2 = some r → Thr E C10 "index" H (ov (r.map fun n => ((n : Nat) : Int)))
  w3 : chkM D1 = none → chkM D2 = none → btwO 1 (some 1000) D3 = false → Thr E C0 "given" H v3
  w4 : ∀ (es as : List Nat) (n : Nat), D1 = natD es → D2 = natD as → D3 = .int (n : Nat) → MemOk es → MemOk as → 0 < n → n ≤ 1000 →
    (1000 < (setR es as n).h + (setR es as n).c → Thr E C14 "limit" H (.int 1000)) ∧ ((setR es as n).h + (setR es as n).c ≤ 1000 → ∀ v H', Ex H H' → SetAt K Cw Cr (setR es as n) v H' → Q v H')
theorem WOut.mono (o : WOut K Cw Cr C0 C10 C14 D1 D2 D3 v3 E H Q) (e : Ex H H1) : WOut K Cw Cr C0 C10 C14 D1 D2 D3 v3 E H1 Q :=
  ⟨fun r z => (o.w1 r z).from e, fun z r z2 => (o.w2 z r z2).from e, fun z1 z2 z3 => (o.w3 z1 z2 z3).from e, fun es as n h1 h2 h3 me ma n0 n1 => ⟨fun lt => ((o.w4 es as n h1 h2 h3 me ma n0 n1).1 lt).from e, fun le v H' e' sa => (o.w4 es as n h1 h2 h3 me ma n0 n1).2 le v H' (e.trans e') sa⟩⟩
theorem w_made {y dx : Addr} (hx : H y = none) (hdx : H dx = none) (d1 : Da K H v1 D1) (d2 : Da K H v2 D2) (d3 : Da K H v3 D3) (o : WOut K Cw Cr C0 C10 C14 D1 D2 D3 v3 E H Q) : spWInit K Cw Cr C0 C10 C14 [.ref y, v1, v2, v3] (upd (upd H dx (.own y)) y (.ins Cw dx [])) (fun v H2 => v = .non ∧ Q (.ref y) H2) E := by
  have b := made_ex (C := Cw) hx hdx
  have b' : Ex H (upd (upd H dx (.own y)) y (.ins Cw dx [])) := ((Ex.refl H).mut hdx).mut hx
  exact ⟨y, dx, v1, v2, v3, D1, D2, D3, rfl, upd_same, d1.mono b, d2.mono b, d3.mono b, fun r z => (o.w1 r z).from b', fun z r z2 => (o.w2 z r z2).from b', fun z1 z2 z3 => (o.w3 z1 z2 z3).from b', fun es as n h1 h2 h3 me ma n0 n1 => ⟨fun lt => ((o.w4 es as n h1 h2 h3 me ma n0 n1).1 lt).from b', fun le H' e' sa => ⟨rfl, (o.w4 es as n h1 h2 h3 me ma n0 n1).2 le (.ref y) H' (b.trans e') sa⟩⟩⟩
/-- of good arguments -/
theorem w_good (me : MemOk es) (ma : MemOk as) (n0 : 0 < n) (n1 : n ≤ 1000) (hl : 1000 < (setR es as n).h + (setR es as n).c → Thr E C14 "limit" H (.int 1000)) (hs : (setR es as n).h + (setR es as n).c ≤ 1000 → ∀ v H', Ex H H' → SetAt K Cw Cr (setR es as n) v H' → Q v H') : WOut K Cw Cr C0 C10 C14 (natD es) (natD as) (.int (n : Nat)) v3 E H Q := by
  refine ⟨fun r z => ?_, fun _ r z => ?_, fun _ _ z => ?_, fun es' as' n' h1 h2 h3 _ _ _ _ => ?_⟩
  · rw [chkM_nat me] at z
    cases z
  · rw [chkM_nat ma] at z
    cases z
  · have b : btwO 1 (some 1000) (.int (n : Nat)) = true := by
      simp only [btwO, Bool.and_eq_true, decide_eq_true_eq]
      omega
    rw [b] at z
    cases z
  · obtain rfl := natD_inj h1
    obtain rfl := natD_inj h2
    obtain rfl : n = n' := by
      have := PyData.int.inj h3
      omega
    exact ⟨hl, hs⟩
theorem sq_empty {d : Addr} {xs : List V} (h : SqT K (fun _ => none) d xs) : SqT K H d xs := by
  rcases h with (h | ⟨o, h⟩) | h
  · cases h
  · cases h
  · exact .inr h
def DfltW (K : PySem.W.Frag) (d0 : Addr) : Prop := SqT K (fun _ => none) d0 []
theorem out_W3 (h1 : Ev ta σ H v1) (h2 : Ev tb σ H v2) (h3 : Ev tc σ H v3) (d1 : Da K H v1 D1) (d2 : Da K H v2 D2) (d3 : Da K H v3 D3) (o : WOut K Cw Cr C0 C10 C14 D1 D2 D3 v3 E H Q) : tMake Cw (spWInit K Cw Cr C0 C10 C14) [] E (tCons ta (tCons tb (tCons tc tNil))) σ H Q :=
  h1 H (Ex.refl H) _ fun H1 e1 => h2 H1 e1 _ fun H2 e2 => h3 H2 (e1.trans e2) _ fun H3 e3 x dx hx hdx ne => w_made hx hdx (d1.mono ((e1.trans e2).trans e3)) (d2.mono ((e1.trans e2).trans e3)) (d3.mono ((e1.trans e2).trans e3)) (o.mono ((e1.trans e2).trans e3))
theorem out_W2 (h1 : Ev ta σ H v1) (h2 : Ev tb σ H v2) (d1 : Da K H v1 D1) (d2 : Da K H v2 D2) (o : WOut K Cw Cr C0 C10 C14 D1 D2 (.int 1) (.int 1) E H Q) : tMake Cw (spWInit K Cw Cr C0 C10 C14) [.int 1] E (tCons ta (tCons tb tNil)) σ H Q :=
  h1 H (Ex.refl H) _ fun H1 e1 => h2 H1 e1 _ fun H2 e2 x dx hx hdx ne => w_made hx hdx (d1.mono (e1.trans e2)) (d2.mono (e1.trans e2)) (.int 1) (o.mono (e1.trans e2))
theorem out_W1 (h1 : Ev ta σ H v1) (d1 : Da K H v1 D1) (o : WOut K Cw Cr C0 C10 C14 D1 (.tuple []) (.int 1) (.int 1) E H Q) : ∀ d0, DfltW K d0 → tMake Cw (spWInit K Cw Cr C0 C10 C14) [.ref d0, .int 1] E (tCons ta tNil) σ H Q := fun d0 z0 =>
  h1 H (Ex.refl H) _ fun H1 e1 x dx hx hdx ne => w_made hx hdx (d1.mono e1) (da_tuple (sq_empty z0) .nil) (.int 1) (o.mono e1)
/-- by keywords, in the other order -/
theorem out_WR3 (h1 : Ev ta σ H v1) (h2 : Ev tb σ H v2) (h3 : Ev tc σ H v3) (d1 : Da K H v1 D1) (d2 : Da K H v2 D2) (d3 : Da K H v3 D3) (o : WOut K Cw Cr C0 C10 C14 D1 D2 D3 v3 E H Q) : tMakeK Cw 0 3 (spWInit K Cw Cr C0 C10 C14) (fun vs zs => vs ++ zs.reverse) E tNil (tCons tc (tCons tb (tCons ta tNil))) σ H Q :=
  h3 H (Ex.refl H) _ fun H1 e1 => h2 H1 e1 _ fun H2 e2 => h1 H2 (e1.trans e2) _ fun H3 e3 => ⟨rfl, rfl, fun x dx hx hdx ne => w_made hx hdx (d1.mono ((e1.trans e2).trans e3)) (d2.mono ((e1.trans e2).trans e3)) (d3.mono ((e1.trans e2).trans e3)) (o.mono ((e1.trans e2).trans e3))⟩
end
/-! ### the class is made in each way -/
abbrev psW : List Str := ["self", "early", "again", "period"]
structure WMk (P : Program) (w : World) (K : PySem.W.Frag) (mg : Str → Option Value) (base : Heap) (Cw Cr C0 C10 C14 : Addr) : Prop where
  g : mg "Weights" = some (.ref Cw)
  ex : ∃ (f : Addr) (fd : FuncData) (d0 : Addr) (ds ds2 : List Value), Mk K Cw f ∧ FnOk P w K mg base (L2.CX P w) 7 f fd psW (spWInit K Cw Cr C0 C10 C14) ∧ Binds K fd psW [] ∧ Binds K fd psW ds ∧ Vals [.ref d0, .int 1] ds ∧ DfltW K d0 ∧ Binds K fd psW ds2 ∧ Vals [.int 1] ds2 ∧
    KBn K fd psW 1 ["period", "again", "early"] (fun us ws => us ++ ws.reverse) (fun vs zs => vs ++ zs.reverse)
section
variable {X : Cx} {x : Str} {p pos : Pos} {e : Expr} {es : List Expr} {kws : List Keyword} {t tk : TA} {k : Nat} {Cw Cr C0 C10 C14 : Addr} {E : XK}
theorem pe_W3 (M : WMk X.prog X.w X.K X.mg X.base Cw Cr C0 C10 C14) (hr : Room 8 X.A) (hx : Passes (L2.CX X.prog X.w) X E) (ha : PA X (e :: es) t) (hg : Gl X "Weights" := by rfl) (he : starEach (e :: es) X.env = (false, eval e X.env) :: starEach es X.env := by rfl) (hpl : (backTo pos (starEach es X.env)).any (·.1) = false := by rfl) :
    PE X (.Call (.Name "Weights" p) (e :: es) [] pos) (tMake Cw (spWInit X.K Cw Cr C0 C10 C14) [] E t) := by
  obtain ⟨f, fd, d0, ds, ds2, mk, F, b, _⟩ := M.ex
  exact pe_make mk F hr hg M.g b .nil hx ha (by decide) he hpl
theorem pe_W2 (M : WMk X.prog X.w X.K X.mg X.base Cw Cr C0 C10 C14) (hr : Room 8 X.A) (hx : Passes (L2.CX X.prog X.w) X E) (ha : PA X (e :: es) t) (hg : Gl X "Weights" := by rfl) (he : starEach (e :: es) X.env = (false, eval e X.env) :: starEach es X.env := by rfl) (hpl : (backTo pos (starEach es X.env)).any (·.1) = false := by rfl) :
    PE X (.Call (.Name "Weights" p) (e :: es) [] pos) (tMake Cw (spWInit X.K Cw Cr C0 C10 C14) [.int 1] E t) := by
  obtain ⟨f, fd, d0, ds, ds2, mk, F, _, _, _, _, b, d, _⟩ := M.ex
  exact pe_make mk F hr hg M.g b d hx ha (by decide) he hpl
theorem pe_W1 (M : WMk X.prog X.w X.K X.mg X.base Cw Cr C0 C10 C14) (hr : Room 8 X.A) (hx : Passes (L2.CX X.prog X.w) X E) (ha : PA X (e :: es) t) (hg : Gl X "Weights" := by rfl) (he : starEach (e :: es) X.env = (false, eval e X.env) :: starEach es X.env := by rfl) (hpl : (backTo pos (starEach es X.env)).any (·.1) = false := by rfl) :
    PE X (.Call (.Name "Weights" p) (e :: es) [] pos) (fun σ H Q => ∀ d0, DfltW X.K d0 → tMake Cw (spWInit X.K Cw Cr C0 C10 C14) [.ref d0, .int 1] E t σ H Q) := by
  obtain ⟨f, fd, d0, ds, ds2, mk, F, _, b, d, z, _⟩ := M.ex
  exact ⟨fun pins s σ H Q I h => (pe_make mk F hr hg M.g b d hx ha (by decide) he hpl).run pins s σ H Q I (h d0 z)⟩
theorem pe_WR3 (M : WMk X.prog X.w X.K X.mg X.base Cw Cr C0 C10 C14) (hr : Room 8 X.A) (hx : Passes (L2.CX X.prog X.w) X E) (hkw : PK X kws tk) (hg : Gl X "Weights" := by rfl) (hall : (backToKw pos (keywordEach kws X.env)).all (·.1.isSome) = true := by rfl) (hks : (backToKw pos (keywordEach kws X.env)).filterMap (·.1) = (["period", "again", "early"] : List Str) := by rfl)
    (hpl : ((backTo pos (starEach [] X.env)).any (·.1) || (backToKw pos (keywordEach kws X.env)).any (·.1.isNone)) = false := by rfl) : PE X (.Call (.Name "Weights" p) [] kws pos) (tMakeK Cw 0 3 (spWInit X.K Cw Cr C0 C10 C14) (fun vs zs => vs ++ zs.reverse) E tNil tk) := by
  obtain ⟨f, fd, d0, ds, ds2, mk, F, _, _, _, _, _, _, kb⟩ := M.ex
  exact pe_makeK0 mk F hr hg M.g kb hx hkw hall hks (by decide) hpl
end
/-! ### lists of sets -/
section
variable {K : PySem.W.Frag} {σ : L2.St} {H H' : Hp} {Cw Cr l a : Addr} {ta te : TE} {v : V} {D : Ends} {tz : TS} {r : Rw}
theorem RowAt.upd {x : V} {xs : List V} {o : HO} (h : H l = some (.lst xs)) (ra : RowAt K Cr r x H) : RowAt K Cr r x (upd H l o) := by
  obtain ⟨b, dy, p, q, s, rfl, h1, h2, h3, h4⟩ := ra
  have st : ∀ {p : Addr} {ys : List V}, SqT K H p ys → SqT K (L2.upd H l o) p ys := fun z => by
    rcases z with (z | ⟨u, z⟩) | z
    · exact .inl (.inl (by rw [upd_ne (fun w => by rw [w, h] at z; cases z)]; exact z))
    · exact .inl (.inr ⟨u, by rw [upd_ne (fun w => by rw [w, h] at z; cases z)]; exact z⟩)
    · exact .inr z
  exact ⟨b, dy, p, q, s, rfl, by rw [upd_ne (fun z => by rw [z, h] at h1; cases h1)]; exact h1, st h2, st h3, st h4⟩
theorem SetAt.upd {x : V} {xs : List V} {o : HO} (h : H l = some (.lst xs)) (ra : SetAt K Cw Cr r x H) : SetAt K Cw Cr r x (upd H l o) := by
  obtain ⟨b, dx, y, rfl, h1, h2⟩ := ra
  exact ⟨b, dx, y, rfl, by rw [upd_ne (fun z => by rw [z, h] at h1; cases h1)]; exact h1, h2.upd h⟩
theorem sqt_updL {p : Addr} {xs ys : List V} {o : HO} (h : H l = some (.lst xs)) (z : SqT K H p ys) : SqT K (upd H l o) p ys := by
  rcases z with (z | ⟨u, z⟩) | z
  · exact .inl (.inl (by rw [upd_ne (fun w => by rw [w, h] at z; cases z)]; exact z))
  · exact .inl (.inr ⟨u, by rw [upd_ne (fun w => by rw [w, h] at z; cases z)]; exact z⟩)
  · exact .inr z
/-- some sets of the row r in the list at l -/
def SomeAt (K : PySem.W.Frag) (Cw Cr : Addr) (r : Rw) (l : Addr) (m : Nat) (H : Hp) : Prop := ∃ vs, H l = some (.lst vs) ∧ vs.length ≤ m ∧ 0 < vs.length ∧ ∀ v ∈ vs, SetAt K Cw Cr r v H
theorem SomeAt.mono {m : Nat} (e : Ex H H') (s : SomeAt K Cw Cr r l m H) : SomeAt K Cw Cr r l m H' := by
  obtain ⟨vs, h1, h2, h3, h4⟩ := s
  exact ⟨vs, e _ _ h1, h2, h3, fun v hv => (h4 v hv).mono e⟩
theorem SomeAt.le {m m' : Nat} (s : SomeAt K Cw Cr r l m H) (h : m ≤ m') : SomeAt K Cw Cr r l m' H := by
  obtain ⟨vs, h1, h2, h3, h4⟩ := s
  exact ⟨vs, h1, by omega, h3, h4⟩
/-- some.append(a set) -/
theorem s_appS {m : Nat} (s : SomeAt K Cw Cr r l m H) (hm : m ≤ 100) (ha : Ev ta σ H (.ref l)) (h : Yi te σ H (SetAt K Cw Cr r)) (k : ∀ H1 xs ys, Ex H H1 → H1 l = some (.lst xs) → SomeAt K Cw Cr r l (m + 1) (upd H1 l (.lst ys)) → D.nx σ (upd H1 l (.lst ys))) : tDrop (tBM K "list" rAppend ta (tCons te tNil)) D σ H := by
  obtain ⟨vs, h1, h2, h3, h4⟩ := s
  exact ha H (Ex.refl H) _ fun H1 e1 => ⟨Or.inl ⟨rfl, vs, sq_of (e1 l _ h1)⟩, h H1 e1 _ fun v H2 e2 sv => ⟨l, vs, v, rfl, rfl, e2 l _ (e1 l _ h1), sz_lt (by omega), k H2 vs _ (e1.trans e2) (e2 l _ (e1 l _ h1)) ⟨_, upd_same, by simp; omega, by simp, fun u hu => by
    rcases List.mem_append.mp hu with hu | hu
    · exact ((h4 u hu).mono (e1.trans e2)).upd (e2 l _ (e1 l _ h1))
    · rw [List.mem_singleton.mp hu]
      exact sv.upd (e2 l _ (e1 l _ h1))⟩⟩⟩
/-- [te for x in the sets], one truth for all -/
theorem el_some {m j : Nat} {vs : List Nat} {b : Bool} (s : SomeAt K Cw Cr r l m H) (hm : m ≤ 100) (hl : Ev ta σ H (.ref l)) (hw : ∀ x, wipe ((wipe σ vs).set j (some x)) vs = wipe σ vs) (he : ∀ x H1, Ex H H1 → SetAt K Cw Cr r x H1 → Ev te ((wipe σ vs).set j (some x)) H1 (.bl b)) : ∃ n, n ≤ m ∧ EvL (tLc (iList K ta) (gName j) tYes te vs) σ H (List.replicate n (.bl b)) ∧ ∀ te', Ev te' σ H (.ref l) → Ev (tCB (rLenY K) (tCons te' tNil)) σ H (natV n) := by
  obtain ⟨ws, h1, h2, h3, h4⟩ := s
  refine ⟨ws.length, h2, el_is (el_lcL (j := j) (fun _ => true) (fun _ => .bl b) hl (sq_of h1) (by omega) hw (fun i x H3 e3 lt H4 e4 Q' k => k H4 (Ex.refl H4)) fun i x H3 e3 hx _ => he x H3 e3 ((h4 x (List.mem_of_getElem? hx)).mono e3)) ?_, fun te' h' => ev_lenL h' (.inl (sq_of h1))⟩
  unfold given
  rw [List.filter_eq_self.mpr (fun _ _ => rfl), List.map_const', List.length_range]
end
theorem rep_bl (n : Nat) (b : Bool) : List.replicate n (V.bl b) = (List.replicate n b).map V.bl := by rw [List.map_replicate]
theorem da_blL {K : PySem.W.Frag} {H : Hp} {p : Addr} {n : Nat} {b : Bool} (h : H p = some (.lst (List.replicate n (.bl b)))) : Da K H (.ref p) (.list ((List.replicate n b).map PyData.bool)) := by
  rw [rep_bl] at h
  exact da_list h (da_bl _)
theorem pl_blL (n : Nat) (b : Bool) : Pl (.list ((List.replicate n b).map PyData.bool)) := pl_atmL fun x _ => atm_bl x
theorem eqv_blL (n : Nat) (b : Bool) : PyData.eqv (.list ((List.replicate n b).map PyData.bool)) (.list ((List.replicate n b).map PyData.bool)) = true := by
  simp only [PyData.eqv, eqvAll_bl, decide_true]
end SwX
set_option Elab.async false
set_option linter.all false
set_option maxRecDepth 100000
set_option maxHeartbeats 4000000
/-! an own instance against values of other kinds -/
namespace SwX
open PySem PySem.Spec PyProof.Rows L2 PySem.SeqAt
open AutoSeq1 (wpAny_loadPart')
open MeetsSeq
section
variable {K : PySem.W.Frag} {M : Model} {A : Around} {E : Value → Shared → Prop} {hp : Heap} {g : Array GenState} {d : Drawn} {t : Nat} {os : OsState} {C x dx : Addr} {T : String}
theorem isInst_own (X : K.In hp) (hx : hp.get? x = some (PySem.W.instObj C dx)) (e : PySem.W.subIn K (.ref C) (.type T) = some false) {Q : Bool → Shared → Prop} (q : Q false ⟨hp, g, d, t, os⟩) : wpAny M A (isInstance (.ref x) (.type T)) Q E ⟨hp, g, d, t, os⟩ := by
  unfold isInstance
  exact wpAny_bind (wpAny_typeOf_ref hx ((PySem.W.looks_subIn X e).here q))
end
/-- an own instance that is no T -/
def OwnNo (T : String) (x : Addr) (s : Shared) : Prop := ∃ (K : PySem.W.Frag) (C dx : Addr), K.In s.heap ∧ s.heap.get? x = some (PySem.W.instObj C dx) ∧ PySem.W.subIn K (.ref C) (.type T) = some false
theorem list_eq_own (l x : Addr) : Meets (Builtin.«list.__eq__» ⟨[.ref l, .ref x], []⟩) (fun _ R s => OwnNo "list" x s ∧ R (.ok (.ret .notImplemented)) s) :=
  .of_wp fun prog w A R s h => by obtain ⟨hp, g, d, tk, os⟩ := s; obtain ⟨⟨K, C, dx, X, hx, e⟩, h⟩ := h; wp_walk using isInst_own X hx e; exact ⟨_, rfl, h⟩
theorem list_ne_own (l x : Addr) : Meets (Builtin.«list.__ne__» ⟨[.ref l, .ref x], []⟩) (fun _ R s => OwnNo "list" x s ∧ R (.ok (.ret .notImplemented)) s) :=
  .of_wp fun prog w A R s h => by obtain ⟨hp, g, d, tk, os⟩ := s; obtain ⟨⟨K, C, dx, X, hx, e⟩, h⟩ := h; wp_walk using isInst_own X hx e; exact ⟨_, rfl, h⟩
theorem tuple_eq_own (l x : Addr) : Meets (Builtin.«tuple.__eq__» ⟨[.ref l, .ref x], []⟩) (fun _ R s => OwnNo "tuple" x s ∧ R (.ok (.ret .notImplemented)) s) :=
  .of_wp fun prog w A R s h => by obtain ⟨hp, g, d, tk, os⟩ := s; obtain ⟨⟨K, C, dx, X, hx, e⟩, h⟩ := h; wp_walk using isInst_own X hx e; exact ⟨_, rfl, h⟩
theorem tuple_ne_own (l x : Addr) : Meets (Builtin.«tuple.__ne__» ⟨[.ref l, .ref x], []⟩) (fun _ R s => OwnNo "tuple" x s ∧ R (.ok (.ret .notImplemented)) s) :=
  .of_wp fun prog w A R s h => by obtain ⟨hp, g, d, tk, os⟩ := s; obtain ⟨⟨K, C, dx, X, hx, e⟩, h⟩ := h; wp_walk using isInst_own X hx e; exact ⟨_, rfl, h⟩
theorem dict_eq_own (l x : Addr) : Meets (Builtin.«dict.__eq__» ⟨[.ref l, .ref x], []⟩) (fun _ R s => OwnNo "dict" x s ∧ R (.ok (.ret .notImplemented)) s) :=
  .of_wp fun prog w A R s h => by obtain ⟨hp, g, d, tk, os⟩ := s; obtain ⟨⟨K, C, dx, X, hx, e⟩, h⟩ := h; wp_walk using isInst_own X hx e; exact ⟨_, rfl, h⟩
theorem dict_ne_own (l x : Addr) : Meets (Builtin.«dict.__ne__» ⟨[.ref l, .ref x], []⟩) (fun _ R s => OwnNo "dict" x s ∧ R (.ok (.ret .notImplemented)) s) :=
  .of_wp fun prog w A R s h => by obtain ⟨hp, g, d, tk, os⟩ := s; obtain ⟨⟨K, C, dx, X, hx, e⟩, h⟩ := h; wp_walk using isInst_own X hx e; exact ⟨_, rfl, h⟩
theorem str_eq_own (z : Str) (u : Tok) (x : Addr) : Meets (Builtin.«str.__eq__» ⟨[.str z u, .ref x], []⟩) (fun _ R s => (∃ C dx, s.heap.get? x = some (PySem.W.instObj C dx)) ∧ R (.ok (.ret .notImplemented)) s) :=
  .of_wp fun prog w A R s h => by obtain ⟨hp, g, d, tk, os⟩ := s; obtain ⟨⟨C, dx, hx⟩, h⟩ := h; wp_walk using wpAny_loadPart' hx, wpAny_load hx; exact ⟨_, rfl, h⟩
theorem str_ne_own (z : Str) (u : Tok) (x : Addr) : Meets (Builtin.«str.__ne__» ⟨[.str z u, .ref x], []⟩) (fun _ R s => (∃ C dx, s.heap.get? x = some (PySem.W.instObj C dx)) ∧ R (.ok (.ret .notImplemented)) s) :=
  .of_wp fun prog w A R s h => by obtain ⟨hp, g, d, tk, os⟩ := s; obtain ⟨⟨C, dx, hx⟩, h⟩ := h; wp_walk using wpAny_loadPart' hx, wpAny_load hx; exact ⟨_, rfl, h⟩
theorem int_eq_own (z : Int) (u : Tok) (x : Addr) : Meets (Builtin.«int.__eq__» ⟨[.int z u, .ref x], []⟩) (fun _ R s => (∃ C dx, s.heap.get? x = some (PySem.W.instObj C dx)) ∧ R (.ok (.ret .notImplemented)) s) :=
  .of_wp fun prog w A R s h => by obtain ⟨hp, g, d, tk, os⟩ := s; obtain ⟨⟨C, dx, hx⟩, h⟩ := h; wp_walk using wpAny_loadPart' hx, wpAny_load hx; exact ⟨_, rfl, h⟩
theorem int_ne_own (z : Int) (u : Tok) (x : Addr) : Meets (Builtin.«int.__ne__» ⟨[.int z u, .ref x], []⟩) (fun _ R s => (∃ C dx, s.heap.get? x = some (PySem.W.instObj C dx)) ∧ R (.ok (.ret .notImplemented)) s) :=
  .of_wp fun prog w A R s h => by obtain ⟨hp, g, d, tk, os⟩ := s; obtain ⟨⟨C, dx, hx⟩, h⟩ := h; wp_walk using wpAny_loadPart' hx, wpAny_load hx; exact ⟨_, rfl, h⟩
theorem bool_eq_own (z : Bool) (x : Addr) : Meets (Builtin.«int.__eq__» ⟨[.bool z, .ref x], []⟩) (fun _ R s => (∃ C dx, s.heap.get? x = some (PySem.W.instObj C dx)) ∧ R (.ok (.ret .notImplemented)) s) :=
  .of_wp fun prog w A R s h => by obtain ⟨hp, g, d, tk, os⟩ := s; obtain ⟨⟨C, dx, hx⟩, h⟩ := h; wp_walk using wpAny_loadPart' hx, wpAny_load hx; exact ⟨_, rfl, h⟩
theorem bool_ne_own (z : Bool) (x : Addr) : Meets (Builtin.«int.__ne__» ⟨[.bool z, .ref x], []⟩) (fun _ R s => (∃ C dx, s.heap.get? x = some (PySem.W.instObj C dx)) ∧ R (.ok (.ret .notImplemented)) s) :=
  .of_wp fun prog w A R s h => by obtain ⟨hp, g, d, tk, os⟩ := s; obtain ⟨⟨C, dx, hx⟩, h⟩ := h; wp_walk using wpAny_loadPart' hx, wpAny_load hx; exact ⟨_, rfl, h⟩
theorem none_eq_own (x : Addr) : Meets (Builtin.«NoneType.__eq__» ⟨[.none, .ref x], []⟩) (fun _ R s => R (.ok (.ret .notImplemented)) s) :=
  .of_wp fun prog w A R s h => by obtain ⟨hp, g, d, tk, os⟩ := s; wp_walk; exact ⟨_, rfl, h⟩
theorem none_ne_own (x : Addr) : Meets (Builtin.«NoneType.__ne__» ⟨[.none, .ref x], []⟩) (fun _ R s => R (.ok (.ret .notImplemented)) s) :=
  .of_wp fun prog w A R s h => by obtain ⟨hp, g, d, tk, os⟩ := s; wp_walk; exact ⟨_, rfl, h⟩
end SwX
set_option Elab.async false
set_option linter.all false
set_option maxRecDepth 100000
set_option maxHeartbeats 4000000
/-! == and != of an own instance and a value of another kind, on either side -/
namespace SwX
open PySem PySem.Spec PyProof.Rows L2
/-! ### the machine -/
section
variable {prog : Program} {w : World} {M : Model} {A : Around} {E : Value → Shared → Prop} {s : Shared} {K : PySem.W.Frag} {C x dx f : Addr} {ox : Obj} {od : Option Obj} {a b : Value} {Ta ida : String} {op : CmpOp}
theorem rc_back {Q : Value → Shared → Prop} (hu : A.units < cLine) (ha : s.TypeIs a Ta) (X : K.In s.heap) (hx : s.heap.get? x = some (PySem.W.instObj C dx)) (e : PySem.W.subIn K (.ref C) (.type Ta) = some false) (h1 : Slot Ta (cmpInfo op).2.1 ida)
    (hc1 : ∀ Q' : Value → Shared → Prop, Q' .notImplemented s → wpAny M A (call (.builtin ida) [a, .ref x]) Q' E s) (second : wpAny M A (tryCompare (.ref x) (cmpInfo op).2.2 a) (fun r s' => ∃ v, r = some v ∧ Q v s') E s) : wpAny M A (richCompare op a (.ref x)) Q E s := by
  rcases hi : cmpInfo op with ⟨sy, n1, n2⟩
  rw [hi] at h1 second
  have ne : (Value.type Ta != Value.ref C) = true := rfl
  simp only [richCompare, hi, ha.oneThing_none]
  refine wpAny_holding (wpAny_bind (wpAny_cRoomFor hu (wpAny_bind (wpAny_typeOf ha (wpAny_bind (wpAny_typeOf_ref hx ?_))))))
  show wpAny M A _ _ _ _
  simp only [ne, if_true]
  refine wpAny_bind ((PySem.W.looks_subIn X e).here ?_)
  simp only [Bool.false_eq_true, if_false, Bool.not_false, if_true]
  refine wpAny_bind (m := tryCompare a _ _) (wpAny_tryCompare_declines ha h1 (hc1 _ ⟨rfl, ?_⟩))
  refine wpAny_bind (m := tryCompare (.ref x) _ _) (wpAny_mono second (fun r s' z => ?_) fun _ _ z => z)
  obtain ⟨v, rfl, hq⟩ := z
  exact wpAny_pure hq
theorem try_own {name : Str} {Q : Option Value → Shared → Prop} (X : K.In s.heap) (I : PySem.W.InstAt s.heap x ox C od) (hs : PySem.W.findIn K (.ref C) name = some (some (.ref f))) (hf : PySem.W.isFn K (.ref f) = true) (h : wpAny M A (call (.ref f) [.ref x, b]) (PySem.W.CmpBack fun v s' => Q (some v) s') E s) : wpAny M A (tryCompare (.ref x) name b) Q E s := by
  unfold tryCompare
  refine wpAny_bind (PySem.W.ifBound_K X I hs hf (wpAny_mono h (fun v s' hv => ?_) fun _ _ z => z))
  cases v <;> first | exact hv.elim | exact wpAny_pure hv
end
section
variable {prog : Program} {w : World} {A : Around} {E : Value → Shared → Prop} {h : Heap} {g : Array GenState} {d : Drawn} {t : Nat} {os : OsState} {C x f : Addr} {B : String} {bm : List Value} {K : PySem.W.Frag} {b tb : Value}
theorem objNe_any (X : h.OwnEqNoNe x C f B bm) (hu : A.units < cLine) {Q : Fin → Shared → Prop} (hc : wpAny (model prog w) A (call (.ref f) [.ref x, b]) (fun v s' => ∃ k, v = .bool k ∧ Q (.done (.ret (.bool (!k)))) s') E ⟨h, g, d, t, os⟩) : wpAny (model prog w) A (Builtin.«object.__ne__» ⟨[.ref x, b], []⟩) Q E ⟨h, g, d, t, os⟩ := by
  unfold Builtin.«object.__ne__»
  have own := wpAny_callSpecialIfBound?_own (Q := fun r s' => ∃ k, r = some (.bool k) ∧ Q (.done (.ret (.bool (!k)))) s') X.ownEq (wpAny_mono hc (fun r s' ⟨k, e, q⟩ => ⟨k, by rw [e], q⟩) fun _ _ z => z)
  repeat (first
    | with_reducible refine wpAny_cRoomFor hu ?_
    | refine wpAny_bind (m := callSpecialIfBound? (.ref x) _ [b]) (wpAny_mono own (fun r s' z => by
        obtain ⟨k, rfl, q⟩ := z
        repeat (first | exact q | exact wpAny_pure q | exact wpAny_truthy_bool q | (refine wpAny_bind (m := truthy (.bool _)) (wpAny_truthy_bool ?_)) | wp_step)) fun _ _ z => z)
    | wp_step)
theorem try_ne (FB : CmpFacts B bm) (X : h.OwnEqNoNe x C f B bm) (hu : A.units + 1 < cLine) {Q : Option Value → Shared → Prop} (hc : wpAny (model prog w) A.in1 (call (.ref f) [.ref x, b]) (fun v s' => ∃ k, v = .bool k ∧ Q (some (.bool (!k))) s') E ⟨h, g, d, t, os⟩) : wpAny (model prog w) A (tryCompare (.ref x) "__ne__" b) Q E ⟨h, g, d, t, os⟩ := by
  have Y := X
  obtain ⟨o, of, nm, q, N, bs, z1, sn, sub, ab, col, dd, k0, k1, k2, k3, k5, nid, mN, yv, hx, hcl, hC, hn, _, _, _, _, _, hne⟩ := Y
  simp only [tryCompare]
  refine wpAny_bind (wpAny_callSpecialIfBound?_inst hx hcl hC hn hne FB.mro FB.ne (wpAny_call (codeAny_call_builtin FB.ne.plain F.cmpEntry_ne (wpAny_check_slot_inst F.cmpKind_ne F.cmpSplit_ne (F.cmpArgs_ne _ _) FB.hasObject hx hcl hC (objNe_any (A := A.in1) X hu (wpAny_mono hc (fun v s' hv => ?_) fun _ _ z => z))))))
  obtain ⟨k, rfl, q⟩ := hv
  first | exact ⟨k, rfl, wpAny_pure q⟩ | exact ⟨k, rfl, wpAny_pure (wpAny_pure q)⟩ | exact ⟨k, rfl, q⟩
theorem rc_neL (FB : CmpFacts B bm) (X : h.OwnEqNoNe x C f B bm) (Xk : K.In h) (hb : PySem.W.Looks (model prog w) h (typeOf b) tb) (hn : PySem.W.subIn K tb (.ref C) = some false) (ht : tb ≠ .ref C) (hu : A.units + 1 < cLine) {Q : Value → Shared → Prop} (hc : wpAny (model prog w) A.in1 (call (.ref f) [.ref x, b]) (fun v s' => ∃ k, v = .bool k ∧ Q (.bool (!k)) s') E ⟨h, g, d, t, os⟩) :
    wpAny (model prog w) A (richCompare .NotEq (.ref x) b) Q E ⟨h, g, d, t, os⟩ := by
  have Y := X
  obtain ⟨o, of, nm, q, N, bs, z1, sn, sub, ab, col, dd, k0, k1, k2, k3, k5, nid, mN, yv, hx, hcl, _⟩ := Y
  unfold richCompare
  simp only [oneThing_ref]
  refine wpAny_holding (wpAny_bind (wpAny_cRoomFor (Nat.lt_of_succ_lt hu) ?_))
  rw [cmpInfo_NotEq]
  dsimp only
  refine wpAny_bind (wpAny_typeOf_ref hx ?_)
  rw [hcl]
  refine wpAny_bind (hb.here ?_)
  have ne : (Value.ref C != tb) = true := by simpa using fun z => ht z.symm
  simp only [ne, if_true]
  refine wpAny_bind ((PySem.W.looks_subIn Xk hn).here ?_)
  simp only [Bool.false_eq_true, if_false]
  refine wpAny_bind (try_ne FB X hu (wpAny_mono hc (fun v s' hv => ?_) fun _ _ z => z))
  obtain ⟨k, rfl, q⟩ := hv
  first | exact ⟨k, rfl, wpAny_pure q⟩ | exact ⟨k, rfl, wpAny_pure (wpAny_pure q)⟩
end
end SwX
set_option Elab.async false
set_option linter.all false
set_option maxRecDepth 100000
set_option maxHeartbeats 4000000
/-! == and != of an own instance and data or another own instance, on either side: rules of the hand layer -/
namespace SwX
open PySem PySem.Spec PyProof.Rows L2
section
variable {X : Cx} {CX : CXT} {n : Nat} {f C : Addr} {fd : FuncData} {ps : List Str} {sp : Sp} {E : XK}
/-- no type of data is over or under the class at C -/
def alienB (K : PySem.W.Frag) (C : Addr) : Bool := ["NoneType", "bool", "int", "str", "list", "tuple", "dict"].all fun T => decide (PySem.W.subIn K (.ref C) (.type T) = some false) && decide (PySem.W.subIn K (.type T) (.ref C) = some false)
theorem alien_of {K : PySem.W.Frag} (h : alienB K C = true) (d : PyData) : PySem.W.subIn K (.ref C) (.type (tyn d)) = some false ∧ PySem.W.subIn K (.type (tyn d)) (.ref C) = some false := by
  simp only [alienB, List.all_cons, List.all_nil, Bool.and_eq_true, decide_eq_true_eq] at h
  obtain ⟨h1, h2, h3, h4, h5, h6, h7, _⟩ := h
  cases d <;> assumption
/-- own op y, y of another type -/
def rMixL (K : PySem.W.Frag) (C : Addr) (sp : Sp) (E : XK) (g : Bool → Bool) : R2 := fun x y H Q => ∃ a t, x = .ref a ∧ IsI H a C ∧ TyX K H y t ∧ PySem.W.subIn K t (.ref C) = some false ∧ t ≠ .ref C ∧ sp [.ref a, y] H (fun v H' => ∃ k, v = .bl k ∧ Q (.bl (g k)) H') E
theorem op_eqMixL (F : FnOk X.prog X.w X.K X.mg X.base CX n f fd ps sp) (S : Spc X.K C "__eq__" f) (b : Binds X.K fd ps []) (out : Passes CX X E) (room : Room n X.A) : OpR X (compareOp .Eq) (rMixL X.K C sp E id) := by
  intro pins s σ H x y v u Q I rx ry h
  obtain ⟨a, t, rfl, ia, ty, no, ne, q⟩ := h
  cases rx
  obtain ⟨ox, od, J⟩ := ia.look I
  obtain ⟨P, Z, p, _⟩ := kit_of I ry ty
  obtain ⟨m, fr⟩ := I.fr
  have un := room.un
  show wpAny (model X.prog X.w) X.A (richCompare .Eq _ _) _ _ _
  refine PySem.W.cmp_K (op := .Eq) (tb := t) (by omega) fr I.ok.mod.kin J (Z.ty _ _ I.kIn p) (by simp [PySem.W.notFirst, no]) S.at_ S.fn (wpAny_mono (by_machine F room rfl b out I (.cons (rel_ref _) (.cons ry .nil)) q) (fun r s' z => ?_) fun _ _ z => z)
  obtain ⟨v, H', K', rv, k, rfl, q'⟩ := z
  cases rv
  exact ⟨_, H', K', rel_bl _, q'⟩
theorem op_neMixL (F : FnOk X.prog X.w X.K X.mg X.base CX n f fd ps sp) (S : eqOnly X.K C f = true) (b : Binds X.K fd ps []) (out : Passes CX X E) (room : Room n X.A.in1) : OpR X (compareOp .NotEq) (rMixL X.K C sp E not) := by
  intro pins s σ H x y v u Q I rx ry h
  obtain ⟨a, t, rfl, ia, ty, no, ne, q⟩ := h
  cases rx
  obtain ⟨ox, od, J⟩ := ia.look I
  obtain ⟨P, Z, p, _⟩ := kit_of I ry ty
  have un := room.un
  have Y := eqOnly_of I.kIn J S
  have more : X.A.in1.units = X.A.units + 1 := rfl
  have kin := I.kIn
  have bm := by_machine F room rfl b out I (.cons (rel_ref _) (.cons ry .nil)) q
  have zt := Z.ty (model X.prog X.w) _ kin p
  obtain ⟨hh, g, d, tk, os⟩ := s
  show wpAny (model X.prog X.w) X.A (richCompare .NotEq _ _) _ _ _
  refine rc_neL PySem.F.cmp_object Y kin zt no ne (by omega) (wpAny_mono bm (fun r s' z => ?_) fun _ _ z => z)
  obtain ⟨v, H', K', rv, k, rfl, q'⟩ := z
  cases rv
  exact ⟨k, rfl, .bl (!k), H', K', rel_bl _, q'⟩
/-- data op own -/
def rMixR (K : PySem.W.Frag) (C : Addr) (sp : Sp) (E : XK) (g : Bool → Bool) : R2 := fun x y H Q => ∃ a d, y = .ref a ∧ IsI H a C ∧ Da K H x d ∧ sp [.ref a, x] H (fun v H' => ∃ k, v = .bl k ∧ Q (.bl (g k)) H') E
theorem eq_declines {M : Model} {A : Around} {Ev : Value → Shared → Prop} {pins : List (Addr × Obj)} {σ : L2.St} {H : Hp} {s : Shared} {x : V} {v : Value} {d : PyData} {a dx : Addr} (I : Inv X pins σ H s) (al : alienB X.K C = true) (hx : s.heap.get? a = some (PySem.W.instObj C dx)) (rx : RelV x v) (h : Da X.K H x d) :
    ∃ ida, s.TypeIs v (tyn d) ∧ Slot (tyn d) "__eq__" ida ∧ ∀ Q' : Value → Shared → Prop, Q' .notImplemented s → wpAny (model X.prog X.w) X.A (call (.builtin ida) [v, .ref a]) Q' Ev s := by
  have own : ∀ T, (PySem.W.subIn X.K (.ref C) (.type T) = some false) → OwnNo T a s := fun T e => ⟨X.K, C, dx, I.kIn, hx, e⟩
  cases h with
  | non =>
    cases rx
    exact ⟨"NoneType.__eq__", typeIs_none _, F.slot_NoneType_eq, fun Q' q => call_meets F.slot_NoneType_eq (typeIs_none _) F.entry_NoneType_eq (F.args_NoneType_eq_2 _ _) (none_eq_own a) q⟩
  | bl b =>
    cases rx
    exact ⟨"int.__eq__", PySem.typeIs_bool _ _, F.slot_bool_eq, fun Q' q => call_meets F.slot_bool_eq (PySem.typeIs_bool _ _) F.entry_int_eq (F.args_int_eq_2 _ _) (bool_eq_own b a) ⟨⟨C, dx, hx⟩, q⟩⟩
  | int i =>
    obtain ⟨t, rfl⟩ := rx
    exact ⟨"int.__eq__", typeIs_int _ _ _, F.slot_int_eq, fun Q' q => call_meets F.slot_int_eq (typeIs_int _ _ _) F.entry_int_eq (F.args_int_eq_2 _ _) (int_eq_own i t a) ⟨⟨C, dx, hx⟩, q⟩⟩
  | str i =>
    obtain ⟨t, rfl⟩ := rx
    exact ⟨"str.__eq__", typeIs_str _ _ _, F.slot_str_eq, fun Q' q => call_meets F.slot_str_eq (typeIs_str _ _ _) F.entry_str_eq (F.args_str_eq_2 _ _) (str_eq_own i t a) ⟨⟨C, dx, hx⟩, q⟩⟩
  | @lst p xs ds h l _ =>
    cases rx
    obtain ⟨its, rv, ⟨o, n, ho, hc, _, hd⟩, _⟩ := I.list (Evl.sq_of h)
    have T : s.TypeIs (.ref p) "list" := ⟨_, ho, hc⟩
    exact ⟨"list.__eq__", T, F.slot_list_eq, fun Q' q => call_meets F.slot_list_eq T F.entry_list_eq (F.args_list_eq_2 _ _) (list_eq_own p a) ⟨own _ (alien_of al (.list [])).1, q⟩⟩
  | @tup p xs ds h l _ =>
    cases rx
    obtain ⟨its, rv, ⟨o, ho, hc, n, hd⟩, _⟩ := I.tuple h
    have T : s.TypeIs (.ref p) "tuple" := ⟨_, ho, hc⟩
    exact ⟨"tuple.__eq__", T, F.slot_tuple_eq, fun Q' q => call_meets F.slot_tuple_eq T F.entry_tuple_eq (F.args_tuple_eq_2 _ _) (tuple_eq_own p a) ⟨own _ (alien_of al (.tuple [])).1, q⟩⟩
  | @dic p kvs ds h l each =>
    cases rx
    have ok : ObjOk X.prog X.w H s.heap p (.dK kvs) := I.hok p _ h
    obtain ⟨_, _, vs, kv, o, es, ep, ho, hx', hd, _, hp, _⟩ := ok
    have T : s.TypeIs (.ref p) "dict" := ⟨_, ho, hx'.1⟩
    exact ⟨"dict.__eq__", T, F.slot_dict_eq, fun Q' q => call_meets F.slot_dict_eq T F.entry_dict_eq (F.args_dict_eq_2 _ _) (dict_eq_own p a) ⟨own _ (alien_of al (.dict [])).1, q⟩⟩
theorem ne_declines {M : Model} {A : Around} {Ev : Value → Shared → Prop} {pins : List (Addr × Obj)} {σ : L2.St} {H : Hp} {s : Shared} {x : V} {v : Value} {d : PyData} {a dx : Addr} (I : Inv X pins σ H s) (al : alienB X.K C = true) (hx : s.heap.get? a = some (PySem.W.instObj C dx)) (rx : RelV x v) (h : Da X.K H x d) :
    ∃ ida, s.TypeIs v (tyn d) ∧ Slot (tyn d) "__ne__" ida ∧ ∀ Q' : Value → Shared → Prop, Q' .notImplemented s → wpAny (model X.prog X.w) X.A (call (.builtin ida) [v, .ref a]) Q' Ev s := by
  have own : ∀ T, (PySem.W.subIn X.K (.ref C) (.type T) = some false) → OwnNo T a s := fun T e => ⟨X.K, C, dx, I.kIn, hx, e⟩
  cases h with
  | non =>
    cases rx
    exact ⟨"NoneType.__ne__", typeIs_none _, F.slot_NoneType_ne, fun Q' q => call_meets F.slot_NoneType_ne (typeIs_none _) F.entry_NoneType_ne (F.args_NoneType_ne_2 _ _) (none_ne_own a) q⟩
  | bl b =>
    cases rx
    exact ⟨"int.__ne__", PySem.typeIs_bool _ _, F.slot_bool_ne, fun Q' q => call_meets F.slot_bool_ne (PySem.typeIs_bool _ _) F.entry_int_ne (F.args_int_ne_2 _ _) (bool_ne_own b a) ⟨⟨C, dx, hx⟩, q⟩⟩
  | int i =>
    obtain ⟨t, rfl⟩ := rx
    exact ⟨"int.__ne__", typeIs_int _ _ _, F.slot_int_ne, fun Q' q => call_meets F.slot_int_ne (typeIs_int _ _ _) F.entry_int_ne (F.args_int_ne_2 _ _) (int_ne_own i t a) ⟨⟨C, dx, hx⟩, q⟩⟩
  | str i =>
    obtain ⟨t, rfl⟩ := rx
    exact ⟨"str.__ne__", typeIs_str _ _ _, F.slot_str_ne, fun Q' q => call_meets F.slot_str_ne (typeIs_str _ _ _) F.entry_str_ne (F.args_str_ne_2 _ _) (str_ne_own i t a) ⟨⟨C, dx, hx⟩, q⟩⟩
  | @lst p xs ds h l _ =>
    cases rx
    obtain ⟨its, rv, ⟨o, n, ho, hc, _, hd⟩, _⟩ := I.list (Evl.sq_of h)
    have T : s.TypeIs (.ref p) "list" := ⟨_, ho, hc⟩
    exact ⟨"list.__ne__", T, F.slot_list_ne, fun Q' q => call_meets F.slot_list_ne T F.entry_list_ne (F.args_list_ne_2 _ _) (list_ne_own p a) ⟨own _ (alien_of al (.list [])).1, q⟩⟩
  | @tup p xs ds h l _ =>
    cases rx
    obtain ⟨its, rv, ⟨o, ho, hc, n, hd⟩, _⟩ := I.tuple h
    have T : s.TypeIs (.ref p) "tuple" := ⟨_, ho, hc⟩
    exact ⟨"tuple.__ne__", T, F.slot_tuple_ne, fun Q' q => call_meets F.slot_tuple_ne T F.entry_tuple_ne (F.args_tuple_ne_2 _ _) (tuple_ne_own p a) ⟨own _ (alien_of al (.tuple [])).1, q⟩⟩
  | @dic p kvs ds h l each =>
    cases rx
    have ok : ObjOk X.prog X.w H s.heap p (.dK kvs) := I.hok p _ h
    obtain ⟨_, _, vs, kv, o, es, ep, ho, hx', hd, _, hp, _⟩ := ok
    have T : s.TypeIs (.ref p) "dict" := ⟨_, ho, hx'.1⟩
    exact ⟨"dict.__ne__", T, F.slot_dict_ne, fun Q' q => call_meets F.slot_dict_ne T F.entry_dict_ne (F.args_dict_ne_2 _ _) (dict_ne_own p a) ⟨own _ (alien_of al (.dict [])).1, q⟩⟩
theorem op_eqMixR (F : FnOk X.prog X.w X.K X.mg X.base CX n f fd ps sp) (S : Spc X.K C "__eq__" f) (al : alienB X.K C = true) (b : Binds X.K fd ps []) (out : Passes CX X E) (room : Room n X.A) : OpR X (compareOp .Eq) (rMixR X.K C sp E id) := by
  intro pins s σ H x y v u Q I rx ry h
  obtain ⟨a, d, rfl, ia, da, q⟩ := h
  cases ry
  have ia' := ia
  obtain ⟨ox, od, J⟩ := ia.look I
  obtain ⟨dx, fs, e⟩ := ia'
  obtain ⟨mA, O, _⟩ := ins_get I.hok e
  have un := room.un
  obtain ⟨ida, T, sl, dec⟩ := eq_declines (M := model X.prog X.w) (A := X.A) (Ev := X.xe) I al O.obj rx da
  show wpAny (model X.prog X.w) X.A (richCompare .Eq _ _) _ _ _
  refine rc_back (op := .Eq) (by omega) T I.kIn O.obj (alien_of al d).1 sl dec ?_
  refine try_own I.kIn J S.at_ S.fn (wpAny_mono (by_machine F room rfl b out I (.cons (rel_ref _) (.cons rx .nil)) q) (fun r s' z => ?_) fun _ _ z => z)
  obtain ⟨v, H', K', rv, k, rfl, q'⟩ := z
  cases rv
  exact ⟨_, rfl, _, H', K', rel_bl _, q'⟩
theorem op_neMixR (F : FnOk X.prog X.w X.K X.mg X.base CX n f fd ps sp) (S : eqOnly X.K C f = true) (al : alienB X.K C = true) (b : Binds X.K fd ps []) (out : Passes CX X E) (room : Room n X.A.in1) : OpR X (compareOp .NotEq) (rMixR X.K C sp E not) := by
  intro pins s σ H x y v u Q I rx ry h
  obtain ⟨a, d, rfl, ia, da, q⟩ := h
  cases ry
  have ia' := ia
  obtain ⟨ox, od, J⟩ := ia.look I
  obtain ⟨dx, fs, e⟩ := ia'
  obtain ⟨mA, O, _⟩ := ins_get I.hok e
  have un := room.un
  have Y := eqOnly_of I.kIn J S
  have more : X.A.in1.units = X.A.units + 1 := rfl
  obtain ⟨ida, T, sl, dec⟩ := ne_declines (M := model X.prog X.w) (A := X.A) (Ev := X.xe) I al O.obj rx da
  have bm := by_machine F room rfl b out I (.cons (rel_ref _) (.cons rx .nil)) q
  have kin := I.kIn
  have ob := O.obj
  clear J O
  obtain ⟨hh, g, dd, tk, os⟩ := s
  show wpAny (model X.prog X.w) X.A (richCompare .NotEq _ _) _ _ _
  refine rc_back (op := .NotEq) (by omega) T kin ob (alien_of al d).1 sl dec ?_
  refine try_ne PySem.F.cmp_object Y (by omega) (wpAny_mono bm (fun r s' z => ?_) fun _ _ z => z)
  obtain ⟨v, H', K', rv, k, rfl, q'⟩ := z
  cases rv
  exact ⟨k, rfl, _, rfl, .bl (!k), H', K', rel_bl _, q'⟩
end
end SwX
set_option Elab.async false
set_option linter.all false
set_option maxRecDepth 100000
set_option maxHeartbeats 4000000
/-! what repr shows of data without dicts can be laid out -/
namespace SwX
open PySem PySem.Spec PyProof.Rows L2
theorem char_lt (c : Char) : c.toNat < 0x110000 := by
  have h := c.valid
  have e : c.toNat = c.val.toNat := rfl
  rcases h with h | h
  · have : c.val.toNat < 0xD800 := h
    omega
  · have : c.val.toNat < 0x110000 := h.2
    omega
theorem reprChar_lt {q c : Nat} (hc : c < 0x110000) : ∀ x ∈ Builtin.Str.reprChar q c, x < 0x110000 := by
  intro x hx
  unfold Builtin.Str.reprChar at hx
  have dig : ∀ n, ∀ x ∈ List.replicate n 48 ++ (Nat.toDigits 16 c).map Char.toNat, x < 0x110000 := fun n x hx => by
    rcases List.mem_append.mp hx with h | h
    · rw [(List.mem_replicate.mp h).2]
      decide
    · obtain ⟨d, _, rfl⟩ := List.mem_map.mp h
      exact char_lt d
  have two : ∀ a b n, a < 200 → b < 200 → ∀ x ∈ [a, b] ++ (List.replicate n 48 ++ (Nat.toDigits 16 c).map Char.toNat), x < 0x110000 := fun a b n ha hb x hx => by
    rcases List.mem_append.mp hx with h | h
    · simp only [List.mem_cons, List.not_mem_nil, or_false] at h
      rcases h with rfl | rfl <;> omega
    · exact dig n x h
  dsimp only at hx
  split at hx
  · simp only [List.mem_cons, List.not_mem_nil, or_false] at hx
    rcases hx with rfl | rfl <;> omega
  · split at hx
    · simp only [List.mem_cons, List.not_mem_nil, or_false] at hx
      rcases hx with rfl | rfl <;> omega
    · split at hx
      · simp only [List.mem_cons, List.not_mem_nil, or_false] at hx
        rcases hx with rfl | rfl <;> omega
      · split at hx
        · simp only [List.mem_cons, List.not_mem_nil, or_false] at hx
          rcases hx with rfl | rfl <;> omega
        · split at hx
          · rw [List.mem_singleton.mp hx]
            exact hc
          · split at hx
            · exact two _ _ _ (by decide) (by decide) x hx
            · split at hx
              · exact two _ _ _ (by decide) (by decide) x hx
              · exact two _ _ _ (by decide) (by decide) x hx
theorem fold_lt {q : Nat} : ∀ (l : List Nat) (acc : Array Nat), (∀ c ∈ l, c < 0x110000) → (∀ c ∈ acc.toList, c < 0x110000) → ∀ c ∈ (l.foldl (fun out c => out ++ (Builtin.Str.reprChar q c).toArray) acc).toList, c < 0x110000
  | [], acc, _, h => h
  | c :: r, acc, hl, h => by
    rw [List.foldl_cons]
    refine fold_lt r _ (fun x hx => hl x (List.mem_cons_of_mem _ hx)) fun x hx => ?_
    rw [Array.toList_append] at hx
    rcases List.mem_append.mp hx with z | z
    · exact h x z
    · exact reprChar_lt (hl c List.mem_cons_self) x z
theorem text_lt {x : Str} (h : ∀ c ∈ x.cps.toList, c < 0x110000) : ∀ c ∈ (reprText x).cps.toList, c < 0x110000 := by
  have q0 : reprQuote x < 0x110000 := by
    unfold reprQuote
    split <;> decide
  intro c hc
  unfold reprText at hc
  rw [Array.toList_push] at hc
  rcases List.mem_append.mp hc with z | z
  · rw [← Array.foldl_toList] at z
    refine fold_lt _ _ h (fun y hy => ?_) c z
    rw [List.mem_singleton.mp hy]
    exact q0
  · rw [List.mem_singleton.mp z]
    exact q0
theorem app_lt {x y : Str} (hx : ∀ c ∈ x.cps.toList, c < 0x110000) (hy : ∀ c ∈ y.cps.toList, c < 0x110000) : ∀ c ∈ (x ++ y).cps.toList, c < 0x110000 := fun c hc => by
  rw [cps_toList_append] at hc
  rcases List.mem_append.mp hc with z | z
  · exact hx c z
  · exact hy c z
theorem join_lt {ts : List Str} (h : ∀ t ∈ ts, ∀ c ∈ t.cps.toList, c < 0x110000) : ∀ c ∈ (Str.join (", " : Str) ts).cps.toList, c < 0x110000 := fun c hc => by
  rcases (mem_join _ c ts).mp hc with ⟨t, ht, z⟩ | ⟨_, z⟩
  · exact h t ht c z
  · have b : ∀ c ∈ ((", " : Str)).cps.toList, c < 0x110000 := by decide +kernel
    exact b c z
theorem strOk_lt {x : Str} (h : PyData.strOk x = true) : ∀ c ∈ x.cps.toList, c < 0x110000 := by
  unfold PyData.strOk at h
  rw [← Array.all_toList, List.all_eq_true] at h
  exact fun c hc => of_decide_eq_true (h c hc)
mutual
theorem shown_lt : ∀ d : PyData, d.canLay0 = true → ∀ c ∈ d.shown.cps.toList, c < 0x110000
  | .none, _ => by
    show ∀ c ∈ ("None" : Str).cps.toList, c < 0x110000
    decide +kernel
  | .bool b, _ => by cases b <;> decide +kernel
  | .int i, _ => int_signs i
  | .str x, h => by
    rw [PyData.shown_str]
    exact text_lt (strOk_lt h)
  | .list xs, h => by
    rw [PyData.shown_list]
    exact app_lt (app_lt (by decide +kernel) (join_lt (shownAll_lt xs (by simpa only [PyData.canLay0] using h)))) (by decide +kernel)
  | .tuple xs, h => by
    rw [PyData.shown_tuple]
    refine app_lt (app_lt (by decide +kernel) (join_lt (shownAll_lt xs (by simpa only [PyData.canLay0] using h)))) ?_
    split <;> decide +kernel
  | .dict _, h => by cases h
theorem shownAll_lt : ∀ ds : List PyData, PyData.canLayAll0 ds = true → ∀ t ∈ PyData.shownAll ds, ∀ c ∈ t.cps.toList, c < 0x110000
  | [], _ => fun t ht => by cases ht
  | d :: ds, h => fun t ht => by
    have h' : d.canLay0 = true ∧ PyData.canLayAll0 ds = true := by simpa only [PyData.canLayAll0, Bool.and_eq_true] using h
    rw [show PyData.shownAll (d :: ds) = d.shown :: PyData.shownAll ds by simp only [PyData.shownAll]] at ht
    rcases List.mem_cons.mp ht with e | e
    · rw [e]
      exact shown_lt d h'.1
    · exact shownAll_lt ds h'.2 t e
end
theorem lay_shown {d : PyData} (h : d.canLay0 = true) : (PyData.str d.shown).canLay0 = true := strOk_of (shown_lt d h)
end SwX
set_option Elab.async false
set_option linter.all false
set_option maxRecDepth 100000
set_option maxHeartbeats 4000000
/-! values of other kinds told from an own class: isinstance, == and != -/
namespace SwX
open PySem PySem.Spec PyProof.Rows L2 Evl
def kitNoB (K : PySem.W.Frag) (C : Addr) : Bool := ["NoneType", "bool", "int", "str", "list", "tuple", "dict"].all fun T => decide (PySem.W.kitOne K (.type T) (.ref C) = some false)
structure Alien (K : PySem.W.Frag) (C : Addr) : Prop where
  al : alienB K C = true
  kt : kitNoB K C = true
theorem Alien.kit {K : PySem.W.Frag} {C : Addr} (h : Alien K C) (d : PyData) : PySem.W.kitOne K (.type (tyn d)) (.ref C) = some false := by
  have h := h.kt
  simp only [kitNoB, List.all_cons, List.all_nil, Bool.and_eq_true, decide_eq_true_eq] at h
  obtain ⟨h1, h2, h3, h4, h5, h6, h7, _⟩ := h
  cases d <;> assumption
/-- u is no instance of the class at C -/
def NotC (K : PySem.W.Frag) (C : Addr) (u : V) (H : Hp) : Prop := ∃ t, TyX K H u t ∧ PySem.W.kitOne K t (.ref C) = some false ∧ PySem.W.subIn K t (.ref C) = some false ∧ t ≠ .ref C
section
variable {K : PySem.W.Frag} {σ : L2.St} {H H' : Hp} {C Cw a : Addr} {te ta tb : TE} {u v : V} {D : PyData} {sp : Sp} {g : Bool → Bool}
theorem notC_da (A : Alien K C) (h : Da K H v D) : NotC K C v H := ⟨_, da_ty h, A.kit D, (alien_of A.al D).2, fun z => nomatch z⟩
theorem notC_ins (c : OwnC K Cw) (kt : PySem.W.kitOne K (.ref Cw) (.ref C) = some false) (sb : PySem.W.subIn K (.ref Cw) (.ref C) = some false) (ne : Cw ≠ C) (h : IsI H a Cw) : NotC K C (.ref a) H := by
  obtain ⟨dx, fs, e⟩ := h
  exact ⟨.ref Cw, .base (.ins e c.cls c.ha c.hn c.ht c.hm), kt, sb, fun z => ne (by cases z; rfl)⟩
theorem ev_isNo (h : Ev te σ H u) (n : ∀ H', Ex H H' → NotC K C u H') : Ev (tCB (rIsi K) (tCons te (tCons (tC (.ref C)) tNil))) σ H (.bl false) := fun H1 e1 Q q => h H1 e1 _ fun H2 e2 => by
  obtain ⟨t, ty, kt, _⟩ := n H2 (e1.trans e2)
  exact ⟨u, .ref C, t, .ref C, false, rfl, .own C, ty, kt, q H2 e2⟩
/-- own == u, u no instance -/
def spEqNo (K : PySem.W.Frag) (C : Addr) : Sp := fun vs H Q _ => ∃ (a : Addr) (u : V), vs = [.ref a, u] ∧ IsI H a C ∧ (∀ H', Ex H H' → NotC K C u H') ∧ ∀ H', Ex H H' → Q (.bl false) H'
def spOr (s1 s2 : Sp) : Sp := fun vs H Q E => s1 vs H Q E ∨ s2 vs H Q E
theorem ok_or {P : Program} {w : World} {mg : Str → Option Value} {base : Heap} {CX : CXT} {n : Nat} {f : Addr} {fd : FuncData} {ps : List Str} {s1 s2 : Sp} (h1 : FnOk P w K mg base CX n f fd ps s1) (h2 : FnOk P w K mg base CX n f fd ps s2) : FnOk P w K mg base CX n f fd ps (spOr s1 s2) := by
  obtain ⟨a1, a2⟩ := h1
  obtain ⟨b1, b2⟩ := h2
  refine ⟨fun vs H Q E h => ?_, fun A outer s H args us vs Q E hr e0 env bind hsp => ?_⟩
  · rcases h with h | h
    · exact a1 vs H Q E h
    · exact b1 vs H Q E h
  · rcases hsp with h | h
    · exact a2 A outer s H args us vs Q E hr e0 env bind h
    · exact b2 A outer s H args us vs Q E hr e0 env bind h
/-- what the program holds of the two classes' own == -/
structure EqC (P : Program) (w : World) (K : PySem.W.Frag) (mg : Str → Option Value) (base : Heap) (k : Nat) (C : Addr) (sp : Sp) : Prop where
  ex : ∃ f fd, FnOk P w K mg base CX0 k f fd ["self", "other"] (spOr sp (spEqNo K C)) ∧ Spc K C "__eq__" f ∧ Binds K fd ["self", "other"] [] ∧ eqOnly K C f = true
  al : Alien K C
/-- the other class -/
structure Oth (K : PySem.W.Frag) (C Cw : Addr) : Prop where
  o : OwnC K Cw
  kt : PySem.W.kitOne K (.ref Cw) (.ref C) = some false
  sb : PySem.W.subIn K (.ref Cw) (.ref C) = some false
  ne : Cw ≠ C
theorem notC_ask (A : Alien K C) (O : Oth K C Cw) {o : Option PyData} (h : AskAt K Cw o v H) : ∀ H', Ex H H' → NotC K C v H' := fun H' e => by
  cases o with
  | some D => exact notC_da A (Da.mono e h)
  | none =>
    obtain ⟨b, rfl, i⟩ := h
    exact notC_ins O.o O.kt O.sb O.ne (isI_mono e i)
theorem rv_mixL (A : Alien K C) (O : Oth K C Cw) (i : IsI H a C) {o : Option PyData} (h : AskAt K Cw o v H) : RV (rMixL K C (spOr sp (spEqNo K C)) E0 g) (.ref a) v H (.bl (g false)) := fun H1 e1 Q q => by
  have n := notC_ask A O h
  obtain ⟨t, ty, _, sb, ne⟩ := n H1 e1
  exact ⟨a, t, rfl, isI_mono e1 i, ty, sb, ne, .inr ⟨a, v, rfl, isI_mono e1 i, fun H2 e2 => n H2 (e1.trans e2), fun H2 e2 => ⟨false, rfl, q H2 e2⟩⟩⟩
/-- the thing on the left: data, or one of the other class -/
def rThing (K : PySem.W.Frag) (C Cw : Addr) (s1 s2 : Sp) (g : Bool → Bool) : R2 := fun x y H Q => rMixR K C s1 E0 g x y H Q ∨ rMixL K Cw s2 E0 g x y H Q
theorem rv_thing {sp2 : Sp} (A : Alien K C) (O : Oth K C Cw) (c : OwnC K C) (kt : PySem.W.kitOne K (.ref C) (.ref Cw) = some false) (sb : PySem.W.subIn K (.ref C) (.ref Cw) = some false) (i : IsI H a C) {o : Option PyData} (h : AskAt K Cw o v H) : RV (rThing K C Cw (spOr sp (spEqNo K C)) (spOr sp2 (spEqNo K Cw)) g) v (.ref a) H (.bl (g false)) := fun H1 e1 Q q => by
  have n := notC_ask A O h
  cases o with
  | some D => exact .inl ⟨a, D, rfl, isI_mono e1 i, Da.mono e1 h, .inr ⟨a, v, rfl, isI_mono e1 i, fun H2 e2 => n H2 (e1.trans e2), fun H2 e2 => ⟨false, rfl, q H2 e2⟩⟩⟩
  | none =>
    obtain ⟨b, rfl, j⟩ := h
    have m : ∀ H', Ex H1 H' → NotC K Cw (.ref a) H' := fun H' e' => notC_ins c kt sb O.ne.symm (isI_mono (e1.trans e') i)
    obtain ⟨t, ty, _, sb', ne'⟩ := m H1 (Ex.refl H1)
    exact .inr ⟨b, t, rfl, isI_mono e1 j, ty, sb', ne', .inr ⟨b, .ref a, rfl, isI_mono e1 j, m, fun H2 e2 => ⟨false, rfl, q H2 e2⟩⟩⟩
end
section
variable {X : Cx} {k j : Nat} {C Cw : Addr} {s1 s2 : Sp} (K : PySem.W.Frag)
theorem mixEqL (O : EqC X.prog X.w K X.mg X.base k C s1) (hr : Room (k + 1) X.A) (h : X.K = K := by rfl) : OpR X (compareOp .Eq) (rMixL K C (spOr s1 (spEqNo K C)) E0 id) := by
  subst h
  obtain ⟨f, fd, F, S, b, _⟩ := O.ex
  exact op_eqMixL F S b pass0 (hr.mono (Nat.le_succ k))
theorem mixNeL (O : EqC X.prog X.w K X.mg X.base k C s1) (hr : Room (k + 1) X.A) (h : X.K = K := by rfl) : OpR X (compareOp .NotEq) (rMixL K C (spOr s1 (spEqNo K C)) E0 not) := by
  subst h
  obtain ⟨f, fd, F, S, b, e⟩ := O.ex
  exact op_neMixL F e b pass0 hr.in1
theorem thingEq (O : EqC X.prog X.w K X.mg X.base k C s1) (W : EqC X.prog X.w K X.mg X.base j Cw s2) (hr : Room (k + 1) X.A) (hr2 : Room (j + 1) X.A) (h : X.K = K := by rfl) : OpR X (compareOp .Eq) (rThing K C Cw (spOr s1 (spEqNo K C)) (spOr s2 (spEqNo K Cw)) id) := by
  subst h
  obtain ⟨f, fd, F, S, b, _⟩ := O.ex
  exact op_join (op_eqMixR F S O.al.al b pass0 (hr.mono (Nat.le_succ k))) (mixEqL X.K W hr2)
theorem thingNe (O : EqC X.prog X.w K X.mg X.base k C s1) (W : EqC X.prog X.w K X.mg X.base j Cw s2) (hr : Room (k + 1) X.A) (hr2 : Room (j + 1) X.A) (h : X.K = K := by rfl) : OpR X (compareOp .NotEq) (rThing K C Cw (spOr s1 (spEqNo K C)) (spOr s2 (spEqNo K Cw)) not) := by
  subst h
  obtain ⟨f, fd, F, S, b, e⟩ := O.ex
  exact op_join (op_neMixR F e O.al.al b pass0 hr.in1) (mixNeL X.K W hr2)
end
end SwX
set_option Elab.async false
set_option linter.all false
set_option maxRecDepth 100000
set_option maxHeartbeats 4000000
/-! texts of catalogues: plain laws (signs, lengths, each text tells its catalogue); what is told of one, as data -/
namespace SwX
open PySem PySem.Spec PyProof.Rows L2 Evl
/-- a rule as a row's text has it -/
structure RowOk (r : Rul) : Prop where
  nm : RulNm r
  lo : 1 ≤ r.2.1
  hi : r.2.1 ≤ 9
  ln : r.2.2.length ≤ 10
theorem sign_no {n : Nm} (h : NameOk n) {c : Nat} (k : c < 48 ∨ (57 < c ∧ c < 97)) : c ∉ n := fun z => by
  have := h.sg c z
  unfold okSign at this
  omega
theorem num_no {o c : Nat} (h : o ≤ 9) (k : c < 48 ∨ 57 < c) : c ∉ TL.numL o := fun z => by
  rw [TL.numL_lt (by omega)] at z
  rw [List.mem_singleton.mp z] at k
  omega
theorem fore_eq (r : Rul) : r.1 ++ ([32] ++ TL.numL r.2.1) = TL.joinL [32] [r.1, TL.numL r.2.1] := rfl
theorem fore_no {r : Rul} (h : RowOk r) : 58 ∉ r.1 ++ ([32] ++ TL.numL r.2.1) := fun z => by
  rcases List.mem_append.mp z with z | z
  · exact sign_no h.nm.1 (.inr (by decide)) z
  · rcases List.mem_append.mp z with z | z
    · simp at z
    · exact num_no h.hi (.inr (by decide)) z
theorem joinL_no {c : Nat} {sep : List Nat} (hs : c ∉ sep) : ∀ {l : List (List Nat)}, (∀ p ∈ l, c ∉ p) → c ∉ TL.joinL sep l
  | [], _ => fun h => nomatch h
  | [x], h => h x List.mem_cons_self
  | x :: y :: l, h => fun z => by
    have z : c ∈ x ++ (sep ++ TL.joinL sep (y :: l)) := z
    rcases List.mem_append.mp z with z | z
    · exact h x List.mem_cons_self z
    · rcases List.mem_append.mp z with z | z
      · exact hs z
      · exact joinL_no hs (l := y :: l) (fun p hp => h p (List.mem_cons_of_mem _ hp)) z
theorem head_no {ns : List Nm} (h : ∀ n ∈ ns, NameOk n) : 10 ∉ headL ns := joinL_no (by decide) fun p hp => (List.mem_cons.mp hp).elim (fun e => by rw [e]; decide) fun hp => sign_no (h p hp) (.inl (by decide))
theorem row_no {r : Rul} (h : RowOk r) : 10 ∉ rowL r := fun z => by
  unfold rowL at z
  rcases List.mem_append.mp z with z | z
  · exact sign_no h.nm.1 (.inl (by decide)) z
  · rcases List.mem_append.mp z with z | z
    · simp at z
    · rcases List.mem_append.mp z with z | z
      · exact num_no h.hi (.inl (by decide)) z
      · unfold tailL at z
        split at z
        · exact nomatch z
        · rcases List.mem_append.mp z with z | z
          · simp at z
          · exact joinL_no (by decide) (fun p hp => sign_no (h.nm.2 p hp) (.inl (by decide))) z
theorem mem_joinL {c : Nat} {sep : List Nat} : ∀ {l : List (List Nat)}, c ∈ TL.joinL sep l → c ∈ sep ∨ ∃ p ∈ l, c ∈ p
  | [], h => nomatch h
  | [x], h => .inr ⟨x, List.mem_cons_self, h⟩
  | x :: y :: l, h => by
    have h : c ∈ x ++ (sep ++ TL.joinL sep (y :: l)) := h
    rcases List.mem_append.mp h with h | h
    · exact .inr ⟨x, List.mem_cons_self, h⟩
    · rcases List.mem_append.mp h with h | h
      · exact .inl h
      · rcases mem_joinL (l := y :: l) h with h | ⟨p, hp, h⟩
        · exact .inl h
        · exact .inr ⟨p, List.mem_cons_of_mem _ hp, h⟩
theorem name_small {n : Nm} (h : NameOk n) {c : Nat} (hc : c ∈ n) : c < 128 := by
  have := h.sg c hc
  unfold okSign at this
  omega
theorem row_small {r : Rul} (h : RowOk r) {c : Nat} (hc : c ∈ rowL r) : c < 128 := by
  unfold rowL at hc
  rcases List.mem_append.mp hc with z | z
  · exact name_small h.nm.1 z
  · rcases List.mem_append.mp z with z | z
    · rw [List.mem_singleton.mp z]
      decide
    · rcases List.mem_append.mp z with z | z
      · rw [TL.numL_lt (by have := h.hi; omega)] at z
        rw [List.mem_singleton.mp z]
        have := h.hi
        omega
      · unfold tailL at z
        split at z
        · exact nomatch z
        · rcases List.mem_append.mp z with z | z
          · rcases List.mem_cons.mp z with z | z
            · rw [z]
              decide
            · rw [List.mem_singleton.mp z]
              decide
          · rcases mem_joinL z with z | ⟨p, hp, z⟩
            · rw [List.mem_singleton.mp z]
              decide
            · exact name_small (h.nm.2 p hp) z
theorem text_small {ns : List Nm} {rs : List Rul} (hn : ∀ n ∈ ns, NameOk n) (hr : ∀ r ∈ rs, RowOk r) {c : Nat} (hc : c ∈ textL ns rs) : c < 128 := by
  unfold textL at hc
  rcases mem_joinL hc with z | ⟨p, hp, z⟩
  · rw [List.mem_singleton.mp z]
    decide
  · rcases List.mem_cons.mp hp with rfl | hp
    · unfold headL at z
      rcases mem_joinL z with z | ⟨p, hp, z⟩
      · rw [List.mem_singleton.mp z]
        decide
      · rcases List.mem_cons.mp hp with rfl | hp
        · have : ∀ c ∈ kindsL, c < 128 := by decide
          exact this c z
        · exact name_small (hn p hp) z
    · obtain ⟨r, hr2, rfl⟩ := List.mem_map.mp hp
      exact row_small (hr r hr2) z
theorem str_lay {l : List Nat} (h : ∀ c ∈ l, c < 128) : (nmD l).canLay0 = true := by
  show PyData.strOk (SX.S l) = true
  unfold PyData.strOk
  rw [← Array.all_toList]
  show l.all _ = true
  rw [List.all_eq_true]
  exact fun c hc => decide_eq_true (by have := h c hc; omega)
theorem RulesOk.row {ns : List Nm} {rs : List Rul} (h : RulesOk ns rs) (n : ∀ m ∈ ns, NameOk m) : ∀ r ∈ rs, RowOk r := fun r hr => ⟨(h.ok r hr).nm n, (h.ok r hr).lo, (h.ok r hr).hi, Nat.le_trans (h.ok r hr).len (by decide)⟩
/-! ### each text tells its catalogue -/
theorem joinL_inj {c : Nat} {sep : List Nat} {l m : List (List Nat)} (hl : ∀ p ∈ l, c ∉ p) (hm : ∀ p ∈ m, c ∉ p) (nl : l ≠ []) (nm : m ≠ []) (e : TL.joinL (c :: sep) l = TL.joinL (c :: sep) m) : l = m := by
  have a := TL.spl_join (s := c) (S := sep) nl hl
  rw [e, TL.spl_join nm hm] at a
  exact a.symm
theorem head_inj {ns ms : List Nm} (hn : ∀ n ∈ ns, NameOk n) (hm : ∀ n ∈ ms, NameOk n) (e : headL ns = headL ms) : ns = ms := by
  have k : ∀ {l : List Nm}, (∀ n ∈ l, NameOk n) → ∀ p ∈ kindsL :: l, 32 ∉ p := fun h p hp => (List.mem_cons.mp hp).elim (fun e => by rw [e]; decide) fun hp => sign_no (h p hp) (.inl (by decide))
  exact (List.cons.inj (joinL_inj (c := 32) (sep := []) (k hn) (k hm) (List.cons_ne_nil _ _) (List.cons_ne_nil _ _) e)).2
def rowP (r : Rul) : List (List Nat) := (r.1 ++ ([32] ++ TL.numL r.2.1)) :: if r.2.2 = [] then [] else [TL.joinL [32] r.2.2]
theorem rowL_eq (r : Rul) : rowL r = TL.joinL [58, 32] (rowP r) := by
  unfold rowL rowP tailL
  split
  · rw [List.append_nil] <;> rfl
  · show _ = (r.1 ++ ([32] ++ TL.numL r.2.1)) ++ ([58, 32] ++ TL.joinL [32] r.2.2)
    simp
theorem parts_no {r : Rul} (h : RowOk r) : 58 ∉ TL.joinL [32] r.2.2 := joinL_no (by decide) fun p hp => sign_no (h.nm.2 p hp) (.inr (by decide))
theorem rowP_no {r : Rul} (h : RowOk r) : ∀ p ∈ rowP r, 58 ∉ p := fun p hp => by
  unfold rowP at hp
  rcases List.mem_cons.mp hp with rfl | hp
  · exact fore_no h
  · split at hp
    · cases hp
    · rw [List.mem_singleton.mp hp]
      exact parts_no h
theorem row_inj {r s : Rul} (hr : RowOk r) (hs : RowOk s) (e : rowL r = rowL s) : r = s := by
  rw [rowL_eq, rowL_eq] at e
  have z := joinL_inj (c := 58) (sep := [32]) (rowP_no hr) (rowP_no hs) (List.cons_ne_nil _ _) (List.cons_ne_nil _ _) e
  unfold rowP at z
  obtain ⟨f, t⟩ := List.cons.inj z
  have no : ∀ {r : Rul}, RowOk r → ∀ p ∈ [r.1, TL.numL r.2.1], 32 ∉ p := fun h p hp => by
    rcases List.mem_cons.mp hp with rfl | hp
    · exact sign_no h.nm.1 (.inl (by decide))
    · rw [List.mem_singleton.mp hp]
      exact num_no h.hi (.inl (by decide))
  rw [fore_eq, fore_eq] at f
  have f := joinL_inj (c := 32) (sep := []) (no hr) (no hs) (List.cons_ne_nil _ _) (List.cons_ne_nil _ _) f
  obtain ⟨f1, f2⟩ := List.cons.inj f
  have f2 := TL.numL_inj (List.cons.inj f2).1
  have pn : ∀ {r : Rul}, RowOk r → ∀ p ∈ r.2.2, 32 ∉ p := fun h p hp => sign_no (h.nm.2 p hp) (.inl (by decide))
  have f3 : r.2.2 = s.2.2 := by
    by_cases a : r.2.2 = []
    · by_cases b : s.2.2 = []
      · rw [a, b]
      · rw [if_pos a, if_neg b] at t
        cases t
    · by_cases b : s.2.2 = []
      · rw [if_neg a, if_pos b] at t
        cases t
      · rw [if_neg a, if_neg b] at t
        exact joinL_inj (c := 32) (sep := []) (pn hr) (pn hs) a b (List.cons.inj t).1
  obtain ⟨r1, r2, r3⟩ := r
  obtain ⟨s1, s2, s3⟩ := s
  dsimp only at f1 f2 f3
  rw [f1, f2, f3]
theorem rows_inj : ∀ {rs ts : List Rul}, (∀ r ∈ rs, RowOk r) → (∀ r ∈ ts, RowOk r) → rs.map rowL = ts.map rowL → rs = ts
  | [], [], _, _, _ => rfl
  | [], _ :: _, _, _, e => by cases e
  | _ :: _, [], _, _, e => by cases e
  | r :: rs, t :: ts, h, k, e => by
    obtain ⟨e1, e2⟩ := List.cons.inj e
    rw [row_inj (h r List.mem_cons_self) (k t List.mem_cons_self) e1, rows_inj (fun x hx => h x (List.mem_cons_of_mem _ hx)) (fun x hx => k x (List.mem_cons_of_mem _ hx)) e2]
theorem text_inj {ns ms : List Nm} {rs ts : List Rul} (hn : NamesOk ns) (hm : NamesOk ms) (hr : RulesOk ns rs) (ht : RulesOk ms ts) : textL ns rs = textL ms ts ↔ ns = ms ∧ rs = ts := by
  constructor
  · intro e
    have k : ∀ {ns : List Nm} {rs : List Rul}, NamesOk ns → RulesOk ns rs → ∀ p ∈ headL ns :: rs.map rowL, 10 ∉ p := fun a b p hp => by
      rcases List.mem_cons.mp hp with rfl | hp
      · exact head_no a.ok
      · obtain ⟨r, hr, rfl⟩ := List.mem_map.mp hp
        exact row_no (b.row a.ok r hr)
    obtain ⟨e1, e2⟩ := List.cons.inj (joinL_inj (c := 10) (sep := []) (k hn hr) (k hm ht) (List.cons_ne_nil _ _) (List.cons_ne_nil _ _) e)
    exact ⟨head_inj hn.ok hm.ok e1, rows_inj (hr.row hn.ok) (ht.row hm.ok) e2⟩
  · rintro ⟨rfl, rfl⟩
    rfl
/-! ### what repr can show shortly, of lists -/
structure GoodA (ds : List PyData) (n w : Nat) : Prop where
  sh : PyData.showableAll ds = true
  dp : PyData.depthAll ds ≤ n
  lv : PyData.leavesShortAll 100 ds = true
  wt : PyData.weightAll ds ≤ w
theorem goodA_nil {n w : Nat} : GoodA [] n w := ⟨rfl, by simp [PyData.depthAll], rfl, by simp [PyData.weightAll]⟩
theorem goodA_cons {d : PyData} {ds : List PyData} {n w1 w2 w : Nat} (h : Good d n w1) (t : GoodA ds n w2) (le : w1 + 1 + w2 ≤ w) : GoodA (d :: ds) n w := by
  obtain ⟨a1, a2, a3, a4⟩ := h
  obtain ⟨b1, b2, b3, b4⟩ := t
  refine ⟨?_, ?_, ?_, ?_⟩
  · simp only [PyData.showableAll, a1, b1, Bool.and_self]
  · simp only [PyData.depthAll]
    omega
  · simp only [PyData.leavesShortAll, a3, b3, Bool.and_self]
  · simp only [PyData.weightAll]
    omega
theorem goodA_map {α : Type} {f : α → PyData} {n w : Nat} : ∀ {l : List α} {m : Nat}, (∀ x ∈ l, Good (f x) n w) → l.length ≤ m → GoodA (l.map f) n ((w + 1) * m)
  | [], _, _, _ => goodA_nil
  | x :: l, m, h, le => by
    obtain ⟨k, rfl⟩ : ∃ k, m = k + 1 := ⟨m - 1, by simp at le; omega⟩
    exact goodA_cons (h x List.mem_cons_self) (goodA_map (m := k) (fun y hy => h y (List.mem_cons_of_mem _ hy)) (by simp at le; omega)) (by rw [Nat.mul_succ]; omega)
theorem Good.le {d : PyData} {n w n' w' : Nat} (h : Good d n w) (hn : n ≤ n') (hw : w ≤ w') : Good d n' w' := ⟨h.sh, Nat.le_trans h.dp hn, h.lv, Nat.le_trans h.wt hw⟩
theorem good_tuple {ds : List PyData} {n w : Nat} (h : GoodA ds n w) : Good (.tuple ds) (n + 1) w := ⟨by simp only [PyData.showable]; exact h.sh, by simp only [PyData.depth]; have := h.dp; omega, by simp only [PyData.leavesShort]; exact h.lv, by simp only [PyData.weight]; exact h.wt⟩
theorem good_list {ds : List PyData} {n w : Nat} (h : GoodA ds n w) : Good (.list ds) (n + 1) w := ⟨by simp only [PyData.showable]; exact h.sh, by simp only [PyData.depth]; have := h.dp; omega, by simp only [PyData.leavesShort]; exact h.lv, by simp only [PyData.weight]; exact h.wt⟩
theorem good_str {x : List Nat} {w : Nat} (h : ∀ c ∈ x, c < 1000) (l : x.length ≤ w) : Good (nmD x) 0 w := ⟨rfl, Nat.le_refl _, lv_str h, by
  show (SX.S x).cps.size ≤ w
  exact Nat.le_trans (Nat.le_of_eq (SX.S_len x)) l⟩
theorem good_nm {n : Nm} (h : NameOk n) : Good (nmD n) 0 8 := good_str (fun c hc => by have := h.sg c hc; unfold okSign at this; omega) h.len
theorem good_nms {ns : List Nm} {m : Nat} (h : ∀ n ∈ ns, NameOk n) (l : ns.length ≤ m) : Good (nmsD ns) 1 (9 * m) := good_tuple (goodA_map (w := 8) (fun n hn => good_nm (h n hn)) l)
theorem good_rul {r : Rul} (h : RowOk r) (l : r.2.2.length ≤ 3) : Good (rulD r) 2 300 :=
  good_tuple (goodA_cons (w1 := 8) ((good_nm h.nm.1).le (by decide) (Nat.le_refl _)) (goodA_cons (w1 := 137) ((good_nat (n := r.2.1) (by have := h.hi; omega)).le (by decide) (Nat.le_refl _)) (goodA_cons (w1 := 27) (good_nms h.nm.2 l) goodA_nil (Nat.le_refl (27 + 1 + 0))) (Nat.le_refl _)) (by decide))
theorem good_ruls {rs : List Rul} (h : ∀ r ∈ rs, RowOk r ∧ r.2.2.length ≤ 3) (l : rs.length ≤ 10) : Good (rulsD rs) 3 3010 := good_tuple (goodA_map (w := 300) (fun r hr => good_rul (h r hr).1 (h r hr).2) l)
/-! ### what is told of a catalogue -/
/-- the text that repr shows of one -/
def reprL (n m : Nat) : List Nat := [67, 97, 116, 97, 108, 111, 103, 117, 101, 32, 111, 102, 32] ++ TL.numL n ++ [32, 107, 105, 110, 100, 115, 44, 32] ++ TL.numL m ++ [32, 114, 101, 99, 105, 112, 101, 115]
def tellD (ns : List Nm) (rs : List Rul) : List PyData := [nmsD ns, rulsD rs, nmD (textL ns rs), nmD (reprL ns.length rs.length), .int (rs.length : Nat), .bool true]
theorem text_len {ns : List Nm} {rs : List Rul} (hn : NamesOk ns) (hr : RulesOk ns rs) : (textL ns rs).length ≤ 600 := by
  have k : ∀ p ∈ headL ns :: rs.map rowL, p.length ≤ 50 := fun p hp => by
    rcases List.mem_cons.mp hp with rfl | hp
    · have z := joinL_small (B := 8) (sep := [32]) (l := kindsL :: ns) fun x hx => by
        rcases List.mem_cons.mp hx with rfl | hx
        · decide
        · exact (hn.ok x hx).len
      have l := hn.len
      have : (8 + ([32] : List Nat).length) * (kindsL :: ns).length ≤ 9 * 5 := Nat.mul_le_mul (by decide) (by simp; omega)
      exact Nat.le_trans z (by omega)
    · obtain ⟨r, h, rfl⟩ := List.mem_map.mp hp
      have ro := hr.row hn.ok r h
      have rl := (hr.ok r h).len
      have l1 := ro.nm.1.len
      have l2 := TL.numL_len (n := r.2.1) (k := 1) (by decide) (by have := ro.hi; omega)
      have l3 : (tailL r.2.2).length ≤ 29 := by
        unfold tailL
        split
        · simp
        · have z := joinL_small (B := 8) (sep := [32]) (l := r.2.2) fun x hx => (ro.nm.2 x hx).len
          have : (8 + ([32] : List Nat).length) * r.2.2.length ≤ 9 * 3 := Nat.mul_le_mul (by decide) rl
          simp only [List.length_append, List.length_cons, List.length_nil] at *
          omega
      unfold rowL
      simp only [List.length_append, List.length_cons, List.length_nil]
      omega
  have z := joinL_small (B := 50) (sep := [10]) k
  have l := hr.len
  have : (50 + ([10] : List Nat).length) * (headL ns :: rs.map rowL).length ≤ 51 * 11 := Nat.mul_le_mul (by decide) (by simp; omega)
  exact Nat.le_trans z (by omega)
theorem repr_lt {n m : Nat} : ∀ c ∈ reprL n m, c < 128 := by
  intro c hc
  unfold reprL at hc
  have d : ∀ (k : Nat), ∀ c ∈ TL.numL k, c < 128 := fun k c hc => Nat.lt_of_not_le fun le => TL.numL_free (n := k) (s := c) (.inr (by omega)) hc
  have w : ∀ c ∈ ([67, 97, 116, 97, 108, 111, 103, 117, 101, 32, 111, 102, 32] ++ [32, 107, 105, 110, 100, 115, 44, 32] ++ [32, 114, 101, 99, 105, 112, 101, 115] : List Nat), c < 128 := by decide
  simp only [List.mem_append] at hc w
  rcases hc with (((h | h) | h) | h) | h
  · exact w c (.inl (.inl h))
  · exact d _ c h
  · exact w c (.inl (.inr h))
  · exact d _ c h
  · exact w c (.inr h)
theorem repr_len {n m : Nat} (hn : n < 100) (hm : m < 100) : (reprL n m).length ≤ 40 := by
  have l1 := TL.numL_len (n := n) (k := 2) (by decide) (by omega)
  have l2 := TL.numL_len (n := m) (k := 2) (by decide) (by omega)
  unfold reprL
  simp only [List.length_append, List.length_cons, List.length_nil]
  omega
theorem good_tell {ns : List Nm} {rs : List Rul} (hn : NamesOk ns) (hr : RulesOk ns rs) : Good (.list (tellD ns rs)) 4 30000 := by
  have ln := hn.len
  have lr := hr.len
  have g1 := (good_nms hn.ok hn.len).le (n' := 3) (w' := 36) (by decide) (by decide)
  have g2 := (good_ruls (fun r h => ⟨hr.row hn.ok r h, (hr.ok r h).len⟩) hr.len)
  have g3 := (good_str (x := textL ns rs) (w := 600) (fun c hc => Nat.lt_of_lt_of_le (text_small hn.ok (hr.row hn.ok) hc) (by decide)) (text_len hn hr)).le (n' := 3) (by decide) (Nat.le_refl _)
  have g4 := (good_str (x := reprL ns.length rs.length) (w := 40) (fun c hc => Nat.lt_of_lt_of_le (repr_lt c hc) (by decide)) (repr_len (by omega) (by omega))).le (n' := 3) (by decide) (Nat.le_refl _)
  have g5 := (good_nat (n := rs.length) (by omega)).le (n' := 3) (by decide) (Nat.le_refl _)
  have g6 : Good (.bool true) 3 0 := ⟨rfl, by decide, rfl, by decide⟩
  exact good_list (goodA_cons g1 (goodA_cons g2 (goodA_cons g3 (goodA_cons g4 (goodA_cons g5 (goodA_cons g6 goodA_nil (Nat.le_refl (0 + 1 + 0))) (Nat.le_refl _)) (Nat.le_refl _)) (Nat.le_refl _)) (Nat.le_refl _)) (by decide))
theorem tell_lay {ns : List Nm} {rs : List Rul} (hn : NamesOk ns) (hr : RulesOk ns rs) : (PyData.list (tellD ns rs)).canLay0 = true := by
  have l1 : (nmsD ns).canLay0 = true := by
    unfold nmsD
    simp only [PyData.canLay0]
    exact nms_lay hn.ok
  have l2 : (rulsD rs).canLay0 = true := by
    unfold rulsD
    simp only [PyData.canLay0]
    exact lay_all fun r h => (rul_parts ((hr.ok r h).nm hn.ok)).1
  have l3 := str_lay (l := textL ns rs) fun c hc => text_small hn.ok (hr.row hn.ok) hc
  have l4 := str_lay (l := reprL ns.length rs.length) repr_lt
  unfold tellD
  simp only [PyData.canLay0, PyData.canLayAll0, l1, l2, l3, l4, Bool.and_self]
theorem shown_lay {ns : List Nm} {rs : List Rul} (hn : NamesOk ns) (hr : RulesOk ns rs) : (PyData.str (PyData.shown (.list (tellD ns rs)))).canLay0 = true := lay_shown (tell_lay hn hr)
end SwX
set_option Elab.async false
set_option linter.all false
set_option maxRecDepth 100000
set_option maxHeartbeats 4000000
namespace K62
open PySem PySem.Spec PyProof.Rows L2 Evl SwX
abbrev FnP (K : PySem.W.Frag) (x : Str) (st : Stmt) (f : Addr) (fd : FuncData) : Prop := FunD K x x (defArgs st) (defBody st) (defScope st) [] [] f fd
section
variable {P : Program} {w : World} {K : PySem.W.Frag} {mg : Str → Option Value} {base : Heap} {f : Addr} {fd : FuncData}
abbrev s__law_cell : Stmt := top 44
abbrev sc__law_cell_N : List Str := ["_law_script", "_law_at", "_law_seed", "_law_cell_here"]
theorem sc__law_cell : FnScope sc__law_cell_N ["_law_script", "_law_at"] (defScope s__law_cell) := ⟨rfl, rfl, rfl, by decide +kernel, rfl, by decide +kernel, by decide +kernel⟩
theorem ok_cell (F : FnP K "_law_cell" s__law_cell f fd) (m_len : mg "len" = none) (m_int : mg "int" = none) : FnOk P w K mg base CX0 1 f fd ["_law_script", "_law_at"] (spSeed K) := by
  refine F.ok sc__law_cell (fun vs H Q E h => by obtain ⟨a, ns, k, rfl, _⟩ := h; rfl) (fun cdv A outer s H vs Q E hr h => ⟨_, PSs.nox
    (pss_cons (ps_if (pt_cmpR op_lt (pv 1) (pe_callB (lenK K) (by rfl) m_len (by decide +kernel) (pa_cons (pv 0) pa_nil)) (nomark _)) (pss_one (ps_ret (pe_ix (ixK K) (pv 0) (pv 1) (fun _ _ => rfl)))) pss_nil) (pss_cons (ps_set (i := 2) sc__law_cell.nd rfl (Or.inl rfl) (pe_op (addK K) pe_int (pe_op op_mul (pe_op op_mul pe_int (pv 1)) (pv 1)))) (pss_cons (ps_for PassesOwn.never rfl (pi_list (pe_slice (slK K) (pv 0) (po_some (pe_un un_neg pe_int)) po_none)) (pg_name (i := 3) sc__law_cell.nd rfl (Or.inl rfl)) (pss_one (ps_set (i := 2) sc__law_cell.nd rfl (Or.inl rfl) (pe_op op_modN (pe_callTy call_int1 (by rfl) m_int (by decide +kernel) (pa_cons (pe_op (addK K) (pe_op op_mul (pv 2) pe_int) (pv 3)) pa_nil)) pe_int)))) (pss_one (ps_ret (pv 2)))))), ?_⟩)
  obtain ⟨a, ns, k, rfl, hS, k0, k1, q⟩ := h
  refine q_when (b := decide (k < (ns.map V.int).length)) (et_B (ev_op (ev_var rfl) (ev_lenL (ev_var rfl) (.inl hS)) rv_I0)) (fun c H1 e1 => ?_) fun _ H1 e1 => ?_
  · have c := of_decide_eq_true c
    rw [List.length_map] at c
    have hj : k.toNat < ns.length := by omega
    have g : atI (ns.map V.int) k = some (.int (ns[k.toNat]'hj)) := by
      obtain ⟨j, rfl⟩ := Int.eq_ofNat_of_zero_le k0
      unfold atI
      rw [ixN_nat (by rw [List.length_map]; omega)]
      simp
    exact s_ret (ev_op (ev_var rfl) (ev_var rfl) (rv_ixLX (ex_l e1 hS) g)) fun H2 e2 => q _ _ (e1.trans e2)
  · refine q_asg (i := 2) (v := .int (9176 + 311 * k * k)) (ev_op ev_c (ev_op (ev_op ev_c (ev_var rfl) (rv_I (Or.inr (by omega)))) (ev_var rfl) (rv_I (Or.inr (by omega)))) rv_addI) fun H2 e2 => ?_
    refine q_forNL (xs := cutV (ns.map V.int) (some (-2)) none) (el_slL (ev_var rfl) (ex_l (e1.trans e2) hS) (eo_some (ev_un ev_c ru_neg)) eo_none) (fun p i σ' H' => (∃ v0 v1 n v3, σ' = [v0, v1, some (.int n), v3]) ∧ Ex H H' ∧ H' p = some (.lst (cutV (ns.map V.int) (some (-2)) none))) (fun p H3 hp e3 h3 => ⟨⟨_, _, _, _, rfl⟩, (e1.trans e2).trans e3, h3⟩) (fun p i σ' H' _ z => sq_of z.2.2) (fun p i x σ' H' hx z => ?_) fun p σ' H' z => ?_
    · obtain ⟨⟨v0, v1, n, v3, rfl⟩, e, hp⟩ := z
      obtain ⟨m, _, rfl⟩ := List.mem_map.mp (cut_mem hx)
      exact s_asg (i := 2) (v := .int (((n * 50021 + m)).fmod 998244353)) (ev_op (ev_int1 (ev_op (ev_op (ev_var rfl) ev_c (rv_I (Or.inr (by omega)))) (ev_var rfl) rv_addI)) ev_c (rv_I (by omega))) fun H4 e4 => ⟨⟨_, _, _, _, rfl⟩, e.trans e4, e4 _ _ hp⟩
    · obtain ⟨⟨v0, v1, n, v3, rfl⟩, e, _⟩ := z
      exact s_ret (ev_var rfl) fun H2 e2 => q _ _ (e.trans e2)
abbrev s__law_source : Stmt := top 45
abbrev sc__law_source_N : List Str := ["_law_cell_here", "_law_digits"]
theorem sc__law_source : FnScope sc__law_source_N ["_law_cell_here"] (defScope s__law_source) := ⟨rfl, rfl, rfl, by decide +kernel, rfl, by decide +kernel, by decide +kernel⟩
theorem ok_source (F : FnP K "_law_source" s__law_source f fd) (m_int : mg "int" = none) : FnOk P w K mg base CX0 1 f fd ["_law_cell_here"] spPurse := by
  refine F.ok sc__law_source (fun vs H Q E h => by obtain ⟨n, rfl, _⟩ := h; rfl) (fun cdv A outer s H vs Q E hr h => ⟨_, PSs.nox
    (pss_cons (ps_set (i := 1) sc__law_source.nd rfl (Or.inl rfl) (pe_ifExp (pt_cmpR op_ge (pv 0) (pe_op op_pow pe_int pe_int) (nomark _)) (pe_op op_sub (pv 0) (pe_op op_pow pe_int pe_int)) (pe_ifExp (pt_cmpR op_lt (pv 0) pe_int (nomark _)) (pe_op op_sub (pe_un un_neg pe_int) (pv 0)) pe_int))) (pss_one (ps_ret (pe_lst (pa_cons (pv 1) (pa_cons (pe_op (addK K) (pe_op op_modN (pe_callTy call_int1 (by rfl) m_int (by decide +kernel) (pa_cons (pv 0) pa_nil)) pe_int) pe_int) (pa_cons pe_int pa_nil))))))), ?_⟩)
  obtain ⟨n, rfl, q⟩ := h
  have big : (10 : Int) ^ (15 : Int).toNat = 1000000000000000 := by decide
  have cp : CPow 10 15 := by unfold CPow; omega
  refine q_asg (i := 1) (v := .int (if 10 ^ (15 : Int).toNat ≤ n then n - 10 ^ (15 : Int).toNat else if n < 0 then -1 - n else 0)) (ev_if (b := decide (10 ^ (15 : Int).toNat ≤ n)) (et_B (ev_op (ev_var rfl) (ev_op ev_c ev_c (rv_I cp)) rv_I0)) (fun c => ?_) fun c => ?_) fun H1 e1 => ?_
  · rw [if_pos (of_decide_eq_true c)]
    exact ev_op (ev_var rfl) (ev_op ev_c ev_c (rv_I cp)) rv_I0
  · rw [if_neg (of_decide_eq_false c)]
    refine ev_if (b := decide (n < 0)) (et_B (ev_op (ev_var rfl) ev_c rv_I0)) (fun c => ?_) fun c => ?_
    · rw [if_pos (of_decide_eq_true c)]
      exact ev_op (ev_un ev_c ru_neg) (ev_var rfl) rv_I0
    · rw [if_neg (of_decide_eq_false c)]
      exact ev_c
  · refine s_retL (xs := [.int (if 10 ^ (15 : Int).toNat ≤ n then n - 10 ^ (15 : Int).toNat else if n < 0 then -1 - n else 0), .int (n.fmod 998244353 + 1), .int 1]) (el_lst (ea_cons (ev_var rfl) (ea_cons (ev_op (ev_op (ev_int1 (ev_var rfl)) ev_c (rv_I (by omega))) ev_c rv_addI) (ea_cons ev_c ea_nil))) (by simp)) fun a H2 n2 e2 h2 => ?_
    have m0 : 0 ≤ n.fmod 998244353 := by
      rw [Int.fmod_eq_emod_of_nonneg _ (by omega)]
      exact Int.emod_nonneg _ (by omega)
    have m1 : n.fmod 998244353 < 998244353 := by
      rw [Int.fmod_eq_emod_of_nonneg _ (by omega)]
      exact Int.emod_lt_of_pos _ (by omega)
    refine q a H2 (fresh_back e1 n2) (e1.trans e2) ⟨_, _, _, h2, ?_, ?_, ?_⟩
    · omega
    · omega
    · split
      · omega
      · split <;> omega
abbrev s__law_draw : Stmt := top 46
abbrev sc__law_draw_N : List Str := ["_law_source_here", "_law_many", "_law_state", "_law_digit"]
theorem sc__law_draw : FnScope sc__law_draw_N ["_law_source_here", "_law_many"] (defScope s__law_draw) := ⟨rfl, rfl, rfl, by decide +kernel, rfl, by decide +kernel, by decide +kernel⟩
theorem ok_draw (F : FnP K "_law_draw" s__law_draw f fd) (m_int : mg "int" = none) (m_divmod : mg "divmod" = none) : FnOk P w K mg base CX0 1 f fd ["_law_source_here", "_law_many"] spDraw := by
  refine F.ok sc__law_draw (fun vs H Q E h => by obtain ⟨a, m, rfl, _⟩ := h; rfl) (fun cdv A outer s H vs Q E hr h => ⟨_, PSs.nox
    (pss_cons (ps_asg (pe_op (addK K) (pe_ix (ixK K) (pv 0) pe_int (fun _ _ => rfl)) pe_int) (pg_sub (pv 0) pe_int set_list)) (pss_cons (ps_set (i := 2) sc__law_draw.nd rfl (Or.inl rfl) (pe_callTy call_int1 (by rfl) m_int (by decide +kernel) (pa_cons (pe_ix (ixK K) (pv 0) pe_int (fun _ _ => rfl)) pa_nil))) (pss_cons (ps_asg (pe_op op_modN (pe_callTy call_int1 (by rfl) m_int (by decide +kernel) (pa_cons (pe_op (addK K) (pe_op op_mul (pv 2) (pe_op (addK K) (pe_op op_fdivN (pv 2) pe_int) pe_int)) (pe_op op_mul pe_int (pe_ix (ixK K) (pv 0) pe_int (fun _ _ => rfl)))) pa_nil)) pe_int) (pg_sub (pv 0) pe_int set_list)) (pss_cons (ps_if (pt_cmpR op_gt (pe_ix (ixK K) (pv 0) pe_int (fun _ _ => rfl)) pe_int (nomark _)) (pss_cons (ps_asg (pe_callB call_divmodW (by rfl) m_divmod (by decide +kernel) (pa_cons (pe_ix (ixK K) (pv 0) pe_int (fun _ _ => rfl)) (pa_cons (pv 1) pa_nil))) (pg_tup rfl (pgs_cons (pg_sub (pv 0) pe_int set_list) (pgs_cons (pg_name (i := 3) sc__law_draw.nd rfl (Or.inl rfl)) pgs_nil)))) (pss_one (ps_ret (pv 3)))) pss_nil) (pss_one (ps_ret (pe_op op_modN (pe_callTy call_int1 (by rfl) m_int (by decide +kernel) (pa_cons (pe_op op_fdivN (pe_ix (ixK K) (pv 0) pe_int (fun _ _ => rfl)) pe_int) pa_nil)) (pv 1)))))))), ?_⟩)
  obtain ⟨a, m, rfl, m0, m1, ⟨x, y, z, h0, y0, y1, x0⟩, q⟩ := h
  refine q_setL (j := 2) (v := .int (z + 1)) h0 (ev_op (ev_op (ev_var rfl) ev_c (rv_ixLX (sq_of h0) rfl)) ev_c rv_addI) (ev_var rfl) ev_c (by simp) fun H1 e1 => ?_
  have g1 : Ex (less a H) (upd H1 a (.lst [.int x, .int y, .int (z + 1)])) := less_upd (less_ex.trans e1)
  refine q_asg (i := 2) (v := .int y) (ev_int1 (ev_op (ev_var rfl) ev_c (rv_ixLX (sq_of upd_same) rfl))) fun H2 e2 => ?_
  have h2 := e2 _ _ (upd_same (H := H1) (a := a) (o := .lst [.int x, .int y, .int (z + 1)]))
  have f0 : 0 ≤ y.fdiv 7 := by
    rw [Int.fdiv_eq_ediv_of_nonneg _ (by omega)]
    exact Int.ediv_nonneg y0 (by omega)
  refine q_setL (j := 1) (v := .int ((y * (y.fdiv 7 + 33461) + 5237 * (z + 1)).fmod 998244353)) h2 (ev_op (ev_int1 (ev_op (ev_op (ev_var rfl) (ev_op (ev_op (ev_var rfl) ev_c (rv_I (by unfold CDivN; omega))) ev_c rv_addI) (rv_I (Or.inl (by omega)))) (ev_op ev_c (ev_op (ev_var rfl) ev_c (rv_ixLX (sq_of h2) rfl)) (rv_I (Or.inl (by omega)))) rv_addI)) ev_c (rv_I (by omega))) (ev_var rfl) ev_c (by simp) fun H3 e3 => ?_
  have s0 : 0 ≤ (y * (y.fdiv 7 + 33461) + 5237 * (z + 1)).fmod 998244353 := by
    rw [Int.fmod_eq_emod_of_nonneg _ (by omega)]
    exact Int.emod_nonneg _ (by omega)
  have s1 : (y * (y.fdiv 7 + 33461) + 5237 * (z + 1)).fmod 998244353 < 2147483629 := by
    rw [Int.fmod_eq_emod_of_nonneg _ (by omega)]
    exact Int.lt_trans (Int.emod_lt_of_pos _ (by omega)) (by omega)
  generalize (y * (y.fdiv 7 + 33461) + 5237 * (z + 1)).fmod 998244353 = u at s0 s1 ⊢
  have g4 : Ex (less a H) (upd H3 a (.lst [.int x, .int u, .int (z + 1)])) := less_upd ((g1.trans e2).trans e3)
  show tIfS _ _ _ _ _ (upd H3 a (.lst [.int x, .int u, .int (z + 1)]))
  refine q_when (b := decide (0 < x)) (et_B (ev_op (ev_op (ev_var rfl) ev_c (rv_ixLX (sq_of upd_same) rfl)) ev_c rv_I0)) (fun c H5 e5 => ?_) fun _ H5 e5 => ?_
  · have h5 := e5 _ _ (upd_same (H := H3) (a := a) (o := .lst [.int x, .int u, .int (z + 1)]))
    refine (ev_op (ev_var rfl) ev_c (rv_ixLX (sq_of h5) rfl) : Ev _ _ H5 _) H5 (Ex.refl _) _ fun H6 e6 => ⟨.int m, rfl, x, m, rfl, pylong_small m0 m1, fun p hp => ?_⟩
    have ne : a ≠ p := fun w => by rw [← w, e6 _ _ h5] at hp; cases hp
    refine ⟨p, _, rfl, st_of upd_same, rfl, _, _, rfl, ⟨_, rfl, a, [.int x, .int u, .int (z + 1)], 0, 0, rfl, rfl, by rw [upd_ne ne]; exact e6 _ _ h5, rfl, ?_⟩⟩
    refine ⟨_, _, rfl, rfl, ?_⟩
    refine s_ret (ev_var rfl) fun H7 e7 => q _ _ (Int.emod_nonneg _ (by omega)) (Int.emod_lt_of_pos _ m0) ⟨x / m, u, z + 1, e7 _ _ upd_same, s0, s1, Int.ediv_nonneg x0 (by omega)⟩ ?_
    exact (less_upd ((((g4.trans e5).trans e6)).trans (Ex.new hp))).trans e7
  · have h5 := e5 _ _ (upd_same (H := H3) (a := a) (o := .lst [.int x, .int u, .int (z + 1)]))
    refine s_ret (v := .int ((u.fdiv 251).fmod m)) (ev_op (ev_int1 (ev_op (ev_op (ev_var rfl) ev_c (rv_ixLX (sq_of h5) rfl)) ev_c (rv_I (by unfold CDivN; omega)))) (ev_var rfl) (rv_I (by omega))) fun H7 e7 => q _ _ ?_ ?_ ⟨x, u, z + 1, e7 _ _ h5, s0, s1, x0⟩ ((g4.trans e5).trans e7)
    · rw [Int.fmod_eq_emod_of_nonneg _ (by omega)]
      exact Int.emod_nonneg _ (by omega)
    · rw [Int.fmod_eq_emod_of_nonneg _ (by omega)]
      exact Int.emod_lt_of_pos _ m0
end
end K62
set_option Elab.async false
set_option linter.all false
set_option maxRecDepth 100000
set_option maxHeartbeats 4000000
namespace K62
open PySem PySem.Spec PyProof.Rows L2 Evl SwX
section
variable {P : Program} {w : World} {K : PySem.W.Frag} {mg : Str → Option Value} {base : Heap} {f : Addr} {fd : FuncData}
def letL : List Nat := [97, 98, 99, 100, 101, 102, 103, 104, 105, 106, 107, 108, 109, 110, 111, 112, 113, 114, 115, 116, 117, 118, 119, 120, 121, 122]
def digL : List Nat := [48, 49, 50, 51, 52, 53, 54, 55, 56, 57]
def sgnL : List Nat := letL ++ digL
theorem letL_ok : ∀ c ∈ letL, 97 ≤ c ∧ c ≤ 122 := by decide
theorem sgnL_ok : ∀ c ∈ sgnL, okSign c := by unfold okSign; decide
/-- a name that ends with a digit -/
def EndD (n : Nm) (k : Nat) : Prop := ∃ l, n = l ++ [48 + k]
def spName : Sp := fun vs H Q _ => ∃ (a : Addr) (k : Nat), vs = [.ref a, .int (k : Nat)] ∧ k < 4 ∧ Pur H a ∧ ∀ n H', NameOk n → EndD n k → Ex (less a H) H' → Pur H' a → Q (.str (SX.S n)) H'
theorem rv_sign {K : PySem.W.Frag} {l : List Nat} {k : Int} (k0 : 0 ≤ k) (k1 : k < l.length) (hl : l.length ≤ 1000) : ∃ c ∈ l, ∀ H, RV (rIx K) (.str (SX.S l)) (.int k) H (.str (SX.S [c])) := by
  obtain ⟨j, rfl⟩ := Int.eq_ofNat_of_zero_le k0
  have hj : j < l.length := by omega
  refine ⟨l[j], List.getElem_mem hj, fun H H1 _ Q q => .inr (.inr ⟨SX.S l, (j : Int), l[j], rfl, rfl, ?_, ?_, q H1 (Ex.refl H1)⟩)⟩
  · rw [SX.S_len]
    exact sz_of (by omega)
  · show atI l (j : Int) = _
    unfold atI
    rw [ixN_nat hj]
    simp [hj]
theorem numL_one {k : Nat} (h : k < 10) : TL.numL k = [48 + k] := by
  have z : ∀ i : Fin 10, TL.numL i.val = [48 + i.val] := by decide
  exact z ⟨k, h⟩
abbrev s__law_name : Stmt := top 47
abbrev sc__law_name_N : List Str := ["_law_source_here", "_law_at", "_law_letters", "_law_name_here", "_law_turn"]
theorem sc__law_name : FnScope sc__law_name_N ["_law_source_here", "_law_at"] (defScope s__law_name) := ⟨rfl, rfl, rfl, by decide +kernel, rfl, by decide +kernel, by decide +kernel⟩
theorem ok_name (D__law_draw : Has P w K mg base "_law_draw" 1 ["_law_source_here", "_law_many"] spDraw) (F : FnP K "_law_name" s__law_name f fd) (m_range : mg "range" = none) (m_str : mg "str" = none) : FnOk P w K mg base CX0 2 f fd ["_law_source_here", "_law_at"] spName := by
  refine F.ok sc__law_name (fun vs H Q E h => by obtain ⟨a, k, rfl, _⟩ := h; rfl) (fun cdv A outer s H vs Q E hr h => ⟨_, PSs.nox
    (pss_cons (ps_set (i := 2) sc__law_name.nd rfl (Or.inl rfl) pe_str) (pss_cons (ps_set (i := 3) sc__law_name.nd rfl (Or.inl rfl) (pe_ix (ixK K) (pv 2) (pe_has D__law_draw (hr.mono (by decide)) (pa_cons (pv 0) (pa_cons pe_int pa_nil))) (fun _ _ => rfl))) (pss_cons (ps_for PassesOwn.never rfl (pi_range1 (by rfl) m_range (pa_cons (pe_has D__law_draw (hr.mono (by decide)) (pa_cons (pv 0) (pa_cons pe_int pa_nil))) pa_nil)) (pg_name (i := 4) sc__law_name.nd rfl (Or.inl rfl)) (pss_one (ps_set (i := 3) sc__law_name.nd rfl (Or.inl rfl) (pe_op (addK K) (pv 3) (pe_ix (ixK K) (pe_op (addK K) (pv 2) pe_str) (pe_has D__law_draw (hr.mono (by decide)) (pa_cons (pv 0) (pa_cons pe_int pa_nil))) (fun _ _ => rfl)))))) (pss_one (ps_ret (pe_op (addK K) (pv 3) (pe_callTy call_strY (by rfl) m_str (by decide +kernel) (pa_cons (pv 1) pa_nil)))))))), ?_⟩)
  obtain ⟨a, k, rfl, k4, p0, q⟩ := h
  have e1 : ("abcdefghijklmnopqrstuvwxyz" : Str) = SX.S letL := by decide +kernel
  have e2 : ("0123456789" : Str) = SX.S digL := by decide +kernel
  rw [e1, e2]
  refine q_asg (v := .str (SX.S letL)) ev_c fun H1 g1 => ?_
  have x1 : Ex (less a H) H1 := less_ex.trans g1
  refine q_asgDr (a := a) (G := less a H) (P := fun v => ∃ c, v = .str (SX.S [c]) ∧ 97 ≤ c ∧ c ≤ 122) (dr_op (P1 := fun v => v = .str (SX.S letL)) (P2 := fun v => ∃ k, v = .int k ∧ 0 ≤ k ∧ k < 26) (dr_ev (ev_var rfl) rfl) (dr_draw less_at rfl ev_c (by decide) (by decide)) fun x y hx hy => ?_) x1 (p0.keep g1) fun v H2 pv x2 p2 => ?_
  · subst hx
    obtain ⟨k, rfl, k0, k1⟩ := hy
    obtain ⟨c, hc, rv⟩ := rv_sign (K := K) (l := letL) k0 k1 (by decide)
    exact ⟨_, ⟨c, rfl, letL_ok c hc⟩, rv⟩
  obtain ⟨c, rfl, c0, c1⟩ := pv
  refine q_forDr (a := a) (G := less a H) (m := 2) (R := fun k => k < 3) (Dr.imp (dr_draw (m := 3) less_at rfl ev_c (by decide) (by decide)) fun v z => ?_) (by omega) x2 p2
    (fun i σ' H' => ∃ (v4 : Option V) (l : List Nat), σ' = [some (.ref a), some (.int (k : Nat)), some (.str (SX.S letL)), some (.str (SX.S (c :: l))), v4] ∧ l.length ≤ i ∧ (∀ d ∈ l, okSign d) ∧ Ex (less a H) H' ∧ Pur H' a)
    (fun H3 e3 p3 => ⟨_, [], rfl, Nat.le_refl _, (fun _ h => nomatch h), e3, p3⟩) (fun i σ' H' hi z => ?_) fun kk σ' H' k2 k0 z => ?_
  · obtain ⟨k, rfl, k0, k1⟩ := z
    exact ⟨k, rfl, k0, by omega, k1⟩
  · obtain ⟨v4, l, rfl, ll, ok, x3, p3⟩ := z
    refine (dr_op (P := fun v => ∃ d, v = .str (SX.S (c :: (l ++ [d]))) ∧ okSign d) (P1 := fun v => v = .str (SX.S (c :: l))) (P2 := fun v => ∃ d, v = .str (SX.S [d]) ∧ okSign d) (dr_ev (ev_var (i := 3) rfl) rfl) (dr_op (P1 := fun v => v = .str (SX.S sgnL)) (P2 := fun v => ∃ k, v = .int k ∧ 0 ≤ k ∧ k < 36) (dr_ev (ev_op (ev_var (i := 2) rfl) ev_c (rv_addS (by decide))) rfl) (dr_draw less_at rfl ev_c (by decide) (by decide)) fun x y hx hy => ?_) fun x y hx hy => ?_ : Dr a _ _ (less a H) _) H' x3 p3 _ fun v H4 pv x4 p4 => ?_
    · subst hx
      obtain ⟨k, rfl, k0, k1⟩ := hy
      obtain ⟨c, hc, rv⟩ := rv_sign (K := K) (l := sgnL) k0 k1 (by decide)
      exact ⟨_, ⟨c, rfl, sgnL_ok c hc⟩, rv⟩
    · subst hx
      obtain ⟨d, rfl, hd⟩ := hy
      exact ⟨_, ⟨d, rfl, hd⟩, fun H => rv_addS (x := c :: l) (y := [d]) (by simp; omega)⟩
    · obtain ⟨d, rfl, hd⟩ := pv
      refine ⟨_, l ++ [d], rfl, by simp; omega, fun e he => ?_, x4, p4⟩
      rcases List.mem_append.mp he with he | he
      · exact ok e he
      · rw [List.mem_singleton.mp he]
        exact hd
  · obtain ⟨v4, l, rfl, ll, ok, x3, p3⟩ := z
    have z0 : TL.numL k = [48 + k] := numL_one (by omega)
    have okn : NameOk (c :: l ++ [48 + k]) := ⟨⟨c, l ++ [48 + k], rfl, c0, c1⟩, by simp; omega, fun d hd => by
      rcases List.mem_append.mp hd with hd | hd
      · rcases List.mem_cons.mp hd with rfl | hd
        · exact .inl ⟨c0, c1⟩
        · exact ok d hd
      · rw [List.mem_singleton.mp hd]
        exact .inr ⟨by omega, by omega⟩⟩
    refine s_ret (ev_op (ev_var (i := 3) rfl) (ev_strN (ev_var (i := 1) rfl) (by omega)) (rv_addS (x := c :: l) (y := TL.numL k) (by rw [z0]; simp; omega))) fun H4 e4 => ?_
    rw [z0]
    exact q _ _ okn ⟨c :: l, rfl⟩ (x3.trans e4) (p3.keep e4)
end
end K62
set_option Elab.async false
set_option linter.all false
set_option maxRecDepth 100000
set_option maxHeartbeats 4000000
namespace K62
open PySem PySem.Spec PyProof.Rows L2 Evl SwX
section
variable {P : Program} {w : World} {K : PySem.W.Frag} {mg : Str → Option Value} {base : Heap} {f : Addr} {fd : FuncData}
theorem q_asgT {i : Nat} {ti : TI} {g : TG} {tt : TT} {te : TE} {vs : List Nat} {tz : TS} {D : Ends} {σ : L2.St} {H : Hp} (h : tLc ti g tt te vs σ H fun v H1 => tz D (σ.set i (some v)) H1) : tSeq (tAsg (tLc ti g tt te vs) (gName i)) tz D σ H := h
/-- rules among the values of which the rows are -/
def RlsL (K : PySem.W.Frag) (H : Hp) (rs : List Rul) (vs : List V) : Prop := Paired (fun r v => Da K H v (rulD r)) rs vs
theorem RlsL.mono {H H' : Hp} {rs : List Rul} {vs : List V} (e : Ex H H') (h : RlsL K H rs vs) : RlsL K H' rs vs := paired_mono (F := fun (r : Rul) v H => Da K H v (rulD r)) e (fun _ _ _ _ e h => Da.mono e h) h
theorem paired_mapD {H : Hp} {rs : List Rul} {vs : List V} (h : RlsL K H rs vs) : Paired (fun d v => Da K H v d) (rs.map rulD) vs := by
  induction h with
  | nil => exact .nil
  | cons a _ ih => exact .cons a ih
def spMixed (K : PySem.W.Frag) : Sp := fun vs H Q _ => ∃ (a l : Addr) (us : List V) (rs : List Rul), vs = [.ref a, .ref l] ∧ Pur H a ∧ l ≠ a ∧ H l = some (.lst us) ∧ RlsL K (less a H) rs us ∧ (∀ r ∈ rs, RulNm r) ∧ rs.length ≤ 20 ∧
  ∀ p ws ts H', ts.Nodup → (∀ r ∈ ts, r ∈ rs) → ts.length ≤ rs.length → H' p = some (.lst ws) → p ≠ a → RlsL K (less a H) ts ws → Ex (less a H) H' → Pur H' a → Q (.ref p) H'
theorem nodup_ins {α : Type} {l : List α} {x : α} (h : l.Nodup) (n : x ∉ l) (i : Nat) : (l.take i ++ [x] ++ l.drop i).Nodup ∧ (∀ y, y ∈ l.take i ++ [x] ++ l.drop i ↔ y = x ∨ y ∈ l) ∧ (l.take i ++ [x] ++ l.drop i).length = l.length + 1 := by
  have pm : (l.take i ++ [x] ++ l.drop i).Perm (x :: l) := by
    have z : (l.take i ++ x :: l.drop i).Perm (x :: (l.take i ++ l.drop i)) := List.perm_middle
    rw [List.take_append_drop] at z
    simpa using z
  exact ⟨pm.nodup_iff.mpr (List.nodup_cons.mpr ⟨n, h⟩), fun y => by rw [pm.mem_iff, List.mem_cons], pm.length_eq⟩
abbrev s__law_mixed : Stmt := top 48
abbrev sc__law_mixed_N : List Str := ["_law_source_here", "_law_rows", "_law_placed", "_law_row"]
theorem sc__law_mixed : FnScope sc__law_mixed_N ["_law_source_here", "_law_rows"] (defScope s__law_mixed) := ⟨rfl, rfl, rfl, by decide +kernel, rfl, by decide +kernel, by decide +kernel⟩
theorem ok_mixed (m_len : mg "len" = none) (D__law_draw : Has P w K mg base "_law_draw" 1 ["_law_source_here", "_law_many"] spDraw) (F : FnP K "_law_mixed" s__law_mixed f fd) : FnOk P w K mg base CX0 2 f fd ["_law_source_here", "_law_rows"] (spMixed K) := by
  refine F.ok sc__law_mixed (fun vs H Q E h => by obtain ⟨a, l, us, rs, rfl, _⟩ := h; rfl) (fun cdv A outer s H vs Q E hr h => ⟨_, PSs.nox
    (pss_cons (ps_set (i := 2) sc__law_mixed.nd rfl (Or.inl rfl) (pe_lst pa_nil)) (pss_cons (ps_for PassesOwn.never rfl (pi_list (pv 1)) (pg_name (i := 3) sc__law_mixed.nd rfl (Or.inl rfl)) (pss_one (ps_if (pt_cmpR (niK K hr) (pv 3) (pv 2) rfl) (pss_one (ps_expr (pe_bm PySem.F.plainAttrs_list PySem.F.slot_list_insert PySem.F.type_list_insert mt_insert (pv 2) (pa_cons (pe_has D__law_draw (hr.mono (by decide)) (pa_cons (pv 0) (pa_cons (pe_op (addK K) (pe_callB (lenK K) (by rfl) m_len (by decide +kernel) (pa_cons (pv 2) pa_nil)) pe_int) pa_nil))) (pa_cons (pv 3) pa_nil))))) pss_nil))) (pss_one (ps_ret (pv 2))))), ?_⟩)
  obtain ⟨a, l, us, rs, rfl, pu, nla, hl, pr, okr, lr, q⟩ := h
  refine q_asgL (i := 2) (xs := []) (el_lst ea_nil (by simp)) fun p H1 n1 e1 h1 => ?_
  have hla : less a H l = some (.lst us) := by rw [less_ne nla]; exact hl
  have npa : p ≠ a := pu.ne n1
  have nG : less a H p = none := by rw [less_ne npa]; exact n1
  have lu := paired_len pr
  refine q_forL (xs := us) (ev_var rfl) (sq_of (e1 _ _ hl)) (fun i σ' H' => ∃ (v3 : Option V) (ws : List V) (ts : List Rul), σ' = [some (.ref a), some (.ref l), some (.ref p), v3] ∧ H' p = some (.lst ws) ∧ RlsL K (less a H) ts ws ∧ ts.Nodup ∧ (∀ r ∈ ts, r ∈ rs) ∧ ts.length ≤ i ∧ i ≤ us.length ∧ Ex (less a H) H' ∧ Pur H' a)
    (fun H2 e2 => ⟨none, [], [], rfl, e2 _ _ h1, .nil, List.nodup_nil, (fun _ h => nomatch h), Nat.le_refl _, Nat.zero_le _, less_ex.trans (e1.trans e2), (pu.keep e1).keep e2⟩) (fun i σ' H' _ z => ?_) (fun i x σ' H' hx z => ?_) fun σ' H' z => ?_
  · obtain ⟨v3, ws, ts, rfl, hp, pw, nd, sub, lt, li, ex, p'⟩ := z
    exact sq_of (ex _ _ hla)
  · obtain ⟨v3, ws, ts, rfl, hp, pw, nd, sub, lt, li, ex, p'⟩ := z
    have il : i < us.length := (List.getElem?_eq_some_iff.mp hx).1
    obtain ⟨r, hr1, dr⟩ := paired_at pr hx
    have rm : r ∈ rs := List.mem_of_getElem? hr1
    have lw := paired_len pw
    have dl : Da K H' (.ref p) (.list (ts.map rulD)) := da_list hp (paired_mapD (pw.mono ex))
    show tIfS _ _ _ _ [some (.ref a), some (.ref l), some (.ref p), some x] H'
    refine s_when (b := !decide (r ∈ ts)) (et_B (ev_op (ev_var (i := 3) rfl) (ev_var (i := 2) rfl) (rv_niDat (d := rulD r) (c := .list (ts.map rulD)) (.inl rfl) (dr.mono ex) dl (pl_rul (okr r rm)) (pl_rulL fun t ht => okr t (sub t ht)) (any_rul ts r)))) (fun b H2 e2 => ?_) fun b H2 e2 => ⟨_, ws, ts, rfl, e2 _ _ hp, pw, nd, sub, by omega, il, ex.trans e2, p'.keep e2⟩
    have rn : r ∉ ts := by simpa using b
    refine ⟨.ref p, rfl, Or.inl ⟨rfl, ws, sq_of (e2 _ _ hp)⟩, ?_⟩
    refine (dr_draw (m := (ws.length : Int) + 1) less_at rfl (ev_op (ev_lenL (ev_var (i := 2) rfl) (.inl (sq_of (show less a H2 p = some (.lst ws) by rw [less_ne npa]; exact e2 _ _ hp)))) ev_c rv_addI) (by omega) (by omega) : Dr a _ _ (less a H2) _) H2 less_ex (p'.keep e2) _ fun v H3 pv e3 p3 => ?_
    obtain ⟨k, rfl, k0, k1⟩ := pv
    have hp3 : H3 p = some (.lst ws) := e3 _ _ (by rw [less_ne npa]; exact e2 _ _ hp)
    have ex3 : Ex (less a H) H3 := (ex_less less_at (ex.trans e2)).trans e3
    refine ⟨x, rfl, p, ws, k, x, rfl, rfl, hp3, sz_lt (by omega), k0, by omega, ?_⟩
    obtain ⟨g1, g2, g3⟩ := nodup_ins nd rn k.toNat
    refine ⟨_, _, ts.take k.toNat ++ [r] ++ ts.drop k.toNat, rfl, upd_same, paired_append (paired_append (paired_take _ pw) (.cons dr .nil)) (paired_drop _ pw), g1, fun t ht => ?_, by rw [g3]; omega, il, ex3.mut nG, ?_⟩
    · rcases (g2 t).mp ht with rfl | ht
      · exact rm
      · exact sub t ht
    · obtain ⟨y1, y2, y3, hy, r'⟩ := p3
      exact ⟨y1, y2, y3, by rw [upd_ne (Ne.symm npa)]; exact hy, r'⟩
  · obtain ⟨v3, ws, ts, rfl, hp, pw, nd, sub, lt, li, ex, p'⟩ := z
    exact s_ret (ev_var (i := 2) rfl) fun H2 e2 => q p ws ts H2 nd sub (by omega) (e2 _ _ hp) npa pw (ex.trans e2) (p'.keep e2)
end
end K62
set_option Elab.async false
set_option linter.all false
set_option maxRecDepth 100000
set_option maxHeartbeats 4000000
namespace K62
open PySem PySem.Spec PyProof.Rows L2 Evl SwX
section
variable {P : Program} {w : World} {K : PySem.W.Frag} {mg : Str → Option Value} {base : Heap} {f : Addr} {fd : FuncData}
theorem dr_one {σ : L2.St} {G : Hp} {a : Addr} {m : Nat} {E : XK} (n : G a = none) (h0 : σ[0]? = some (some (.ref a))) (m0 : 0 < m) (m1 : m ≤ 1000) : Dr a (tOp (rAddX K) (tC (.int 1)) (tCall spDraw [] E (tCons (tVar 0) (tCons (tC (.int (m : Nat))) tNil)))) σ G fun v => ∃ k : Nat, v = .int (k : Int) ∧ 1 ≤ k ∧ k ≤ m :=
  dr_op (P1 := fun v => v = .int 1) (P2 := fun v => ∃ k, v = .int k ∧ 0 ≤ k ∧ k < (m : Int)) (dr_ev ev_c rfl) (dr_draw n h0 ev_c (by omega) (by omega)) fun x y hx hy => by
    obtain ⟨k, rfl, k0, k1⟩ := hy
    subst hx
    refine ⟨.int (1 + k), ⟨(1 + k).toNat, ?_, by omega, by omega⟩, fun H => rv_addI⟩
    rw [show ((1 + k).toNat : Int) = 1 + k by omega]
/-- a new recipe, by draws -/
theorem drn_rul {σ : L2.St} {G : Hp} {a : Addr} {t1 t2 t3 : TE} {k : Nm} {Ps : List Nm → Prop} (n : G a = none) (h1 : Ev t1 σ G (nmV k)) (h2 : DrN K a t2 σ G fun d => ∃ o : Nat, d = .int (o : Int) ∧ 1 ≤ o ∧ o ≤ 3) (h3 : DrN K a t3 σ G fun d => ∃ ps, d = nmsD ps ∧ Ps ps) :
    DrN K a (tTup (tCons t1 (tCons t2 (tCons t3 tNil)))) σ G fun d => ∃ (o : Nat) (ps : List Nm), d = rulD (k, o, ps) ∧ 1 ≤ o ∧ o ≤ 3 ∧ Ps ps := by
  refine drn_is (drn_tup (R := fun ds => ∃ (o : Nat) (ps : List Nm), ds = [nmD k, .int (o : Int), nmsD ps] ∧ 1 ≤ o ∧ o ≤ 3 ∧ Ps ps) (drns_cons n (drn_ev (R := fun d => d = nmD k) h1 (fun _ => .str _) rfl) fun d hd => drns_cons n h2 fun d2 hd2 => drns_cons n h3 fun d3 hd3 => drns_nil ?_) fun ds h => ?_) fun d h => ?_
  · obtain ⟨o, rfl, o1, o3⟩ := hd2
    obtain ⟨ps, rfl, hp⟩ := hd3
    subst hd
    exact ⟨o, ps, rfl, o1, o3, hp⟩
  · obtain ⟨o, ps, rfl, _⟩ := h
    simp
  · obtain ⟨ds, rfl, o, ps, rfl, r⟩ := h
    exact ⟨o, ps, rfl, r⟩
/-- rows.append(new data) -/
theorem s_appN {σ : L2.St} {H : Hp} {a l : Addr} {i : Nat} {us : List V} {te : TE} {D : Ends} {R : PyData → Prop} (hi : σ[i]? = some (some (.ref l))) (hl : H l = some (.lst us)) (nl : l ≠ a) (few : us.length < 1000) (p : Pur H a) (h : DrN K a te σ (less a H) R)
    (k : ∀ v d H2, R d → Da K (nw H H2) v d → Ex (less a H) H2 → Pur H2 a → D.nx σ (upd H2 l (.lst (us ++ [v])))) : tDrop (tBM K "list" rAppend (tVar i) (tCons te tNil)) D σ H := by
  refine ⟨.ref l, hi, Or.inl ⟨rfl, us, sq_of hl⟩, ?_⟩
  refine h H less_ex p _ fun v d H2 r dv e2 p2 => ?_
  exact ⟨l, us, v, rfl, rfl, e2 _ _ (by rw [less_ne nl]; exact hl), sz_lt (by omega), k v d H2 r dv e2 p2⟩
/-- tuple([..]) of names drawn out of two -/
theorem drn_parts {σ : L2.St} {G : Hp} {a : Addr} {i1 i2 im j : Nat} {vs : List Nat} {E : XK} {n0 n1 : Nm} {m : Nat} (n : G a = none) (hm : σ[im]? = some (some (.int (m : Nat)))) (m3 : m ≤ 3) (hw : ∀ x, wipe ((wipe σ vs).set j (some x)) vs = wipe σ vs)
    (hz : ∀ x, ((wipe σ vs).set j (some x))[0]? = some (some (.ref a)) ∧ ((wipe σ vs).set j (some x))[i1]? = some (some (nmV n0)) ∧ ((wipe σ vs).set j (some x))[i2]? = some (some (nmV n1))) :
    DrN K a (tCB (rTupOf K) (tCons (tLc (iRng1 (tCons (tVar im) tNil)) (gName j) tYes (tOp (rIx K) (tLst (tCons (tVar i1) (tCons (tVar i2) tNil))) (tCall spDraw [] E (tCons (tVar 0) (tCons (tC (.int 2)) tNil)))) vs) tNil)) σ G fun d => ∃ ps : List Nm, d = nmsD ps ∧ ps.length ≤ 3 ∧ ∀ p ∈ ps, p = n0 ∨ p = n1 := by
  refine drn_is (drn_tupOf (drnl_lcR (m := 3) (Rk := fun _ => True) (R := fun _ d => d = nmD n0 ∨ d = nmD n1) n (fun G' n' _ => dr_ev (ev_var hm) ⟨m, rfl, m3, trivial⟩) (by omega) hw fun i _ => ?_)) fun d h => ?_
  · obtain ⟨h0, h1, h2⟩ := hz (.int (i : Nat))
    refine drn_dr n (P := fun v => v ∈ [nmV n0, nmV n1]) (fun G' n' _ => dr_pickK n' (el_lst (ea_cons (ev_var h1) (ea_cons (ev_var h2) ea_nil)) (by simp)) fun G2 n2 _ => dr_draw (m := 2) n2 h0 ev_c (by decide) (by decide)) fun v hv => ?_
    rcases List.mem_cons.mp hv with rfl | hv
    · exact ⟨nmD n0, .inl rfl, fun _ => .str _⟩
    · rw [List.mem_singleton.mp hv]
      exact ⟨nmD n1, .inr rfl, fun _ => .str _⟩
  · obtain ⟨ds, rfl, _, l3, hd⟩ := h
    have key : ∀ ds : List PyData, (∀ (i : Nat) d, ds[i]? = some d → d = nmD n0 ∨ d = nmD n1) → ∃ ps : List Nm, ds = ps.map nmD ∧ ∀ p ∈ ps, p = n0 ∨ p = n1 := by
      intro ds
      induction ds with
      | nil => intro _; exact ⟨[], rfl, fun _ h => nomatch h⟩
      | cons d ds ih =>
        intro h
        obtain ⟨ps, rfl, hp⟩ := ih fun i d e => h (i + 1) d (by simpa using e)
        rcases h 0 d rfl with rfl | rfl
        · exact ⟨n0 :: ps, rfl, fun p m => by rcases List.mem_cons.mp m with rfl | m; exact .inl rfl; exact hp p m⟩
        · exact ⟨n1 :: ps, rfl, fun p m => by rcases List.mem_cons.mp m with rfl | m; exact .inr rfl; exact hp p m⟩
    obtain ⟨ps, rfl, hp⟩ := key ds hd
    exact ⟨ps, rfl, by simpa using l3, hp⟩
def spRecs (K : PySem.W.Frag) : Sp := fun vs H Q _ => ∃ (a l : Addr) (n0 n1 n2 : Nm), vs = [.ref a, .ref l] ∧ Pur H a ∧ l ≠ a ∧ H l = some (.lst [nmV n0, nmV n1, nmV n2]) ∧ NamesOk [n0, n1, n2] ∧
  ∀ y rs H', RulesOk [n0, n1, n2] rs → DaA K a (rulsD rs) y H' → Ex (less a H) H' → Pur H' a → Q y H'
/-- the rows so far -/
structure Rows (K : PySem.W.Frag) (a l : Addr) (B : Hp) (ns : List Nm) (m : Nat) (rs : List Rul) (us : List V) (H : Hp) : Prop where
  at_ : H l = some (.lst us)
  pr : RlsL K (nw B H) rs us
  ok : ∀ r ∈ rs, RulOk ns r
  len : rs.length ≤ m
  ex : Ex (less a B) H ∨ True
  dm : Dom B H
  pu : Pur H a
theorem Rows.more {a l : Addr} {B : Hp} {ns : List Nm} {m : Nat} {rs : List Rul} {us : List V} {H H2 : Hp} {v : V} {r : Rul} (R : Rows K a l B ns m rs us H) (nl : l ≠ a) (bl : B l ≠ none) (ba : B a ≠ none) (ok : RulOk ns r) (dv : Da K (nw H H2) v (rulD r)) (e2 : Ex (less a H) H2) (p2 : Pur H2 a) :
    Rows K a l B ns (m + 1) (rs ++ [r]) (us ++ [v]) (upd H2 l (.lst (us ++ [v]))) where
  at_ := upd_same
  pr := by
    unfold RlsL
    rw [nw_upd bl]
    exact paired_append (RlsL.mono (nw_up e2 ba) R.pr) (.cons (Da.mono (nw_from R.dm nw_ex) dv) .nil)
  ok := fun t ht => by
    rcases List.mem_append.mp ht with ht | ht
    · exact R.ok t ht
    · rw [List.mem_singleton.mp ht]; exact ok
  len := by
    have := R.len
    simp
    omega
  ex := .inr trivial
  dm := (R.dm.trans (dom_less e2 p2)).trans fun b z => by
    by_cases q : b = l
    · rw [q, upd_same]; exact fun w => by cases w
    · rw [upd_ne q]; exact z
  pu := by
    obtain ⟨x1, x2, x3, hp, r⟩ := p2
    exact ⟨x1, x2, x3, by rw [upd_ne (Ne.symm nl)]; exact hp, r⟩
theorem Rows.past {a l : Addr} {B : Hp} {ns : List Nm} {m : Nat} {rs : List Rul} {us : List V} {H H2 : Hp} (R : Rows K a l B ns m rs us H) (nl : l ≠ a) (ba : B a ≠ none) (e2 : Ex (SwX.less a H) H2) (p2 : Pur H2 a) : Rows K a l B ns m rs us H2 where
  at_ := e2 _ _ (by rw [less_ne nl]; exact R.at_)
  pr := RlsL.mono (nw_up e2 ba) R.pr
  ok := R.ok
  len := R.len
  ex := .inr trivial
  dm := R.dm.trans (dom_less e2 p2)
  pu := p2
theorem Rows.less {a l : Addr} {B : Hp} {ns : List Nm} {m : Nat} {rs : List Rul} {us : List V} {H : Hp} (R : Rows K a l B ns m rs us H) (ba : B a ≠ none) : RlsL K (SwX.less a H) rs us := RlsL.mono (nw_less ba) R.pr
abbrev s__law_recipes : Stmt := top 49
abbrev sc__law_recipes_N : List Str := ["_law_source_here", "_law_names", "_law_first", "_law_second", "_law_third", "_law_rows", "_law_turn", "_law_own", "_law_many", "_law_place"]
theorem sc__law_recipes : FnScope sc__law_recipes_N ["_law_source_here", "_law_names"] (defScope s__law_recipes) := ⟨rfl, rfl, rfl, by decide +kernel, rfl, by decide +kernel, by decide +kernel⟩
theorem ok_recipes (m_range : mg "range" = none) (m_tuple : mg "tuple" = none) (D__law_draw : Has P w K mg base "_law_draw" 1 ["_law_source_here", "_law_many"] spDraw) (D__law_mixed : Has P w K mg base "_law_mixed" 2 ["_law_source_here", "_law_rows"] (spMixed K)) (F : FnP K "_law_recipes" s__law_recipes f fd) : FnOk P w K mg base CX0 3 f fd ["_law_source_here", "_law_names"] (spRecs K) := by
  refine F.ok sc__law_recipes (fun vs H Q E h => by obtain ⟨a, l, n0, n1, n2, rfl, _⟩ := h; rfl) (fun cdv A outer s H vs Q E hr h => ⟨_, PSs.nox
    (pss_cons (ps_asg (pv 1) (pg_unl rfl (pgs_cons (pg_name (i := 2) sc__law_recipes.nd rfl (Or.inr rfl)) (pgs_cons (pg_name (i := 3) sc__law_recipes.nd rfl (Or.inr rfl)) (pgs_cons (pg_name (i := 4) sc__law_recipes.nd rfl (Or.inl rfl)) pgs_nil))))) (pss_cons (ps_setLc (i := 5) (own := [("_law_turn", 6)]) (g := gName 6) (tt := tYes) rfl sc__law_recipes.nd rfl rfl (sw_true rfl rfl rfl (by rfl)) (pi_range1 (by rfl) m_range (pa_cons (pe_op (addK K) pe_int (pe_has D__law_draw (hr.mono (by decide)) (pa_cons (pv 0) (pa_cons pe_int pa_nil)))) pa_nil)) (blkOk_by (N := sc__law_recipes_N) (sc := defScope s__law_recipes) (by decide +kernel)) (fun _ _ _ _ _ => pg_name (i := 6) sc__law_recipes.nd rfl (Or.inl rfl)) (fun _ _ _ _ _ => pts_nil) (fun _ _ _ _ _ => (pe_tup (pa_cons (pv 2) (pa_cons (pe_op (addK K) pe_int (pe_has D__law_draw (hr.mono (by decide)) (pa_cons (pv 0) (pa_cons pe_int pa_nil)))) (pa_cons (pe_tup pa_nil) pa_nil)))))) (pss_cons (ps_for PassesOwn.never rfl (pi_range1 (by rfl) m_range (pa_cons (pe_op (addK K) pe_int (pe_has D__law_draw (hr.mono (by decide)) (pa_cons (pv 0) (pa_cons pe_int pa_nil)))) pa_nil)) (pg_name (i := 6) sc__law_recipes.nd rfl (Or.inl rfl)) (pss_cons (ps_par (i := 7) (j := 8) (by rfl) sc__law_recipes.nd rfl rfl (by decide) rfl rfl (pa_cons (pe_op (addK K) pe_int (pe_has D__law_draw (hr.mono (by decide)) (pa_cons (pv 0) (pa_cons pe_int pa_nil)))) (pa_cons (pe_has D__law_draw (hr.mono (by decide)) (pa_cons (pv 0) (pa_cons pe_int pa_nil))) pa_nil)) (by rfl)) (pss_one (ps_expr (pe_bm PySem.F.plainAttrs_list PySem.F.slot_list_append PySem.F.type_list_append mt_append (pv 5) (pa_cons (pe_tup (pa_cons (pv 3) (pa_cons (pv 7) (pa_cons (pe_callTy call_tuple_of (by rfl) m_tuple (by decide +kernel) (pa_cons (pe_lc (own := [("_law_place", 9)]) (g := gName 9) (tt := tYes) rfl sc__law_recipes.nd (pi_range1 (by rfl) m_range (pa_cons (pv 8) pa_nil)) (blkOk_by (N := sc__law_recipes_N) (sc := defScope s__law_recipes) (by decide +kernel)) (fun _ _ _ _ _ => pg_name (i := 9) sc__law_recipes.nd rfl (Or.inl rfl)) (fun _ _ _ _ _ => pts_nil) (fun _ _ _ _ _ => (pe_ix (ixK K) (pe_lst (pa_cons (pv 2) (pa_cons (pv 3) pa_nil))) (pe_has D__law_draw (hr.mono (by decide)) (pa_cons (pv 0) (pa_cons pe_int pa_nil))) (fun _ _ => rfl)))) pa_nil)) pa_nil)))) pa_nil)))))) (pss_cons (ps_for PassesOwn.never rfl (pi_range1 (by rfl) m_range (pa_cons (pe_has D__law_draw (hr.mono (by decide)) (pa_cons (pv 0) (pa_cons pe_int pa_nil))) pa_nil)) (pg_name (i := 6) sc__law_recipes.nd rfl (Or.inl rfl)) (pss_cons (ps_par (i := 7) (j := 8) (by rfl) sc__law_recipes.nd rfl rfl (by decide) rfl rfl (pa_cons (pe_op (addK K) pe_int (pe_has D__law_draw (hr.mono (by decide)) (pa_cons (pv 0) (pa_cons pe_int pa_nil)))) (pa_cons (pe_has D__law_draw (hr.mono (by decide)) (pa_cons (pv 0) (pa_cons pe_int pa_nil))) pa_nil)) (by rfl)) (pss_one (ps_expr (pe_bm PySem.F.plainAttrs_list PySem.F.slot_list_append PySem.F.type_list_append mt_append (pv 5) (pa_cons (pe_tup (pa_cons (pv 4) (pa_cons (pv 7) (pa_cons (pe_callTy call_tuple_of (by rfl) m_tuple (by decide +kernel) (pa_cons (pe_lc (own := [("_law_place", 9)]) (g := gName 9) (tt := tYes) rfl sc__law_recipes.nd (pi_range1 (by rfl) m_range (pa_cons (pv 8) pa_nil)) (blkOk_by (N := sc__law_recipes_N) (sc := defScope s__law_recipes) (by decide +kernel)) (fun _ _ _ _ _ => pg_name (i := 9) sc__law_recipes.nd rfl (Or.inl rfl)) (fun _ _ _ _ _ => pts_nil) (fun _ _ _ _ _ => (pe_ix (ixK K) (pe_lst (pa_cons (pv 2) (pa_cons (pv 3) pa_nil))) (pe_has D__law_draw (hr.mono (by decide)) (pa_cons (pv 0) (pa_cons pe_int pa_nil))) (fun _ _ => rfl)))) pa_nil)) pa_nil)))) pa_nil)))))) (pss_one (ps_ret (pe_callTy call_tuple_of (by rfl) m_tuple (by decide +kernel) (pa_cons (pe_has D__law_mixed (hr.mono (by decide)) (pa_cons (pv 0) (pa_cons (pv 5) pa_nil))) pa_nil)))))))), ?_⟩)
  obtain ⟨a, ll, n0, n1, n2, rfl, pu, nla, hl, okn, q⟩ := h
  refine ⟨.ref ll, rfl, ll, _, rfl, sq_of hl, rfl, _, _, rfl, _, _, rfl, _, _, rfl, rfl, ?_⟩
  dsimp only
  refine q_asgT (i := 5) ?_
  refine (drnl_lcR (m := 3) (Rk := fun _ => True) (R := fun _ d => ∃ (o : Nat) (ps : List Nm), d = rulD (n0, o, ps) ∧ 1 ≤ o ∧ o ≤ 3 ∧ ps = []) less_at (fun G' n' _ => (dr_one (m := 3) n' rfl (by decide) (by decide)).imp fun v h => ?_) (by omega) (fun _ => rfl) (fun i _ => ?_) : DrNl K a _ _ (less a H) _) H less_ex pu _ fun l us ds H1 hd h1 nl nw1 e1 p1 => ?_
  · obtain ⟨k, rfl, k1, k3⟩ := h
    exact ⟨k, rfl, k3, trivial⟩
  · refine drn_rul less_at (ev_var (i := 2) rfl) (drn_dr less_at (fun G' n' _ => dr_one (m := 3) n' rfl (by decide) (by decide)) fun v hv => ?_) (drn_is (drn_tup (R := fun ds => ds = []) (drns_nil rfl) fun ds h => by rw [h]; simp) fun d h => ?_)
    · obtain ⟨k, rfl, k1, k3⟩ := hv
      exact ⟨.int (k : Int), ⟨k, rfl, k1, k3⟩, fun _ => .int _⟩
    · obtain ⟨ds, rfl, rfl⟩ := h
      exact ⟨[], rfl, rfl⟩
  obtain ⟨_, ld, hd⟩ := hd
  have nla1 : l ≠ a := pu.ne nl
  have key : ∀ ds : List PyData, (∀ (i : Nat) d, ds[i]? = some d → ∃ (o : Nat) (ps : List Nm), d = rulD (n0, o, ps) ∧ 1 ≤ o ∧ o ≤ 3 ∧ ps = []) → ∃ rs : List Rul, ds = rs.map rulD ∧ ∀ r ∈ rs, RulOk [n0, n1, n2] r := by
    intro ds
    induction ds with
    | nil => intro _; exact ⟨[], rfl, fun _ h => nomatch h⟩
    | cons d ds ih =>
      intro h
      obtain ⟨rs, rfl, hr⟩ := ih fun i d e => h (i + 1) d (by simpa using e)
      obtain ⟨o, ps, rfl, o1, o3, rfl⟩ := h 0 d rfl
      refine ⟨(n0, o, []) :: rs, rfl, fun r m => ?_⟩
      rcases List.mem_cons.mp m with rfl | m
      · exact ⟨by simp, o1, by show o ≤ 9; omega, by simp, fun p h => nomatch h⟩
      · exact hr r m
  obtain ⟨rs0, rfl, ok0⟩ := key ds hd
  rw [List.length_map] at ld
  have ba : H a ≠ none := pur_some pu
  obtain ⟨B, bl, dB, d1, pr⟩ := nw1
  have bA : B a ≠ none := dB a ba
  have pr0 : RlsL K (nw B H1) rs0 us := paired_unmap (F := fun d v => Da K (nw B H1) v d) (g := rulD) pr
  have R0 : Rows K a l B [n0, n1, n2] 3 rs0 us H1 := ⟨h1, pr0, ok0, ld, .inr trivial, d1, p1⟩
  have nG : SwX.less a H l = none := by rw [less_ne nla1]; exact nl
  refine q_forDr (a := a) (G := SwX.less a H1) (m := 3) (R := fun k => k ≤ 3) ((dr_one (m := 3) less_at rfl (by decide) (by decide)).imp fun v z => ?_) (by omega) less_ex p1
    (fun i σ' H' => ∃ (v6 v7 v8 : Option V) (us : List V) (rs : List Rul), σ' = [some (.ref a), some (.ref ll), some (nmV n0), some (nmV n1), some (nmV n2), some (.ref l), v6, v7, v8, none] ∧ Rows K a l B [n0, n1, n2] (3 + i) rs us H' ∧ Ex (SwX.less a H) H' ∧ i ≤ 3)
    (fun H3 e3 p3 => ⟨_, _, _, us, rs0, rfl, R0.past nla1 bA e3 p3, (ex_less less_at e1).trans e3, by omega⟩) (fun i σ' H' hi z => ?_) fun ka σ' H' k2a k0a z => ?_
  · obtain ⟨k, rfl, k1, k3⟩ := z
    exact ⟨(k : Int), rfl, by omega, by omega, by omega⟩
  · obtain ⟨v6, v7, v8, us, rs, rfl, R, x3, im⟩ := z
    have lu := paired_len R.pr
    have lr := R.len
    refine q_parDr (a := a) (G := SwX.less a H') (i := 7) (j := 8) (dr_one (m := 3) less_at rfl (by decide) (by decide)) (dr_draw (m := 3) less_at rfl ev_c (by decide) (by decide)) less_ex R.pu fun v w H4 pv pw x4 p4 => ?_
    obtain ⟨o, rfl, o1, o3⟩ := pv
    obtain ⟨m, rfl, m0, m1⟩ := pw
    obtain ⟨m, rfl⟩ := Int.eq_ofNat_of_zero_le m0
    have R4 := R.past nla1 bA x4 p4
    refine s_appN (i := 5) (us := us) rfl R4.at_ nla1 (by omega) p4 (drn_rul less_at (ev_var (i := 3) rfl) (drn_ev (ev_var (i := 7) rfl) (fun _ => .int _) ⟨o, rfl, o1, o3⟩) (drn_parts (m := m) (n0 := n0) (n1 := n1) less_at rfl (by omega) (fun _ => rfl) fun _ => ⟨rfl, rfl, rfl⟩)) fun v d H5 rd dv e5 p5 => ?_
    obtain ⟨o', ps, rfl, o1', o3', l3, pm⟩ := rd
    refine ⟨_, _, _, _, _, rfl, R4.more nla1 bl bA ⟨by simp, o1', by show o' ≤ 9; omega, l3, fun p hp => by rcases pm p hp with rfl | rfl <;> simp⟩ dv e5 p5, ((ex_less less_at ((ex_less less_at x3).trans x4)).trans e5).mut nG, by omega⟩
  obtain ⟨v6, v7, v8, us6, rs6, rfl, R6', x6, im⟩ := z
  have R6 : Rows K a l B [n0, n1, n2] 6 rs6 us6 H' := { R6' with len := by have := R6'.len; omega }
  refine q_forDr (a := a) (G := SwX.less a H') (m := 2) (R := fun k => k ≤ 2) ((dr_draw (m := 3) less_at rfl ev_c (by decide) (by decide)).imp fun v z => ?_) (by omega) less_ex R6.pu
    (fun i σ' H' => ∃ (v6 v7 v8 : Option V) (us : List V) (rs : List Rul), σ' = [some (.ref a), some (.ref ll), some (nmV n0), some (nmV n1), some (nmV n2), some (.ref l), v6, v7, v8, none] ∧ Rows K a l B [n0, n1, n2] (6 + i) rs us H' ∧ Ex (SwX.less a H) H' ∧ i ≤ 2)
    (fun H3 e3 p3 => ⟨_, _, _, us6, rs6, rfl, R6.past nla1 bA e3 p3, (ex_less less_at x6).trans e3, by omega⟩) (fun i σ' H' hi z => ?_) fun kb σ' H' k2b k0b z => ?_
  · obtain ⟨k, rfl, k1, k3⟩ := z
    exact ⟨k, rfl, k1, by omega, by omega⟩
  · obtain ⟨v6, v7, v8, us, rs, rfl, R, x3, im⟩ := z
    have lu := paired_len R.pr
    have lr := R.len
    refine q_parDr (a := a) (G := SwX.less a H') (i := 7) (j := 8) (dr_one (m := 3) less_at rfl (by decide) (by decide)) (dr_draw (m := 4) less_at rfl ev_c (by decide) (by decide)) less_ex R.pu fun v w H4 pv pw x4 p4 => ?_
    obtain ⟨o, rfl, o1, o3⟩ := pv
    obtain ⟨m, rfl, m0, m1⟩ := pw
    obtain ⟨m, rfl⟩ := Int.eq_ofNat_of_zero_le m0
    have R4 := R.past nla1 bA x4 p4
    refine s_appN (i := 5) (us := us) rfl R4.at_ nla1 (by omega) p4 (drn_rul less_at (ev_var (i := 4) rfl) (drn_ev (ev_var (i := 7) rfl) (fun _ => .int _) ⟨o, rfl, o1, o3⟩) (drn_parts (m := m) (n0 := n0) (n1 := n1) less_at rfl (by omega) (fun _ => rfl) fun _ => ⟨rfl, rfl, rfl⟩)) fun v d H5 rd dv e5 p5 => ?_
    obtain ⟨o', ps, rfl, o1', o3', l3, pm⟩ := rd
    refine ⟨_, _, _, _, _, rfl, R4.more nla1 bl bA ⟨by simp, o1', by show o' ≤ 9; omega, l3, fun p hp => by rcases pm p hp with rfl | rfl <;> simp⟩ dv e5 p5, ((ex_less less_at ((ex_less less_at x3).trans x4)).trans e5).mut nG, by omega⟩
  obtain ⟨v6, v7, v8, us, rs, rfl, R, x3, im⟩ := z
  have lr := R.len
  refine ⟨.ref a, rfl, .ref l, rfl, a, l, us, rs, rfl, R.pu, nla1, R.at_, R.less bA, (fun r hr => (R.ok r hr).nm okn.ok), by omega, fun p ws ts H2 nd sub lt hp npa pw ex p2 => ⟨p, ws, rfl, .inl ⟨sq_of hp, fun c hc => ?_⟩⟩⟩
  refine q (.ref c) ts _ ⟨by omega, nd, fun t ht => R.ok t (sub t ht)⟩ (da_tuple (.inl (.inl (by rw [less_ne (p2.ne hc), upd_same]))) (paired_mapD (RlsL.mono (ex_less less_at (ex.trans (Ex.new hc))) pw))) (((ex_less less_at x3).trans ex).trans (Ex.new hc)) (p2.keep (Ex.new hc))
end
end K62
set_option Elab.async false
set_option linter.all false
set_option maxRecDepth 100000
set_option maxHeartbeats 4000000
namespace K62
open PySem PySem.Spec PyProof.Rows L2 Evl SwX
section
variable {P : Program} {w : World} {K : PySem.W.Frag} {mg : Str → Option Value} {base : Heap} {f : Addr} {fd : FuncData}
theorem joinL_len {B : Nat} {sep : List Nat} (hs : sep.length ≤ 2) : ∀ {l : List (List Nat)}, (∀ x ∈ l, x.length ≤ B) → (TL.joinL sep l).length ≤ (B + 2) * l.length
  | [], _ => Nat.zero_le _
  | [x], h => by
    have := h x List.mem_cons_self
    show x.length ≤ _
    simp
    omega
  | x :: y :: l, h => by
    have z := joinL_len hs (l := y :: l) fun u hu => h u (List.mem_cons_of_mem _ hu)
    have := h x List.mem_cons_self
    show (x ++ (sep ++ TL.joinL sep (y :: l))).length ≤ _
    rw [List.length_append, List.length_append, List.length_cons, Nat.mul_add]
    omega
theorem row_len {r : Rul} (h : RulNm r) (o : r.2.1 ≤ 9) (l : r.2.2.length ≤ 10) : (rowL r).length ≤ 150 := by
  have z := joinL_len (B := 8) (sep := [32]) (by decide) (l := r.2.2) fun p hp => (h.2 p hp).len
  have n := TL.numL_len (n := r.2.1) (k := 1) (by decide) (by omega)
  have m := h.1.len
  have e : (8 + 2) * r.2.2.length ≤ (8 + 2) * 10 := Nat.mul_le_mul_left _ l
  unfold rowL tailL
  split <;> simp only [List.length_append, List.length_cons, List.length_nil] <;> omega
theorem head_len {ns : List Nm} (h : ∀ n ∈ ns, NameOk n) (l : ns.length ≤ 10) : (headL ns).length ≤ 150 := by
  have z := joinL_len (B := 8) (sep := [32]) (by decide) (l := kindsL :: ns) fun p hp => (List.mem_cons.mp hp).elim (fun e => by rw [e]; decide) fun hp => (h p hp).len
  have e : (8 + 2) * (kindsL :: ns).length ≤ (8 + 2) * 11 := Nat.mul_le_mul_left _ (by simp; omega)
  unfold headL
  omega
theorem ev_tail {σ : L2.St} {H : Hp} {c : Addr} {ps : List Nm} {i : Nat} (h5 : σ[i]? = some (some (.ref c))) (hc : SqT K H c (ps.map nmV)) (ok : ∀ p ∈ ps, NameOk p) (l : ps.length ≤ 10) :
    Ev (tIf (tTest (tOp (fun x y H Q => rNe x y H Q ∨ rEqDat K not x y H Q) (tVar i) (tTup tNil))) (tOp (rAddX K) (tC (.str (SX.S [58, 32]))) (tM1 (rJoin K) (tC (.str (SX.S [32]))) (tVar i))) (tC (.str (SX.S [])))) σ H (.str (SX.S (tailL ps))) := by
  have w3 := joinL_len (B := 8) (sep := [32]) (by decide) (l := ps) fun p hp => (ok p hp).len
  have w4 : (8 + 2) * ps.length ≤ (8 + 2) * 10 := Nat.mul_le_mul_left _ l
  refine ev_if (b := !decide (ps = [])) (et_B (ev_opU (ev_var h5) (eu_tup ea_nil (by simp)) fun u H3 h3 e3 => rv_neDat (d := nmsD ps) (e := nmsD []) (da_nms (ex_t e3 hc)) (da_nms (.inl (.inl h3))) (pl_nms ok) (pl_nms fun _ h => nomatch h) (nmsD_eqv _ _))) (fun z => ?_) fun z => ?_
  · unfold tailL
    rw [if_neg (by simpa using z)]
    exact ev_op ev_c (ev_joinS (l := ps) (B := 8) ev_c (ev_var h5) (.inr (by rw [← S_map]; exact hc)) (fun u hu => (ok u hu).len) ⟨by decide, by omega, by decide⟩) (rv_addS (by simp only [List.length_cons, List.length_nil]; omega))
  · unfold tailL
    rw [if_pos (by simpa using z)]
    exact ev_c
theorem tail_len {ps : List Nm} (ok : ∀ p ∈ ps, NameOk p) (l : ps.length ≤ 10) : (tailL ps).length ≤ 102 := by
  have w3 := joinL_len (B := 8) (sep := [32]) (by decide) (l := ps) fun p hp => (ok p hp).len
  have w4 : (8 + 2) * ps.length ≤ (8 + 2) * 10 := Nat.mul_le_mul_left _ l
  unfold tailL
  split <;> simp only [List.length_append, List.length_cons, List.length_nil] <;> omega
theorem ev_strI {σ : L2.St} {H : Hp} {te : TE} {o : Nat} (h : Ev te σ H (.int (o : Int))) (l : o < 1000) : Ev (tCB rStrY (tCons te tNil)) σ H (.str (SX.S (TL.numL o))) := fun H1 e1 Q q => h H1 e1 _ fun H2 e2 => .inl ⟨o, rfl, by
  have : (o : Int).natAbs.log2 < 10 := by
    by_cases z : o = 0
    · subst z
      decide
    · exact (Nat.log2_lt (by omega)).mpr (by omega)
  omega, by rw [numS]; exact q H2 e2⟩
theorem row_eq (r : Rul) : r.1 ++ [32] ++ TL.numL r.2.1 ++ tailL r.2.2 = rowL r := by
  unfold rowL
  simp only [List.append_assoc]
theorem el_catLL {σ : L2.St} {H : Hp} {ta tb : TE} {xs ys : List V} (ha : EvL ta σ H xs) (hb : EvL tb σ H ys) (z : xs.length + ys.length ≤ 100000) : EvL (tOp (rAddX K) ta tb) σ H (xs ++ ys) := fun H1 e1 Q q =>
  ha H1 e1 _ fun l H2 hl e2 h2 => (el_catX (K := K) (ta := tC (.ref l)) (σ := σ) (H := H2) ev_c h2 (EvL.mono (e1.trans e2) hb) z) H2 (Ex.refl _) Q fun p H3 hp e3 h3 => q p H3 (fresh_back e2 hp) (e2.trans e3) h3
/-- a pair of kinds and recipes -/
def MineAt (K : PySem.W.Frag) (ns : List Nm) (rs : List Rul) (v : V) (H : Hp) : Prop := ∃ p q y, v = .ref p ∧ SqT K H p [.ref q, y] ∧ SqT K H q (ns.map nmV) ∧ Da K H y (rulsD rs)
theorem MineAt.mono {ns : List Nm} {rs : List Rul} {v : V} {H H' : Hp} (e : Ex H H') (h : MineAt K ns rs v H) : MineAt K ns rs v H' := by
  obtain ⟨p, q, y, rfl, h1, h2, h3⟩ := h
  exact ⟨p, q, y, rfl, ex_t e h1, ex_t e h2, Da.mono e h3⟩
theorem rulesOk_mems {ns ms : List Nm} {rs : List Rul} (h : RulesOk ns rs) (m : ∀ x ∈ ns, x ∈ ms) : RulesOk ms rs := ⟨h.len, h.nd, fun r hr => ⟨m _ (h.ok r hr).wd, (h.ok r hr).lo, (h.ok r hr).hi, (h.ok r hr).len, fun p hp => m _ ((h.ok r hr).pt p hp)⟩⟩
def spCat (K : PySem.W.Frag) : Sp := fun vs H Q _ => ∃ a : Addr, vs = [.ref a] ∧ Pur H a ∧ ∀ v ns rs H', NamesOk ns → ns.length = 3 → RulesOk ns rs → MineAt K ns rs v (less a H') → Ex (less a H) H' → Pur H' a → Q v H'
theorem endD_ne {m n : Nm} {i j : Nat} (h : EndD m i) (k : EndD n j) (ne : i ≠ j) : m ≠ n := by
  obtain ⟨l, rfl⟩ := h
  obtain ⟨l', rfl⟩ := k
  intro e
  have := (List.append_inj' e rfl).2
  simp at this
  omega
abbrev s__law_catalogue : Stmt := top 50
abbrev sc__law_catalogue_N : List Str := ["_law_source_here", "_law_names", "_law_recipes_here", "_law_turn", "_law_at"]
theorem sc__law_catalogue : FnScope sc__law_catalogue_N ["_law_source_here"] (defScope s__law_catalogue) := ⟨rfl, rfl, rfl, by decide +kernel, rfl, by decide +kernel, by decide +kernel⟩
theorem ok_catalogue (m_range : mg "range" = none) (m_tuple : mg "tuple" = none) (D__law_draw : Has P w K mg base "_law_draw" 1 ["_law_source_here", "_law_many"] spDraw) (D__law_name : Has P w K mg base "_law_name" 2 ["_law_source_here", "_law_at"] spName) (D__law_recipes : Has P w K mg base "_law_recipes" 3 ["_law_source_here", "_law_names"] (spRecs K)) (F : FnP K "_law_catalogue" s__law_catalogue f fd) : FnOk P w K mg base CX0 4 f fd ["_law_source_here"] (spCat K) := by
  refine F.ok sc__law_catalogue (fun vs H Q E h => by obtain ⟨a, rfl, _⟩ := h; rfl) (fun cdv A outer s H vs Q E hr h => ⟨_, PSs.nox
    (pss_cons (ps_setLc (i := 1) (own := [("_law_at", 4)]) (g := gName 4) (tt := tYes) rfl sc__law_catalogue.nd rfl rfl (sw_true rfl rfl rfl (by rfl)) (pi_range1 (by rfl) m_range (pa_cons pe_int pa_nil)) (blkOk_by (N := sc__law_catalogue_N) (sc := defScope s__law_catalogue) (by decide +kernel)) (fun _ _ _ _ _ => pg_name (i := 4) sc__law_catalogue.nd rfl (Or.inl rfl)) (fun _ _ _ _ _ => pts_nil) (fun _ _ _ _ _ => (pe_has D__law_name (hr.mono (by decide)) (pa_cons (pv 0) (pa_cons (pv 4) pa_nil))))) (pss_cons (ps_set (i := 2) sc__law_catalogue.nd rfl (Or.inl rfl) (pe_has D__law_recipes (hr.mono (by decide)) (pa_cons (pv 0) (pa_cons (pv 1) pa_nil)))) (pss_cons (ps_set (i := 3) sc__law_catalogue.nd rfl (Or.inl rfl) (pe_has D__law_draw (hr.mono (by decide)) (pa_cons (pv 0) (pa_cons pe_int pa_nil)))) (pss_one (ps_ret (pe_tup (pa_cons (pe_callTy call_tuple_of (by rfl) m_tuple (by decide +kernel) (pa_cons (pe_op (addK K) (pe_slice (slK K) (pv 1) (po_some (pv 3)) po_none) (pe_slice (slK K) (pv 1) po_none (po_some (pv 3)))) pa_nil)) (pa_cons (pv 2) pa_nil)))))))), ?_⟩)
  obtain ⟨a, rfl, pu, q⟩ := h
  refine q_asgT (i := 1) ?_
  refine (drnl_lcR (m := 3) (Rk := fun k => k = 3) (R := fun i d => ∃ n, d = nmD n ∧ NameOk n ∧ EndD n i) less_at (fun G' n' _ => dr_ev ev_c ⟨3, rfl, by omega, rfl⟩) (by omega) (fun _ => rfl) (fun i hi => ?_) : DrNl K a _ _ (less a H) _) H less_ex pu _ fun l us ds H1 hd h1 nl nw1 e1 p1 => ?_
  · refine drn_dr less_at (P := fun v => ∃ n, v = nmV n ∧ NameOk n ∧ EndD n i) (fun G' n' _ H1 e p Q q => ⟨.ref a, rfl, .int (i : Nat), rfl, a, i, rfl, by omega, p, fun n H2 ok ed e2 p2 => q _ H2 ⟨n, rfl, ok, ed⟩ ((ex_less n' e).trans e2) p2⟩) fun v hv => ?_
    obtain ⟨n, rfl, ok, ed⟩ := hv
    exact ⟨nmD n, ⟨n, rfl, ok, ed⟩, fun _ => .str _⟩
  obtain ⟨ld, _, hd⟩ := hd
  obtain ⟨B, _, _, _, pr⟩ := nw1
  have nla : l ≠ a := pu.ne nl
  match ds, ld, pr with
  | [d0, d1, d2], _, .cons a0 (.cons a1 (.cons a2 .nil)) =>
  obtain ⟨n0, rfl, ok0, ed0⟩ := hd 0 d0 rfl
  obtain ⟨n1, rfl, ok1, ed1⟩ := hd 1 d1 rfl
  obtain ⟨n2, rfl, ok2, ed2⟩ := hd 2 d2 rfl
  rw [da_strI a0, da_strI a1, da_strI a2] at h1
  have okn : NamesOk [n0, n1, n2] := ⟨by simp, by simp, by
    simp only [List.nodup_cons, List.mem_cons, List.not_mem_nil, or_false, not_or, List.nodup_nil, not_false_eq_true, and_true]
    exact ⟨⟨endD_ne ed0 ed1 (by decide), endD_ne ed0 ed2 (by decide)⟩, endD_ne ed1 ed2 (by decide)⟩, fun n hn => by
      rcases List.mem_cons.mp hn with rfl | hn
      · exact ok0
      · rcases List.mem_cons.mp hn with rfl | hn
        · exact ok1
        · rw [List.mem_singleton.mp hn]; exact ok2⟩
  refine ⟨.ref a, rfl, .ref l, rfl, a, l, n0, n1, n2, rfl, p1, nla, h1, okn, fun y rs H2 okr dy e2 p2 => ?_⟩
  have h2 : H2 l = some (.lst [nmV n0, nmV n1, nmV n2]) := e2 _ _ (by rw [less_ne nla]; exact h1)
  have x2 : Ex (less a H) H2 := (ex_less less_at e1).trans e2
  refine q_asgDr (i := 3) (a := a) (G := less a H2) (dr_draw (m := 3) less_at rfl ev_c (by decide) (by decide)) less_ex p2 fun v H3 pv e3 p3 => ?_
  obtain ⟨k, rfl, k0, k1⟩ := pv
  obtain ⟨k, rfl⟩ := Int.eq_ofNat_of_zero_le k0
  have h3 : H3 l = some (.lst [nmV n0, nmV n1, nmV n2]) := e3 _ _ (by rw [less_ne nla]; exact h2)
  refine ((el_catLL (K := K) (xs := [nmV n0, nmV n1, nmV n2].drop k) (ys := [nmV n0, nmV n1, nmV n2].take k) ?_ ?_ (by simp; omega)) : EvL _ [some (.ref a), some (.ref l), some y, some (.int (k : Nat)), none] H3 _) H3 (Ex.refl _) _ fun c H4 hc e4 h4 => ⟨c, _, rfl, .inl ⟨sq_of h4, fun c2 hc2 => ?_⟩⟩
  · rw [← cut_drop]
    exact el_slL (ev_var (i := 1) rfl) (sq_of h3) (eo_some (ev_var (i := 3) rfl)) eo_none
  · rw [← cut_take]
    exact el_slL (ev_var (i := 1) rfl) (sq_of h3) eo_none (eo_some (ev_var (i := 3) rfl))
  refine ⟨y, rfl, show 2 ≤ sizeLine by decide, fun c3 hc3 => ?_⟩
  have p4 := p3.keep e4
  have p5 := p4.keep (Ex.new (o := .tup ([nmV n0, nmV n1, nmV n2].drop k ++ [nmV n0, nmV n1, nmV n2].take k)) hc2)
  obtain ⟨ms, em, mm, ml, mok⟩ : ∃ ms : List Nm, [nmV n0, nmV n1, nmV n2].drop k ++ [nmV n0, nmV n1, nmV n2].take k = ms.map nmV ∧ (∀ x, x ∈ [n0, n1, n2] → x ∈ ms) ∧ ms.length = 3 ∧ NamesOk ms := by
    refine ⟨[n0, n1, n2].drop k ++ [n0, n1, n2].take k, by simp, fun x hx => ?_, by simp; omega, ?_⟩
    · rw [← List.take_append_drop k [n0, n1, n2]] at hx
      rcases List.mem_append.mp hx with h | h
      · exact List.mem_append_right _ h
      · exact List.mem_append_left _ h
    · have pm : ([n0, n1, n2].drop k ++ [n0, n1, n2].take k).Perm [n0, n1, n2] := by
        have z := (List.perm_append_comm (l₁ := [n0, n1, n2].drop k) (l₂ := [n0, n1, n2].take k))
        rwa [List.take_append_drop] at z
      exact ⟨fun e => by have := pm.length_eq; rw [e] at this; simp at this, by rw [pm.length_eq]; simp, pm.nodup_iff.mpr okn.nd, fun n hn => okn.ok n (pm.mem_iff.mp hn)⟩
  rw [em] at hc3 ⊢
  have g : Ex (less a H2) (less a (upd (upd H4 c2 (.tup (ms.map nmV))) c3 (.tup [.ref c2, y]))) := ex_less less_at ((((e3.trans e4).trans (Ex.new hc2))).trans (Ex.new hc3))
  have ne23 : c2 ≠ c3 := fun w => by rw [← w, upd_same] at hc3; cases hc3
  rw [em] at p5
  refine q (.ref c3) ms rs _ mok ml (rulesOk_mems okr mm) ⟨c3, c2, y, rfl, .inl (.inl ?_), .inl (.inl ?_), Da.mono g dy⟩ ((((ex_less less_at x2).trans e3).trans e4).trans ((Ex.new hc2).trans (Ex.new hc3))) (p5.keep (Ex.new hc3))
  · rw [less_ne (p5.ne hc3), upd_same]
  · rw [less_ne (p4.ne hc2), upd_ne ne23, upd_same]
end
end K62
set_option Elab.async false
set_option linter.all false
set_option maxRecDepth 100000
set_option maxHeartbeats 4000000
namespace K62
open PySem PySem.Spec PyProof.Rows L2 Evl SwX
section
variable {P : Program} {w : World} {K : PySem.W.Frag} {mg : Str → Option Value} {base : Heap} {f : Addr} {fd : FuncData}
theorem headL_eq {ns : List Nm} (h : ns ≠ []) : kindsL ++ [32] ++ TL.joinL [32] ns = headL ns := by
  cases ns with
  | nil => exact absurd rfl h
  | cons x l => unfold headL; rw [show TL.joinL [32] (kindsL :: x :: l) = kindsL ++ ([32] ++ TL.joinL [32] (x :: l)) from rfl, List.append_assoc]
def spText (K : PySem.W.Frag) : Sp := fun vs H Q _ => ∃ (v : V) (ns : List Nm) (rs : List Rul), vs = [v] ∧ MineAt K ns rs v H ∧ NamesOk ns ∧ RulesOk ns rs ∧ ∀ H', Ex H H' → Q (.str (SX.S (textL ns rs))) H'
abbrev s__law_text : Stmt := top 51
abbrev sc__law_text_N : List Str := ["_law_mine", "_law_lines", "_law_kind", "_law_own", "_law_parts"]
theorem sc__law_text : FnScope sc__law_text_N ["_law_mine"] (defScope s__law_text) := ⟨rfl, rfl, rfl, by decide +kernel, rfl, by decide +kernel, by decide +kernel⟩
theorem ok_ltext (F : FnP K "_law_text" s__law_text f fd) (m_str : mg "str" = none) : FnOk P w K mg base CX0 1 f fd ["_law_mine"] (spText K) := by
  refine F.ok sc__law_text (fun vs H Q E h => by obtain ⟨v, ns, rs, rfl, _⟩ := h; rfl) (fun cdv A outer s H vs Q E hr h => ⟨_, PSs.nox
    (pss_cons (ps_set (i := 1) sc__law_text.nd rfl (Or.inl rfl) (pe_lst (pa_cons (pe_op (addK K) pe_str (pe_join pe_str (pe_ix (ixK K) (pv 0) pe_int (fun _ _ => rfl)))) pa_nil))) (pss_cons (ps_for PassesOwn.never rfl (pi_tup (pe_ix (ixK K) (pv 0) pe_int (fun _ _ => rfl))) (pg_tup rfl (pgs_cons (pg_name (i := 2) sc__law_text.nd rfl (Or.inl rfl)) (pgs_cons (pg_name (i := 3) sc__law_text.nd rfl (Or.inl rfl)) (pgs_cons (pg_name (i := 4) sc__law_text.nd rfl (Or.inl rfl)) pgs_nil)))) (pss_one (ps_expr (pe_bm PySem.F.plainAttrs_list PySem.F.slot_list_append PySem.F.type_list_append mt_append (pv 1) (pa_cons (pe_op (addK K) (pe_op (addK K) (pe_op (addK K) (pv 2) pe_str) (pe_callTy call_strY (by rfl) m_str (by decide +kernel) (pa_cons (pv 3) pa_nil))) (pe_ifExp (pt_cmpR (neK K hr) (pv 4) (pe_tup pa_nil) (nomark _)) (pe_op (addK K) pe_str (pe_join pe_str (pv 4))) pe_str)) pa_nil))))) (pss_one (ps_ret (pe_join pe_str (pv 1)))))), ?_⟩)
  obtain ⟨v, ns, rs, rfl, ⟨p, q0, y, rfl, hp, hq0, hx⟩, okn', okr', q⟩ := h
  obtain ⟨q1, xs, rfl, hq, pr⟩ := da_ruls rs hx
  have okn := okn'.ok
  have ln : ns.length ≤ 10 := by have := okn'.len; omega
  have lr : rs.length ≤ 20 := by have := okr'.len; omega
  have okr : ∀ r ∈ rs, RulNm r ∧ r.2.1 ≤ 9 ∧ r.2.2.length ≤ 10 := fun r hr => ⟨(okr'.ok r hr).nm okn, (okr'.ok r hr).hi, by have := (okr'.ok r hr).len; omega⟩
  have s1 : ("kinds " : Str) = SX.S (kindsL ++ [32]) := by decide +kernel
  have s2 : (" " : Str) = SX.S [32] := by decide +kernel
  have s3 : (": " : Str) = SX.S [58, 32] := by decide +kernel
  have s4 : ("" : Str) = SX.S [] := by decide +kernel
  have s5 : ("\n" : Str) = SX.S [10] := by decide +kernel
  rw [s1, s2, s3, s4, s5]
  have hl8 := head_len okn ln
  refine q_asgL (xs := [.str (SX.S (headL ns))]) (el_lst (ea_cons ?_ ea_nil) (by simp)) fun l H1 n1 e1 h1 => ?_
  · rw [← headL_eq okn'.ne]
    refine ev_op ev_c (ev_joinS (l := ns) (B := 8) ev_c (ev_op (ev_var rfl) ev_c (rv_ixTn (i := 0) (v := .ref q0) hp rfl)) (.inr (by rw [← S_map]; exact hq0)) (fun u hu => (okn u hu).len) ⟨by decide, by omega, by decide⟩) (rv_addS ?_)
    have z := headL_eq okn'.ne
    have z2 := congrArg List.length z
    simp only [List.length_append] at z2 ⊢
    omega
  refine ⟨.ref p, rfl, ?_⟩
  refine (rv_ixTn (K := K) (i := 1) (v := .ref q1) hp rfl : RV _ _ _ H _) H1 e1 _ fun H2 e2 => ?_
  refine ⟨q1, rfl, ⟨xs, ex_t (e1.trans e2) hq⟩, for_tup (xs := xs) (fun i σ' H' => ∃ (a3 a4 a5 : Option V), σ' = [some (.ref p), some (.ref l), a3, a4, a5] ∧ H' l = some (.lst (((headL ns :: (rs.map rowL).take i).map SX.S).map V.str)) ∧ Ex H H') ⟨_, _, _, rfl, by simpa using e2 _ _ h1, e1.trans e2⟩ (fun i σ' H' _ z => ?_) (fun i y σ' H' hy z => ?_) fun σ' H' z => ?_⟩
  · obtain ⟨_, _, _, _, _, e⟩ := z
    exact ex_t e hq
  · obtain ⟨a3, a4, a5, rfl, hl, e⟩ := z
    have lt : i < rs.length := by
      have := (List.getElem?_eq_some_iff.mp hy).1
      rw [← paired_len pr] at this
      exact this
    have at_ : rs[i]? = some rs[i] := by simp [lt]
    obtain ⟨y', hy', dy⟩ := SwX.paired_get pr at_
    rw [hy] at hy'
    cases hy'
    obtain ⟨okr1, okr2, okr3⟩ := okr rs[i] (List.getElem_mem lt)
    generalize hr' : rs[i] = r at dy okr1 okr2 okr3
    obtain ⟨b, c, rfl, hb, hc⟩ := da_rul (dy.mono e)
    refine ⟨b, _, rfl, hb, rfl, _, _, rfl, _, _, rfl, _, _, rfl, rfl, ?_⟩
    refine s_app hl (ev_var rfl) (v := .str (SX.S (rowL r))) ?_ (by simp; omega) fun H2 e2 => ⟨_, _, _, rfl, ?_, ?_⟩
    · refine ev_is (ev_op (ev_op (ev_op (ev_var rfl) ev_c (rv_addS (by have := okr1.1.len; simp; omega))) (ev_strI (ev_var rfl) (by omega)) (rv_addS (by have := okr1.1.len; have := TL.numL_len (n := r.2.1) (k := 1) (by decide) (by omega); simp only [List.length_append, List.length_cons, List.length_nil]; omega))) (ev_tail rfl hc okr1.2 okr3) (rv_addS (by have := okr1.1.len; have := tail_len okr1.2 okr3; have := TL.numL_len (n := r.2.1) (k := 1) (by decide) (by omega); simp only [List.length_append, List.length_cons, List.length_nil]; omega))) (by rw [row_eq])
    · rw [upd_same, List.take_succ, List.getElem?_map, at_, hr']
      simp
    · intro b' o' hb'
      by_cases z : b' = l
      · subst z
        rw [n1] at hb'
        cases hb'
      · rw [upd_ne z]
        exact e2 _ _ (e _ _ hb')
  · obtain ⟨a3, a4, a5, rfl, hl, e⟩ := z
    rw [← paired_len pr, show (rs.map rowL).take rs.length = rs.map rowL from List.take_of_length_le (by simp)] at hl
    refine s_ret (ev_joinS (B := 150) ev_c (ev_var rfl) (.inl (sq_of hl)) (fun z hz => ?_) ⟨by decide, by simp; omega, by decide⟩) fun H3 e3 => q H3 (e.trans e3)
    rcases List.mem_cons.mp hz with rfl | hz
    · exact head_len okn ln
    · obtain ⟨r, hr2, rfl⟩ := List.mem_map.mp hz
      obtain ⟨a, b, c⟩ := okr r hr2
      exact row_len a b c
end
end K62
set_option Elab.async false
set_option linter.all false
set_option maxRecDepth 100000
set_option maxHeartbeats 4000000
namespace K62
open PySem PySem.Spec PyProof.Rows L2 Evl SwX
section
variable {P : Program} {w : World} {K : PySem.W.Frag} {mg : Str → Option Value} {base : Heap} {f : Addr} {fd : FuncData}
abbrev s_is_integer : Stmt := top 10
abbrev sc_is_integer_N : List Str := ["value"]
theorem sc_is_integer : FnScope sc_is_integer_N ["value"] (defScope s_is_integer) := ⟨rfl, rfl, rfl, by decide +kernel, rfl, by decide +kernel, by decide +kernel⟩
theorem ok_is_integer (m_isinstance : mg "isinstance" = none) (m_int : mg "int" = none) (m_bool : mg "bool" = none) (F : FnP K "is_integer" s_is_integer f fd) : FnOk P w K mg base CX0 1 f fd ["value"] (spIsIntD K) := by
  refine F.ok sc_is_integer (fun vs H Q E h => by obtain ⟨v, D, rfl, _⟩ := h; rfl) (fun cdv A outer s H vs Q E hr h => ⟨_, PSs.nox
    (pss_one (ps_ret (pe_and (pe_callB (isiK K) (by rfl) m_isinstance (by decide +kernel) (pa_cons (pv 0) (pa_cons (pe_bty (n := "int") m_int) pa_nil))) (pe_one (pe_not (pe_callB (isiK K) (by rfl) m_isinstance (by decide +kernel) (pa_cons (pv 0) (pa_cons (pe_bty (n := "bool") m_bool) pa_nil)))))))), ?_⟩)
  obtain ⟨v, D, rfl, da, q⟩ := h
  exact s_ret (ev_andV (ev_isD (ev_var rfl) (fun H' e => da.mono e) (kit_int D)) fun _ => ev_notV (ev_isD (ev_var rfl) (fun H' e => da.mono e) (kit_bl D))) q
abbrev s_is_between : Stmt := top 11
abbrev sc_is_between_N : List Str := ["value", "low", "high"]
theorem sc_is_between : FnScope sc_is_between_N ["value", "low", "high"] (defScope s_is_between) := ⟨rfl, rfl, rfl, by decide +kernel, rfl, by decide +kernel, by decide +kernel⟩
theorem ok_is_between (D_is_integer : Has P w K mg base "is_integer" 1 ["value"] (spIsIntD K)) (F : FnP K "is_between" s_is_between f fd) : FnOk P w K mg base CX0 2 f fd ["value", "low", "high"] (spBtwO K) := by
  refine F.ok sc_is_between (fun vs H Q E h => by obtain ⟨v, D, lo, hi, rfl, _⟩ := h; rfl) (fun cdv A outer s H vs Q E hr h => ⟨_, PSs.nox
    (pss_one (ps_ret (pe_and (pe_has D_is_integer (hr.mono (by decide)) (pa_cons (pv 0) pa_nil)) (pe_and (pe_cmpR op_ge (pv 0) (pv 1) (nomark _)) (pe_one (pe_or (pe_cmpR op_isN (pv 2) pe_non (nomark _)) (pe_one (pe_cmpR op_le (pv 0) (pv 2) (nomark _))))))))), ?_⟩)
  obtain ⟨v, D, lo, hi, rfl, da, q⟩ := h
  have e1 : Ev (tCall (spIsIntD K) [] E0 (tCons (tVar 0) tNil)) [some v, some (.int lo), some (ov hi)] H (.bl (isInt D && !isBl D)) := ev_call (vs := [v]) (ea_cons (ev_var (i := 0) rfl) ea_nil) fun H1 e1 R k E' => ⟨v, D, rfl, da.mono e1, k⟩
  cases c : isInt D && !isBl D with
  | false =>
    rw [c] at e1
    rw [btwO_no c] at q
    exact s_ret (ev_andV (a := false) (b := false) e1 fun z => nomatch z) q
  | true =>
    rw [c] at e1
    obtain ⟨i, rfl⟩ := int_ofO c
    cases da
    cases hi with
    | none =>
      have e : (true && (decide (lo ≤ i) && (true || false))) = btwO lo none (.int i) := by simp [btwO]
      exact s_ret (ev_is (ev_andV (a := true) (b := decide (lo ≤ i) && (true || false)) e1 fun _ => ev_andV (ev_op (ev_var rfl) (ev_var rfl) rv_I0) fun _ => ev_orV (a := true) (b := false) (ev_op (ev_var rfl) ev_c rv_isN) fun z => nomatch z) (by rw [e])) q
    | some h =>
      have e : (true && (decide (lo ≤ i) && (false || decide (i ≤ h)))) = btwO lo (some h) (.int i) := by simp [btwO]
      exact s_ret (ev_is (ev_andV (a := true) (b := decide (lo ≤ i) && (false || decide (i ≤ h))) e1 fun _ => ev_andV (ev_op (ev_var rfl) (ev_var rfl) rv_I0) fun _ => ev_orV (a := false) (ev_op (ev_var rfl) ev_c rv_isN) fun _ => ev_op (ev_var rfl) (ev_var rfl) rv_I0) (by rw [e])) q
theorem in_letters {c : Nat} : c ∈ letL ↔ 97 ≤ c ∧ c ≤ 122 := by
  constructor
  · exact letL_ok c
  · intro h
    have : ∀ d, d < 26 → 97 + d ∈ letL := by decide
    have z := this (c - 97) (by omega)
    rwa [show 97 + (c - 97) = c by omega] at z
theorem in_digits {c : Nat} : c ∈ digL ↔ 48 ≤ c ∧ c ≤ 57 := by
  constructor
  · have : ∀ c ∈ digL, 48 ≤ c ∧ c ≤ 57 := by decide
    exact this c
  · intro h
    have : ∀ d, d < 10 → 48 + d ∈ digL := by decide
    have z := this (c - 48) (by omega)
    rwa [show 48 + (c - 48) = c by omega] at z
def spIsName : Sp := fun vs H Q _ => ∃ n : Nm, vs = [nmV n] ∧ NameOk n ∧ ∀ H', Ex H H' → Q (.bl true) H'
abbrev s_is_name : Stmt := top 12
abbrev sc_is_name_N : List Str := ["value", "sign"]
theorem sc_is_name : FnScope sc_is_name_N ["value"] (defScope s_is_name) := ⟨rfl, rfl, rfl, by decide +kernel, rfl, by decide +kernel, by decide +kernel⟩
theorem ok_is_name (m_isinstance : mg "isinstance" = none) (m_str : mg "str" = none) (m_len : mg "len" = none) (m_all : mg "all" = none) (g_LONGEST_NAME : ∃ t, mg "LONGEST_NAME" = some (.int 8 t)) (g_LETTERS : ∃ t, mg "LETTERS" = some (.str "abcdefghijklmnopqrstuvwxyz" t)) (g_DIGITS : ∃ t, mg "DIGITS" = some (.str "0123456789" t)) (F : FnP K "is_name" s_is_name f fd) : FnOk P w K mg base CX0 1 f fd ["value"] spIsName := by
  refine F.ok sc_is_name (fun vs H Q E h => by obtain ⟨n, rfl, _⟩ := h; rfl) (fun cdv A outer s H vs Q E hr h => ⟨_, PSs.nox
    (pss_cons (ps_if (pw_or (pt_not (pt_val (pe_callB (isiK K) (by rfl) m_isinstance (by decide +kernel) (pa_cons (pv 0) (pa_cons (pe_bty (n := "str") m_str) pa_nil))))) (pw_or (pt_not (pt_chain op_le op_le pe_int (pe_callB (lenK K) (by rfl) m_len (by decide +kernel) (pa_cons (pv 0) pa_nil)) (pe_gint g_LONGEST_NAME))) (pw_or1 (pt_cmpR (niK K hr) (pe_ix (ixK K) (pv 0) pe_int (fun _ _ => rfl)) (pe_gstr g_LETTERS) rfl)))).pt (pss_one (ps_ret pe_bl)) pss_nil) (pss_one (ps_ret (pe_callB (cr_all rfl) (by rfl) m_all (by decide +kernel) (pa_cons (pe_lc (own := [("sign", 1)]) (g := gName 1) (tt := tYes) rfl sc_is_name.nd (pi_str (pv 0)) (blkOk_by (N := sc_is_name_N) (sc := defScope s_is_name) (by decide +kernel)) (fun _ _ _ _ _ => pg_name (i := 1) sc_is_name.nd rfl (Or.inl rfl)) (fun _ _ _ _ _ => pts_nil) (fun _ _ _ _ _ => (pe_or (pe_cmpR (inK K hr) (pv 1) (pe_gstr g_LETTERS) rfl) (pe_one (pe_cmpR (inK K hr) (pv 1) (pe_gstr g_DIGITS) rfl))))) pa_nil))))), ?_⟩)
  obtain ⟨n, rfl, ok, q⟩ := h
  have e1 : ("abcdefghijklmnopqrstuvwxyz" : Str) = SX.S letL := by decide +kernel
  have e2 : ("0123456789" : Str) = SX.S digL := by decide +kernel
  rw [e1, e2]
  obtain ⟨c, r, rfl, c0, c1⟩ := ok.hd
  have len := ok.len
  have pos : 1 ≤ (c :: r).length := by simp
  refine q_when (b := false) (et_is (et_or (a := false) (b := false) (et_not (a := true) (et_B (ev_isi (T := "str") (ev_var rfl) (fun _ _ => .base (.str _)) (by decide +kernel)))) fun _ => et_is (et_or (a := false) (b := false) (et_not (a := true) (et_B (ev_is (ev_chainI (f := fun a b => decide (a ≤ b)) (g := fun a b => decide (a ≤ b)) ev_c (ev_lenS (ev_var rfl) (by omega)) ev_c) (by
    rw [decide_eq_true (show (1 : Int) ≤ ((c :: r).length : Int) by omega), decide_eq_true (show ((c :: r).length : Int) ≤ 8 by omega)]
    rfl)))) fun _ => et_B (ev_op (ev_var rfl) ev_c (rv_ixZ (i := 0) rfl (by omega)) |> fun z => ev_op z ev_c (rv_signNi (b := true) (decide_eq_true (in_letters.mpr ⟨c0, c1⟩))))) rfl) rfl) (fun z => nomatch z) fun _ H1 g1 => ?_
  refine s_ret (ev_allG (n := (c :: r).length) (el_lcZ (fun _ => .bl true) (ev_var rfl) (by omega) (fun _ => rfl) fun i d H2 g2 hd => ?_)) fun H2 g2 => q H2 (g1.trans g2)
  have sg := ok.sg d (List.mem_of_getElem? hd)
  by_cases lt : 97 ≤ d ∧ d ≤ 122
  · exact ev_orV (a := true) (b := false) (ev_op (ev_var rfl) ev_c (rv_signIn (decide_eq_true (in_letters.mpr lt)))) (fun z => nomatch z)
  · refine ev_orV (a := false) (b := true) (ev_op (ev_var rfl) ev_c (rv_signIn (decide_eq_false fun z => lt (in_letters.mp z)))) fun _ => ev_op (ev_var rfl) ev_c (rv_signIn (decide_eq_true (in_digits.mpr ?_)))
    rcases sg with z | z
    · exact absurd z lt
    · exact z
def spNumber : Sp := fun vs H Q _ => ∃ o : Nat, vs = [.str (SX.S (TL.numL o))] ∧ 1 ≤ o ∧ o ≤ 9 ∧ ∀ H', Ex H H' → Q (.int (o : Int)) H'
theorem str_one {a b : Nat} : decide (V.str (SX.S [a]) = V.str (SX.S [b])) = decide (a = b) := by
  rw [Bool.eq_iff_iff]
  simp only [decide_eq_true_eq]
  exact ⟨fun h => by injection h with h; exact List.head_eq_of_cons_eq (SX.S_inj h), fun h => by rw [h]⟩
abbrev s_number_of : Stmt := top 13
abbrev sc_number_of_N : List Str := ["word", "sign"]
theorem sc_number_of : FnScope sc_number_of_N ["word"] (defScope s_number_of) := ⟨rfl, rfl, rfl, by decide +kernel, rfl, by decide +kernel, by decide +kernel⟩
theorem ok_number_of (m_len : mg "len" = none) (m_all : mg "all" = none) (m_int : mg "int" = none) (g_DIGITS : ∃ t, mg "DIGITS" = some (.str "0123456789" t)) (F : FnP K "number_of" s_number_of f fd) : FnOk P w K mg base CX0 1 f fd ["word"] spNumber := by
  refine F.ok sc_number_of (fun vs H Q E h => by obtain ⟨o, rfl, _⟩ := h; rfl) (fun cdv A outer s H vs Q E hr h => ⟨_, PSs.nox
    (pss_cons (ps_if (pw_or (pt_cmpR (eqK K hr) (pv 0) pe_str (nomark _)) (pw_or (pt_cmpR op_gt (pe_callB (lenK K) (by rfl) m_len (by decide +kernel) (pa_cons (pv 0) pa_nil)) pe_int (nomark _)) (pw_or1 (pt_not (pt_val (pe_callB (cr_all rfl) (by rfl) m_all (by decide +kernel) (pa_cons (pe_lc (own := [("sign", 1)]) (g := gName 1) (tt := tYes) rfl sc_number_of.nd (pi_str (pv 0)) (blkOk_by (N := sc_number_of_N) (sc := defScope s_number_of) (by decide +kernel)) (fun _ _ _ _ _ => pg_name (i := 1) sc_number_of.nd rfl (Or.inl rfl)) (fun _ _ _ _ _ => pts_nil) (fun _ _ _ _ _ => (pe_cmpR (inK K hr) (pv 1) (pe_gstr g_DIGITS) rfl))) pa_nil))))))).pt (pss_one (ps_ret pe_non)) pss_nil) (pss_one (ps_ret (pe_ifExp (pw_or (pt_cmpR (eqK K hr) (pv 0) pe_str (nomark _)) (pw_or1 (pt_cmpR (neK K hr) (pe_ix (ixK K) (pv 0) pe_int (fun _ _ => rfl)) pe_str (nomark _)))).pt (pe_callTy call_int_str (by rfl) m_int (by decide +kernel) (pa_cons (pv 0) pa_nil)) pe_non)))), ?_⟩)
  obtain ⟨o, rfl, o1, o9, q⟩ := h
  have e2 : ("0123456789" : Str) = SX.S digL := by decide +kernel
  have e3 : ("" : Str) = SX.S [] := by decide +kernel
  have e4 : ("0" : Str) = SX.S [48] := by decide +kernel
  have num : TL.numL o = [48 + o] := TL.numL_lt (by omega)
  have val : PySem.intText? (SX.S (TL.numL o)) = some (o : Int) := by
    rw [← numS]
    exact TL.int_num (by rw [num]; simp)
  rw [num] at val ⊢
  rw [e2, e3, e4]
  have ne : ∀ x : V, x = .str (SX.S [48 + o]) → decide (x = V.str (SX.S [])) = false := fun x hx => decide_eq_false fun z => by
    rw [hx] at z
    injection z with z
    exact List.cons_ne_nil _ _ (SX.S_inj z)
  have d0 : decide (V.str (SX.S [48 + o]) = V.str (SX.S [48])) = false := by
    rw [str_one]
    exact decide_eq_false (by omega)
  refine q_when (b := false) (et_is (et_or (a := false) (b := false) (et_is (et_B (ev_op (ev_var rfl) ev_c (rv_l (rv_eq rfl)))) (ne _ rfl)) fun _ => et_is (et_or (a := false) (b := false) (et_B (ev_op (ev_lenS (ev_var rfl) (by simp)) ev_c rv_I0)) fun _ => et_not (a := true) (et_B (ev_allG (n := ([48 + o] : List Nat).length) (el_lcZ (fun _ => .bl true) (ev_var rfl) (by simp) (fun _ => rfl) fun i d H2 g2 hd => ev_op (ev_var rfl) ev_c (rv_signIn (decide_eq_true (in_digits.mpr ?_))))))) rfl) rfl) (fun z => nomatch z) fun _ H1 e1 => ?_
  · have := List.mem_of_getElem? hd
    rw [List.mem_singleton.mp this]
    omega
  · refine s_ret (ev_if (b := true) (et_is (et_or (a := false) (b := true) (et_is (et_B (ev_op (ev_var rfl) ev_c (rv_l (rv_eq rfl)))) d0) fun _ => et_B (ev_is (ev_op (ev_op (ev_var rfl) ev_c (rv_ixZ (i := 0) (c := 48 + o) rfl (by simp))) ev_c (rv_l (rv_ne rfl))) (by rw [show (V.str ⟨#[48 + o]⟩) = V.str (SX.S [48 + o]) from rfl, d0]; rfl))) rfl) (fun _ => ev_cb (ea_cons (ev_var rfl) ea_nil) fun H2 _ R k => ⟨_, o, rfl, val, by rw [SX.S_len]; simp, k H2 (Ex.refl H2)⟩) (fun z => nomatch z)) fun H2 e2 => q H2 (e1.trans e2)
end
end K62
set_option Elab.async false
set_option linter.all false
set_option maxRecDepth 100000
set_option maxHeartbeats 4000000
namespace K62
open PySem PySem.Spec PyProof.Rows L2 Evl SwX
section
variable {P : Program} {w : World} {K : PySem.W.Frag} {mg : Str → Option Value} {base : Heap} {f : Addr} {fd : FuncData}
/-- the words of a row -/
def wordsL (r : Rul) : List (List Nat) := r.1 :: (TL.numL r.2.1 ++ if r.2.2 = [] then [] else [58]) :: r.2.2
theorem row_words (r : Rul) : rowL r = TL.joinL [32] (wordsL r) := by
  obtain ⟨k, o, ps⟩ := r
  unfold rowL wordsL tailL
  cases ps with
  | nil => rw [if_pos rfl, if_pos rfl]; rfl
  | cons p l =>
    rw [if_neg (by simp), if_neg (by simp)]
    show k ++ ([32] ++ (TL.numL o ++ ([58, 32] ++ TL.joinL [32] (p :: l)))) = k ++ ([32] ++ ((TL.numL o ++ [58]) ++ ([32] ++ TL.joinL [32] (p :: l))))
    simp
theorem ends_col (l : List Nat) : Txt.endswith (SX.S (l ++ [58])) (SX.S [58]) = true := by
  simp [Txt.endswith, SX.S, Str.length, Builtin.Str.subAt]
theorem ev_ends {σ : L2.St} {H : Hp} {ta tb : TE} {l : List Nat} (ha : Ev ta σ H (.str (SX.S (l ++ [58])))) (hb : Ev tb σ H (.str (SX.S [58]))) : Ev (tM1 (fun x xs H Q => ∃ a b, x = .str a ∧ xs = [.str b] ∧ Q (.bl (Txt.endswith a b)) H) ta tb) σ H (.bl true) := fun H1 e1 Q q =>
  ha H1 e1 _ fun H2 e2 => ⟨⟨_, rfl⟩, hb H2 (e1.trans e2) _ fun H3 e3 => ⟨_, _, rfl, rfl, by rw [ends_col]; exact q H3 (e2.trans e3)⟩⟩
theorem cut_last (l : List Nat) (c : Nat) : cutS (SX.S (l ++ [c])) none (some (-1)) = SX.S l := by
  have e : HT.sIx (SX.S (l ++ [c])).length (SX.S (l ++ [c])).length (some (-1)) = l.length := by
    show (if ((-1 : Int) < 0) then (-1 + (((SX.S (l ++ [c])).length : Nat) : Int)).toNat else min (-1 : Int).toNat (SX.S (l ++ [c])).length) = l.length
    rw [if_pos (by decide), SX.S_len, List.length_append, List.length_singleton]
    omega
  unfold cutS
  rw [e, HT.sIx_none]
  simp [SX.S]
theorem ev_cutL {σ : L2.St} {H : Hp} {ta : TE} {l : List Nat} {c : Nat} (ha : Ev ta σ H (.str (SX.S (l ++ [c])))) (hl : l.length ≤ 1000) : Ev (tSl (rSlY K) ta tNoPart (tPart (tUn (rU fun i => .int (-i)) (tC (.int 1))))) σ H (.str (SX.S l)) := fun H1 e1 Q q => by
  refine ha H1 e1 _ fun H2 e2 => ?_
  show tPart _ σ H2 fun u H3 => rSlY K (.str (SX.S (l ++ [c]))) none u H3 Q
  exact (eo_some (ev_un ev_c ru_neg) : EvO _ σ H2 (some (-1))) H2 (Ex.refl _) _ fun H3 e3 => .inr (.inr ⟨_, rfl, by rw [SX.S_len]; exact sz_of (by simp; omega), by rw [cut_last]; exact q H3 (e2.trans e3)⟩)
theorem ea_starL {σ : L2.St} {H : Hp} {te : TE} {tr : TA} {xs vs : List V} (h : EvL te σ H xs) (hr : EvA tr σ H vs) : EvA (StX.tStar K te tr) σ H (xs ++ vs) := fun H1 e1 Q q =>
  h H1 e1 _ fun p H2 _ e2 hp => ⟨p, xs, rfl, .inr (sq_of hp), hr H2 (e1.trans e2) _ fun H3 e3 => q H3 (e2.trans e3)⟩
def rcK (r : Rul) : RcK := (SX.S r.1, (r.2.1 : Int), r.2.2.map SX.S)
theorem rcK_inj {r s : Rul} (h : rcK r = rcK s) : r = s := by
  obtain ⟨a, b, c⟩ := r
  obtain ⟨a', b', c'⟩ := s
  simp only [rcK, Prod.mk.injEq] at h
  obtain ⟨h1, h2, h3⟩ := h
  have e1 := SX.S_inj h1
  have e3 : c = c' := by
    have z := congrArg (List.map fun x : Str => x.cps.toList) h3
    simpa [List.map_map, SX.S, Function.comp_def] using z
  rw [e1, e3, show b = b' by omega]
theorem RcAt.mono {H H' : Hp} {z : RcK} {v : V} (e : Ex H H') (h : RcAt K H z v) : RcAt K H' z v := by
  obtain ⟨a, b, rfl, h1, h2⟩ := h
  exact ⟨a, b, rfl, ex_t e h1, ex_t e h2⟩
theorem rc_da {H : Hp} {r : Rul} {v : V} (h : RcAt K H (rcK r) v) : Da K H v (rulD r) := by
  obtain ⟨a, b, rfl, h1, h2⟩ := h
  refine da_tuple h1 (.cons (.str _) (.cons (.int _) (.cons (da_nms (ns := r.2.2) ?_) .nil)))
  have e : (rcK r).2.2.map V.str = r.2.2.map nmV := by simp [rcK, nmV]
  rw [← e]
  exact h2
def spToldR (K : PySem.W.Frag) : Sp := fun vs H Q _ => ∃ (r : Rul) (p : Addr) (ns : List Nm), vs = [.str (SX.S (rowL r)), .ref p] ∧ SqT K H p (ns.map nmV) ∧ (∀ n ∈ ns, NameOk n) ∧ RulOk ns r ∧ ∀ q H', Ex H H' → (∀ a, H a ≠ none → RcAt K (less a H') (rcK r) (.ref q)) → Q (.ref q) H'
abbrev s_told_recipe : Stmt := top 25
abbrev sc_told_recipe_N : List Str := ["line", "kinds", "words", "mark", "own", "word"]
theorem sc_told_recipe : FnScope sc_told_recipe_N ["line", "kinds"] (defScope s_told_recipe) := ⟨rfl, rfl, rfl, by decide +kernel, rfl, by decide +kernel, by decide +kernel⟩
theorem ok_told_recipe (m_len : mg "len" = none) (m_all : mg "all" = none) (m_tuple : mg "tuple" = none) (g_MOST_PARTS : ∃ t, mg "MOST_PARTS" = some (.int 3 t)) (g_MOST_OWN : ∃ t, mg "MOST_OWN" = some (.int 9 t)) (D_number_of : Has P w K mg base "number_of" 1 ["word"] spNumber) (D_is_between : Has P w K mg base "is_between" 2 ["value", "low", "high"] (spBtwO K)) (F : FnP K "told_recipe" s_told_recipe f fd) : FnOk P w K mg base CX0 3 f fd ["line", "kinds"] (spToldR K) := by
  refine F.ok sc_told_recipe (fun vs H Q E h => by obtain ⟨r, p, ns, rfl, _⟩ := h; rfl) (fun cdv A outer s H vs Q E hr h => ⟨_, PSs.nox
    (pss_cons (ps_set (i := 2) sc_told_recipe.nd rfl (Or.inl rfl) (pe_split (pv 0) pe_str)) (pss_cons (ps_if (pt_not (pt_chain op_le op_le pe_int (pe_callB (lenK K) (by rfl) m_len (by decide +kernel) (pa_cons (pv 2) pa_nil)) (pe_op (addK K) pe_int (pe_gint g_MOST_PARTS)))) (pss_one (ps_ret pe_non)) pss_nil) (pss_cons (ps_set (i := 3) sc_told_recipe.nd rfl (Or.inl rfl) (pe_ix (ixK K) (pv 2) pe_int (fun _ _ => rfl))) (pss_cons (ps_if (pt_cmpR op_gt (pe_callB (lenK K) (by rfl) m_len (by decide +kernel) (pa_cons (pv 2) pa_nil)) pe_int (nomark _)) (pss_cons (ps_if (pt_not (pt_val (pe_m1 PySem.F.slot_str_endswith PySem.F.type_str_endswith mt_endswith (pv 3) pe_str))) (pss_one (ps_ret pe_non)) pss_nil) (pss_one (ps_set (i := 3) sc_told_recipe.nd rfl (Or.inl rfl) (pe_slice (slK K) (pv 3) po_none (po_some (pe_un un_neg pe_int)))))) pss_nil) (pss_cons (ps_set (i := 4) sc_told_recipe.nd rfl (Or.inl rfl) (pe_has D_number_of (hr.mono (by decide)) (pa_cons (pv 3) pa_nil))) (pss_cons (ps_if (pt_not (pt_val (pe_has D_is_between (hr.mono (by decide)) (pa_cons (pv 4) (pa_cons pe_int (pa_cons (pe_gint g_MOST_OWN) pa_nil)))))) (pss_one (ps_ret pe_non)) pss_nil) (pss_cons (ps_if (pt_not (pt_val (pe_callB (cr_all rfl) (by rfl) m_all (by decide +kernel) (pa_cons (pe_lc (own := [("word", 5)]) (g := gName 5) (tt := tYes) rfl sc_told_recipe.nd (pi_list (pe_lst (pa_cons (pe_ix (ixK K) (pv 2) pe_int (fun _ _ => rfl)) (StX.pa_star (pe_slice (slK K) (pv 2) (po_some pe_int) po_none) pa_nil)))) (blkOk_by (N := sc_told_recipe_N) (sc := defScope s_told_recipe) (by decide +kernel)) (fun _ _ _ _ _ => pg_name (i := 5) sc_told_recipe.nd rfl (Or.inl rfl)) (fun _ _ _ _ _ => pts_nil) (fun _ _ _ _ _ => (pe_cmpR (inK K hr) (pv 5) (pv 1) rfl))) pa_nil)))) (pss_one (ps_ret pe_non)) pss_nil) (pss_one (ps_ret (pe_tup (pa_cons (pe_ix (ixK K) (pv 2) pe_int (fun _ _ => rfl)) (pa_cons (pv 4) (pa_cons (pe_callTy call_tuple_of (by rfl) m_tuple (by decide +kernel) (pa_cons (pe_slice (slK K) (pv 2) (po_some pe_int) po_none) pa_nil)) pa_nil))))))))))))), ?_⟩)
  obtain ⟨r, p, ns, rfl, hp, okn, okr, q⟩ := h
  have nm := okr.nm okn
  obtain ⟨k, o, ps⟩ := r
  have o1 : 1 ≤ o := okr.lo
  have o9 : o ≤ 9 := okr.hi
  have l3 : ps.length ≤ 3 := okr.len
  have num : TL.numL o = [48 + o] := numL_one (by omega)
  have s2 : (" " : Str) = SX.S [32] := by decide +kernel
  have s3 : (":" : Str) = SX.S [58] := by decide +kernel
  rw [s2, s3, row_words]
  have wl : (wordsL (k, o, ps)).length = 2 + ps.length := by unfold wordsL; simp; omega
  have free : ∀ x ∈ wordsL (k, o, ps), 32 ∉ x := fun x hx => by
    unfold wordsL at hx
    rcases List.mem_cons.mp hx with rfl | hx
    · exact sign_no nm.1 (.inl (by decide))
    · rcases List.mem_cons.mp hx with rfl | hx
      · show 32 ∉ TL.numL o ++ _
        rw [num]
        intro z
        rcases List.mem_append.mp z with z | z
        · have := List.mem_singleton.mp z
          omega
        · split at z
          · cases z
          · simp at z
      · exact sign_no (nm.2 x hx) (.inl (by decide))
  have big : (TL.joinL [32] (wordsL (k, o, ps))).length ≤ 100000 := by
    have z := joinL_len (B := 10) (sep := [32]) (by decide) (l := wordsL (k, o, ps)) fun x hx => by
      unfold wordsL at hx
      rcases List.mem_cons.mp hx with rfl | hx
      · exact Nat.le_trans nm.1.len (by omega)
      · rcases List.mem_cons.mp hx with rfl | hx
        · show (TL.numL o ++ _).length ≤ 10
          rw [num]
          split <;> simp
        · exact Nat.le_trans (nm.2 x hx).len (by omega)
    rw [wl] at z
    have : (10 + 2) * (2 + ps.length) ≤ (10 + 2) * 5 := Nat.mul_le_mul_left _ (by omega)
    omega
  refine q_asgL (i := 2) (xs := ((wordsL (k, o, ps)).map SX.S).map V.str) (el_split (ev_var rfl) ev_c (by simp [wordsL]) free big (by decide)) fun l H1 n1 e1 h1 => ?_
  have lx : (((wordsL (k, o, ps)).map SX.S).map V.str).length = 2 + ps.length := by rw [List.length_map, List.length_map, wl]
  refine q_when (b := false) (et_is (et_not (a := true) (et_B (ev_is (ev_chainI (f := fun a b => decide (a ≤ b)) (g := fun a b => decide (a ≤ b)) ev_c (ev_lenL (ev_var (i := 2) rfl) (.inl (sq_of h1))) (ev_op ev_c ev_c rv_addI)) ?_))) rfl) (fun z => nomatch z) fun _ H2 e2 => ?_
  · rw [lx]
    rw [decide_eq_true (show (2 : Int) ≤ ((2 + ps.length : Nat) : Int) by omega), decide_eq_true (show ((2 + ps.length : Nat) : Int) ≤ 2 + 3 by omega)]
    rfl
  have h2 := e2 _ _ h1
  refine q_asg (i := 3) (v := .str (SX.S (TL.numL o ++ if ps = [] then [] else [58]))) (ev_op (ev_var (i := 2) rfl) ev_c (rv_ixLn (i := 1) (sq_of h2) rfl)) fun H3 e3 => ?_
  refine q_when (b := decide (2 < 2 + ps.length)) (et_is (et_B (ev_op (ev_lenL (ev_var (i := 2) rfl) (.inl (sq_of (e3 _ _ h2)))) ev_c rv_I0)) (by rw [lx, Bool.eq_iff_iff]; simp; omega)) (fun z H4 e4 => ?_) fun z H4 e4 => ?_
  · have np : ps ≠ [] := fun e => by rw [e] at z; simp at z
    rw [if_neg np]
    refine q_when (b := false) (et_is (et_not (a := true) (et_B (ev_ends (ev_var (i := 3) rfl) ev_c))) rfl) (fun z => nomatch z) fun _ H5 e5 => ?_
    refine s_asg (i := 3) (v := .str (SX.S (TL.numL o))) (ev_cutL (ev_var (i := 3) rfl) (by rw [num]; simp)) fun H6 e6 => ?_
    obtain ⟨x6, h6⟩ : Ex H H6 ∧ H6 l = some (.lst (((wordsL (k, o, ps)).map SX.S).map V.str)) := ⟨((((e1.trans e2).trans e3).trans e4).trans e5).trans e6, e6 _ _ (e5 _ _ (e4 _ _ (e3 _ _ h2)))⟩
    refine q_asg (i := 4) (v := .int (o : Int)) (ev_call (vs := [.str (SX.S (TL.numL o))]) (ea_cons (ev_var (i := 3) rfl) ea_nil) fun H7 e7 R k E' => ⟨o, rfl, o1, o9, k⟩) fun H7 e7 => ?_
    refine q_when (b := false) (et_is (et_not (a := true) (et_B (ev_is (ev_call (vs := [.int (o : Int), .int 1, .int 9]) (ea_cons (ev_var (i := 4) rfl) (ea_cons ev_c (ea_cons ev_c ea_nil))) fun H8 e8 R k E' => ⟨.int (o : Int), .int (o : Int), 1, some 9, rfl, .int _, k⟩) (by rw [show btwO 1 (some 9) (.int (o : Int)) = true by simp [btwO]; omega])))) rfl) (fun z => nomatch z) fun _ H8 e8 => ?_
    have h8 := e8 _ _ (e7 _ _ h6)
    have x8 := (x6.trans e7).trans e8
    have dr : (((wordsL (k, o, ps)).map SX.S).map V.str).drop 2 = ps.map nmV := by simp [wordsL, nmV]
    refine q_when (b := false) (et_is (et_not (a := true) (et_B (ev_allG (K := K) (el_lcNL (K := K) (xs := nmV k :: (ps.map nmV ++ [])) (fun _ => true) (fun _ => .bl true) (el_lst (ea_cons (ev_op (ev_var (i := 2) rfl) ev_c (rv_ixLn (i := 0) (sq_of h8) rfl)) (ea_starL (by rw [← dr, ← cut_drop]; exact el_slL (ev_var (i := 2) rfl) (sq_of h8) (eo_some ev_c) eo_none) ea_nil)) (by simp; omega)) (by simp; omega) (fun _ => rfl) (fun i x H9 e9 hx => et_yes) fun i x H9 e9 hx _ => ?_)))) rfl) (fun z => nomatch z) fun _ H9 e9 => ?_
    · rw [List.append_nil, ← List.map_cons (f := nmV) (a := k) (l := ps), List.getElem?_map] at hx
      obtain ⟨n, hn, rfl⟩ := Option.map_eq_some_iff.mp hx
      have nn : n ∈ ns := by
        rcases List.mem_cons.mp (List.mem_of_getElem? hn) with rfl | m
        · exact okr.wd
        · exact okr.pt n m
      exact ev_op (ev_var (i := 5) rfl) (ev_var (i := 1) rfl) (rv_inDat (d := nmD n) (c := nmsD ns) (.inr rfl) (.str _) (da_nms (ex_t (x8.trans e9) hp)) (pl_nm (okn n nn)) (pl_nms okn) (by rw [any_nm]; exact decide_eq_true nn))
    have h9 := e9 _ _ h8
    have x9 := x8.trans e9
    refine (ev_op (ev_var (i := 2) rfl) ev_c (rv_ixLn (i := 0) (sq_of h9) rfl) : Ev _ _ H9 (nmV k)) H9 (Ex.refl _) _ fun H10 e10 => ⟨.int (o : Int), rfl, ?_⟩
    refine ((el_slL (K := K) (lo := some ((2 : Nat) : Int)) (hi := none) (ev_var (i := 2) rfl) (sq_of h9) (eo_some ev_c) eo_none) : EvL _ _ H9 _) H10 e10 _ fun c H11 hc e11 h11 => ⟨c, _, rfl, .inl ⟨sq_of h11, fun b hb => ⟨show 3 ≤ sizeLine by decide, fun q0 hq0 => ?_⟩⟩⟩
    rw [cut_drop, dr] at hq0 ⊢
    have nb : b ≠ q0 := fun w => by rw [← w, upd_same] at hq0; cases hq0
    refine q q0 _ ((((x9.trans e10).trans e11).trans (Ex.new hb)).trans (Ex.new hq0)) fun a ha => ?_
    obtain ⟨oa, hoa⟩ : ∃ oa, H a = some oa := Option.ne_none_iff_exists'.mp ha
    have na : q0 ≠ a := fun w => by
      have z := (((x9.trans e10).trans e11).trans (Ex.new (o := .tup (ps.map nmV)) hb)) _ _ hoa
      rw [← w, hq0] at z
      cases z
    have nb2 : b ≠ a := fun w => by
      have z := ((x9.trans e10).trans e11) _ _ hoa
      rw [← w, hb] at z
      cases z
    refine ⟨q0, b, rfl, .inl (.inl (by rw [less_ne na, upd_same]; rfl)), .inl (.inl ?_)⟩
    rw [less_ne nb2, upd_ne nb, upd_same]
    simp [rcK, nmV]
  · have ep : ps = [] := by
      cases ps with
      | nil => rfl
      | cons x l => simp at z
    rw [if_pos ep, List.append_nil]
    obtain ⟨H6, hH6⟩ : ∃ H6, H6 = H4 := ⟨_, rfl⟩
    rw [← hH6]
    obtain ⟨x6, h6⟩ : Ex H H6 ∧ H6 l = some (.lst (((wordsL (k, o, ps)).map SX.S).map V.str)) := ⟨by rw [hH6]; exact ((e1.trans e2).trans e3).trans e4, by rw [hH6]; exact e4 _ _ (e3 _ _ h2)⟩
    refine q_asg (i := 4) (v := .int (o : Int)) (ev_call (vs := [.str (SX.S (TL.numL o))]) (ea_cons (ev_var (i := 3) rfl) ea_nil) fun H7 e7 R k E' => ⟨o, rfl, o1, o9, k⟩) fun H7 e7 => ?_
    refine q_when (b := false) (et_is (et_not (a := true) (et_B (ev_is (ev_call (vs := [.int (o : Int), .int 1, .int 9]) (ea_cons (ev_var (i := 4) rfl) (ea_cons ev_c (ea_cons ev_c ea_nil))) fun H8 e8 R k E' => ⟨.int (o : Int), .int (o : Int), 1, some 9, rfl, .int _, k⟩) (by rw [show btwO 1 (some 9) (.int (o : Int)) = true by simp [btwO]; omega])))) rfl) (fun z => nomatch z) fun _ H8 e8 => ?_
    have h8 := e8 _ _ (e7 _ _ h6)
    have x8 := (x6.trans e7).trans e8
    have dr : (((wordsL (k, o, ps)).map SX.S).map V.str).drop 2 = ps.map nmV := by simp [wordsL, nmV]
    refine q_when (b := false) (et_is (et_not (a := true) (et_B (ev_allG (K := K) (el_lcNL (K := K) (xs := nmV k :: (ps.map nmV ++ [])) (fun _ => true) (fun _ => .bl true) (el_lst (ea_cons (ev_op (ev_var (i := 2) rfl) ev_c (rv_ixLn (i := 0) (sq_of h8) rfl)) (ea_starL (by rw [← dr, ← cut_drop]; exact el_slL (ev_var (i := 2) rfl) (sq_of h8) (eo_some ev_c) eo_none) ea_nil)) (by simp; omega)) (by simp; omega) (fun _ => rfl) (fun i x H9 e9 hx => et_yes) fun i x H9 e9 hx _ => ?_)))) rfl) (fun z => nomatch z) fun _ H9 e9 => ?_
    · rw [List.append_nil, ← List.map_cons (f := nmV) (a := k) (l := ps), List.getElem?_map] at hx
      obtain ⟨n, hn, rfl⟩ := Option.map_eq_some_iff.mp hx
      have nn : n ∈ ns := by
        rcases List.mem_cons.mp (List.mem_of_getElem? hn) with rfl | m
        · exact okr.wd
        · exact okr.pt n m
      exact ev_op (ev_var (i := 5) rfl) (ev_var (i := 1) rfl) (rv_inDat (d := nmD n) (c := nmsD ns) (.inr rfl) (.str _) (da_nms (ex_t (x8.trans e9) hp)) (pl_nm (okn n nn)) (pl_nms okn) (by rw [any_nm]; exact decide_eq_true nn))
    have h9 := e9 _ _ h8
    have x9 := x8.trans e9
    refine (ev_op (ev_var (i := 2) rfl) ev_c (rv_ixLn (i := 0) (sq_of h9) rfl) : Ev _ _ H9 (nmV k)) H9 (Ex.refl _) _ fun H10 e10 => ⟨.int (o : Int), rfl, ?_⟩
    refine ((el_slL (K := K) (lo := some ((2 : Nat) : Int)) (hi := none) (ev_var (i := 2) rfl) (sq_of h9) (eo_some ev_c) eo_none) : EvL _ _ H9 _) H10 e10 _ fun c H11 hc e11 h11 => ⟨c, _, rfl, .inl ⟨sq_of h11, fun b hb => ⟨show 3 ≤ sizeLine by decide, fun q0 hq0 => ?_⟩⟩⟩
    rw [cut_drop, dr] at hq0 ⊢
    have nb : b ≠ q0 := fun w => by rw [← w, upd_same] at hq0; cases hq0
    refine q q0 _ ((((x9.trans e10).trans e11).trans (Ex.new hb)).trans (Ex.new hq0)) fun a ha => ?_
    obtain ⟨oa, hoa⟩ : ∃ oa, H a = some oa := Option.ne_none_iff_exists'.mp ha
    have na : q0 ≠ a := fun w => by
      have z := (((x9.trans e10).trans e11).trans (Ex.new (o := .tup (ps.map nmV)) hb)) _ _ hoa
      rw [← w, hq0] at z
      cases z
    have nb2 : b ≠ a := fun w => by
      have z := ((x9.trans e10).trans e11) _ _ hoa
      rw [← w, hb] at z
      cases z
    refine ⟨q0, b, rfl, .inl (.inl (by rw [less_ne na, upd_same]; rfl)), .inl (.inl ?_)⟩
    rw [less_ne nb2, upd_ne nb, upd_same]
    simp [rcK, nmV]
end
end K62
set_option Elab.async false
set_option linter.all false
set_option maxRecDepth 100000
set_option maxHeartbeats 4000000
namespace K62
open PySem PySem.Spec PyProof.Rows L2 Evl SwX
section
variable {P : Program} {w : World} {K : PySem.W.Frag} {mg : Str → Option Value} {base : Heap} {f : Addr} {fd : FuncData}
theorem cnt_nd {α : Type} {l : List α} {n : Nat} (h : Cnt l n) (nd : l.Nodup) : n = l.length := h.2.mpr nd
theorem ev_lenStr {σ : L2.St} {H : Hp} {te : TE} {p : Addr} {xs : List Str} (h : Ev te σ H (.ref p)) (hp : SqT K H p (xs.map V.str)) (nd : xs.Nodup) (l : xs.length ≤ 1000) : Ev (tCB rLenN (tCons (tCB (rSetStr K) (tCons te tNil)) tNil)) σ H (.int (xs.length : Nat)) := fun H1 e1 Q q =>
  h H1 e1 _ fun H2 e2 => ⟨p, xs, rfl, ex_t (e1.trans e2) hp, l, fun c n hc cn => ⟨c, n, rfl, upd_same, by rw [cnt_nd cn nd]; exact q _ (e2.trans (Ex.new hc))⟩⟩
theorem ev_lenRc {σ : L2.St} {H : Hp} {te : TE} {p : Addr} {us : List V} {zs : List RcK} (h : Ev te σ H (.ref p)) (hp : SqT K H p us) (pr : Paired (RcAt K H) zs us) (nd : zs.Nodup) (l : zs.length < 60) : Ev (tCB rLenN (tCons (tCB (rSetRc K) (tCons te tNil)) tNil)) σ H (.int (zs.length : Nat)) := fun H1 e1 Q q =>
  h H1 e1 _ fun H2 e2 => ⟨p, us, zs, rfl, ex_t (e1.trans e2) hp, paired_mono (F := fun (z : RcK) v H => RcAt K H z v) (e1.trans e2) (fun _ _ _ _ e h => RcAt.mono e h) pr, l, fun c n hc cn => ⟨c, n, rfl, upd_same, by rw [cnt_nd cn nd]; exact q _ (e2.trans (Ex.new hc))⟩⟩
theorem ev_chainE {σ : L2.St} {H : Hp} {ta tb tc : TE} {i j l : Int} {g : Int → Int → Bool} (ha : Ev ta σ H (.int i)) (hb : Ev tb σ H (.int j)) (hc : Ev tc σ H (.int l)) (e : i = j) : Ev (tChain rEq (rI0 fun a b => .bl (g a b)) ta tb tc) σ H (.bl (g j l)) := fun H1 e1 Q q =>
  ha H1 e1 _ fun H2 e2 => hb H2 (e1.trans e2) _ fun H3 e3 => ⟨rfl, by
    subst e
    rw [decide_eq_true rfl]
    exact ⟨true, rfl, hc H3 ((e1.trans e2).trans e3) _ fun H4 e4 => ⟨i, l, rfl, rfl, q H4 ((e2.trans e3).trans e4)⟩⟩⟩
theorem paired_map' {H : Hp} {rs : List Rul} {vs : List V} (h : Paired (fun (r : Rul) v => RcAt K H (rcK r) v) rs vs) : Paired (RcAt K H) (rs.map rcK) vs := by
  induction h with
  | nil => exact .nil
  | cons a _ ih => exact .cons a ih
theorem rls_da {H : Hp} {rs : List Rul} {vs : List V} (h : Paired (fun (r : Rul) v => RcAt K H (rcK r) v) rs vs) : Paired (fun d v => Da K H v d) (rs.map rulD) vs := by
  induction h with
  | nil => exact .nil
  | cons a _ ih => exact .cons (rc_da a) ih
theorem pl_noneD : Pl .none := ⟨rfl, shaped_of rfl (Nat.zero_le _)⟩
def spToldC (K : PySem.W.Frag) : Sp := fun vs H Q _ => ∃ (ns : List Nm) (rs : List Rul), vs = [.str (SX.S (textL ns rs))] ∧ NamesOk ns ∧ RulesOk ns rs ∧ ∀ v H', Ex H H' → MineAt K ns rs v H' → Q v H'
abbrev s_told_catalogue : Stmt := top 26
abbrev sc_told_catalogue_N : List Str := ["text", "lines", "words", "kinds", "recipes", "line", "kind"]
theorem sc_told_catalogue : FnScope sc_told_catalogue_N ["text"] (defScope s_told_catalogue) := ⟨rfl, rfl, rfl, by decide +kernel, rfl, by decide +kernel, by decide +kernel⟩
theorem ok_told_catalogue (m_isinstance : mg "isinstance" = none) (m_str : mg "str" = none) (m_tuple : mg "tuple" = none) (m_len : mg "len" = none) (m_all : mg "all" = none) (m_set : mg "set" = none) (g_MOST_KINDS : ∃ t, mg "MOST_KINDS" = some (.int 4 t)) (g_MOST_RECIPES : ∃ t, mg "MOST_RECIPES" = some (.int 10 t)) (D_is_name : Has P w K mg base "is_name" 1 ["value"] spIsName) (D_told_recipe : Has P w K mg base "told_recipe" 3 ["line", "kinds"] (spToldR K)) (F : FnP K "told_catalogue" s_told_catalogue f fd) : FnOk P w K mg base CX0 4 f fd ["text"] (spToldC K) := by
  refine F.ok sc_told_catalogue (fun vs H Q E h => by obtain ⟨ns, rs, rfl, _⟩ := h; rfl) (fun cdv A outer s H vs Q E hr h => ⟨_, PSs.nox
    (pss_cons (ps_if (pt_not (pt_val (pe_callB (isiK K) (by rfl) m_isinstance (by decide +kernel) (pa_cons (pv 0) (pa_cons (pe_bty (n := "str") m_str) pa_nil))))) (pss_one (ps_ret pe_non)) pss_nil) (pss_cons (ps_set (i := 1) sc_told_catalogue.nd rfl (Or.inl rfl) (pe_split (pv 0) pe_str)) (pss_cons (ps_set (i := 2) sc_told_catalogue.nd rfl (Or.inl rfl) (pe_split (pe_ix (ixK K) (pv 1) pe_int (fun _ _ => rfl)) pe_str)) (pss_cons (ps_set (i := 3) sc_told_catalogue.nd rfl (Or.inr rfl) (pe_callTy call_tuple_of (by rfl) m_tuple (by decide +kernel) (pa_cons (pe_slice (slK K) (pv 2) (po_some pe_int) po_none) pa_nil))) (pss_cons (ps_if (pw_or (pt_cmpR (neK K hr) (pe_ix (ixK K) (pv 2) pe_int (fun _ _ => rfl)) pe_str (nomark _)) (pw_or (pt_not (pt_chain op_le op_le pe_int (pe_callB (lenK K) (by rfl) m_len (by decide +kernel) (pa_cons (pv 3) pa_nil)) (pe_gint g_MOST_KINDS))) (pw_or1 (pt_cmpR op_lt (pe_callB cr_lenN (by rfl) m_len (by decide +kernel) (pa_cons (pe_callTy (cr_setStr rfl) (by rfl) m_set (by decide +kernel) (pa_cons (pv 3) pa_nil)) pa_nil)) (pe_callB (lenK K) (by rfl) m_len (by decide +kernel) (pa_cons (pv 3) pa_nil)) (nomark _))))).pt (pss_one (ps_ret pe_non)) pss_nil) (pss_cons (ps_set (i := 4) sc_told_catalogue.nd rfl (Or.inl rfl) (pe_callTy call_tuple_of (by rfl) m_tuple (by decide +kernel) (pa_cons (pe_lc (own := [("line", 5)]) (g := gName 5) (tt := tYes) rfl sc_told_catalogue.nd (pi_list (pe_slice (slK K) (pv 1) (po_some pe_int) po_none)) (blkOk_by (N := sc_told_catalogue_N) (sc := defScope s_told_catalogue) (by decide +kernel)) (fun _ _ _ _ _ => pg_name (i := 5) sc_told_catalogue.nd rfl (Or.inl rfl)) (fun _ _ _ _ _ => pts_nil) (fun _ _ _ _ _ => (pe_has D_told_recipe (hr.mono (by decide)) (pa_cons (pv 5) (pa_cons (pv 3) pa_nil))))) pa_nil))) (pss_cons (ps_if (pw_or (pt_not (pt_val (pe_callB (cr_all rfl) (by rfl) m_all (by decide +kernel) (pa_cons (pe_lc (own := [("kind", 6)]) (g := gName 6) (tt := tYes) rfl sc_told_catalogue.nd (pi_tup (pv 3)) (blkOk_by (N := sc_told_catalogue_N) (sc := defScope s_told_catalogue) (by decide +kernel)) (fun _ _ _ _ _ => pg_name (i := 6) sc_told_catalogue.nd rfl (Or.inl rfl)) (fun _ _ _ _ _ => pts_nil) (fun _ _ _ _ _ => (pe_has D_is_name (hr.mono (by decide)) (pa_cons (pv 6) pa_nil)))) pa_nil)))) (pw_or1 (pt_cmpR (inK K hr) pe_non (pv 4) rfl))).pt (pss_one (ps_ret pe_non)) pss_nil) (pss_one (ps_ret (pe_ifExp (pt_chain op_eq op_le (pe_callB cr_lenN (by rfl) m_len (by decide +kernel) (pa_cons (pe_callTy (cr_setRc rfl hr.units) (by rfl) m_set (by decide +kernel) (pa_cons (pv 4) pa_nil)) pa_nil)) (pe_callB (lenK K) (by rfl) m_len (by decide +kernel) (pa_cons (pv 4) pa_nil)) (pe_gint g_MOST_RECIPES)) (pe_tup (pa_cons (pv 3) (pa_cons (pv 4) pa_nil))) pe_non)))))))))), ?_⟩)
  obtain ⟨ns, rs, rfl, okn', okr', q⟩ := h
  have okn := okn'.ok
  have l4 := okn'.len
  have l10 := okr'.len
  have lpos : 1 ≤ ns.length := by
    cases ns with
    | nil => exact absurd rfl okn'.ne
    | cons _ _ => simp
  have okr : ∀ r ∈ rs, RowOk r := okr'.row okn
  have s1 : ("kinds" : Str) = SX.S kindsL := by decide +kernel
  have s2 : (" " : Str) = SX.S [32] := by decide +kernel
  have s5 : ("
" : Str) = SX.S [10] := by decide +kernel
  rw [s1, s2, s5]
  have big : (textL ns rs).length ≤ 100000 := by
    have := text_len okn' okr'
    omega
  refine q_when (b := false) (et_is (et_not (a := true) (et_B (ev_isi (T := "str") (ev_var rfl) (fun _ _ => .base (.str _)) (by decide +kernel)))) rfl) (fun z => nomatch z) fun _ H0 e0 => ?_
  refine q_asgL (i := 1) (xs := ((headL ns :: rs.map rowL).map SX.S).map V.str) (el_split (ev_var rfl) ev_c (by simp) (fun p hp => ?_) big (by decide)) fun l H1 n1 e1 h1 => ?_
  · rcases List.mem_cons.mp hp with rfl | hp
    · exact head_no okn
    · obtain ⟨r, hr2, rfl⟩ := List.mem_map.mp hp
      exact row_no (okr r hr2)
  refine q_asgL (i := 2) (xs := ((kindsL :: ns).map SX.S).map V.str) (el_split (ev_op (ev_var (i := 1) rfl) ev_c (rv_ixLn (i := 0) (sq_of h1) rfl)) ev_c (by simp) (fun p hp => ?_) (by have := head_len okn (by omega); unfold headL at this; omega) (by decide)) fun l2 H2 n2 e2 h2 => ?_
  · rcases List.mem_cons.mp hp with rfl | hp
    · decide
    · exact sign_no (okn p hp) (.inl (by decide))
  have dr : (((kindsL :: ns).map SX.S).map V.str).drop 1 = ns.map nmV := by simp [nmV]
  refine q_asgU (i := 3) (xs := ns.map nmV) (by rw [← dr, ← cut_drop]; exact eu_tupOf (K := K) (el_slL (K := K) (ev_var (i := 2) rfl) (sq_of h2) (eo_some ev_c) eo_none)) fun p3 H3 n3 e3 h3 => ?_
  have t3 : SqT K H3 p3 ((ns.map SX.S).map V.str) := .inl (.inl (by rw [h3]; simp [nmV]))
  have nds : (ns.map SX.S).Nodup := by
    refine List.pairwise_map.mpr (List.Pairwise.imp (fun h e => h (SX.S_inj e)) okn'.nd)
  refine q_when (b := false) (et_is (et_or (a := false) (b := false) (et_is (et_B (ev_op (ev_op (ev_var (i := 2) rfl) ev_c (rv_ixLn (i := 0) (v := .str (SX.S kindsL)) (sq_of (e3 _ _ h2)) rfl)) ev_c (rv_l (rv_ne rfl)))) (by simp)) fun _ => et_is (et_or (a := false) (b := false) (et_is (et_not (a := true) (et_B (ev_is (ev_chainI (f := fun a b => decide (a ≤ b)) (g := fun a b => decide (a ≤ b)) ev_c (ev_lenL (ev_var (i := 3) rfl) (.inr t3)) ev_c) (by
    rw [List.length_map, List.length_map, decide_eq_true (show (1 : Int) ≤ (ns.length : Int) by omega), decide_eq_true (show (ns.length : Int) ≤ 4 by omega)]
    rfl)))) rfl) fun _ => et_is (et_B (ev_op (ev_lenStr (ev_var (i := 3) rfl) t3 nds (by simp; omega)) (ev_lenL (ev_var (i := 3) rfl) (.inr t3)) rv_I0)) (by simp)) rfl) rfl) (fun z => nomatch z) fun _ H4 e4 => ?_
  have lines4 : H4 l = some (.lst (((headL ns :: rs.map rowL).map SX.S).map V.str)) := e4 _ _ (e3 _ _ (e2 _ _ h1))
  have hk4 : H4 p3 = some (.tup (ns.map nmV)) := e4 _ _ h3
  refine q_asgY (i := 4) (yi_tupOf (K := K) (F := fun (r : Rul) v H => RcAt K H (rcK r) v) (is := rs) (fun r v H H' e h => RcAt.mono e h) (yi_lcL (K := K) (F := fun (r : Rul) v H => RcAt K H (rcK r) v) (is := rs) (fun r v H H' e h => RcAt.mono e h) (el_slL (K := K) (lo := some ((1 : Nat) : Int)) (hi := none) (ev_var (i := 1) rfl) (sq_of lines4) (eo_some ev_c) eo_none) (by rw [cut_drop]; simp) (by rw [cut_drop]; simp; omega) (fun _ => rfl) fun i x r H5 e5 hx hi Q' k => ?_)) fun v H5 e5 z => ?_
  · rw [cut_drop] at hx
    have z : ((rs.map rowL).map SX.S).map V.str = rs.map fun r => V.str (SX.S (rowL r)) := by simp
    have hx : (((rs.map rowL).map SX.S).map V.str)[i]? = some x := hx
    rw [z, List.getElem?_map, hi] at hx
    cases hx
    exact ⟨_, rfl, .ref p3, rfl, r, p3, ns, rfl, .inl (.inl (e5 _ _ hk4)), okn, okr'.ok r (List.mem_of_getElem? hi), fun q0 H6 e6 da => k _ H6 e6 da⟩
  obtain ⟨p4, vs, rfl, h5, pr⟩ := z
  have pz : Paired (RcAt K H5) (rs.map rcK) vs := paired_map' pr
  have dr5 : Da K H5 (.ref p4) (rulsD rs) := da_tuple (.inl (.inl h5)) (rls_da pr)
  have hk5 : SqT K H5 p3 (ns.map nmV) := .inl (.inl (e5 _ _ hk4))
  refine q_when (b := false) (et_is (et_or (a := false) (b := false) (et_is (et_not (a := true) (et_B (ev_allG (K := K) (el_lcT (K := K) (xs := ns.map nmV) (fun _ => .bl true) (ev_var (i := 3) rfl) hk5 (by simp; omega) (fun _ => rfl) fun i x H6 e6 hx => ?_)))) rfl) fun _ => et_B (ev_op ev_c (ev_var (i := 4) rfl) (rv_inDat (d := .none) (c := rulsD rs) (.inr rfl) .non dr5 pl_noneD (pl_ruls fun r hr2 => (okr r hr2).nm) ?_))) rfl) (fun z => nomatch z) fun _ H6 e6 => ?_
  · rw [List.getElem?_map] at hx
    obtain ⟨n, hn, rfl⟩ := Option.map_eq_some_iff.mp hx
    exact ev_call (vs := [nmV n]) (ea_cons (ev_var (i := 6) rfl) ea_nil) fun H7 e7 R k E' => ⟨n, rfl, okn n (List.mem_of_getElem? hn), k⟩
  · rw [List.any_map, List.any_eq_false]
    intro r _
    simp [rulD, PyData.eqv]
  have h6 : SqT K H6 p4 vs := .inl (.inl (e6 _ _ h5))
  have pz6 : Paired (RcAt K H6) (rs.map rcK) vs := paired_mono (F := fun (z : RcK) v H => RcAt K H z v) e6 (fun _ _ _ _ e h => RcAt.mono e h) pz
  have ndz : (rs.map rcK).Nodup := List.pairwise_map.mpr (List.Pairwise.imp (fun h e => h (rcK_inj e)) okr'.nd)
  have lv : vs.length = rs.length := by rw [← paired_len pr]
  refine (et_is (et_B (ev_chainE (g := fun a b => decide (a ≤ b)) (ev_lenRc (ev_var (i := 4) rfl) h6 pz6 ndz (by simp; omega)) (ev_lenL (ev_var (i := 4) rfl) (.inr h6)) ev_c (by simp [lv]))) (b := true) (by simp [lv]; omega) : EvT _ _ H6 true) H6 (Ex.refl _) _ fun H7 e7 => ?_
  refine ⟨.ref p3, rfl, .ref p4, rfl, show 2 ≤ sizeLine by decide, fun c hc => ?_⟩
  have x7 : Ex H H7 := ((((((e0.trans e1).trans e2).trans e3).trans e4).trans e5).trans e6).trans e7
  exact q (.ref c) _ (x7.trans (Ex.new hc)) ⟨c, p3, .ref p4, rfl, .inl (.inl upd_same), ex_t ((e6.trans e7).trans (Ex.new hc)) hk5, Da.mono ((e6.trans e7).trans (Ex.new hc)) dr5⟩
end
end K62
set_option Elab.async false
set_option linter.all false
set_option maxRecDepth 100000
set_option maxHeartbeats 4000000
/-! things: what they weigh and hold, plain -/
namespace K62
open PySem PySem.Spec PyProof.Rows L2 Evl SwX
abbrev WC : Type := Nat × (Nm → Nat)
def zeroW : WC := (0, fun _ => 0)
def addW (a b : WC) : WC := (a.1 + b.1, fun m => a.2 m + b.2 m)
theorem addW_assoc (a b c : WC) : addW (addW a b) c = addW a (addW b c) := by
  unfold addW
  simp only [Prod.mk.injEq]
  exact ⟨Nat.add_assoc _ _ _, funext fun m => Nat.add_assoc _ _ _⟩
theorem addW_comm (a b : WC) : addW a b = addW b a := by
  unfold addW
  simp only [Prod.mk.injEq]
  exact ⟨Nat.add_comm _ _, funext fun m => Nat.add_comm _ _⟩
theorem addW_zero (a : WC) : addW a zeroW = a := by
  obtain ⟨a1, a2⟩ := a
  unfold addW zeroW
  simp
theorem zero_addW (a : WC) : addW zeroW a = a := by rw [addW_comm, addW_zero]
def tots : List (Option WC) → Option WC
  | [] => some zeroW
  | none :: _ => none
  | some a :: l => (tots l).map (addW a)
theorem tots_append (l m : List (Option WC)) : tots (l ++ m) = (tots l).bind fun a => (tots m).map (addW a) := by
  induction l with
  | nil =>
    show tots m = (tots m).map (addW zeroW)
    cases tots m with
    | none => rfl
    | some z => show some z = some (addW zeroW z); rw [zero_addW]
  | cons o l ih =>
    cases o with
    | none => rfl
    | some a =>
      show (tots (l ++ m)).map (addW a) = ((tots l).map (addW a)).bind _
      rw [ih]
      cases tots l with
      | none => rfl
      | some b =>
        cases tots m with
        | none => rfl
        | some c => show some (addW a (addW b c)) = some (addW (addW a b) c); rw [addW_assoc]
def oneK (k : Nm) : Nm → Nat := fun m => if m = k then 1 else 0
/-- what a value weighs and holds if it is a thing of a kind -/
def wgh (rs : List Rul) (d : PyData) (k : Nm) : Option WC :=
  match d with
  | .tuple [.int i, .tuple ds] => match rs[i.toNat]? with
    | some r => if 0 ≤ i ∧ r.1 = k ∧ ds.length = r.2.2.length then (tots ((ds.attach.zip r.2.2).map fun p => wgh rs p.1.1 p.2)).map (addW (r.2.1, oneK k)) else none
    | none => none
  | _ => none
termination_by sizeOf d
decreasing_by
  have h := List.sizeOf_lt_of_mem p.1.2
  simp only [PyData.tuple.sizeOf_spec, List.cons.sizeOf_spec]
  omega
def stk (rs : List Rul) (st : List (PyData × Nm)) : Option WC := tots (st.map fun p => wgh rs p.1 p.2)
theorem attach_zip (rs : List Rul) (ds : List PyData) (ps : List Nm) : (ds.attach.zip ps).map (fun p => wgh rs p.1.1 p.2) = (ds.zip ps).map fun p => wgh rs p.1 p.2 := by
  have e : ds.zip ps = (ds.attach.zip ps).map fun p => (p.1.1, p.2) := by
    have z : ds.attach.map Subtype.val = ds := List.attach_map_subtype_val ds
    conv => lhs; rw [← z]
    rw [List.zip_map_left]
    apply List.map_congr_left
    intro p _
    rfl
  rw [e, List.map_map]
  rfl
theorem wgh_tup (rs : List Rul) (i : Int) (ds : List PyData) (k : Nm) : wgh rs (.tuple [.int i, .tuple ds]) k = match rs[i.toNat]? with
    | some r => if 0 ≤ i ∧ r.1 = k ∧ ds.length = r.2.2.length then (stk rs (ds.zip r.2.2)).map (addW (r.2.1, oneK k)) else none
    | none => none := by
  rw [wgh]
  cases rs[i.toNat]? with
  | none => rfl
  | some r => simp only [attach_zip]; rfl
theorem wgh_no {rs : List Rul} {d : PyData} {k : Nm} (h : ∀ i ds, d ≠ .tuple [.int i, .tuple ds]) : wgh rs d k = none := by
  unfold wgh
  split
  · rename_i i ds
    exact absurd rfl (h i ds)
  · rfl
theorem wgh_at {rs : List Rul} {i : Int} {r : Rul} (i0 : 0 ≤ i) (hr : rs[i.toNat]? = some r) (ds : List PyData) (k : Nm) : wgh rs (.tuple [.int i, .tuple ds]) k = if r.1 = k ∧ ds.length = r.2.2.length then (stk rs (ds.zip r.2.2)).map (addW (r.2.1, oneK k)) else none := by
  rw [wgh_tup, hr]
  show (if 0 ≤ i ∧ r.1 = k ∧ ds.length = r.2.2.length then _ else _) = _
  by_cases c : r.1 = k ∧ ds.length = r.2.2.length
  · rw [if_pos ⟨i0, c⟩, if_pos c]
  · rw [if_neg fun z => c z.2, if_neg c]
theorem wgh_out {rs : List Rul} {d0 d1 : PyData} {k : Nm} (h : btwO 0 (some ((rs.length : Int) - 1)) d0 = false) : wgh rs (.tuple [d0, d1]) k = none := by
  by_cases c : ∃ i ds, PyData.tuple [d0, d1] = .tuple [.int i, .tuple ds]
  · obtain ⟨i, ds, e⟩ := c
    injection e with e
    simp only [List.cons.injEq, and_true] at e
    obtain ⟨rfl, rfl⟩ := e
    have z : ¬ (0 ≤ i ∧ i ≤ (rs.length : Int) - 1) := by
      intro z
      simp [btwO, z] at h
    rw [wgh_tup]
    cases hr : rs[i.toNat]? with
    | none => rfl
    | some r =>
      have := (List.getElem?_eq_some_iff.mp hr).1
      show (if 0 ≤ i ∧ r.1 = k ∧ ds.length = r.2.2.length then _ else _) = _
      rw [if_neg fun q => z ⟨q.1, by omega⟩]
  · exact wgh_no fun i ds e => c ⟨i, ds, e⟩
/-- the end of the walk, with so much found and so much left -/
def fin (rs : List Rul) (most : Int) (a : WC) (st : List (PyData × Nm)) : Option WC := match stk rs st with
  | some z => if ((a.1 + z.1 : Nat) : Int) ≤ most then some (addW a z) else none
  | none => none
theorem fin_bad {rs : List Rul} {most : Int} {a : WC} {st : List (PyData × Nm)} {d : PyData} {k : Nm} (h : wgh rs d k = none) : fin rs most a (st ++ [(d, k)]) = none := by
  have e : stk rs (st ++ [(d, k)]) = none := by
    unfold stk
    rw [List.map_append, tots_append]
    cases tots (st.map fun p => wgh rs p.1 p.2) with
    | none => rfl
    | some b => show (tots [wgh rs d k]).map _ = none; rw [h]; rfl
  unfold fin
  rw [e]
theorem fin_step {rs : List Rul} {most : Int} {a : WC} {st : List (PyData × Nm)} {i : Int} {ds : List PyData} {k : Nm} {r : Rul} (i0 : 0 ≤ i) (hr : rs[i.toNat]? = some r) (hk : r.1 = k) (hl : ds.length = r.2.2.length) :
    fin rs most a (st ++ [(.tuple [.int i, .tuple ds], k)]) = fin rs most (addW a (r.2.1, oneK k)) (st ++ ds.zip r.2.2) := by
  have e1 : stk rs (st ++ [(.tuple [.int i, .tuple ds], k)]) = (stk rs (st ++ ds.zip r.2.2)).map (addW (r.2.1, oneK k)) := by
    unfold stk
    rw [List.map_append, tots_append, List.map_append, tots_append]
    cases tots (st.map fun p => wgh rs p.1 p.2) with
    | none => rfl
    | some b =>
      show (tots [wgh rs (.tuple [.int i, .tuple ds]) k]).map (addW b) = ((tots ((ds.zip r.2.2).map fun p => wgh rs p.1 p.2)).map (addW b)).map (addW (r.2.1, oneK k))
      rw [wgh_at i0 hr, if_pos ⟨hk, hl⟩]
      show (tots [(tots ((ds.zip r.2.2).map fun p => wgh rs p.1 p.2)).map (addW (r.2.1, oneK k))]).map (addW b) = _
      cases tots ((ds.zip r.2.2).map fun p => wgh rs p.1 p.2) with
      | none => rfl
      | some c =>
        show some (addW b (addW (addW (r.2.1, oneK k) c) zeroW)) = some (addW (r.2.1, oneK k) (addW b c))
        rw [addW_zero, ← addW_assoc, addW_comm b, addW_assoc]
  unfold fin
  rw [e1]
  cases stk rs (st ++ ds.zip r.2.2) with
  | none => rfl
  | some z =>
    show (if ((a.1 + (r.2.1 + z.1) : Nat) : Int) ≤ most then some (addW a (addW (r.2.1, oneK k) z)) else none) = if ((a.1 + r.2.1 + z.1 : Nat) : Int) ≤ most then some (addW (addW a (r.2.1, oneK k)) z) else none
    rw [addW_assoc, Nat.add_assoc]
theorem fin_over {rs : List Rul} {most : Int} {a : WC} {st : List (PyData × Nm)} (h : most < (a.1 : Nat)) : fin rs most a st = none := by
  unfold fin
  cases stk rs st with
  | none => rfl
  | some z =>
    show (if ((a.1 + z.1 : Nat) : Int) ≤ most then _ else _) = _
    rw [if_neg (by omega)]
theorem fin_nil {rs : List Rul} {most : Int} {a : WC} (h : ((a.1 : Nat) : Int) ≤ most) : fin rs most a [] = some a := by
  unfold fin
  show (if ((a.1 + 0 : Nat) : Int) ≤ most then some (addW a zeroW) else none) = some a
  rw [if_pos (by simpa using h), addW_zero]
/-- counts -/
def CntAt (kvs : List (Key × V)) (c : Nm → Nat) : Prop := ∀ n : Nm, (valV kvs (.inr (SX.S n))).getD (.int 0) = .int ((c n : Nat) : Int)
theorem cntAt_nil : CntAt [] (fun _ => 0) := fun n => rfl
theorem cntAt_put {kvs : List (Key × V)} {c : Nm → Nat} (h : CntAt kvs c) (k : Nm) : CntAt (putK kvs (.inr (SX.S k)) (.int ((c k : Nat) + 1 : Int))) (fun m => c m + oneK k m) := fun n => by
  rw [valV_put]
  by_cases e : n = k
  · subst e
    rw [if_pos rfl]
    show V.int ((c n : Int) + 1) = V.int ((c n + oneK n n : Nat) : Int)
    unfold oneK
    rw [if_pos rfl]
    rfl
  · have ne : ¬ ((Sum.inr (SX.S n) : Key) = Sum.inr (SX.S k)) := fun z => e (SX.S_inj (Sum.inr.inj z))
    rw [if_neg ne, h n]
    show V.int (c n : Int) = V.int ((c n + (if n = k then 1 else 0) : Nat) : Int)
    rw [if_neg e, Nat.add_zero]
end K62
set_option Elab.async false
set_option linter.all false
set_option maxRecDepth 100000
set_option maxHeartbeats 4000000
namespace K62
open PySem PySem.Spec PyProof.Rows L2 Evl SwX
section
variable {P : Program} {w : World} {K : PySem.W.Frag} {mg : Str → Option Value} {base : Heap} {f : Addr} {fd : FuncData}
/-- a pair that waits: what stands in it is of the heap H -/
def PrAt (K : PySem.W.Frag) (H H' : Hp) (p : PyData × Nm) (v : V) : Prop := ∃ t x, v = .ref t ∧ H' t = some (.tup [x, nmV p.2]) ∧ Da K H x p.1
theorem prAt_up {H H1 H2 : Hp} (up : ∀ t o, H1 t = some (.tup o) → H2 t = some (.tup o)) : ∀ {st : List (PyData × Nm)} {ws : List V}, Paired (PrAt K H H1) st ws → Paired (PrAt K H H2) st ws
  | _, _, .nil => .nil
  | _, _, .cons ⟨t, x, e, ht, dx⟩ r => .cons ⟨t, x, e, up t _ ht, dx⟩ (prAt_up up r)
theorem paired_snoc {α β : Type} {F : α → β → Prop} : ∀ {st : List α} {p : α} {ws : List β}, Paired F (st ++ [p]) ws → ∃ ws' w, ws = ws' ++ [w] ∧ Paired F st ws' ∧ F p w
  | [], p, _, .cons h .nil => ⟨[], _, rfl, .nil, h⟩
  | s :: st, p, _, .cons h r => by
    obtain ⟨ws', w, rfl, r', l⟩ := paired_snoc (st := st) r
    exact ⟨_ :: ws', w, rfl, .cons h r', l⟩
theorem paired_two {α β : Type} {F : α → β → Prop} : ∀ {ds : List α} {zs : List β}, Paired F ds zs → ds.length = 2 → ∃ d0 d1 x0 x1, ds = [d0, d1] ∧ zs = [x0, x1] ∧ F d0 x0 ∧ F d1 x1
  | _, _, .cons p0 (.cons p1 .nil), _ => ⟨_, _, _, _, rfl, rfl, p0, p1⟩
theorem paired_at1 {α β : Type} {F : α → β → Prop} : ∀ {ds : List α} {zs : List β}, Paired F ds zs → ∀ {i : Nat} {d : α}, ds[i]? = some d → ∃ z, zs[i]? = some z ∧ F d z
  | _, _, .nil, i, d, e => by simp at e
  | _, _, .cons r t, 0, d, e => by simp at e; subst e; exact ⟨_, rfl, r⟩
  | _, _, .cons r t, i + 1, d, e => by simp at e; exact paired_at1 t e
theorem wgh_kind {rs : List Rul} {n : Nat} {r : Rul} {d1 : PyData} {k : Nm} (hr : rs[n]? = some r) (h : r.1 ≠ k) : wgh rs (.tuple [.int n, d1]) k = none := by
  by_cases c : ∃ ds, d1 = .tuple ds
  · obtain ⟨ds, rfl⟩ := c
    rw [wgh_at (Int.natCast_nonneg n) (by simpa using hr), if_neg fun z => h z.1]
  · exact wgh_no fun i ds e => c ⟨ds, by injection e with e; simp only [List.cons.injEq, and_true] at e; exact e.2⟩
theorem wgh_nt {rs : List Rul} {n : Int} {d1 : PyData} {k : Nm} (h : isTup d1 = false) : wgh rs (.tuple [.int n, d1]) k = none :=
  wgh_no fun i ds e => by injection e with e; simp only [List.cons.injEq, and_true] at e; rw [e.2] at h; cases h
theorem wgh_len {rs : List Rul} {n : Nat} {r : Rul} {ds : List PyData} {k : Nm} (hr : rs[n]? = some r) (h : ds.length ≠ r.2.2.length) : wgh rs (.tuple [.int n, .tuple ds]) k = none := by
  rw [wgh_at (Int.natCast_nonneg n) (by simpa using hr), if_neg fun z => h z.2]
theorem nmV_eq {a b : Nm} : (nmV a = nmV b) ↔ a = b := ⟨fun e => SX.S_inj (V.str.inj e), fun e => by rw [e]⟩
theorem q_asgTup3 {te : TE} {tz : TS} {D : Ends} {σ : L2.St} {H : Hp} {i j l : Nat} {b : Addr} {x y z : V} (h : Ev te σ H (.ref b)) (hb : SqT K H b [x, y, z]) (k : ∀ H1, Ex H H1 → tz D (((σ.set i (some x)).set j (some y)).set l (some z)) H1) :
    tSeq (tAsg te (gTup K 3 (gCons (gName i) (gCons (gName j) (gCons (gName l) gNil))))) tz D σ H := h H (Ex.refl H) _ fun H1 e => ⟨b, _, rfl, ex_t e hb, rfl, _, _, rfl, _, _, rfl, _, _, rfl, rfl, k H1 e⟩
theorem ev_dget {σ : L2.St} {H : Hp} {i j : Nat} {p : Addr} {kvs : List (Key × V)} {k : Key} {z : V} (h : H p = some (.dK kvs)) (hi : σ[i]? = some (some (.ref p))) (hj : σ[j]? = some (some (kV k))) : Ev (tDGet2 (tVar i) (tVar j) (tC z)) σ H ((valV kvs k).getD z) := fun H1 e Q q =>
  ⟨_, hi, p, rfl, .inl ⟨kvs, .inl (e _ _ h)⟩, _, hj, _, DGet.k (e _ _ h), q H1 (Ex.refl H1)⟩
theorem q_cnt {tz : TS} {D : Ends} {σ : L2.St} {H : Hp} {i j : Nat} {p : Addr} {kvs : List (Key × V)} {k : Key} {y : Int} (h : H p = some (.dK kvs)) (hl : kvs.length < sizeLine) (hi : σ[i]? = some (some (.ref p))) (hj : σ[j]? = some (some (kV k))) (hy : (valV kvs k).getD (.int 0) = .int y)
    (kk : ∀ H1, Ex H H1 → tz D σ (upd H1 p (.dK (putK kvs k (.int (y + 1)))))) : tSeq (tAsg (tOp (rAddX K) (tDGet2 (tVar i) (tVar j) (tC (.int 0))) (tC (.int 1))) (gSub (tVar i) (tVar j) rSetD)) tz D σ H :=
  (ev_op (ev_is (ev_dget h hi hj) hy) ev_c rv_addI) H (Ex.refl H) _ fun H1 e => ⟨_, hi, _, hj, p, _, rfl, DPut.k (e _ _ h) hl, kk H1 e⟩
theorem s_retIf {D : Ends} {σ : L2.St} {H : Hp} {t : TT} {ta tb : TE} {b : Bool} (h : EvT t σ H b) (h1 : b = true → ∀ H1, Ex H H1 → tRet ta D σ H1) (h2 : b = false → ∀ H1, Ex H H1 → tRet tb D σ H1) : tRet (tIf t ta tb) D σ H := h H (Ex.refl H) _ fun H1 e => by
  cases b with
  | true => exact h1 rfl H1 e
  | false => exact h2 rfl H1 e
theorem q_lz {σ : L2.St} {H : Hp} {ta : TA} {a b : Addr} {xs ys : List V} {Q : List V → Hp → Prop} (h : EvA ta σ H [.ref a, .ref b]) (ha : SqT K H a xs) (hb : SqT K H b ys) (same : xs.length = ys.length) (few : xs.length ≤ 1000)
    (k : ∀ l ts H2, Ex H H2 → H l = none → H2 l = some (.lst (ts.map V.ref)) → Paired (fun (t : Addr) (p : V × V) => H2 t = some (.tup [p.1, p.2])) ts (xs.zip ys) → Q [.ref l] H2) : tCons (tListZip K ta) tNil σ H Q :=
  h H (Ex.refl H) _ fun H1 e => ⟨a, b, xs, ys, rfl, ex_t e ha, ex_t e hb, same, few, fun l ts H2 e2 nl hl pr => k l ts H2 (e.trans e2) (fresh_back e nl) hl pr⟩
theorem prAt_zip {H H2 : Hp} : ∀ {ts : List Addr} {ds : List PyData} {ps : List Nm} {zs : List V}, Paired (fun d x => Da K H x d) ds zs → ds.length = ps.length → Paired (fun (t : Addr) (p : V × V) => H2 t = some (.tup [p.1, p.2])) ts (zs.zip (ps.map nmV)) → Paired (PrAt K H H2) (ds.zip ps) (ts.map V.ref)
  | _, [], [], _, .nil, _, .nil => .nil
  | _, _ :: _, _ :: _, _, .cons d r, l, .cons t u => .cons ⟨_, _, rfl, t, d⟩ (prAt_zip r (by simpa using l) u)
theorem paired_app {α β : Type} {F : α → β → Prop} : ∀ {ds es : List α} {zs ys : List β}, Paired F ds zs → Paired F es ys → Paired F (ds ++ es) (zs ++ ys)
  | _, _, _, _, .nil, p => p
  | _, _, _, _, .cons a r, p => .cons a (paired_app r p)
def spCounts (K : PySem.W.Frag) : Sp := fun vs H Q _ => ∃ (v y : V) (d : PyData) (k : Nm) (rs : List Rul) (most : Int), vs = [v, nmV k, y, .int most] ∧ Da K H v d ∧ Da K H y (rulsD rs) ∧ most ≤ 100 ∧ rs.length ≤ 20 ∧ (∀ r ∈ rs, RulNm r ∧ 1 ≤ r.2.1 ∧ r.2.2.length ≤ 3) ∧
  (∀ (c : WC), fin rs most zeroW [(d, k)] = some c → ∀ p q kvs H', Ex H H' → H' p = some (.tup [.int (c.1 : Nat), .ref q]) → H' q = some (.dK kvs) → CntAt kvs c.2 → Q (.ref p) H') ∧ (fin rs most zeroW [(d, k)] = none → ∀ H', Ex H H' → Q .non H')
abbrev s_counts_of : Stmt := top 27
abbrev sc_counts_of_N : List Str := ["thing", "kind", "recipes", "most", "waiting", "weight", "counts", "value", "wanted", "made", "own", "parts"]
theorem sc_counts_of : FnScope sc_counts_of_N ["thing", "kind", "recipes", "most"] (defScope s_counts_of) := ⟨rfl, rfl, rfl, by decide +kernel, rfl, by decide +kernel, by decide +kernel⟩
theorem ok_counts_of (m_len : mg "len" = none) (m_isinstance : mg "isinstance" = none) (m_tuple : mg "tuple" = none) (m_list : mg "list" = none) (m_zip : mg "zip" = none) (D_is_between : Has P w K mg base "is_between" 2 ["value", "low", "high"] (spBtwO K)) (F : FnP K "counts_of" s_counts_of f fd) : FnOk P w K mg base CX0 3 f fd ["thing", "kind", "recipes", "most"] (spCounts K) := by
  refine F.ok sc_counts_of (fun vs H Q E h => by obtain ⟨v, y, d, k, rs, most, rfl, _⟩ := h; rfl) (fun cdv A outer s H vs Q E hr h => ⟨_, PSs.nox
    (pss_cons (ps_par3 (i := 4) (j := 5) (l := 6) (by rfl) sc_counts_of.nd rfl rfl rfl (by decide) (by decide) (by decide) rfl rfl rfl (pa_cons (pe_lst (pa_cons (pe_tup (pa_cons (pv 0) (pa_cons (pv 1) pa_nil))) pa_nil)) (pa_cons pe_int (pa_cons pe_dnewK pa_nil))) (by rfl)) (pss_cons (ps_while PassesOwn.never (pw_and (pt_cmpR op_gt (pe_callB (lenK K) (by rfl) m_len (by decide +kernel) (pa_cons (pv 4) pa_nil)) pe_int (nomark _)) (pw_and1 (pt_cmpR op_le (pv 5) (pv 3) (nomark _)))).pt (pss_cons (ps_asg (pe_bm0 PySem.F.plainAttrs_list PySem.F.slot_list_pop PySem.F.type_list_pop mt_pop (pv 4)) (pg_tup rfl (pgs_cons (pg_name (i := 7) sc_counts_of.nd rfl (Or.inl rfl)) (pgs_cons (pg_name (i := 8) sc_counts_of.nd rfl (Or.inl rfl)) pgs_nil)))) (pss_cons (ps_if (pw_or (pt_not (pt_val (pe_callB (isiK K) (by rfl) m_isinstance (by decide +kernel) (pa_cons (pv 7) (pa_cons (pe_bty (n := "tuple") m_tuple) pa_nil))))) (pw_or (pt_cmpR (neK K hr) (pe_callB (lenK K) (by rfl) m_len (by decide +kernel) (pa_cons (pv 7) pa_nil)) pe_int (nomark _)) (pw_or1 (pt_not (pt_val (pe_has D_is_between (hr.mono (by decide)) (pa_cons (pe_ix (ixK K) (pv 7) pe_int (fun _ _ => rfl)) (pa_cons pe_int (pa_cons (pe_op op_sub (pe_callB (lenK K) (by rfl) m_len (by decide +kernel) (pa_cons (pv 2) pa_nil)) pe_int) pa_nil))))))))).pt (pss_one (ps_ret pe_non)) pss_nil) (pss_cons (ps_asg (pe_ix (ixK K) (pv 2) (pe_ix (ixK K) (pv 7) pe_int (fun _ _ => rfl)) (fun _ _ => rfl)) (pg_tup rfl (pgs_cons (pg_name (i := 9) sc_counts_of.nd rfl (Or.inl rfl)) (pgs_cons (pg_name (i := 10) sc_counts_of.nd rfl (Or.inl rfl)) (pgs_cons (pg_name (i := 11) sc_counts_of.nd rfl (Or.inl rfl)) pgs_nil))))) (pss_cons (ps_if (pw_or (pt_cmpR (neK K hr) (pv 9) (pv 8) (nomark _)) (pw_or (pt_not (pt_val (pe_callB (isiK K) (by rfl) m_isinstance (by decide +kernel) (pa_cons (pe_ix (ixK K) (pv 7) pe_int (fun _ _ => rfl)) (pa_cons (pe_bty (n := "tuple") m_tuple) pa_nil))))) (pw_or1 (pt_cmpR (neK K hr) (pe_callB (lenK K) (by rfl) m_len (by decide +kernel) (pa_cons (pe_ix (ixK K) (pv 7) pe_int (fun _ _ => rfl)) pa_nil)) (pe_callB (lenK K) (by rfl) m_len (by decide +kernel) (pa_cons (pv 11) pa_nil)) (nomark _))))).pt (pss_one (ps_ret pe_non)) pss_nil) (pss_cons (ps_aug (i := 5) sc_counts_of.nd rfl (Or.inl rfl) (pv 10) ip_add) (pss_cons (ps_asg (pe_op (addK K) (pe_dget2 (Nat.lt_of_le_of_lt (Nat.add_le_add_left (show 1 ≤ 64 by decide) _) hr.units) (pv 6) (pv 8) pe_int ⟨rfl, rfl, rfl, rfl⟩) pe_int) (pg_sub (pv 6) (pv 8) (set_dict (hu_of hr)))) (pss_one (ps_expr (pe_bm PySem.F.plainAttrs_list PySem.F.slot_list_extend PySem.F.type_list_extend mt_extend (pv 4) (pa_cons (pe_listZip rfl (by rfl) m_list (by rfl) m_zip (pa_cons (pe_ix (ixK K) (pv 7) pe_int (fun _ _ => rfl)) (pa_cons (pv 11) pa_nil))) pa_nil))))))))))) (pss_one (ps_ret (pe_ifExp (pt_cmpR op_le (pv 5) (pv 3) (nomark _)) (pe_tup (pa_cons (pv 5) (pa_cons (pv 6) pa_nil))) pe_non))))), ?_⟩)
  obtain ⟨v, y, d, k, rs, most, rfl, dv, dy, m100, lr, okr, qy, qn⟩ := h
  obtain ⟨q0, xs, rfl, hq, prr⟩ := da_ruls rs dy
  have lx : xs.length = rs.length := (paired_len prr).symm
  refine ⟨v, rfl, nmV k, rfl, show 2 ≤ sizeLine by decide, fun t0 ht0 => ⟨show 1 ≤ sizeLine by decide, fun w0 hw0 c0 hc0 => ⟨_, _, _, rfl, ?_⟩⟩⟩
  have nt : t0 ≠ w0 := fun e => by rw [← e, upd_same] at hw0; cases hw0
  have nw : w0 ≠ c0 := fun e => by rw [← e, upd_same] at hc0; cases hc0
  have Hw : H w0 = none := by rwa [upd_ne (Ne.symm nt)] at hw0
  have tc : t0 ≠ c0 := fun e => by rw [← e, upd_ne nt, upd_same] at hc0; cases hc0
  have Hc : H c0 = none := by rwa [upd_ne (Ne.symm nw), upd_ne (Ne.symm tc)] at hc0
  refine q_while (fun m σ' H' => ∃ (ws : List V) (st : List (PyData × Nm)) (a : WC) (kvs : List (Key × V)) (v7 v8 v9 v10 v11 : Option V), σ' = [some v, some (nmV k), some (.ref q0), some (.int most), some (.ref w0), some (.int (a.1 : Nat)), some (.ref c0), v7, v8, v9, v10, v11] ∧ H' w0 = some (.lst ws) ∧ Paired (PrAt K H H') st ws ∧
      Ex H H' ∧ H' c0 = some (.dK kvs) ∧ CntAt kvs a.2 ∧ fin rs most a st = fin rs most zeroW [(d, k)] ∧ m = (most + 1 - (a.1 : Nat)).toNat ∧ ws.length ≤ 3 * a.1 + 1 ∧ kvs.length ≤ a.1) (most + 1 - 0).toNat ?_ fun m σ' H' z => ?_
  · refine ⟨[.ref t0], [(d, k)], zeroW, [], _, _, _, _, _, rfl, ?_, .cons ⟨t0, v, rfl, ?_, dv⟩ .nil, ((Ex.new ht0).mut Hw).mut Hc, upd_same, cntAt_nil, rfl, rfl, by simp, by simp⟩
    · rw [upd_ne nw, upd_same]
    · rw [upd_ne tc, upd_ne nt, upd_same]
  obtain ⟨ws, st, a, kvs, v7, v8, v9, v10, v11, rfl, hw, pr, ex, hc, cn, fe, me, lw, lk⟩ := z
  have lst := paired_len pr
  refine ⟨decide (0 < (ws.length : Int)) && decide (((a.1 : Nat) : Int) ≤ most), et_and (et_B (ev_op (ev_lenL (ev_var (i := 4) rfl) (.inl (sq_of hw))) ev_c rv_I0)) (fun _ => et_B (ev_op (ev_var (i := 5) rfl) (ev_var (i := 3) rfl) rv_I0)), fun b H1 e1 => ?_, fun b H1 e1 => ?_⟩
  · refine ⟨fun σ2 H2 => ∃ m', m' < m ∧ ∃ (ws : List V) (st : List (PyData × Nm)) (a : WC) (kvs : List (Key × V)) (v7 v8 v9 v10 v11 : Option V), σ2 = [some v, some (nmV k), some (.ref q0), some (.int most), some (.ref w0), some (.int (a.1 : Nat)), some (.ref c0), v7, v8, v9, v10, v11] ∧ H2 w0 = some (.lst ws) ∧ Paired (PrAt K H H2) st ws ∧
      Ex H H2 ∧ H2 c0 = some (.dK kvs) ∧ CntAt kvs a.2 ∧ fin rs most a st = fin rs most zeroW [(d, k)] ∧ m' = (most + 1 - (a.1 : Nat)).toNat ∧ ws.length ≤ 3 * a.1 + 1 ∧ kvs.length ≤ a.1, fun σ2 H2 z => z, ?_⟩
    simp only [Bool.and_eq_true, decide_eq_true_eq] at b
    obtain ⟨b1, b2⟩ := b
    obtain ⟨st', p', es⟩ : ∃ st' p', st = st' ++ [p'] := ⟨st.dropLast, st.getLast (by intro e; rw [e] at lst; simp at lst; omega), (List.dropLast_concat_getLast _).symm⟩
    subst es
    obtain ⟨ws', w1, rfl, pr', pl⟩ := paired_snoc pr
    obtain ⟨d', k'⟩ := p'
    obtain ⟨t, x, rfl, ht, dx⟩ := pl
    have hw1 := e1 _ _ hw
    have ex1 := ex.trans e1
    have htw : t ≠ w0 := fun e => by rw [e, hw] at ht; cases ht
    refine ⟨.ref w0, rfl, Or.inl ⟨rfl, _, sq_of hw1⟩, w0, ws' ++ [.ref t], .ref t, rfl, rfl, hw1, by simp, ?_⟩
    rw [List.dropLast_concat]
    refine ⟨t, [x, nmV k'], rfl, st_of (by rw [upd_ne htw]; exact e1 _ _ ht), rfl, _, _, rfl, _, _, rfl, rfl, ?_⟩
    have ex2 : Ex H (upd H1 w0 (.lst ws')) := ex1.mut Hw
    have hw2 : upd H1 w0 (.lst ws') w0 = some (.lst ws') := upd_same
    have hc2 : upd H1 w0 (.lst ws') c0 = some (.dK kvs) := by rw [upd_ne (Ne.symm nw)]; exact e1 _ _ hc
    have pr2 : Paired (PrAt K H (upd H1 w0 (.lst ws'))) st' ws' := prAt_up (fun t' o ht' => by
      have z := e1 _ _ ht'
      rw [upd_ne (fun e => by rw [e, hw1] at z; cases z)]
      exact z) pr'
    have lw2 : ws'.length ≤ 3 * a.1 := by simp at lw; omega
    generalize upd H1 w0 (.lst ws') = H2 at ex2 hw2 hc2 pr2 ⊢
    clear hw1 ex1 e1 hw ht pr hc lst ex
    have none1 : wgh rs d' k' = none → ∀ H3, Ex H H3 → Q .non H3 := fun z H3 e3 => qn (by rw [← fe]; exact fin_bad z) H3 e3
    dsimp only
    cases tp : isTup d' with
    | false =>
      refine q_when (b := true) (et_is (et_or (a := true) (b := true) (et_not (a := false) (et_B (ev_isD (ev_var (i := 7) rfl) (fun H' e => dx.mono (ex2.trans e)) (by rw [kit_tup, tp])))) fun z => nomatch z) rfl) (fun _ H3 e3 => ?_) fun z => nomatch z
      exact s_ret ev_c fun H4 e4 => none1 (wgh_no fun i ds e => by rw [e] at tp; cases tp) H4 ((ex2.trans e3).trans e4)
    | true =>
    obtain ⟨ds, rfl⟩ : ∃ ds, d' = .tuple ds := by
      cases d' with
      | tuple ds => exact ⟨ds, rfl⟩
      | _ => cases tp
    obtain ⟨tx, zs, rfl, hz, pz⟩ := da_items dx
    have lz := paired_len pz
    have hz2 := ex_t ex2 hz
    have tupT : Ev _ [some v, some (nmV k), some (.ref q0), some (.int most), some (.ref w0), some (.int (a.1 : Nat)), some (.ref c0), some (.ref tx), some (nmV k'), v9, v10, v11] H2 (.bl true) := ev_isD (K := K) (te := tVar 7) (n := "tuple") (ev_var (i := 7) rfl) (fun H' e => dx.mono (ex2.trans e)) (kit_tup (.tuple ds))
    by_cases l2 : ds.length = 2
    rotate_left
    · refine q_when (b := true) (et_is (et_or (a := false) (b := true) (et_not (a := true) (et_B tupT)) fun _ => et_is (et_or (a := true) (b := true) (et_is (et_B (ev_op (ev_lenL (ev_var (i := 7) rfl) (.inr hz2)) ev_c (rv_l (rv_ne rfl)))) (by rw [← lz]; simp; omega)) fun z => nomatch z) rfl) rfl) (fun _ H3 e3 => ?_) fun z => nomatch z
      exact s_ret ev_c fun H4 e4 => none1 (wgh_no fun i es e => by injection e with e; rw [e] at l2; exact l2 rfl) H4 ((ex2.trans e3).trans e4)
    obtain ⟨d0, d1, x0, x1, rfl, rfl, p0, p1⟩ := paired_two pz l2
    have ix0 : Ev (tOp (rIx K) (tVar 7) (tC (.int 0))) [some v, some (nmV k), some (.ref q0), some (.int most), some (.ref w0), some (.int (a.1 : Nat)), some (.ref c0), some (.ref tx), some (nmV k'), v9, v10, v11] H2 x0 := ev_op (ev_var (i := 7) rfl) ev_c (rv_ixTn (i := 0) hz2 rfl)
    have bt : Ev (tCall (spBtwO K) [] E0 (tCons (tOp (rIx K) (tVar 7) (tC (.int 0))) (tCons (tC (.int 0)) (tCons (tOp (rI0 fun i j => .int (i - j)) (tCB (rLenY K) (tCons (tVar 2) tNil)) (tC (.int 1))) tNil)))) [some v, some (nmV k), some (.ref q0), some (.int most), some (.ref w0), some (.int (a.1 : Nat)), some (.ref c0), some (.ref tx), some (nmV k'), v9, v10, v11] H2 (.bl (btwO 0 (some ((rs.length : Int) - 1)) d0)) :=
      ev_call (vs := [x0, .int 0, .int ((xs.length : Int) - 1)]) (ea_cons ix0 (ea_cons ev_c (ea_cons (ev_op (ev_lenL (ev_var (i := 2) rfl) (.inr (ex_t ex2 hq))) ev_c rv_I0) ea_nil))) fun H8 e8 R k E' => ⟨x0, d0, 0, some ((xs.length : Int) - 1), rfl, p0.mono (ex2.trans e8), by rw [lx]; exact k⟩
    cases hb : btwO 0 (some ((rs.length : Int) - 1)) d0 with
    | false =>
      refine q_when (b := true) (et_is (et_or (a := false) (b := true) (et_not (a := true) (et_B tupT)) fun _ => et_is (et_or (a := false) (b := true) (et_is (et_B (ev_op (ev_lenL (ev_var (i := 7) rfl) (.inr hz2)) ev_c (rv_l (rv_ne rfl)))) rfl) fun _ => et_not (a := false) (et_B (ev_is bt (by rw [hb])))) rfl) rfl) (fun _ H3 e3 => ?_) fun z => nomatch z
      exact s_ret ev_c fun H4 e4 => none1 (wgh_out hb) H4 ((ex2.trans e3).trans e4)
    | true =>
    refine q_when (b := false) (et_is (et_or (a := false) (b := false) (et_not (a := true) (et_B tupT)) fun _ => et_is (et_or (a := false) (b := false) (et_is (et_B (ev_op (ev_lenL (ev_var (i := 7) rfl) (.inr hz2)) ev_c (rv_l (rv_ne rfl)))) rfl) fun _ => et_not (a := true) (et_B (ev_is bt (by rw [hb])))) rfl) rfl) (fun z => nomatch z) fun _ H3 e3 => ?_
    obtain ⟨i, rfl, i0, i1⟩ := btwO_inv hb
    obtain ⟨n, rfl⟩ := Int.eq_ofNat_of_zero_le i0
    obtain rfl := da_intI p0
    obtain ⟨r, hr⟩ : ∃ r, rs[n]? = some r := ⟨_, List.getElem?_eq_getElem (by omega)⟩
    obtain ⟨xr, hxr, dr⟩ := paired_at1 prr hr
    obtain ⟨b, c, rfl, hB, hC⟩ := da_rul dr
    obtain ⟨ok1, ok2, ok3⟩ := okr r (List.mem_of_getElem? hr)
    have ex3 := ex2.trans e3
    have hw3 := e3 _ _ hw2
    have hc3 := e3 _ _ hc2
    have hz3 := ex_t e3 hz2
    have pr3 : Paired (PrAt K H H3) st' ws' := prAt_up (fun t o => e3 t _) pr2
    clear bt ix0 tupT hz2 pr2 hc2 hw2 e3 ex2 hb i0 i1
    refine q_asgTup3 (ev_op (ev_var (i := 2) rfl) (ev_op (ev_var (i := 7) rfl) ev_c (rv_ixTn (i := 0) hz3 rfl)) (rv_ixTn (i := n) (ex_t ex3 hq) hxr)) (ex_t ex3 hB) fun H4 e4 => ?_
    dsimp only [List.set]
    have ix1 : Ev (tOp (rIx K) (tVar 7) (tC (.int 1))) [some v, some (nmV k), some (.ref q0), some (.int most), some (.ref w0), some (.int (a.1 : Nat)), some (.ref c0), some (.ref tx), some (nmV k'), some (nmV r.1), some (.int (r.2.1 : Nat)), some (.ref c)] H4 x1 := ev_op (ev_var (i := 7) rfl) ev_c (rv_ixTn (i := 1) (ex_t e4 hz3) rfl)
    by_cases hk : r.1 = k'
    rotate_left
    · refine q_when (b := true) (et_is (et_or (a := true) (b := true) (et_is (et_B (ev_op (ev_var (i := 9) rfl) (ev_var (i := 8) rfl) (rv_l (rv_ne rfl)))) (by simp [nmV_eq, hk])) fun z => nomatch z) rfl) (fun _ H5 e5 => ?_) fun z => nomatch z
      exact s_ret ev_c fun H6 e6 => none1 (wgh_kind hr hk) H6 (((ex3.trans e4).trans e5).trans e6)
    cases t1 : isTup d1 with
    | false =>
      refine q_when (b := true) (et_is (et_or (a := false) (b := true) (et_is (et_B (ev_op (ev_var (i := 9) rfl) (ev_var (i := 8) rfl) (rv_l (rv_ne rfl)))) (by simp [nmV_eq, hk])) fun _ => et_is (et_or (a := true) (b := true) (et_not (a := false) (et_B (ev_isD ix1 (fun H' e => p1.mono ((ex3.trans e4).trans e)) (by rw [kit_tup, t1])))) fun z => nomatch z) rfl) rfl) (fun _ H5 e5 => ?_) fun z => nomatch z
      exact s_ret ev_c fun H6 e6 => none1 (wgh_nt t1) H6 (((ex3.trans e4).trans e5).trans e6)
    | true =>
    obtain ⟨ds1, rfl⟩ : ∃ ds, d1 = .tuple ds := by
      cases d1 with
      | tuple ds => exact ⟨ds, rfl⟩
      | _ => cases t1
    obtain ⟨ty1, zs1, rfl, hz1, pz1⟩ := da_items p1
    have lz1 := paired_len pz1
    have tup1 := fun H' (e : Ex H4 H') => p1.mono ((ex3.trans e4).trans e)
    by_cases hl : ds1.length = r.2.2.length
    rotate_left
    · refine q_when (b := true) (et_is (et_or (a := false) (b := true) (et_is (et_B (ev_op (ev_var (i := 9) rfl) (ev_var (i := 8) rfl) (rv_l (rv_ne rfl)))) (by simp [nmV_eq, hk])) fun _ => et_is (et_or (a := false) (b := true) (et_not (a := true) (et_B (ev_isD ix1 tup1 (by rw [kit_tup, t1])))) fun _ => et_is (et_B (ev_op (ev_lenL ix1 (.inr (ex_t (ex3.trans e4) hz1))) (ev_lenL (ev_var (i := 11) rfl) (.inr (ex_t (ex3.trans e4) hC))) (rv_l (rv_ne rfl)))) (by rw [← lz1]; simp; omega)) rfl) rfl) (fun _ H5 e5 => ?_) fun z => nomatch z
      exact s_ret ev_c fun H6 e6 => none1 (wgh_len hr hl) H6 (((ex3.trans e4).trans e5).trans e6)
    refine q_when (b := false) (et_is (et_or (a := false) (b := false) (et_is (et_B (ev_op (ev_var (i := 9) rfl) (ev_var (i := 8) rfl) (rv_l (rv_ne rfl)))) (by simp [nmV_eq, hk])) fun _ => et_is (et_or (a := false) (b := false) (et_not (a := true) (et_B (ev_isD ix1 tup1 (by rw [kit_tup, t1])))) fun _ => et_is (et_B (ev_op (ev_lenL ix1 (.inr (ex_t (ex3.trans e4) hz1))) (ev_lenL (ev_var (i := 11) rfl) (.inr (ex_t (ex3.trans e4) hC))) (rv_l (rv_ne rfl)))) (by rw [← lz1, hl]; simp)) rfl) rfl) (fun z => nomatch z) fun _ H5 e5 => ?_
    have ex5 := (ex3.trans e4).trans e5
    have hw5 := e5 _ _ (e4 _ _ hw3)
    have hc5 := e5 _ _ (e4 _ _ hc3)
    have pr5 : Paired (PrAt K H H5) st' ws' := prAt_up (fun t o z => e5 t _ (e4 t _ z)) pr3
    clear ix1 tup1 hz3 hc3 hw3 pr3 e5 e4 ex3 none1
    refine q_aug rfl (ev_var (i := 10) rfl) fun H6 e6 => ?_
    have ex6 := ex5.trans e6
    have hw6 := e6 _ _ hw5
    have hc6 := e6 _ _ hc5
    have pr6 : Paired (PrAt K H H6) st' ws' := prAt_up (fun t o z => e6 t _ z) pr5
    clear hw5 hc5 pr5 ex5 e6
    refine q_cnt (k := .inr (SX.S k')) hc6 (by rw [sizeLine_eq]; omega) rfl rfl (cn k') fun H7 e7 => ?_
    have ex7 := (ex6.trans e7).mut Hc (o := .dK (putK kvs (.inr (SX.S k')) (.int ((a.2 k' : Nat) + 1 : Int))))
    have hw7 : upd H7 c0 (.dK (putK kvs (.inr (SX.S k')) (.int ((a.2 k' : Nat) + 1 : Int)))) w0 = some (.lst ws') := by rw [upd_ne nw]; exact e7 _ _ hw6
    have hc7 : upd H7 c0 (.dK (putK kvs (.inr (SX.S k')) (.int ((a.2 k' : Nat) + 1 : Int)))) c0 = some (.dK (putK kvs (.inr (SX.S k')) (.int ((a.2 k' : Nat) + 1 : Int)))) := upd_same
    have pr7 : Paired (PrAt K H (upd H7 c0 (.dK (putK kvs (.inr (SX.S k')) (.int ((a.2 k' : Nat) + 1 : Int)))))) st' ws' := prAt_up (fun t o z => by
      rw [upd_ne (fun e => by rw [e, hc6] at z; cases z)]
      exact e7 t _ z) pr6
    generalize upd H7 c0 (.dK (putK kvs (.inr (SX.S k')) (.int ((a.2 k' : Nat) + 1 : Int)))) = H8 at ex7 hw7 hc7 pr7 ⊢
    clear hw6 hc6 pr6 ex6 e7
    refine ⟨.ref w0, rfl, Or.inl ⟨rfl, _, sq_of hw7⟩, ?_⟩
    have ea : EvA _ [some v, some (nmV k), some (.ref q0), some (.int most), some (.ref w0), some (.int ((a.1 : Int) + (r.2.1 : Int))), some (.ref c0), some (.ref tx), some (nmV k'), some (nmV r.1), some (.int (r.2.1 : Nat)), some (.ref c)] H8 [.ref ty1, .ref c] := ea_cons (ev_op (ev_var (i := 7) rfl) ev_c (rv_ixTn (i := 1) (ex_t ex7 hz) rfl)) (ea_cons (ev_var (i := 11) rfl) ea_nil)
    refine q_lz ea (ex_t ex7 hz1) (ex_t ex7 hC) (by simp; omega) (by omega) fun l ts H10 e10 nl hl10 pr10 => ?_
    have ex10 := ex7.trans e10
    have hw10 := e10 _ _ hw7
    have lts : ts.length = (zs1.zip (r.2.2.map nmV)).length := paired_len pr10
    have lt3 : ts.length ≤ 3 := by rw [lts, List.length_zip, List.length_map]; omega
    have ltw : l ≠ w0 := fun e => by rw [e] at nl; rw [hw7] at nl; cases nl
    refine ⟨w0, l, ws', _, rfl, rfl, hw10, hl10, by rw [sizeLine_eq]; simp; omega, ?_⟩
    have up : ∀ t o, H10 t = some (.tup o) → upd H10 w0 (.lst (ws' ++ ts.map V.ref)) t = some (.tup o) := fun t o z => by
      rw [upd_ne (fun e => by rw [e, hw10] at z; cases z)]
      exact z
    refine ⟨(most + 1 - ((a.1 + r.2.1 : Nat) : Int)).toNat, by omega, ws' ++ ts.map V.ref, st' ++ ds1.zip r.2.2, addW a (r.2.1, oneK k'), _, _, _, _, _, _, rfl, upd_same, paired_app (prAt_up (fun t o z => up t o (e10 _ _ z)) pr7) (prAt_up up (prAt_zip pz1 hl pr10)), ex10.mut Hw, ?_, cntAt_put cn k', ?_, rfl, ?_, ?_⟩
    · rw [upd_ne (Ne.symm nw)]
      exact e10 _ _ hc7
    · rw [← fin_step (Int.natCast_nonneg n) (by simpa using hr) hk hl, fe]
    · show (ws' ++ ts.map V.ref).length ≤ 3 * (a.1 + r.2.1) + 1
      rw [List.length_append, List.length_map]
      omega
    · show (putK kvs (.inr (SX.S k')) _).length ≤ a.1 + r.2.1
      have := length_putK kvs (.inr (SX.S k')) (.int ((a.2 k' : Nat) + 1 : Int))
      omega
  · refine s_retIf (b := decide (((a.1 : Nat) : Int) ≤ most)) (et_B (ev_op (ev_var (i := 5) rfl) (ev_var (i := 3) rfl) rv_I0)) (fun h H2 e2 => ?_) fun h H2 e2 => ?_
    · have h' : ((a.1 : Nat) : Int) ≤ most := of_decide_eq_true h
      have wz : ws = [] := by
        cases ws with
        | nil => rfl
        | cons x r =>
          exfalso
          rw [decide_eq_true h', Bool.and_true] at b
          have := of_decide_eq_false b
          simp only [List.length_cons] at this
          omega
      subst wz
      have sz : st = [] := by
        cases st with
        | nil => rfl
        | cons x r => cases pr
      subst sz
      refine s_retU (eu_tup (ea_cons (ev_var (i := 5) rfl) (ea_cons (ev_var (i := 6) rfl) ea_nil)) (by simp)) fun p H3 n3 e3 h3 => ?_
      exact qy a (by rw [← fe, fin_nil h']) p c0 kvs H3 (((ex.trans e1).trans e2).trans e3) h3 (e3 _ _ (e2 _ _ (e1 _ _ hc))) cn
    · exact s_ret ev_c fun H3 e3 => qn (by rw [← fe, fin_over (by have := of_decide_eq_false h; omega)]) H3 (((ex.trans e1).trans e2).trans e3)
end
end K62
set_option Elab.async false
set_option linter.all false
set_option maxRecDepth 100000
set_option maxHeartbeats 4000000
namespace K62
open PySem PySem.Spec PyProof.Rows L2 Evl SwX
section
variable {P : Program} {w : World} {K : PySem.W.Frag} {mg : Str → Option Value} {base : Heap} {f : Addr} {fd : FuncData}
theorem q_parE {i j : Nat} {ta : TA} {tz : TS} {D : Ends} {σ : L2.St} {H : Hp} {v w : V} (h : EvA ta σ H [v, w]) (k : ∀ H1, Ex H H1 → tz D ((σ.set i (some v)).set j (some w)) H1) : tSeq (tPar i j ta) tz D σ H := h H (Ex.refl H) _ fun H1 e => ⟨v, w, rfl, k H1 e⟩
theorem fin_one {rs : List Rul} {most : Int} {d : PyData} {k : Nm} : fin rs most zeroW [(d, k)] = match wgh rs d k with
    | some z => if ((z.1 : Nat) : Int) ≤ most then some z else none
    | none => none := by
  unfold fin stk
  show (match tots [wgh rs d k] with
    | some z => if ((0 + z.1 : Nat) : Int) ≤ most then some (addW zeroW z) else none
    | none => none) = _
  cases wgh rs d k with
  | none => rfl
  | some z =>
    show (if ((0 + (z.1 + 0) : Nat) : Int) ≤ most then some (addW zeroW (addW z zeroW)) else none) = if ((z.1 : Nat) : Int) ≤ most then some z else none
    rw [zero_addW, addW_zero, Nat.zero_add, Nat.add_zero]
/-- whether a thing of a kind weighs so much, and holds so many -/
def shownB (rs : List Rul) (d : PyData) (k : Nm) (W : Int) (o : Option (Nm × Int)) : Bool := decide (1 ≤ W) && decide (W ≤ 100) && match wgh rs d k with
  | some z => decide (((z.1 : Nat) : Int) = W) && (match o with
    | none => true
    | some (m, n) => decide (((z.2 m : Nat) : Int) = n))
  | none => false
def ClaimAt (K : PySem.W.Frag) (H : Hp) (v x : V) (k : Nm) (W : Int) : Option (Nm × Int) → Prop
  | none => ∃ q, v = .ref q ∧ SqT K H q [.str "weighs", x, nmV k, .int W]
  | some (m, n) => ∃ q, v = .ref q ∧ SqT K H q [.str "holds", x, nmV k, nmV m, .int W, .int n]
theorem ClaimAt.mono {H H' : Hp} {v x : V} {k : Nm} {W : Int} (e : Ex H H') : ∀ {o : Option (Nm × Int)}, ClaimAt K H v x k W o → ClaimAt K H' v x k W o
  | none, ⟨q, a, b⟩ => ⟨q, a, ex_t e b⟩
  | some (_, _), ⟨q, a, b⟩ => ⟨q, a, ex_t e b⟩
theorem shownB_no {rs : List Rul} {d : PyData} {k : Nm} {W : Int} {o : Option (Nm × Int)} (h : btwO 1 (some 100) (.int W) = false) : shownB rs d k W o = false := by
  have e : (decide (1 ≤ W) && decide (W ≤ 100)) = false := h
  unfold shownB
  rw [e]
  rfl
theorem shownB_ne {rs : List Rul} {d : PyData} {k : Nm} {W : Int} {o : Option (Nm × Int)} {z : WC} (h : wgh rs d k = some z) (n : ¬ ((z.1 : Nat) : Int) = W) : shownB rs d k W o = false := by
  unfold shownB
  rw [h]
  simp [n]
theorem shownB_eq {rs : List Rul} {d : PyData} {k : Nm} {W : Int} {o : Option (Nm × Int)} {z : WC} (hb : btwO 1 (some 100) (.int W) = true) (h : wgh rs d k = some z) (n : ((z.1 : Nat) : Int) = W) : shownB rs d k W o = (match o with
    | none => true
    | some (m, n) => decide (((z.2 m : Nat) : Int) = n)) := by
  have e : (decide (1 ≤ W) && decide (W ≤ 100)) = true := hb
  unfold shownB
  rw [e, h]
  simp only [n, decide_true, Bool.true_and]
theorem fin_one_some {rs : List Rul} {most : Int} {d : PyData} {k : Nm} {z : WC} (h : fin rs most zeroW [(d, k)] = some z) : wgh rs d k = some z ∧ ((z.1 : Nat) : Int) ≤ most := by
  rw [fin_one] at h
  cases e : wgh rs d k with
  | none => rw [e] at h; cases h
  | some y =>
    rw [e] at h
    have h' : (if ((y.1 : Nat) : Int) ≤ most then some y else none) = some z := h
    by_cases c : ((y.1 : Nat) : Int) ≤ most
    · rw [if_pos c] at h'
      cases h'
      exact ⟨rfl, c⟩
    · rw [if_neg c] at h'
      cases h'
theorem shownB_fin {rs : List Rul} {d : PyData} {k : Nm} {W : Int} {o : Option (Nm × Int)} (h : fin rs W zeroW [(d, k)] = none) : shownB rs d k W o = false := by
  rw [fin_one] at h
  cases e : wgh rs d k with
  | none =>
    unfold shownB
    rw [e]
    simp
  | some y =>
    rw [e] at h
    have h' : (if ((y.1 : Nat) : Int) ≤ W then some y else none) = none := h
    by_cases c : ((y.1 : Nat) : Int) ≤ W
    · rw [if_pos c] at h'
      cases h'
    · exact shownB_ne e (by omega)
theorem ev_dgetR {σ : L2.St} {H : Hp} {ta tb : TE} {p : Addr} {kvs : List (Key × V)} {k : Key} {z y : V} (h1 : Ev ta σ H (.ref p)) (h : H p = some (.dK kvs)) (h2 : Ev tb σ H (kV k)) (hy : (valV kvs k).getD z = y) : Ev (tDGet2 ta tb (tC z)) σ H y := fun H1 e Q q =>
  h1 H1 e _ fun H2 e2 => ⟨p, rfl, .inl ⟨kvs, .inl (e2 _ _ (e _ _ h))⟩, h2 H2 (e.trans e2) _ fun H3 e3 => ⟨_, DGet.k (e3 _ _ (e2 _ _ (e _ _ h))), by rw [hy]; exact q H3 (e2.trans e3)⟩⟩
theorem q_callA {σ : L2.St} {H : Hp} {sp : Sp} {dvs vs : List V} {E : XK} {ta : TA} {i : Nat} {tz : TS} {D : Ends} (h : EvA ta σ H vs) (k : ∀ H1, Ex H H1 → sp (vs ++ dvs) H1 (fun v H2 => tz D (σ.set i (some v)) H2) E) : tSeq (tAsg (tCall sp dvs E ta) (gName i)) tz D σ H := h H (Ex.refl H) _ k
def spShown (K : PySem.W.Frag) : Sp := fun vs H Q _ => ∃ (c cl x v : V) (ns : List Nm) (rs : List Rul) (k : Nm) (W : Int) (o : Option (Nm × Int)) (d : PyData), vs = [c, cl, v] ∧ MineAt K ns rs c H ∧ ClaimAt K H cl x k W o ∧ Da K H v d ∧ NamesOk ns ∧ RulesOk ns rs ∧ ∀ H', Ex H H' → Q (.bl (shownB rs d k W o)) H'
theorem rules_cnt {ns : List Nm} {rs : List Rul} (okn : NamesOk ns) (okr : RulesOk ns rs) : rs.length ≤ 20 ∧ ∀ r ∈ rs, RulNm r ∧ 1 ≤ r.2.1 ∧ r.2.2.length ≤ 3 :=
  ⟨Nat.le_trans okr.len (by decide), fun r hr => ⟨(okr.row okn.ok r hr).nm, (okr.ok r hr).lo, (okr.ok r hr).len⟩⟩
abbrev s_is_thing_shown : Stmt := top 39
abbrev sc_is_thing_shown_N : List Str := ["catalogue", "claim", "thing", "kind", "weight", "told"]
theorem sc_is_thing_shown : FnScope sc_is_thing_shown_N ["catalogue", "claim", "thing"] (defScope s_is_thing_shown) := ⟨rfl, rfl, rfl, by decide +kernel, rfl, by decide +kernel, by decide +kernel⟩
theorem ok_is_thing_shown (D_is_integer : Has P w K mg base "is_integer" 1 ["value"] (spIsIntD K)) (g_MOST_BUILT : ∃ t, mg "MOST_BUILT" = some (.int 100 t)) (D_is_between : Has P w K mg base "is_between" 2 ["value", "low", "high"] (spBtwO K)) (D_counts_of : Has P w K mg base "counts_of" 3 ["thing", "kind", "recipes", "most"] (spCounts K)) (F : FnP K "is_thing_shown" s_is_thing_shown f fd) : FnOk P w K mg base CX0 4 f fd ["catalogue", "claim", "thing"] (spShown K) := by
  refine F.ok sc_is_thing_shown (fun vs H Q E h => by obtain ⟨c, cl, x, v, ns, rs, k, W, o, d, rfl, _⟩ := h; rfl) (fun cdv A outer s H vs Q E hr h => ⟨_, PSs.nox
    (pss_cons (ps_par (i := 3) (j := 4) (by rfl) sc_is_thing_shown.nd rfl rfl (by decide) rfl rfl (pa_cons (pe_ix (ixK K) (pv 1) pe_int (fun _ _ => rfl)) (pa_cons (pe_ifExp (pt_cmpR (eqK K hr) (pe_ix (ixK K) (pv 1) pe_int (fun _ _ => rfl)) pe_str (nomark _)) (pe_ix (ixK K) (pv 1) (pe_un un_neg pe_int) (fun _ _ => rfl)) (pe_ix (ixK K) (pv 1) pe_int (fun _ _ => rfl))) pa_nil)) (by rfl)) (pss_cons (ps_if (pt_not (pt_val (pe_has D_is_between (hr.mono (by decide)) (pa_cons (pv 4) (pa_cons pe_int (pa_cons (pe_gint g_MOST_BUILT) pa_nil)))))) (pss_one (ps_ret pe_bl)) pss_nil) (pss_cons (ps_set (i := 5) sc_is_thing_shown.nd rfl (Or.inl rfl) (pe_has D_counts_of (hr.mono (by decide)) (pa_cons (pv 2) (pa_cons (pv 3) (pa_cons (pe_ix (ixK K) (pv 0) pe_int (fun _ _ => rfl)) (pa_cons (pv 4) pa_nil)))))) (pss_cons (ps_if (pw_or (pt_cmpR op_isN (pv 5) pe_non (nomark _)) (pw_or1 (pt_cmpR (neK K hr) (pe_ix (ixK K) (pv 5) pe_int (fun _ _ => rfl)) (pv 4) (nomark _)))).pt (pss_one (ps_ret pe_bl)) pss_nil) (pss_one (ps_ret (pe_or (pe_cmpR (eqK K hr) (pe_ix (ixK K) (pv 1) pe_int (fun _ _ => rfl)) pe_str (nomark _)) (pe_one (pe_and (pe_has D_is_integer (hr.mono (by decide)) (pa_cons (pe_ix (ixK K) (pv 1) pe_int (fun _ _ => rfl)) pa_nil)) (pe_one (pe_cmpR (eqK K hr) (pe_dget2 (Nat.lt_of_le_of_lt (Nat.add_le_add_left (show 1 ≤ 64 by decide) _) hr.units) (pe_ix (ixK K) (pv 5) pe_int (fun _ _ => rfl)) (pe_ix (ixK K) (pv 1) pe_int (fun _ _ => rfl)) pe_int ⟨rfl, rfl, rfl, rfl⟩) (pe_ix (ixK K) (pv 1) pe_int (fun _ _ => rfl)) (nomark _)))))))))))), ?_⟩)
  obtain ⟨c, cl, x, v, ns, rs, k, W, o, d, rfl, hm, hcl, dv, okn, okr, q⟩ := h
  obtain ⟨pc, qk, y, rfl, hpc, hqk, dy⟩ := hm
  obtain ⟨c20, cok⟩ := rules_cnt okn okr
  cases o with
  | none =>
    obtain ⟨p, rfl, hp⟩ := hcl
    refine q_parE (v := nmV k) (w := .int W) (ea_cons (ev_op (ev_var (i := 1) rfl) ev_c (rv_ixTn (i := 2) hp rfl)) (ea_cons (ev_if (b := true) (et_is (et_B (ev_op (ev_op (ev_var (i := 1) rfl) ev_c (rv_ixTn (i := 0) hp rfl)) ev_c (rv_l (rv_eq rfl)))) (by decide +kernel)) (fun _ => ev_op (ev_var (i := 1) rfl) (ev_un ev_c ru_neg) (rv_ixTX hp rfl)) fun z => nomatch z) ea_nil)) fun H1 e1 => ?_

    cases hb : btwO 1 (some 100) (.int W) with
    | false =>
      refine q_when (b := true) (et_not (a := false) (et_B (ev_call (vs := [.int W, .int 1, .int 100]) (ea_cons (ev_var (i := 4) rfl) (ea_cons ev_c (ea_cons ev_c ea_nil))) fun H8 e8 R k E' => ⟨_, .int W, 1, some 100, rfl, .int W, by rw [hb] at *; exact k⟩))) (fun _ H2 e2 => ?_) fun z => nomatch z
      refine s_ret ev_c fun H3 e3 => ?_
      have z := q H3 ((e1.trans e2).trans e3)
      rw [shownB_no hb] at z
      exact z
    | true =>
    refine q_when (b := false) (et_not (a := true) (et_B (ev_call (vs := [.int W, .int 1, .int 100]) (ea_cons (ev_var (i := 4) rfl) (ea_cons ev_c (ea_cons ev_c ea_nil))) fun H8 e8 R k E' => ⟨_, .int W, 1, some 100, rfl, .int W, by rw [hb] at *; exact k⟩))) (fun z => nomatch z) fun _ H2 e2 => ?_
    have W100 : W ≤ 100 := by
      simp only [btwO, Bool.and_eq_true, decide_eq_true_eq] at hb
      exact hb.2
    have ex2 := e1.trans e2
    refine q_callA (vs := [v, nmV k, y, .int W]) (ea_cons (ev_var (i := 2) rfl) (ea_cons (ev_var (i := 3) rfl) (ea_cons (ev_op (ev_var (i := 0) rfl) ev_c (rv_ixTn (i := 1) (ex_t ex2 hpc) rfl)) (ea_cons (ev_var (i := 4) rfl) ea_nil)))) fun H3 e3 => ?_
    have ex3 := ex2.trans e3
    refine ⟨v, y, d, k, rs, W, rfl, dv.mono ex3, dy.mono ex3, W100, c20, cok, fun z fz p1 q1 kvs H4 e4 h1 h2 cn => ?_, fun fz H4 e4 => ?_⟩
    · dsimp only [List.set]
      have ex4 := ex3.trans e4
      have wz : wgh rs d k = some z ∧ ((z.1 : Nat) : Int) ≤ W := fin_one_some fz
      by_cases zw : ((z.1 : Nat) : Int) = W
      rotate_left
      · refine q_when (b := true) (et_is (et_or (a := false) (b := true) (et_is (et_B (ev_op (ev_var (i := 5) rfl) ev_c rv_isN)) rfl) fun _ => et_is (et_B (ev_op (ev_op (ev_var (i := 5) rfl) ev_c (rv_ixTn (i := 0) (st_of h1) rfl)) (ev_var (i := 4) rfl) (rv_l (rv_ne rfl)))) (by simp [zw])) rfl) (fun _ H5 e5 => ?_) fun z => nomatch z
        refine s_ret ev_c fun H6 e6 => ?_
        have z := q H6 ((ex4.trans e5).trans e6)
        rw [shownB_ne wz.1 zw] at z
        exact z
      refine q_when (b := false) (et_is (et_or (a := false) (b := false) (et_is (et_B (ev_op (ev_var (i := 5) rfl) ev_c rv_isN)) rfl) fun _ => et_is (et_B (ev_op (ev_op (ev_var (i := 5) rfl) ev_c (rv_ixTn (i := 0) (st_of h1) rfl)) (ev_var (i := 4) rfl) (rv_l (rv_ne rfl)))) (by simp [zw])) rfl) (fun z => nomatch z) fun _ H5 e5 => ?_
      have ex5 := ex4.trans e5
      have hp5 := ex_t ex5 hp
      have hp1 := e5 _ _ h1
      have hq1 := e5 _ _ h2
      refine s_ret (v := .bl true) (ev_is (ev_orV (a := true) (b := true) (ev_is (ev_op (ev_op (ev_var (i := 1) rfl) ev_c (rv_ixTn (i := 0) hp5 rfl)) ev_c (rv_l (rv_eq rfl))) (by decide +kernel)) fun z => nomatch z) rfl) fun H6 e6 => ?_
      have zz := q H6 (ex5.trans e6)
      rw [shownB_eq hb wz.1 zw] at zz
      exact zz
    · dsimp only [List.set]
      refine q_when (b := true) (et_is (et_or (a := true) (b := true) (et_is (et_B (ev_op (ev_var (i := 5) rfl) ev_c rv_isN)) rfl) fun z => nomatch z) rfl) (fun _ H5 e5 => ?_) fun z => nomatch z
      refine s_ret ev_c fun H6 e6 => ?_
      have z := q H6 (((ex3.trans e4).trans e5).trans e6)
      rw [shownB_fin fz] at z
      exact z
  | some mn =>
    obtain ⟨m, n⟩ := mn
    obtain ⟨p, rfl, hp⟩ := hcl
    refine q_parE (v := nmV k) (w := .int W) (ea_cons (ev_op (ev_var (i := 1) rfl) ev_c (rv_ixTn (i := 2) hp rfl)) (ea_cons (ev_if (b := false) (et_is (et_B (ev_op (ev_op (ev_var (i := 1) rfl) ev_c (rv_ixTn (i := 0) hp rfl)) ev_c (rv_l (rv_eq rfl)))) (by decide +kernel)) (fun z => nomatch z) fun _ => ev_op (ev_var (i := 1) rfl) ev_c (rv_ixTn (i := 4) hp rfl)) ea_nil)) fun H1 e1 => ?_

    cases hb : btwO 1 (some 100) (.int W) with
    | false =>
      refine q_when (b := true) (et_not (a := false) (et_B (ev_call (vs := [.int W, .int 1, .int 100]) (ea_cons (ev_var (i := 4) rfl) (ea_cons ev_c (ea_cons ev_c ea_nil))) fun H8 e8 R k E' => ⟨_, .int W, 1, some 100, rfl, .int W, by rw [hb] at *; exact k⟩))) (fun _ H2 e2 => ?_) fun z => nomatch z
      refine s_ret ev_c fun H3 e3 => ?_
      have z := q H3 ((e1.trans e2).trans e3)
      rw [shownB_no hb] at z
      exact z
    | true =>
    refine q_when (b := false) (et_not (a := true) (et_B (ev_call (vs := [.int W, .int 1, .int 100]) (ea_cons (ev_var (i := 4) rfl) (ea_cons ev_c (ea_cons ev_c ea_nil))) fun H8 e8 R k E' => ⟨_, .int W, 1, some 100, rfl, .int W, by rw [hb] at *; exact k⟩))) (fun z => nomatch z) fun _ H2 e2 => ?_
    have W100 : W ≤ 100 := by
      simp only [btwO, Bool.and_eq_true, decide_eq_true_eq] at hb
      exact hb.2
    have ex2 := e1.trans e2
    refine q_callA (vs := [v, nmV k, y, .int W]) (ea_cons (ev_var (i := 2) rfl) (ea_cons (ev_var (i := 3) rfl) (ea_cons (ev_op (ev_var (i := 0) rfl) ev_c (rv_ixTn (i := 1) (ex_t ex2 hpc) rfl)) (ea_cons (ev_var (i := 4) rfl) ea_nil)))) fun H3 e3 => ?_
    have ex3 := ex2.trans e3
    refine ⟨v, y, d, k, rs, W, rfl, dv.mono ex3, dy.mono ex3, W100, c20, cok, fun z fz p1 q1 kvs H4 e4 h1 h2 cn => ?_, fun fz H4 e4 => ?_⟩
    · dsimp only [List.set]
      have ex4 := ex3.trans e4
      have wz : wgh rs d k = some z ∧ ((z.1 : Nat) : Int) ≤ W := fin_one_some fz
      by_cases zw : ((z.1 : Nat) : Int) = W
      rotate_left
      · refine q_when (b := true) (et_is (et_or (a := false) (b := true) (et_is (et_B (ev_op (ev_var (i := 5) rfl) ev_c rv_isN)) rfl) fun _ => et_is (et_B (ev_op (ev_op (ev_var (i := 5) rfl) ev_c (rv_ixTn (i := 0) (st_of h1) rfl)) (ev_var (i := 4) rfl) (rv_l (rv_ne rfl)))) (by simp [zw])) rfl) (fun _ H5 e5 => ?_) fun z => nomatch z
        refine s_ret ev_c fun H6 e6 => ?_
        have z := q H6 ((ex4.trans e5).trans e6)
        rw [shownB_ne wz.1 zw] at z
        exact z
      refine q_when (b := false) (et_is (et_or (a := false) (b := false) (et_is (et_B (ev_op (ev_var (i := 5) rfl) ev_c rv_isN)) rfl) fun _ => et_is (et_B (ev_op (ev_op (ev_var (i := 5) rfl) ev_c (rv_ixTn (i := 0) (st_of h1) rfl)) (ev_var (i := 4) rfl) (rv_l (rv_ne rfl)))) (by simp [zw])) rfl) (fun z => nomatch z) fun _ H5 e5 => ?_
      have ex5 := ex4.trans e5
      have hp5 := ex_t ex5 hp
      have hp1 := e5 _ _ h1
      have hq1 := e5 _ _ h2
      refine s_ret (v := .bl (decide (((z.2 m : Nat) : Int) = n))) (ev_is (ev_orV (a := false) (ev_is (ev_op (ev_op (ev_var (i := 1) rfl) ev_c (rv_ixTn (i := 0) hp5 rfl)) ev_c (rv_l (rv_eq rfl))) (by decide +kernel)) fun _ => ev_andV (a := true) (ev_call (vs := [.int n]) (ea_cons (ev_op (ev_var (i := 1) rfl) ev_c (rv_ixTn (i := 5) hp5 rfl)) ea_nil) fun H8 e8 R k E' => ⟨_, .int n, rfl, .int n, k⟩) fun _ => ev_op (ev_dgetR (ev_op (ev_var (i := 5) rfl) ev_c (rv_ixTn (i := 1) (st_of hp1) rfl)) hq1 (ev_op (ev_var (i := 1) rfl) ev_c (rv_ixTn (i := 3) hp5 rfl)) (k := .inr (SX.S m)) (cn m)) (ev_op (ev_var (i := 1) rfl) ev_c (rv_ixTn (i := 5) hp5 rfl)) (rv_l (rv_eq rfl))) (by simp)) fun H6 e6 => ?_
      have zz := q H6 (ex5.trans e6)
      rw [shownB_eq hb wz.1 zw] at zz
      exact zz
    · dsimp only [List.set]
      refine q_when (b := true) (et_is (et_or (a := true) (b := true) (et_is (et_B (ev_op (ev_var (i := 5) rfl) ev_c rv_isN)) rfl) fun z => nomatch z) rfl) (fun _ H5 e5 => ?_) fun z => nomatch z
      refine s_ret ev_c fun H6 e6 => ?_
      have z := q H6 (((ex3.trans e4).trans e5).trans e6)
      rw [shownB_fin fz] at z
      exact z
end
end K62
set_option Elab.async false
set_option linter.all false
set_option maxRecDepth 100000
set_option maxHeartbeats 4000000
namespace K62
open PySem PySem.Spec PyProof.Rows L2 Evl SwX
section
variable {P : Program} {w : World} {K : PySem.W.Frag} {mg : Str → Option Value} {base : Heap} {f : Addr} {fd : FuncData}
def weighsL : Nm := [119, 101, 105, 103, 104, 115]
def holdsL : Nm := [104, 111, 108, 100, 115]
def atmostL : Nm := [97, 116, 32, 109, 111, 115, 116]
theorem s_weighs : ("weighs" : Str) = SX.S weighsL := by decide +kernel
theorem s_holds : ("holds" : Str) = SX.S holdsL := by decide +kernel
theorem s_atmost : ("at most" : Str) = SX.S atmostL := by decide +kernel
theorem pl_word {l : Nm} (h : (nmD l).canLay0 = true) : Pl (nmD l) := ⟨rfl, shaped_of h (Nat.zero_le _)⟩
theorem pl_ah : Pl (nmsD [atmostL, holdsL]) := ⟨by unfold nmsD; simp only [PyData.hasDict]; exact nms_nod _, shaped_of (by decide +kernel) (by unfold nmsD; rw [dep_t]; have := nms_dep [atmostL, holdsL]; omega)⟩
theorem rv_inAH {m : Nm} {b : Bool} {H : Hp} {u : Addr} (h : H u = some (.tup [.str "at most", .str "holds"])) (hm : (nmD m).canLay0 = true) (e : decide (m ∈ [atmostL, holdsL]) = b) :
    RV (fun x y H Q => (∃ (c : Nat) (z : Str), x = .str ⟨#[c]⟩ ∧ y = .str z ∧ Q (.bl (decide (c ∈ z.cps.toList))) H) ∨ rInDat K false x y H Q) (.str (SX.S m)) (.ref u) H (.bl b) := by
  rw [s_atmost, s_holds] at h
  exact rv_inDat (d := nmD m) (c := nmsD [atmostL, holdsL]) (.inr rfl) (.str _) (da_nms (st_of h)) (pl_word hm) pl_ah (by rw [any_nm]; exact e)
theorem rv_kd {d : Addr} {x : Str} {u : Value} {H : Hp} (e : PySem.W.nsIn K d x = some (some u)) : RV (fun x y H Q => ∃ (z : Str) (r : Option Value), x = .str z ∧ y = .ref d ∧ PySem.W.nsIn K d z = some r ∧ Q (.bl (!r.isSome)) H) (.str x) (.ref d) H (.bl false) := fun H1 e1 Q q => ⟨x, some u, rfl, rfl, e, q H1 (Ex.refl H1)⟩
theorem rv_ixkd {w : World} {d : Addr} {es : Array DictEntry} {n : Nat} {x : Str} {u : Value} {v : V} {H : Hp} (D : KDict K w d es n) (e : PySem.W.nsIn K d x = some (some u)) (r : RelV v u) : RV (rIxD K w) (.ref d) (.str x) H v := fun H1 e1 Q q => ⟨d, x, v, rfl, rfl, ⟨es, n, u, D.at_, D.lit, e, r⟩, q H1 (Ex.refl H1)⟩
theorem sqt_ty {H : Hp} {a : Addr} {xs : List V} (h : SqT K H a xs) : TyX K H (.ref a) (.type "tuple") := by
  rcases h with (h | ⟨o, h⟩) | ⟨o, its, n, h, c, _⟩
  · exact .base (.tup h)
  · exact .fTuple h
  · exact .kTuple h c
def claimMem (ns : List Nm) : Option (Nm × Int) → Prop
  | none => True
  | some (m, _) => m ∈ ns
def spAcc (K : PySem.W.Frag) : Sp := fun vs H Q _ => ∃ (cl v : V) (ns : List Nm) (rs : List Rul) (k : Nm) (W : Int) (o : Option (Nm × Int)) (d : PyData), vs = [cl, v] ∧ ClaimAt K H cl (.str (SX.S (textL ns rs))) k W o ∧ k ∈ ns ∧ claimMem ns o ∧ Da K H v d ∧ NamesOk ns ∧ RulesOk ns rs ∧ ∀ H', Ex H H' → Q (.bl (shownB rs d k W o)) H'
abbrev s_accepts : Stmt := top 42
abbrev sc_accepts_N : List Str := ["claim", "certificate", "catalogue"]
theorem sc_accepts : FnScope sc_accepts_N ["claim", "certificate"] (defScope s_accepts) := ⟨rfl, rfl, rfl, by decide +kernel, rfl, by decide +kernel, by decide +kernel⟩
theorem ok_accepts {dS : Addr} {es : Array DictEntry} {nS : Nat} (m_isinstance : mg "isinstance" = none) (m_tuple : mg "tuple" = none) (m_str : mg "str" = none) (m_len : mg "len" = none) (gS : mg "SIZES" = some (.ref dS)) (DS : KDict K w dS es nS) (s4 : ∃ t, PySem.W.nsIn K dS "weighs" = some (some (.int 4 t))) (s6 : ∃ t, PySem.W.nsIn K dS "holds" = some (some (.int 6 t))) (D_told_catalogue : Has P w K mg base "told_catalogue" 4 ["text"] (spToldC K)) (D_is_thing_shown : Has P w K mg base "is_thing_shown" 4 ["catalogue", "claim", "thing"] (spShown K)) (F : FnP K "accepts" s_accepts f fd) : FnOk P w K mg base CX0 5 f fd ["claim", "certificate"] (spAcc K) := by
  refine F.ok sc_accepts (fun vs H Q E h => by obtain ⟨cl, v, ns, rs, k, W, o, d, rfl, _⟩ := h; rfl) (fun cdv A outer s H vs Q E hr h => ⟨_, PSs.nox
    (pss_cons (ps_if (pw_or (pt_not (pt_val (pe_callB (isiK K) (by rfl) m_isinstance (by decide +kernel) (pa_cons (pv 0) (pa_cons (pe_bty (n := "tuple") m_tuple) pa_nil))))) (pw_or (pt_cmpR (eqK K hr) (pe_callB (lenK K) (by rfl) m_len (by decide +kernel) (pa_cons (pv 0) pa_nil)) pe_int (nomark _)) (pw_or1 (pt_not (pt_val (pe_callB (isiK K) (by rfl) m_isinstance (by decide +kernel) (pa_cons (pe_ix (ixK K) (pv 0) pe_int (fun _ _ => rfl)) (pa_cons (pe_bty (n := "str") m_str) pa_nil)))))))).pt (pss_one (ps_ret pe_bl)) pss_nil) (pss_cons (ps_if (pw_or (pt_cmpR (op_notIn_kd DS) (pe_ix (ixK K) (pv 0) pe_int (fun _ _ => rfl)) (pe_own gS) rfl) (pw_or1 (pt_cmpR (neK K hr) (pe_callB (lenK K) (by rfl) m_len (by decide +kernel) (pa_cons (pv 0) pa_nil)) (pe_ix ix_kdict (pe_own gS) (pe_ix (ixK K) (pv 0) pe_int (fun _ _ => rfl)) (fun _ _ => rfl)) (nomark _)))).pt (pss_one (ps_ret pe_bl)) pss_nil) (pss_cons (ps_set (i := 2) sc_accepts.nd rfl (Or.inl rfl) (pe_has D_told_catalogue (hr.mono (by decide)) (pa_cons (pe_ix (ixK K) (pv 0) pe_int (fun _ _ => rfl)) pa_nil))) (pss_cons (ps_if (pw_or (pt_cmpR op_isN (pv 2) pe_non (nomark _)) (pw_or1 (pt_cmpR (niK K hr) (pe_ix (ixK K) (pv 0) pe_int (fun _ _ => rfl)) (pe_ix (ixK K) (pv 2) pe_int (fun _ _ => rfl)) rfl))).pt (pss_one (ps_ret pe_bl)) pss_nil) (pss_cons (ps_if (pw_and (pt_cmpR (inK K hr) (pe_ix (ixK K) (pv 0) pe_int (fun _ _ => rfl)) (pe_tup (pa_cons pe_str (pa_cons pe_str pa_nil))) rfl) (pw_and1 (pt_cmpR (niK K hr) (pe_ix (ixK K) (pv 0) pe_int (fun _ _ => rfl)) (pe_ix (ixK K) (pv 2) pe_int (fun _ _ => rfl)) rfl))).pt (pss_one (ps_ret pe_bl)) pss_nil) (pss_cons (ps_if (pt_cmpR (eqK K hr) (pe_ix (ixK K) (pv 0) pe_int (fun _ _ => rfl)) pe_str (nomark _)) (pss_one SwX.ps_never) pss_nil) (pss_cons (ps_if (pt_cmpR (eqK K hr) (pe_ix (ixK K) (pv 0) pe_int (fun _ _ => rfl)) pe_str (nomark _)) (pss_one SwX.ps_never) pss_nil) (pss_one (ps_ret (pe_has D_is_thing_shown (hr.mono (by decide)) (pa_cons (pv 2) (pa_cons (pv 0) (pa_cons (pv 1) pa_nil))))))))))))), ?_⟩)
  obtain ⟨cl, v, ns, rs, k, W, o, d, rfl, hcl, kn, mn, dv, okn, okr, q⟩ := h
  obtain ⟨t4, s4⟩ := s4
  obtain ⟨t6, s6⟩ := s6
  cases o with
  | none =>
    obtain ⟨p, rfl, hp⟩ := id hcl
    refine q_when (b := false) (et_is (et_or (a := false) (b := false) (et_not (a := true) (et_B (ev_isi (T := "tuple") (ev_var rfl) (fun _ e => sqt_ty (ex_t e hp)) (by decide +kernel)))) fun _ => et_is (et_or (a := false) (b := false) (et_is (et_B (ev_op (ev_lenL (ev_var rfl) (.inr hp)) ev_c (rv_l (rv_eq rfl)))) rfl) fun _ => et_not (a := true) (et_B (ev_isi (T := "str") (ev_op (ev_var (i := 0) rfl) ev_c (rv_ixTn (i := 0) hp rfl)) (fun _ _ => .base (.str _)) (by decide +kernel)))) rfl) rfl) (fun z => nomatch z) fun _ H1 e1 => ?_
    have hp1 := ex_t e1 hp
    refine q_when (b := false) (et_is (et_or (a := false) (b := false) (et_B (ev_op (ev_op (ev_var (i := 0) rfl) ev_c (rv_ixTn (i := 0) hp1 rfl)) ev_c (rv_kd s4))) fun _ => et_is (et_B (ev_op (ev_lenL (ev_var rfl) (.inr hp1)) (ev_op ev_c (ev_op (ev_var (i := 0) rfl) ev_c (rv_ixTn (i := 0) hp1 rfl)) (rv_ixkd DS s4 (v := .int 4) ⟨_, rfl⟩)) (rv_l (rv_ne rfl)))) rfl) rfl) (fun z => nomatch z) fun _ H2 e2 => ?_
    have ex2 := e1.trans e2
    refine q_callA (vs := [.str (SX.S (textL ns rs))]) (ea_cons (ev_op (ev_var (i := 0) rfl) ev_c (rv_ixTn (i := 1) (ex_t ex2 hp) rfl)) ea_nil) fun H3 e3 => ⟨ns, rs, rfl, okn, okr, fun c H4 e4 hm => ?_⟩
    dsimp only [List.set]
    have ex4 := (ex2.trans e3).trans e4
    have hp4 := ex_t ex4 hp
    obtain ⟨pc, qk, y, rfl, hpc, hqk, dy⟩ := id hm
    have inN : ∀ (m : Nm) (H' : Hp), m ∈ ns → Ex H4 H' → RV (fun x y H Q => (∃ (c : Nat) (z : Str), x = .str ⟨#[c]⟩ ∧ y = .str z ∧ Q (.bl (!decide (c ∈ z.cps.toList))) H) ∨ rInDat K true x y H Q) (nmV m) (.ref qk) H' (.bl (!true)) := fun m H' mn e => rv_niDat (b := true) (d := nmD m) (c := nmsD ns) (.inr rfl) (.str _) (da_nms (ex_t e hqk)) (pl_nm (okn.ok m mn)) (pl_nms okn.ok) (by rw [any_nm]; exact decide_eq_true mn)
    refine q_when (b := false) (et_is (et_or (a := false) (b := false) (et_is (et_B (ev_op (ev_var (i := 2) rfl) ev_c rv_isN)) rfl) fun _ => et_B (ev_op (ev_op (ev_var (i := 0) rfl) ev_c (rv_ixTn (i := 2) hp4 rfl)) (ev_op (ev_var (i := 2) rfl) ev_c (rv_ixTn (i := 0) hpc rfl)) (inN k H4 kn (Ex.refl _)))) rfl) (fun z => nomatch z) fun _ H5 e5 => ?_
    have hp5 := ex_t e5 hp4
    refine q_when (b := false) (et_is (et_and (a := false) (b := false) (et_B (ev_opU (ev_op (ev_var (i := 0) rfl) ev_c (rv_ixTn (i := 0) hp5 rfl)) (eu_tup (ea_cons ev_c (ea_cons ev_c ea_nil)) (by simp)) fun u H8 h8 e8 => by rw [s_weighs]; exact rv_inAH h8 (by decide +kernel) (by decide))) fun z => nomatch z) rfl) (fun z => nomatch z) fun _ H6 e6 => ?_
    have hp6 := ex_t e6 hp5
    refine q_when (b := false) (et_is (et_B (ev_op (ev_op (ev_var (i := 0) rfl) ev_c (rv_ixTn (i := 0) hp6 rfl)) ev_c (rv_l (rv_eq rfl)))) (by decide +kernel)) (fun z => nomatch z) fun _ H7 e7 => ?_
    have hp7 := ex_t e7 hp6
    refine q_when (b := false) (et_is (et_B (ev_op (ev_op (ev_var (i := 0) rfl) ev_c (rv_ixTn (i := 0) hp7 rfl)) ev_c (rv_l (rv_eq rfl)))) (by decide +kernel)) (fun z => nomatch z) fun _ H8 e8 => ?_
    have up := ((e5.trans e6).trans e7).trans e8
    refine s_ret (ev_call (vs := [.ref pc, .ref p, v]) (ea_cons (ev_var (i := 2) rfl) (ea_cons (ev_var (i := 0) rfl) (ea_cons (ev_var (i := 1) rfl) ea_nil))) fun H9 e9 R kk E' => ⟨.ref pc, .ref p, _, v, ns, rs, k, W, _, d, rfl, hm.mono (up.trans e9), hcl.mono ((ex4.trans up).trans e9), dv.mono ((ex4.trans up).trans e9), okn, okr, kk⟩) fun H9 e9 => q H9 ((ex4.trans up).trans e9)
  | some mn' =>
    obtain ⟨m, n⟩ := mn'
    obtain ⟨p, rfl, hp⟩ := id hcl
    refine q_when (b := false) (et_is (et_or (a := false) (b := false) (et_not (a := true) (et_B (ev_isi (T := "tuple") (ev_var rfl) (fun _ e => sqt_ty (ex_t e hp)) (by decide +kernel)))) fun _ => et_is (et_or (a := false) (b := false) (et_is (et_B (ev_op (ev_lenL (ev_var rfl) (.inr hp)) ev_c (rv_l (rv_eq rfl)))) rfl) fun _ => et_not (a := true) (et_B (ev_isi (T := "str") (ev_op (ev_var (i := 0) rfl) ev_c (rv_ixTn (i := 0) hp rfl)) (fun _ _ => .base (.str _)) (by decide +kernel)))) rfl) rfl) (fun z => nomatch z) fun _ H1 e1 => ?_
    have hp1 := ex_t e1 hp
    refine q_when (b := false) (et_is (et_or (a := false) (b := false) (et_B (ev_op (ev_op (ev_var (i := 0) rfl) ev_c (rv_ixTn (i := 0) hp1 rfl)) ev_c (rv_kd s6))) fun _ => et_is (et_B (ev_op (ev_lenL (ev_var rfl) (.inr hp1)) (ev_op ev_c (ev_op (ev_var (i := 0) rfl) ev_c (rv_ixTn (i := 0) hp1 rfl)) (rv_ixkd DS s6 (v := .int 6) ⟨_, rfl⟩)) (rv_l (rv_ne rfl)))) rfl) rfl) (fun z => nomatch z) fun _ H2 e2 => ?_
    have ex2 := e1.trans e2
    refine q_callA (vs := [.str (SX.S (textL ns rs))]) (ea_cons (ev_op (ev_var (i := 0) rfl) ev_c (rv_ixTn (i := 1) (ex_t ex2 hp) rfl)) ea_nil) fun H3 e3 => ⟨ns, rs, rfl, okn, okr, fun c H4 e4 hm => ?_⟩
    dsimp only [List.set]
    have ex4 := (ex2.trans e3).trans e4
    have hp4 := ex_t ex4 hp
    obtain ⟨pc, qk, y, rfl, hpc, hqk, dy⟩ := id hm
    have inN : ∀ (m : Nm) (H' : Hp), m ∈ ns → Ex H4 H' → RV (fun x y H Q => (∃ (c : Nat) (z : Str), x = .str ⟨#[c]⟩ ∧ y = .str z ∧ Q (.bl (!decide (c ∈ z.cps.toList))) H) ∨ rInDat K true x y H Q) (nmV m) (.ref qk) H' (.bl (!true)) := fun m H' mn e => rv_niDat (b := true) (d := nmD m) (c := nmsD ns) (.inr rfl) (.str _) (da_nms (ex_t e hqk)) (pl_nm (okn.ok m mn)) (pl_nms okn.ok) (by rw [any_nm]; exact decide_eq_true mn)
    refine q_when (b := false) (et_is (et_or (a := false) (b := false) (et_is (et_B (ev_op (ev_var (i := 2) rfl) ev_c rv_isN)) rfl) fun _ => et_B (ev_op (ev_op (ev_var (i := 0) rfl) ev_c (rv_ixTn (i := 2) hp4 rfl)) (ev_op (ev_var (i := 2) rfl) ev_c (rv_ixTn (i := 0) hpc rfl)) (inN k H4 kn (Ex.refl _)))) rfl) (fun z => nomatch z) fun _ H5 e5 => ?_
    have hp5 := ex_t e5 hp4
    refine q_when (b := false) (et_is (et_and (a := true) (b := false) (et_B (ev_opU (ev_op (ev_var (i := 0) rfl) ev_c (rv_ixTn (i := 0) hp5 rfl)) (eu_tup (ea_cons ev_c (ea_cons ev_c ea_nil)) (by simp)) fun u H8 h8 e8 => by rw [s_holds]; exact rv_inAH h8 (by decide +kernel) (by decide))) fun _ => et_B (ev_op (ev_op (ev_var (i := 0) rfl) ev_c (rv_ixTn (i := 3) hp5 rfl)) (ev_op (ev_var (i := 2) rfl) ev_c (rv_ixTn (i := 0) (ex_t e5 hpc) rfl)) (inN m H5 mn e5))) rfl) (fun z => nomatch z) fun _ H6 e6 => ?_
    have hp6 := ex_t e6 hp5
    refine q_when (b := false) (et_is (et_B (ev_op (ev_op (ev_var (i := 0) rfl) ev_c (rv_ixTn (i := 0) hp6 rfl)) ev_c (rv_l (rv_eq rfl)))) (by decide +kernel)) (fun z => nomatch z) fun _ H7 e7 => ?_
    have hp7 := ex_t e7 hp6
    refine q_when (b := false) (et_is (et_B (ev_op (ev_op (ev_var (i := 0) rfl) ev_c (rv_ixTn (i := 0) hp7 rfl)) ev_c (rv_l (rv_eq rfl)))) (by decide +kernel)) (fun z => nomatch z) fun _ H8 e8 => ?_
    have up := ((e5.trans e6).trans e7).trans e8
    refine s_ret (ev_call (vs := [.ref pc, .ref p, v]) (ea_cons (ev_var (i := 2) rfl) (ea_cons (ev_var (i := 0) rfl) (ea_cons (ev_var (i := 1) rfl) ea_nil))) fun H9 e9 R kk E' => ⟨.ref pc, .ref p, _, v, ns, rs, k, W, _, d, rfl, hm.mono (up.trans e9), hcl.mono ((ex4.trans up).trans e9), dv.mono ((ex4.trans up).trans e9), okn, okr, kk⟩) fun H9 e9 => q H9 ((ex4.trans up).trans e9)
end
end K62
set_option Elab.async false
set_option linter.all false
set_option maxRecDepth 100000
set_option maxHeartbeats 4000000
namespace K62
open PySem PySem.Spec PyProof.Rows L2 Evl SwX
section
variable {P : Program} {w : World} {K : PySem.W.Frag} {mg : Str → Option Value} {base : Heap} {f : Addr} {fd : FuncData}
/-- the kinds that have things, in the order in which they were found, each with a recipe -/
inductive Rdy (rs : List Rul) : List (Nm × Nat) → Prop
  | nil : Rdy rs []
  | snoc {al : List (Nm × Nat)} {k : Nm} {i : Nat} {r : Rul} (h : Rdy rs al) (hr : rs[i]? = some r) (hk : r.1 = k) (hp : ∀ m ∈ r.2.2, m ∈ al.map (·.1)) (nk : k ∉ al.map (·.1)) : Rdy rs (al ++ [(k, i)])
def kvsOf (al : List (Nm × Nat)) : List (Key × V) := al.map fun p => ((.inr (SX.S p.1) : Key), V.int p.2)
theorem val_kvs (al : List (Nm × Nat)) (n : Nm) : (valV (kvsOf al) (.inr (SX.S n))).isSome = decide (n ∈ al.map (·.1)) := by
  rw [← valV_any]
  unfold kvsOf
  rw [Bool.eq_iff_iff]
  simp only [List.any_map, List.any_eq_true, Function.comp, decide_eq_true_eq, List.mem_map]
  constructor
  · rintro ⟨p, hp, e⟩
    exact ⟨p, hp, SX.S_inj (Sum.inr.inj e)⟩
  · rintro ⟨p, hp, e⟩
    exact ⟨p, hp, by rw [e]⟩
theorem put_kvs {al : List (Nm × Nat)} {n : Nm} {i : Nat} (h : n ∉ al.map (·.1)) : putK (kvsOf al) (.inr (SX.S n)) (.int i) = kvsOf (al ++ [(n, i)]) := by
  have e : (kvsOf al).any (fun kv => decide (kv.1 = (.inr (SX.S n) : Key))) = false := by rw [valV_any, val_kvs]; exact decide_eq_false h
  unfold putK
  rw [e, if_neg (by decide)]
  unfold kvsOf
  rw [List.map_append]
  rfl
theorem Rdy.keys {rs : List Rul} {ns : List Nm} {al : List (Nm × Nat)} (h : Rdy rs al) (ok : ∀ r ∈ rs, r.1 ∈ ns) : (al.map (·.1)).Nodup ∧ ∀ k ∈ al.map (·.1), k ∈ ns := by
  induction h with
  | nil => exact ⟨List.nodup_nil, fun _ z => nomatch z⟩
  | @snoc al k i r _ hr hk hp nk ih =>
    rw [List.map_append]
    refine ⟨List.nodup_append.mpr ⟨ih.1, by simp, fun a ha b hb => ?_⟩, fun x hx => ?_⟩
    · simp at hb
      subst hb
      exact fun e => nk (e ▸ ha)
    · rcases List.mem_append.mp hx with z | z
      · exact ih.2 x z
      · simp at z
        subst z
        rw [← hk]
        exact ok r (List.mem_of_getElem? hr)
theorem Rdy.few {rs : List Rul} {ns : List Nm} {al : List (Nm × Nat)} (h : Rdy rs al) (okr : RulesOk ns rs) : al.length ≤ ns.length := by
  have z := h.keys (ns := ns) fun r hr => (okr.ok r hr).wd
  have := List.Nodup.length_le_of_subset z.1 (fun x hx => z.2 x hx)
  simpa using this
theorem ev_dni {σ : L2.St} {H : Hp} {ta tb : TE} {p : Addr} {kvs : List (Key × V)} {k : Key} (h2 : Ev ta σ H (kV k)) (h1 : Ev tb σ H (.ref p)) (h : H p = some (.dK kvs)) : Ev (tDNotIn ta tb) σ H (.bl (!(valV kvs k).isSome)) := fun H1 e Q q =>
  h2 H1 e _ fun H2 e2 => h1 H2 (e.trans e2) _ fun H3 e3 => ⟨p, _, rfl, DGet.k (e3 _ _ (e2 _ _ (e _ _ h))), q H3 (e2.trans e3)⟩
theorem ev_di {σ : L2.St} {H : Hp} {ta tb : TE} {p : Addr} {kvs : List (Key × V)} {k : Key} (h2 : Ev ta σ H (kV k)) (h1 : Ev tb σ H (.ref p)) (h : H p = some (.dK kvs)) : Ev (tDIn ta tb) σ H (.bl (valV kvs k).isSome) := fun H1 e Q q =>
  h2 H1 e _ fun H2 e2 => h1 H2 (e.trans e2) _ fun H3 e3 => ⟨p, _, rfl, DGet.k (e3 _ _ (e2 _ _ (e _ _ h))), q H3 (e2.trans e3)⟩
theorem da_bools {H : Hp} {p : Addr} {bs : List Bool} (h : H p = some (.lst (bs.map V.bl))) : Da K H (.ref p) (.list (bs.map PyData.bool)) := by
  refine .lst h (by simp) fun i x d hx hd => ?_
  rw [List.getElem?_map] at hx hd
  cases e : bs[i]? with
  | none => rw [e] at hx; cases hx
  | some b => rw [e] at hx hd; cases hx; cases hd; exact .bl b
theorem pl_boolL (bs : List Bool) : Pl (.list (bs.map PyData.bool)) := ⟨by simp only [PyData.hasDict]; exact nodict_all fun _ _ => rfl, shaped_of (by simp only [PyData.canLay0]; exact lay_all fun _ _ => rfl) (by rw [dep_l]; have : PyData.depthAll (bs.map PyData.bool) ≤ 0 := depth_all fun _ _ => Nat.le_refl _; omega)⟩
theorem any_false (bs : List Bool) : (bs.map PyData.bool).any (fun z => PyData.eqv z (.bool false)) = bs.any (!·) := by
  rw [List.any_map]
  congr 1
  funext b
  cases b <;> rfl
/-- False not in [part in ready for part in parts] -/
theorem ev_allIn {σ : L2.St} {H : Hp} {tl te : TE} {a : Addr} {ps : List Nm} {al : List (Nm × Nat)} {j : Nat} {vs : List Nat} (h : Ev tl σ H (.ref a)) (hx : SqT K H a (ps.map nmV)) (hz : ps.length ≤ 40000) (hw : ∀ x, wipe ((wipe σ vs).set j (some x)) vs = wipe σ vs)
    (he : ∀ (m : Nm) H1, Ex H H1 → Ev te ((wipe σ vs).set j (some (nmV m))) H1 (.bl (valV (kvsOf al) (.inr (SX.S m))).isSome)) :
    Ev (tOp (fun x y H Q => (∃ (c : Nat) (z : Str), x = .str ⟨#[c]⟩ ∧ y = .str z ∧ Q (.bl (!decide (c ∈ z.cps.toList))) H) ∨ rInDat K true x y H Q) (tC (.bl false)) (tLc (iTup K tl) (gName j) tYes te vs)) σ H (.bl (ps.all fun m => decide (m ∈ al.map (·.1)))) := by
  have l1 := el_lcT (K := K) (te := te) (j := j) (vs := vs) (fun i => .bl ((ps.map fun m => decide (m ∈ al.map (·.1)))[i]?.getD false)) h hx (by simpa using hz) hw (fun i x H1 e1 hi => by
    rw [List.getElem?_map] at hi
    cases e : ps[i]? with
    | none => rw [e] at hi; cases hi
    | some m =>
      rw [e] at hi
      cases hi
      have g := he m H1 e1
      rw [val_kvs] at g
      rw [List.getElem?_map, e]
      exact g)
  rw [given_eq (vs := (ps.map fun m => decide (m ∈ al.map (·.1))).map V.bl) (by simp) (fun i hi => by simp at hi; simp [hi])] at l1
  refine ev_is (ev_opL ev_c l1 fun p H1 hp e1 => rv_niDat (b := (ps.map fun m => decide (m ∈ al.map (·.1))).any (!·)) (d := .bool false) (c := .list ((ps.map fun m => decide (m ∈ al.map (·.1))).map PyData.bool)) (.inl rfl) (.bl _) (da_bools hp) ⟨rfl, shaped_of rfl (Nat.zero_le _)⟩ (pl_boolL _) (any_false _)) ?_
  congr 1
  rw [List.any_map, List.all_eq_not_any_not]
  rfl
def PrI (H : Hp) (p : Nm × Nat) (v : V) : Prop := ∃ t, v = .ref t ∧ H t = some (.tup [nmV p.1, .int (p.2 : Nat)])
theorem prI_up {H1 H2 : Hp} (up : ∀ t o, H1 t = some (.tup o) → H2 t = some (.tup o)) : ∀ {st : List (Nm × Nat)} {ws : List V}, Paired (PrI H1) st ws → Paired (PrI H2) st ws
  | _, _, .nil => .nil
  | _, _, .cons ⟨t, e, ht⟩ r => .cons ⟨t, e, up t _ ht⟩ (prI_up up r)
theorem paired_at2 {α β : Type} {F : α → β → Prop} : ∀ {ds : List α} {zs : List β}, Paired F ds zs → ∀ {i : Nat} {z : β}, zs[i]? = some z → ∃ d, ds[i]? = some d ∧ F d z
  | _, _, .nil, i, d, e => by simp at e
  | _, _, .cons r t, 0, d, e => by simp at e; subst e; exact ⟨_, rfl, r⟩
  | _, _, .cons r t, i + 1, d, e => by simp at e; exact paired_at2 t e
def FrOk (rs : List Rul) (al : List (Nm × Nat)) (p : Nm × Nat) : Prop := ∃ r, rs[p.2]? = some r ∧ r.1 = p.1 ∧ ∀ m ∈ r.2.2, m ∈ al.map (·.1)
def spMade (K : PySem.W.Frag) : Sp := fun vs H Q _ => ∃ (v : V) (ns : List Nm) (rs : List Rul), vs = [v] ∧ MineAt K ns rs v H ∧ NamesOk ns ∧ RulesOk ns rs ∧ ∀ c al H', H c = none → Ex H H' → H' c = some (.dK (kvsOf al)) → Rdy rs al → Q (.ref c) H'
abbrev s__law_made_of : Stmt := top 52
abbrev sc__law_made_of_N : List Str := ["_law_mine", "_law_ready", "_law_turn", "_law_fresh", "_law_index", "_law_kind", "_law_own", "_law_parts", "_law_part"]
theorem sc__law_made_of : FnScope sc__law_made_of_N ["_law_mine"] (defScope s__law_made_of) := ⟨rfl, rfl, rfl, by decide +kernel, rfl, by decide +kernel, by decide +kernel⟩
theorem ok_made (m_range : mg "range" = none) (m_len : mg "len" = none) (F : FnP K "_law_made_of" s__law_made_of f fd) : FnOk P w K mg base CX0 1 f fd ["_law_mine"] (spMade K) := by
  refine F.ok sc__law_made_of (fun vs H Q E h => by obtain ⟨v, ns, rs, rfl, _⟩ := h; rfl) (fun cdv A outer s H vs Q E hr h => ⟨_, PSs.nox
    (pss_cons (ps_set (i := 1) sc__law_made_of.nd rfl (Or.inr rfl) pe_dnewK) (pss_cons (ps_for PassesOwn.never rfl (pi_range1 (by rfl) m_range (pa_cons (pe_callB (lenK K) (by rfl) m_len (by decide +kernel) (pa_cons (pe_ix (ixK K) (pv 0) pe_int (fun _ _ => rfl)) pa_nil)) pa_nil)) (pg_name (i := 2) sc__law_made_of.nd rfl (Or.inl rfl)) (pss_cons (ps_set (i := 3) sc__law_made_of.nd rfl (Or.inl rfl) (pe_lst pa_nil)) (pss_cons (ps_for PassesOwn.never rfl (pi_range1 (by rfl) m_range (pa_cons (pe_callB (lenK K) (by rfl) m_len (by decide +kernel) (pa_cons (pe_ix (ixK K) (pv 0) pe_int (fun _ _ => rfl)) pa_nil)) pa_nil)) (pg_name (i := 4) sc__law_made_of.nd rfl (Or.inl rfl)) (pss_cons (ps_asg (pe_ix (ixK K) (pe_ix (ixK K) (pv 0) pe_int (fun _ _ => rfl)) (pv 4) (fun _ _ => rfl)) (pg_tup rfl (pgs_cons (pg_name (i := 5) sc__law_made_of.nd rfl (Or.inl rfl)) (pgs_cons (pg_name (i := 6) sc__law_made_of.nd rfl (Or.inl rfl)) (pgs_cons (pg_name (i := 7) sc__law_made_of.nd rfl (Or.inl rfl)) pgs_nil))))) (pss_one (ps_if (pw_and (pt_cmp (pc_dnotin (Nat.lt_of_le_of_lt (Nat.add_le_add_left (show 1 ≤ 64 by decide) _) hr.units) (pv 5) (pv 1))) (pw_and1 (pt_cmpR (niK K hr) pe_bl (pe_lc (own := [("_law_part", 8)]) (g := gName 8) (tt := tYes) rfl sc__law_made_of.nd (pi_tup (pv 7)) (blkOk_by (N := sc__law_made_of_N) (sc := defScope s__law_made_of) (by decide +kernel)) (fun _ _ _ _ _ => pg_name (i := 8) sc__law_made_of.nd rfl (Or.inl rfl)) (fun _ _ _ _ _ => pts_nil) (fun _ _ _ _ _ => (pe_cmp (pc_din (Nat.lt_of_le_of_lt (Nat.add_le_add_left (show 1 ≤ 64 by decide) _) hr.units) (pv 8) (pv 1))))) rfl))).pt (pss_one (ps_expr (pe_bm PySem.F.plainAttrs_list PySem.F.slot_list_append PySem.F.type_list_append mt_append (pv 3) (pa_cons (pe_tup (pa_cons (pv 5) (pa_cons (pv 4) pa_nil))) pa_nil)))) pss_nil)))) (pss_one (ps_for PassesOwn.never rfl (pi_list (pv 3)) (pg_tup rfl (pgs_cons (pg_name (i := 5) sc__law_made_of.nd rfl (Or.inl rfl)) (pgs_cons (pg_name (i := 4) sc__law_made_of.nd rfl (Or.inl rfl)) pgs_nil))) (pss_one (ps_if (pt_cmp (pc_dnotin (Nat.lt_of_le_of_lt (Nat.add_le_add_left (show 1 ≤ 64 by decide) _) hr.units) (pv 5) (pv 1))) (pss_one (ps_asg (pv 4) (pg_sub (pv 1) (pv 5) (set_dict (hu_of hr))))) pss_nil))))))) (pss_one (ps_ret (pv 1))))), ?_⟩)
  obtain ⟨v, ns, rs, rfl, hm, okn, okr, q⟩ := h
  obtain ⟨pc, qk, y, rfl, hpc, hqk, dy⟩ := hm
  obtain ⟨q0, xs, rfl, hq, prr⟩ := da_ruls rs dy
  have lx : xs.length = rs.length := (paired_len prr).symm
  have l4 := okn.len
  have l10 := okr.len
  refine fun c0 hc0 => ?_
  have ex0 : Ex H (upd H c0 (.dK [])) := Ex.new hc0
  refine q_forR1 (n := ((ns.map nmV).length : Int)) (ea_cons (ev_lenL (ev_op (ev_var (i := 0) rfl) ev_c (rv_ixTn (i := 0) (ex_t ex0 hpc) rfl)) (.inr (ex_t ex0 hqk))) ea_nil) (by simp; omega) (fun _ σ' H' => ∃ al v2 v3 v4 v5 v6 v7 v8, σ' = [some (.ref pc), some (.ref c0), v2, v3, v4, v5, v6, v7, v8] ∧ H' c0 = some (.dK (kvsOf al)) ∧ Rdy rs al ∧ Ex H H')
    (fun H1 e1 => ⟨[], _, _, _, _, _, _, _, rfl, e1 _ _ upd_same, .nil, ex0.trans e1⟩) (fun i σ' H1 hi z => ?_) fun σ' H1 z => ?_
  · obtain ⟨al, v2, v3, v4, v5, v6, v7, v8, rfl, hc, rd, ex⟩ := z
    refine q_asgL (i := 3) (xs := []) (el_lst ea_nil (by simp)) fun fl H2 n2 e2 h2 => ?_
    have ex2 := ex.trans e2
    have cf : c0 ≠ fl := fun e => by rw [← e, hc] at n2; cases n2
    have nfl : H fl = none := fresh_back ex n2
    refine q_forR1 (n := (xs.length : Int)) (ea_cons (ev_lenL (ev_op (ev_var (i := 0) rfl) ev_c (rv_ixTn (i := 1) (ex_t ex2 hpc) rfl)) (.inr (ex_t ex2 hq))) ea_nil) (by omega) (fun n σ' H' => ∃ fr ws v4 v5 v6 v7 v8, σ' = [some (.ref pc), some (.ref c0), some (.int (i : Int)), some (.ref fl), v4, v5, v6, v7, v8] ∧ H' c0 = some (.dK (kvsOf al)) ∧ H' fl = some (.lst ws) ∧ Paired (PrI H') fr ws ∧ (∀ p ∈ fr, FrOk rs al p) ∧ ws.length ≤ n ∧ Ex H H')
      (fun H3 e3 => ⟨[], [], _, _, _, _, _, rfl, e3 _ _ (e2 _ _ hc), e3 _ _ h2, .nil, (fun _ z => nomatch z), by simp, ex2.trans e3⟩) (fun n σ' H3 hn z => ?_) fun σ' H3 z => ?_
    · obtain ⟨fr, ws, v4, v5, v6, v7, v8, rfl, hc3, hf3, pr3, ok3, lw, ex3⟩ := z
      obtain ⟨r, hr⟩ : ∃ r, rs[n]? = some r := ⟨_, List.getElem?_eq_getElem (by omega)⟩
      obtain ⟨xr, hxr, dr⟩ := paired_at1 prr hr
      obtain ⟨b, c, rfl, hB, hC⟩ := da_rul dr
      have okp := (okr.ok r (List.mem_of_getElem? hr)).len
      refine q_asgTup3 (ev_op (ev_op (ev_var (i := 0) rfl) ev_c (rv_ixTn (i := 1) (ex_t ex3 hpc) rfl)) (ev_var (i := 4) rfl) (rv_ixTn (i := n) (ex_t ex3 hq) hxr)) (ex_t ex3 hB) fun H4 e4 => ?_
      have ex4 := ex3.trans e4
      have hc4 := e4 _ _ hc3
      have hf4 := e4 _ _ hf3
      have pr4 : Paired (PrI H4) fr ws := prI_up (fun t o => e4 t _) pr3
      refine s_when (b := !(valV (kvsOf al) (.inr (SX.S r.1))).isSome && r.2.2.all fun m => decide (m ∈ al.map fun x : Nm × Nat => x.1)) (et_and (et_B (ev_dni (k := .inr (SX.S r.1)) (ev_var (i := 5) rfl) (ev_var (i := 1) rfl) hc4)) fun _ => et_B (ev_allIn (σ := [some (.ref pc), some (.ref c0), some (.int (i : Int)), some (.ref fl), some (.int (n : Int)), some (nmV r.1), some (.int (r.2.1 : Nat)), some (.ref c), v8]) (j := 8) (vs := [8]) (ev_var (i := 7) rfl) (ex_t ex4 hC) (by omega) (fun _ => rfl) fun m H5 e5 => ev_di (k := .inr (SX.S m)) (ev_var (i := 8) rfl) (ev_var (i := 1) rfl) (e5 _ _ hc4))) (fun hb H5 e5 => ?_) fun _ H5 e5 => ?_
      · rw [val_kvs, Bool.and_eq_true, Bool.not_eq_true', decide_eq_false_iff_not, List.all_eq_true] at hb
        have hf5 := e5 _ _ hf4
        refine s_appU hf5 (ev_var (i := 3) rfl) (eu_tup (ea_cons (ev_var (i := 5) rfl) (ea_cons (ev_var (i := 4) rfl) ea_nil)) (by simp)) (by omega) fun t H6 n6 e6 h6 => ?_
        have hf6 := e6 _ _ hf5
        have up : ∀ t' o, H6 t' = some (.tup o) → upd H6 fl (.lst (ws ++ [.ref t])) t' = some (.tup o) := fun t' o z => by
          rw [upd_ne (fun e => by rw [e, hf6] at z; cases z)]
          exact z
        refine ⟨fr ++ [(r.1, n)], ws ++ [.ref t], _, _, _, _, _, rfl, ?_, upd_same, paired_app (prI_up (fun t' o z => up t' o (e6 _ _ (e5 _ _ z))) pr4) (.cons ⟨t, rfl, up t _ h6⟩ .nil), fun p hp => ?_, by simp; omega, ((ex4.trans e5).trans e6).mut nfl⟩
        · rw [upd_ne cf]
          exact e6 _ _ (e5 _ _ hc4)
        · rcases List.mem_append.mp hp with z | z
          · exact ok3 p z
          · simp at z
            subst z
            exact ⟨r, hr, rfl, fun m hm => of_decide_eq_true (hb.2 m hm)⟩
      · exact ⟨fr, ws, _, _, _, _, _, rfl, e5 _ _ hc4, e5 _ _ hf4, prI_up (fun t o => e5 t _) pr4, ok3, by omega, ex4.trans e5⟩
    · obtain ⟨fr, ws, v4, v5, v6, v7, v8, rfl, hc3, hf3, pr3, ok3, lw, ex3⟩ := z
      refine s_forL (K := K) (ev_var (i := 3) rfl) (sq_of hf3) (fun n σ' H' => ∃ al' v4 v5 v6 v7 v8, σ' = [some (.ref pc), some (.ref c0), some (.int (i : Int)), some (.ref fl), v4, v5, v6, v7, v8] ∧ H' c0 = some (.dK (kvsOf al')) ∧ Rdy rs al' ∧ (∀ m ∈ al.map (·.1), m ∈ al'.map (·.1)) ∧ H' fl = some (.lst ws) ∧ Paired (PrI H') fr ws ∧ Ex H H')
        (fun H4 e4 => ⟨al, _, _, _, _, _, rfl, e4 _ _ hc3, rd, fun _ z => z, e4 _ _ hf3, prI_up (fun t o => e4 t _) pr3, ex3.trans e4⟩) (fun n σ' H' _ z => by obtain ⟨_, _, _, _, _, _, _, _, _, _, z, _⟩ := z; exact sq_of z) (fun n x σ' H4 hx z => ?_) fun σ' H4 z => ?_
      · obtain ⟨al', v4, v5, v6, v7, v8, rfl, hc4, rd4, sub, hf4, pr4, ex4⟩ := z
        obtain ⟨⟨k, i'⟩, hp, t, rfl, ht⟩ := paired_at2 pr4 hx
        obtain ⟨r, hr, hk, hps⟩ := ok3 _ (List.mem_of_getElem? hp)
        refine ⟨t, _, rfl, st_of ht, rfl, _, _, rfl, _, _, rfl, rfl, ?_⟩
        refine s_when (b := !(valV (kvsOf al') (.inr (SX.S k))).isSome) (et_B (ev_dni (k := .inr (SX.S k)) (ev_var (i := 5) rfl) (ev_var (i := 1) rfl) hc4)) (fun hb H5 e5 => ?_) fun _ H5 e5 => ?_
        · rw [val_kvs, Bool.not_eq_true', decide_eq_false_iff_not] at hb
          have hc5 := e5 _ _ hc4
          have fw := rd4.few okr
          refine ⟨_, rfl, _, rfl, _, rfl, c0, _, rfl, DPut.k (k := .inr (SX.S k)) hc5 (by unfold kvsOf; rw [List.length_map, sizeLine_eq]; omega), ?_⟩
          rw [put_kvs hb]
          have up : ∀ t' o, H5 t' = some (.tup o) → upd H5 c0 (.dK (kvsOf (al' ++ [(k, i')]))) t' = some (.tup o) := fun t' o z => by
            rw [upd_ne (fun e => by rw [e, hc5] at z; cases z)]
            exact z
          refine ⟨al' ++ [(k, i')], _, _, _, _, _, rfl, upd_same, .snoc rd4 hr hk (fun m hm => sub m (hps m hm)) hb, fun m hm => ?_, ?_, prI_up (fun t' o z => up t' o (e5 _ _ z)) pr4, (ex4.trans e5).mut hc0⟩
          · rw [List.map_append]
            exact List.mem_append.mpr (.inl (sub m hm))
          · rw [upd_ne (Ne.symm cf)]
            exact e5 _ _ hf4
        · exact ⟨al', _, _, _, _, _, rfl, e5 _ _ hc4, rd4, sub, e5 _ _ hf4, prI_up (fun t o => e5 t _) pr4, ex4.trans e5⟩
      · obtain ⟨al', v4, v5, v6, v7, v8, rfl, hc4, rd4, sub, hf4, pr4, ex4⟩ := z
        exact ⟨al', _, _, _, _, _, _, _, rfl, hc4, rd4, ex4⟩
  · obtain ⟨al, v2, v3, v4, v5, v6, v7, v8, rfl, hc, rd, ex⟩ := z
    exact s_ret (ev_var (i := 1) rfl) fun H2 e2 => q c0 al H2 hc0 (ex.trans e2) (e2 _ _ hc) rd
end
end K62
set_option Elab.async false
set_option linter.all false
set_option maxRecDepth 100000
set_option maxHeartbeats 4000000
namespace K62
open PySem PySem.Spec PyProof.Rows L2 Evl SwX
section
variable {P : Program} {w : World} {K : PySem.W.Frag} {mg : Str → Option Value} {base : Heap} {f : Addr} {fd : FuncData}
theorem range_get {α β : Type} (f : α → β) (z : β) (l : List α) : ((List.range l.length).map fun j => (l[j]?).elim z f) = l.map f := by
  refine List.ext_getElem (by simp) fun i h1 h2 => ?_
  have lt : i < l.length := by simpa using h2
  simp [lt]
theorem given_filter (is : List Nat) (g : Nat → Bool) : given is.length (fun i => g (is[i]?.getD 0)) (fun i => natV (is[i]?.getD 0)) = (is.filter g).map natV := by
  have e : is = (List.range is.length).map fun i => is[i]?.getD 0 := by
    refine List.ext_getElem (by simp) fun i h1 h2 => ?_
    simp [h1]
  conv => rhs; rw [e]
  unfold given
  rw [List.filter_map, List.map_map]
  rfl
theorem valV_append (a b : List (Key × V)) (k : Key) : valV (a ++ b) k = (valV a k).or (valV b k) := by
  unfold valV
  rw [List.find?_append, Option.map_or]
theorem kvs_append (a b : List (Nm × Nat)) : kvsOf (a ++ b) = kvsOf a ++ kvsOf b := List.map_append
theorem val_none {al : List (Nm × Nat)} {k : Nm} (h : k ∉ al.map (·.1)) : valV (kvsOf al) (.inr (SX.S k)) = none := by
  have := val_kvs al k
  rw [decide_eq_false h] at this
  cases e : valV (kvsOf al) (.inr (SX.S k)) with
  | none => rfl
  | some v => rw [e] at this; cases this
theorem Rdy.at {rs : List Rul} {al : List (Nm × Nat)} (rd : Rdy rs al) : ∀ {l1 l2 : List (Nm × Nat)} {k : Nm} {i : Nat}, al = l1 ++ (k, i) :: l2 → ∃ r, rs[i]? = some r ∧ r.1 = k ∧ (∀ m ∈ r.2.2, m ∈ l1.map (·.1)) ∧ valV (kvsOf al) (.inr (SX.S k)) = some (natV i) := by
  induction rd with
  | nil => intro l1 l2 k i e; simp at e
  | @snoc al0 k0 i0 r0 h hr hk hp nk ih =>
    intro l1 l2 k i e
    rcases List.eq_nil_or_concat l2 with rfl | ⟨l2', x, rfl⟩
    · obtain ⟨rfl, e2⟩ := List.append_inj' e rfl
      simp only [List.cons.injEq, and_true, Prod.mk.injEq] at e2
      obtain ⟨rfl, rfl⟩ := e2
      refine ⟨r0, hr, hk, hp, ?_⟩
      rw [kvs_append, valV_append, val_none nk]
      exact valV_pos rfl
    · have e' : al0 ++ [(k0, i0)] = (l1 ++ (k, i) :: l2') ++ [x] := by rw [e]; simp
      obtain ⟨e1, e2⟩ := List.append_inj' e' rfl
      obtain ⟨r, h1, h2, h3, h4⟩ := ih e1
      refine ⟨r, h1, h2, h3, ?_⟩
      rw [kvs_append, valV_append, h4]
      rfl
theorem key_split {al : List (Nm × Nat)} {k : Nm} (h : k ∈ al.map (·.1)) : ∃ l1 i l2, al = l1 ++ (k, i) :: l2 := by
  obtain ⟨⟨k', i⟩, hp, rfl⟩ := List.mem_map.mp h
  obtain ⟨l1, l2, e⟩ := List.append_of_mem hp
  exact ⟨l1, i, l2, e⟩
/-- so many levels are enough -/
def Fits (al : List (Nm × Nat)) (e : Int) (k : Nm) (n : Nat) : Prop := (0 < e ∧ k ∈ al.map (·.1) ∧ e.toNat + al.length ≤ n) ∨ (e ≤ 0 ∧ ∃ l1 i l2, al = l1 ++ (k, i) :: l2 ∧ l1.length < n)
theorem Fits.down {al : List (Nm × Nat)} {e : Int} {p : Nm} {n : Nat} (h : 0 < e) (hn : e.toNat + al.length ≤ n + 1) (hp : p ∈ al.map (·.1)) : Fits al (e - 1) p n := by
  by_cases c : 0 < e - 1
  · exact .inl ⟨c, hp, by omega⟩
  · obtain ⟨l1, i, l2, el⟩ := key_split hp
    refine .inr ⟨by omega, l1, i, l2, el, ?_⟩
    rw [el] at hn
    simp at hn
    omega
theorem Fits.low {al l1 l2 : List (Nm × Nat)} {e : Int} {p k : Nm} {i n : Nat} (el : al = l1 ++ (k, i) :: l2) (h : e ≤ 0) (hn : l1.length < n + 1) (hp : p ∈ l1.map (·.1)) : Fits al (e - 1) p n := by
  obtain ⟨m1, j, m2, em⟩ := key_split hp
  refine .inr ⟨by omega, m1, j, m2 ++ (k, i) :: l2, by rw [el, em]; simp, ?_⟩
  rw [em] at hn
  simp at hn
  omega
def ThOk (rs : List Rul) : Nat → Nm → PyData → Prop
  | 0, _, _ => False
  | n + 1, k, d => ∃ (i : Nat) (r : Rul) (ds : List PyData), d = .tuple [.int i, .tuple ds] ∧ rs[i]? = some r ∧ r.1 = k ∧ Paired (fun p d => ThOk rs n p d) r.2.2 ds
def spThing (K : PySem.W.Frag) : Nat → Sp
  | 0 => fun _ _ _ _ => False
  | n + 1 => fun vs H Q _ => ∃ (a c : Addr) (v : V) (k : Nm) (ns : List Nm) (rs : List Rul) (al : List (Nm × Nat)) (e : Int), vs = [.ref a, v, .ref c, nmV k, .int e] ∧ Pur H a ∧ c ≠ a ∧ MineAt K ns rs v (less a H) ∧ NamesOk ns ∧ RulesOk ns rs ∧ H c = some (.dK (kvsOf al)) ∧ Rdy rs al ∧ Fits al e k (n + 1) ∧ ∀ v' d H', ThOk rs (n + 1) k d → Da K (nw H H') v' d → Ex (less a H) H' → Pur H' a → Q v' H'
theorem ev_dg {σ : L2.St} {H : Hp} {ta tb : TE} {p : Addr} {kvs : List (Key × V)} {k : Key} {y : V} (h1 : Ev ta σ H (.ref p)) (h2 : Ev tb σ H (kV k)) (h : H p = some (.dK kvs)) (hy : valV kvs k = some y) : Ev (tDGet ta tb) σ H y := fun H1 e Q q =>
  h1 H1 e _ fun H2 e2 => h2 H2 (e.trans e2) _ fun H3 e3 => ⟨p, y, rfl, by rw [← hy]; exact DGet.k (e3 _ _ (e2 _ _ (e _ _ h))), q H3 (e2.trans e3)⟩
theorem rec_at {σ : L2.St} {G : Hp} {ns : List Nm} {rs : List Rul} {r : Rul} {v : V} {s i : Nat} {ti : TE} (hm : MineAt K ns rs v G) (h1 : σ[s]? = some (some v)) (hr : rs[i]? = some r) (hi : Ev ti σ G (natV i)) :
    ∃ b c, Ev (tOp (rIx K) (tOp (rIx K) (tVar s) (tC (.int 1))) ti) σ G (.ref b) ∧ SqT K G b [nmV r.1, .int (r.2.1 : Nat), .ref c] ∧ SqT K G c (r.2.2.map nmV) := by
  obtain ⟨p, q, y, rfl, h2, h3, dy⟩ := hm
  obtain ⟨q0, xs, rfl, hq, pr⟩ := da_ruls rs dy
  obtain ⟨x, hx, dx⟩ := paired_at1 pr hr
  obtain ⟨b, c, rfl, hb, hc⟩ := da_rul dx
  exact ⟨b, c, ev_op (ev_op (ev_var h1) ev_c (rv_ixTn (i := 1) h2 rfl)) hi (rv_ixTn (i := i) hq hx), hb, hc⟩
theorem len_recs {σ : L2.St} {G : Hp} {ns : List Nm} {rs : List Rul} {v : V} {s : Nat} (hm : MineAt K ns rs v G) (h1 : σ[s]? = some (some v)) : Ev (tCB (rLenY K) (tCons (tOp (rIx K) (tVar s) (tC (.int 1))) tNil)) σ G (natV rs.length) := by
  obtain ⟨p, q, y, rfl, h2, h3, dy⟩ := hm
  obtain ⟨q0, xs, rfl, hq, pr⟩ := da_ruls rs dy
  exact ev_is (ev_lenL (ev_op (ev_var h1) ev_c (rv_ixTn (i := 1) h2 rfl)) (.inr hq)) (by rw [← paired_len pr] <;> rfl)
theorem q_ifBoth {σ : L2.St} {H : Hp} {t : TT} {tb tz : TS} {D : Ends} {b : Bool} (h : EvT t σ H b) (W : L2.St → Hp → Prop) (h1 : b = true → ∀ H1, Ex H H1 → ∀ N : L2.St → Hp → Prop, (∀ σ' H', W σ' H' → N σ' H') → tb { D with nx := N } σ H1) (h2 : b = false → ∀ H1, Ex H H1 → W σ H1) (k : ∀ σ' H', W σ' H' → tz D σ' H') : tSeq (tIfS t tb tNext) tz D σ H :=
  q_when h (fun hb H1 e1 => h1 hb H1 e1 (tz D) k) (fun hb H1 e1 => k _ _ (h2 hb H1 e1))
theorem s_asgDr {σ : L2.St} {H G : Hp} {te : TE} {D : Ends} {a : Addr} {P : V → Prop} {i : Nat} (h : Dr a te σ G P) (e : Ex G H) (p : Pur H a) (k : ∀ v H1, P v → Ex G H1 → Pur H1 a → D.nx (σ.set i (some v)) H1) : tAsg te (gName i) D σ H := h H e p _ k
theorem ret_thing {j : Nat} {σ : L2.St} {H : Hp} {D : Ends} {R : List V → Hp → VK → Prop} {tl : TE} {v1 : V} (h1 : σ[j]? = some (some v1)) (h2 : tl σ H fun x H1 => R [x] H1 fun y H2 => 2 ≤ sizeLine ∧ ∀ p, H2 p = none → D.rt (.ref p) (upd H2 p (.tup [v1, y]))) : tRet (tTup (tCons (tVar j) (tCons (tCB R (tCons tl tNil)) tNil))) D σ H := ⟨v1, h1, h2⟩
def kindI (rs : List Rul) (k : Nm) (i : Nat) : Bool := (rs[i]?).elim false fun r => decide (r.1 = k)
def okI (rs : List Rul) (al : List (Nm × Nat)) (i : Nat) : Bool := (rs[i]?).elim false fun r => r.2.2.all fun m => decide (m ∈ al.map fun x : Nm × Nat => x.1)
theorem pi_tupK {X : Cx} {tg l : Expr} {tl : TE} (K : PySem.W.Frag) (h : X.K = K) (hl : PE X l tl) : PI X tg l (iTup K tl) := h ▸ pi_tup hl
abbrev sc_in_thing : Scope := { kind := .function, names := [(".0", .local), ("_law_at", .local), ("_law_mine", .free), ("_law_ready", .free)], isGenerator := false, isCoroutine := false }
abbrev s__law_thing : Stmt := top 53
abbrev sc__law_thing_N : List Str := ["_law_source_here", "_law_mine", "_law_ready", "_law_kind", "_law_deep", "_law_index", "_law_some", "_law_at", "_law_part"]
theorem sc__law_thing : FnScope sc__law_thing_N ["_law_source_here", "_law_mine", "_law_ready", "_law_kind", "_law_deep"] (defScope s__law_thing) := ⟨rfl, rfl, rfl, by decide +kernel, rfl, by decide +kernel, by decide +kernel⟩
theorem ok_lthing {n : Nat} (m_len : mg "len" = none) (m_range : mg "range" = none) (m_tuple : mg "tuple" = none) (D__law_draw : Has P w K mg base "_law_draw" 1 ["_law_source_here", "_law_many"] spDraw) (D__law_thing : Has P w K mg base "_law_thing" (n + 1) ["_law_source_here", "_law_mine", "_law_ready", "_law_kind", "_law_deep"] (spThing K n)) (F : FnP K "_law_thing" s__law_thing f fd) : FnOk P w K mg base CX0 (n + 2) f fd ["_law_source_here", "_law_mine", "_law_ready", "_law_kind", "_law_deep"] (spThing K (n + 1)) := by
  refine F.ok sc__law_thing (fun vs H Q E h => by obtain ⟨a, c, v, k, ns, rs, al, e, rfl, _⟩ := h; rfl) (fun cdv A outer s H vs Q E hr h => ⟨_, PSs.nox
    (pss_cons (ps_set (i := 5) sc__law_thing.nd rfl (Or.inl rfl) (pe_dget (Nat.lt_of_le_of_lt (Nat.add_le_add_left (show 1 ≤ 64 by decide) _) hr.units) (pv 2) (pv 3) (fun _ _ => rfl))) (pss_cons (ps_if (pt_cmpR op_gt (pv 4) pe_int (nomark _)) (pss_cons (ps_setLc (i := 6) (own := [("_law_at", 7)]) (g := gName 7) rfl sc__law_thing.nd rfl rfl (sw_true rfl rfl rfl (by rfl)) (pi_range1 (by rfl) m_range (pa_cons (pe_callB (lenK K) (by rfl) m_len (by decide +kernel) (pa_cons (pe_ix (ixK K) (pv 1) pe_int (fun _ _ => rfl)) pa_nil)) pa_nil)) (blkOk_by (N := sc__law_thing_N) (sc := defScope s__law_thing) (by decide +kernel)) (fun _ _ _ _ _ => pg_name (i := 7) sc__law_thing.nd rfl (Or.inl rfl)) (fun _ _ _ _ _ => (pts_one (pt_cmpR (eqK K hr) (pe_ix (ixK K) (pe_ix (ixK K) (pe_ix (ixK K) (pv 1) pe_int (fun _ _ => rfl)) (pv 7) (fun _ _ => rfl)) pe_int (fun _ _ => rfl)) (pv 3) (nomark _)))) (fun _ _ _ _ _ => (pv 7))) (pss_cons (ps_setLc (i := 6) (own := [("_law_at", 7)]) (g := gName 7) rfl sc__law_thing.nd rfl rfl (sw_true rfl rfl rfl (by rfl)) (pi_list (pv 6)) (blkOk_by (N := sc__law_thing_N) (sc := defScope s__law_thing) (by decide +kernel)) (fun _ _ _ _ _ => pg_name (i := 7) sc__law_thing.nd rfl (Or.inl rfl)) (fun _ _ _ _ _ => (pts_one (pt_cmpR (niK K hr) pe_bl (pe_lc (own := [("_law_part", 8)]) (g := gName 8) (tt := tYes) rfl sc__law_thing.nd (pi_tupK K (by rfl) (pe_ix (ixK K) (pe_ix (ixK K) (pe_ix (ixK K) (pv 1) pe_int (fun _ _ => rfl)) (pv 7) (fun _ _ => rfl)) pe_int (fun _ _ => rfl))) (blkOk_by (N := sc__law_thing_N) (sc := relS sc_in_thing (defScope s__law_thing)) (by decide +kernel)) (fun _ _ _ _ _ => pg_name (i := 8) sc__law_thing.nd rfl (Or.inl rfl)) (fun _ _ _ _ _ => pts_nil) (fun _ _ _ _ _ => (pe_cmp (pc_din (Nat.lt_of_le_of_lt (Nat.add_le_add_left (show 1 ≤ 64 by decide) _) hr.units) (pv 8) (pv 2))))) rfl))) (fun _ _ _ _ _ => (pv 7))) (pss_one (ps_set (i := 5) sc__law_thing.nd rfl (Or.inl rfl) (pe_ix (ixK K) (pv 6) (pe_has D__law_draw (hr.mono (by omega)) (pa_cons (pv 0) (pa_cons (pe_callB (lenK K) (by rfl) m_len (by decide +kernel) (pa_cons (pv 6) pa_nil)) pa_nil))) (fun _ _ => rfl)))))) pss_nil) (pss_one (ps_ret (pe_tup (pa_cons (pv 5) (pa_cons (pe_callTy call_tuple_of (by rfl) m_tuple (by decide +kernel) (pa_cons (pe_lc (own := [("_law_part", 8)]) (g := gName 8) (tt := tYes) rfl sc__law_thing.nd (pi_tup (pe_ix (ixK K) (pe_ix (ixK K) (pe_ix (ixK K) (pv 1) pe_int (fun _ _ => rfl)) (pv 5) (fun _ _ => rfl)) pe_int (fun _ _ => rfl))) (blkOk_by (N := sc__law_thing_N) (sc := defScope s__law_thing) (by decide +kernel)) (fun _ _ _ _ _ => pg_name (i := 8) sc__law_thing.nd rfl (Or.inl rfl)) (fun _ _ _ _ _ => pts_nil) (fun _ _ _ _ _ => (pe_has D__law_thing (hr.mono (by omega)) (pa_cons (pv 0) (pa_cons (pv 1) (pa_cons (pv 2) (pa_cons (pv 8) (pa_cons (pe_op op_sub (pv 4) pe_int) pa_nil)))))))) pa_nil)) pa_nil))))))), ?_⟩)
  obtain ⟨a, c, v, k, ns, rs, al, e, rfl, pu, ca, hm, okn, okr, hc, rd, ft, q⟩ := h
  have lr := okr.len
  obtain ⟨l1, i0, l2, el, flo, fhi⟩ : ∃ l1 i0 l2, al = l1 ++ (k, i0) :: l2 ∧ (e ≤ 0 → l1.length < n + 1) ∧ (0 < e → e.toNat + al.length ≤ n + 1) := by
    rcases ft with ⟨h1, h2, h3⟩ | ⟨h1, l1, i, l2, h2, h3⟩
    · obtain ⟨l1, i, l2, el⟩ := key_split h2
      exact ⟨l1, i, l2, el, fun z => by omega, fun _ => h3⟩
    · exact ⟨l1, i, l2, h2, fun _ => h3, fun z => by omega⟩
  obtain ⟨r0, hr0, hk0, hp0, hv0⟩ := rd.at el
  have hmH : MineAt K ns rs v H := hm.mono less_ex
  refine q_asg (i := 5) (ev_dg (k := .inr (SX.S k)) (ev_var (i := 2) rfl) (ev_var (i := 3) rfl) hc hv0) fun H1 e1 => ?_
  dsimp only [List.set]
  have hm1 : MineAt K ns rs v H1 := hmH.mono e1
  have p1 := pu.keep e1
  have e1L : Ex (less a H) H1 := less_ex.trans e1
  have hc1 := e1 _ _ hc
  refine q_ifBoth (b := decide (0 < e)) (et_B (ev_is (ev_op (ev_var (i := 4) rfl) ev_c rv_I0) (by congr 1))) (fun σ' H' => ∃ (i : Nat) (r : Rul) (v6 v7 : Option V), σ' = [some (.ref a), some v, some (.ref c), some (nmV k), some (.int e), some (natV i), v6, v7, none] ∧ rs[i]? = some r ∧ r.1 = k ∧ (∀ p ∈ r.2.2, Fits al (e - 1) p n) ∧ Ex (less a H) H' ∧ Pur H' a ∧ Dom H H')
    (fun hb H2 e2 N kN => ?_) (fun hb H2 e2 => ⟨i0, r0, _, _, rfl, hr0, hk0, fun p hp => Fits.low el (by have := of_decide_eq_false hb; omega) (flo (by have := of_decide_eq_false hb; omega)) (hp0 p hp), e1L.trans e2, p1.keep e2, dom_ex (e1.trans e2)⟩) fun σ' H2 z => ?_
  · have e0 := of_decide_eq_true hb
    have hm2 := hm1.mono e2
    have hc2 := e2 _ _ hc1
    have p2 := p1.keep e2
    refine q_asgL (i := 6) (xs := ((List.range rs.length).filter (kindI rs k)).map natV) (el_is (el_lcR1 (j := 7) (n := (rs.length : Nat)) (kindI rs k) natV (ea_cons (len_recs hm2 rfl) ea_nil) (by omega) (fun _ => rfl) (fun i H3 e3 lt => ?_) fun i H3 e3 lt _ => ev_var (i := 7) rfl) rfl) fun l H3 n3 e3 h3 => ?_
    · have il : i < rs.length := by omega
      have hri : rs[i]? = some rs[i] := List.getElem?_eq_getElem il
      have eI : kindI rs k i = decide (rs[i].1 = k) := by
        unfold kindI
        rw [hri] <;> rfl
      rw [eI]
      obtain ⟨b, c', hB, hb1, hb2⟩ := rec_at (K := K) (σ := (wipe [some (.ref a), some v, some (.ref c), some (nmV k), some (.int e), some (natV i0), none, none, none] [7]).set 7 (some (.int (i : Int)))) (s := 1) (ti := tVar 7) (hm2.mono e3) rfl hri (ev_var (i := 7) rfl)
      exact et_B (ev_is (ev_op (ev_op hB ev_c (rv_ixTn (i := 0) hb1 rfl)) (ev_var (i := 3) rfl) (rv_l (rv_eq rfl))) (by congr 1; rw [decide_eq_decide]; exact nmV_eq))
    generalize eis : (List.range rs.length).filter (kindI rs k) = is at h3
    have isl : is.length ≤ 10 := by
      rw [← eis]
      have := List.length_filter_le (kindI rs k) (List.range rs.length)
      simp at this
      omega
    have hm3 := hm2.mono e3
    have hc3 := e3 _ _ hc2
    have p3 := p2.keep e3
    dsimp only [List.set]
    refine q_asgL (i := 6) (xs := (is.filter (okI rs al)).map natV) (el_is (el_lcL (K := K) (j := 7) (fun i => okI rs al (is[i]?.getD 0)) (fun i => natV (is[i]?.getD 0)) (ev_var (i := 6) rfl) (sq_of h3) (by simp; omega) (fun _ => rfl) (fun i x H4 e4 hx => ?_) fun i x H4 e4 hx _ => ?_) (by rw [List.length_map]; exact given_filter is (okI rs al))) fun l' H4 n4 e4 h4 => ?_
    · rw [List.getElem?_map] at hx
      obtain ⟨m, hm', rfl⟩ := Option.map_eq_some_iff.mp hx
      have mi : m ∈ (List.range rs.length).filter (kindI rs k) := by rw [eis]; exact List.mem_of_getElem? hm'
      have ml : m < rs.length := List.mem_range.mp (List.mem_filter.mp mi).1
      have hri : rs[m]? = some rs[m] := List.getElem?_eq_getElem ml
      have eI : okI rs al (is[i]?.getD 0) = rs[m].2.2.all fun m => decide (m ∈ al.map fun x : Nm × Nat => x.1) := by
        unfold okI
        rw [hm']
        show (rs[m]?).elim _ _ = _
        rw [hri] <;> rfl
      rw [eI]
      obtain ⟨b, c', hB, hb1, hb2⟩ := rec_at (K := K) (σ := (wipe [some (.ref a), some v, some (.ref c), some (nmV k), some (.int e), some (natV i0), some (.ref l), none, none] [7]).set 7 (some (natV m))) (s := 1) (ti := tVar 7) (hm3.mono e4) rfl hri (ev_var (i := 7) rfl)
      exact et_B (ev_allIn (σ := (wipe [some (.ref a), some v, some (.ref c), some (nmV k), some (.int e), some (natV i0), some (.ref l), none, none] [7]).set 7 (some (natV m))) (j := 8) (vs := [8]) (ev_op hB ev_c (rv_ixTn (i := 2) hb1 rfl)) hb2 (by have := (okr.ok _ (List.getElem_mem ml)).len; omega) (fun _ => rfl) fun m' H5 e5 => ev_di (k := .inr (SX.S m')) (ev_var (i := 8) rfl) (ev_var (i := 2) rfl) (e5 _ _ (e4 _ _ hc3)))
    · rw [List.getElem?_map] at hx
      obtain ⟨m, hm', rfl⟩ := Option.map_eq_some_iff.mp hx
      rw [hm']
      exact ev_var (i := 7) rfl
    have p4 := p3.keep e4
    have nel : l' ≠ a := p3.ne n4
    have glen : 0 < ((is.filter (okI rs al)).map natV).length := by
      rw [List.length_map]
      refine List.length_pos_of_mem (a := i0) (List.mem_filter.mpr ⟨?_, ?_⟩)
      · rw [← eis]
        refine List.mem_filter.mpr ⟨List.mem_range.mpr (List.getElem?_eq_some_iff.mp hr0).1, ?_⟩
        unfold kindI
        rw [hr0]
        exact decide_eq_true hk0
      · unfold okI
        rw [hr0]
        exact List.all_eq_true.mpr fun m hm => decide_eq_true (by rw [el, List.map_append]; exact List.mem_append.mpr (.inl (hp0 m hm)))
    have gle : ((is.filter (okI rs al)).map natV).length ≤ 10 := by
      rw [List.length_map]
      have := List.length_filter_le (okI rs al) is
      omega
    have up4 : Ex H H4 := ((e1.trans e2).trans e3).trans e4
    refine s_asgDr (i := 5) (a := a) (G := less a H4) (P := fun v => v ∈ (is.filter (okI rs al)).map natV) (dr_pickX (K := K) less_at (ev_var (i := 6) rfl) (by rw [less_ne nel]; exact h4) fun G' n' e' => dr_draw (m := (((is.filter (okI rs al)).map natV).length : Int)) n' rfl (ev_lenL (ev_var (i := 6) rfl) (.inl (sq_of (e' _ _ (by rw [less_ne nel]; exact h4))))) (by omega) (by omega)) less_ex p4 fun v5 H5 pv e5 p5 => ?_
    obtain ⟨i, hi, rfl⟩ := List.mem_map.mp pv
    obtain ⟨hi, oi⟩ := List.mem_filter.mp hi
    rw [← eis] at hi
    obtain ⟨hi, ki⟩ := List.mem_filter.mp hi
    have il := List.mem_range.mp hi
    have hri : rs[i]? = some rs[i] := List.getElem?_eq_getElem il
    unfold okI at oi
    unfold kindI at ki
    rw [hri] at oi ki
    refine kN _ _ ⟨i, rs[i], _, _, rfl, hri, of_decide_eq_true ki, fun p hp => Fits.down e0 (fhi e0) (of_decide_eq_true (List.all_eq_true.mp oi p hp)), (ex_less less_at (less_ex.trans up4)).trans e5, p5, (dom_ex up4).trans (dom_less e5 p5)⟩
  · obtain ⟨i, r, v6, v7, rfl, hr1, rfl, fits, x2, p2, dm2⟩ := z
    have okr0 := okr.ok _ (List.mem_of_getElem? hr1)
    have hm2 : MineAt K ns rs v (less a H2) := hm.mono (ex_less less_at x2)
    obtain ⟨b, c', hB, hb1, hb2⟩ := rec_at (K := K) (σ := [some (.ref a), some v, some (.ref c), some (nmV r.1), some (.int e), some (natV i), v6, v7, none]) (s := 1) (ti := tVar 5) hm2 rfl hr1 (ev_var (i := 5) rfl)
    have hc2 : less a H2 c = some (.dK (kvsOf al)) := by
      rw [less_ne ca]
      exact x2 _ _ (by rw [less_ne ca]; exact hc)
    refine ret_thing (v1 := natV i) rfl ?_
    refine lc_N (K := K) (a := a) (G := less a H2) (p := c') (xs := r.2.2.map nmV) (R := fun j d => ∃ p, r.2.2[j]? = some p ∧ ThOk rs n p d) less_at (ev_op hB ev_c (rv_ixTn (i := 2) hb1 rfl)) hb2 (by rw [List.length_map]; have := okr0.len; omega) ?hw (fun j x hx => ?_) less_ex p2 fun D zs ds H3 hD nD pr ld rd3 e3 p3 => ?_
    case hw => exact fun _ => rfl
    · rw [List.getElem?_map] at hx
      obtain ⟨p, hp, rfl⟩ := Option.map_eq_some_iff.mp hx
      have pm := List.mem_of_getElem? hp
      intro H4 e4 p4 Q' k'
      have fp := fits p pm
      cases n with
      | zero => rcases fp with ⟨z1, z2, z3⟩ | ⟨_, _, _, _, _, z⟩ <;> omega
      | succ n =>
        refine ⟨.ref a, rfl, v, rfl, .ref c, rfl, nmV p, rfl, (ev_op (ev_var (i := 4) rfl) ev_c rv_I0 : Ev _ ((wipe [some (.ref a), some v, some (.ref c), some (nmV r.1), some (.int e), some (natV i), v6, v7, none] [8]).set 8 (some (nmV p))) H4 (.int (e - 1))) H4 (Ex.refl H4) _ fun H5 e5 => ?_⟩
        refine ⟨a, c, v, p, ns, rs, al, e - 1, by rw [List.append_nil], p4.keep e5, ca, hm2.mono (ex_less less_at (e4.trans e5)), okn, okr, (e4.trans e5) _ _ hc2, rd, fp, fun v' d H6 td dv e6 p6 => k' v' d H6 ⟨p, hp, td⟩ (Da.mono (nw_from (dom_ex e5) nw_ex) dv) ((ex_less less_at (less_ex.trans e5)).trans e6) p6⟩
    · have lz : zs.length ≤ 3 := by
        rw [← paired_len pr, ld, List.length_map]
        exact okr0.len
      refine ⟨D, zs, rfl, .inl ⟨sq_of hD, fun T hT => ⟨show 2 ≤ sizeLine by decide, fun U hU => ?_⟩⟩⟩
      have dm3 : Dom H H3 := dm2.trans (dom_less e3 p3)
      have nT : H T = none := dm3.no hT
      have neTU : T ≠ U := fun w => by rw [← w, upd_same] at hU; cases hU
      have hU3 : H3 U = none := by rwa [upd_ne (Ne.symm neTU)] at hU
      have nU : H U = none := dm3.no hU3
      have pc : Paired (fun p d => ThOk rs n p d) r.2.2 ds := paired_of (by rw [ld, List.length_map]) fun j p d h1 h2 => by
        obtain ⟨p', hp', td⟩ := rd3 j d h2
        rw [h1] at hp'
        cases hp'
        exact td
      have e34 : Ex H3 (upd (upd H3 T (.tup zs)) U (.tup [natV i, .ref T])) := (Ex.new hT).trans (Ex.new hU)
      have prF : Paired (fun d v => Da K (nw H (upd (upd H3 T (.tup zs)) U (.tup [natV i, .ref T]))) v d) ds zs := paired_mono (F := fun d v H => Da K H v d) (nw_from dm2 (nw_ex.trans e34)) (fun _ _ _ _ e h => Da.mono e h) pr
      refine q (.ref U) (.tuple [.int (i : Nat), .tuple ds]) _ ⟨i, r, ds, rfl, hr1, rfl, pc⟩ ?_ (((ex_less less_at x2).trans e3).trans e34) ((p3.keep (Ex.new hT)).keep (Ex.new hU))
      exact da_tuple (.inl (.inl (nw_at nU upd_same))) (.cons (.int _) (.cons (da_tuple (.inl (.inl (nw_at nT (by rw [upd_ne neTU, upd_same])))) prF) .nil))
end
end K62
set_option Elab.async false
set_option linter.all false
set_option maxRecDepth 100000
set_option maxHeartbeats 4000000
namespace K62
open PySem PySem.Spec PyProof.Rows L2 Evl SwX
section
variable {P : Program} {w : World} {K : PySem.W.Frag} {mg : Str → Option Value} {base : Heap} {f : Addr} {fd : FuncData}
theorem el_lcZip {σ : L2.St} {H : Hp} {ta : TA} {te : TE} {a b : Addr} {xs ys : List V} {j1 j2 : Nat} {vs : List Nat} (f : Nat → V) (h : EvA ta σ H [.ref a, .ref b]) (hx : SqL K H a xs) (hy : SqL K H b ys) (hl : xs.length = ys.length) (hz : xs.length ≤ 40000)
    (hw : ∀ x y, wipe (((wipe σ vs).set j1 (some x)).set j2 (some y)) vs = wipe σ vs) (he : ∀ (i : Nat) (x y : V) H1, Ex H H1 → xs[i]? = some x → ys[i]? = some y → Ev te (((wipe σ vs).set j1 (some x)).set j2 (some y)) H1 (f i)) :
    EvL (tLc (iZip K ta) (gTup K 2 (gCons (gName j1) (gCons (gName j2) gNil))) tYes te vs) σ H (given xs.length (fun _ => true) f) := fun H0 e Q q => h H0 e _ fun H1 e1 => ⟨a, b, xs, ys, rfl, ex_l (e.trans e1) hx, ex_l (e.trans e1) hy, fun D hD =>
  lc_it (walk_zip (K := K) (a := a) (b := b) (xs := xs) (ys := ys) (n := xs.length) (by omega)) (Cw H1 (fun _ => true) f D) ⟨hD, Ex.new hD, upd_same⟩ (fun i H' _ p => ⟨ex_l ((e.trans e1).trans p.2.1) hx, ex_l ((e.trans e1).trans p.2.1) hy⟩)
    (fun i x H' H2 hi p y => by
      obtain ⟨T, x', y', rfl, hT, rfl, h1, h2⟩ := y
      refine ⟨T, _, rfl, st_of upd_same, rfl, _, _, rfl, _, _, rfl, rfl, hw _ _, ?_⟩
      exact cw_turn ⟨p.1, p.2.1.trans (Ex.new hT), (Ex.new hT) _ _ p.2.2⟩ (by omega) (fun H4 _ Q' k => k H4 (Ex.refl H4)) (fun _ => he i x' y' H1 (e.trans e1) h1 h2))
    (fun H' p => q D H' (fresh_back e1 p.1) (e1.trans p.2.1) p.2.2)⟩
theorem ev_intB {σ : L2.St} {H : Hp} {te : TE} {b : Bool} (h : Ev te σ H (.bl b)) : Ev (tCB rInt1 (tCons te tNil)) σ H (.int (if b then 1 else 0)) := ev_cb (ea_cons h ea_nil) fun H1 _ _ q => .inr ⟨b, rfl, q H1 (Ex.refl H1)⟩
/-- the weight, and how many of each kind -/
def wN (ns : List Nm) (z : WC) : List Nat := z.1 :: ns.map z.2
def wL (ns : List Nm) (z : WC) : List V := (wN ns z).map natV
theorem wN_add (ns : List Nm) (a b : WC) : wN ns (addW a b) = List.zipWith (· + ·) (wN ns a) (wN ns b) := by
  unfold wN addW
  simp only [List.zipWith_cons_cons, List.cons.injEq, true_and]
  induction ns with
  | nil => rfl
  | cons n ns ih =>
    simp only [List.map_cons, List.zipWith_cons_cons, List.cons.injEq, true_and]
    exact ih
theorem wN_len (ns : List Nm) (a : WC) : (wN ns a).length = ns.length + 1 := by
  unfold wN
  simp
/-- so deep at most -/
def DepLe : Nat → PyData → Prop
  | 0, _ => False
  | n + 1, d => ∀ d0 ds, d = .tuple [d0, .tuple ds] → ∀ x ∈ ds, DepLe n x
def spWeigh (K : PySem.W.Frag) : Nat → Sp
  | 0 => fun _ _ _ _ => False
  | n + 1 => fun vs H Q _ => ∃ (v x : V) (k : Nm) (ns : List Nm) (rs : List Rul) (d : PyData), vs = [v, x, nmV k] ∧ MineAt K ns rs v H ∧ NamesOk ns ∧ RulesOk ns rs ∧ Da K H x d ∧ DepLe (n + 1) d ∧
    (∀ z l H', wgh rs d k = some z → H l = none → Ex H H' → H' l = some (.lst (wL ns z)) → Q (.ref l) H') ∧ (wgh rs d k = none → ∀ H', Ex H H' → Q .non H')
theorem stk_cons (rs : List Rul) (p : PyData × Nm) (st : List (PyData × Nm)) : stk rs (p :: st) = match wgh rs p.1 p.2 with
    | some a => (stk rs st).map (addW a)
    | none => none := by
  unfold stk
  rw [List.map_cons]
  cases wgh rs p.1 p.2 <;> rfl
theorem map_addW (o : Option WC) (a b : WC) : (o.map (addW a)).map (addW b) = o.map (addW (addW b a)) := by
  cases o with
  | none => rfl
  | some c => show some (addW b (addW a c)) = some (addW (addW b a) c); rw [addW_assoc]
abbrev s__law_weighed : Stmt := top 54
abbrev sc__law_weighed_N : List Str := ["_law_mine", "_law_thing_here", "_law_kind", "_law_made", "_law_own", "_law_parts", "_law_found", "_law_place", "_law_inner", "_law_one", "_law_other"]
theorem sc__law_weighed : FnScope sc__law_weighed_N ["_law_mine", "_law_thing_here", "_law_kind"] (defScope s__law_weighed) := ⟨rfl, rfl, rfl, by decide +kernel, rfl, by decide +kernel, by decide +kernel⟩
theorem ok_weighed {n : Nat} (m_isinstance : mg "isinstance" = none) (m_tuple : mg "tuple" = none) (m_len : mg "len" = none) (m_int : mg "int" = none) (m_bool : mg "bool" = none) (m_range : mg "range" = none) (m_zip : mg "zip" = none) (D__law_weighed : Has P w K mg base "_law_weighed" (n + 1) ["_law_mine", "_law_thing_here", "_law_kind"] (spWeigh K n)) (F : FnP K "_law_weighed" s__law_weighed f fd) : FnOk P w K mg base CX0 (n + 2) f fd ["_law_mine", "_law_thing_here", "_law_kind"] (spWeigh K (n + 1)) := by
  refine F.ok sc__law_weighed (fun vs H Q E h => by obtain ⟨v, x, k, ns, rs, d, rfl, _⟩ := h; rfl) (fun cdv A outer s H vs Q E hr h => ⟨_, PSs.nox
    (pss_cons (ps_if (pw_or (pt_not (pt_val (pe_callB (isiK K) (by rfl) m_isinstance (by decide +kernel) (pa_cons (pv 1) (pa_cons (pe_bty (n := "tuple") m_tuple) pa_nil))))) (pw_or (pt_cmpR (neK K hr) (pe_callB (lenK K) (by rfl) m_len (by decide +kernel) (pa_cons (pv 1) pa_nil)) pe_int (nomark _)) (pw_or (pt_not (pt_val (pe_callB (isiK K) (by rfl) m_isinstance (by decide +kernel) (pa_cons (pe_ix (ixK K) (pv 1) pe_int (fun _ _ => rfl)) (pa_cons (pe_bty (n := "int") m_int) pa_nil))))) (pw_or1 (pt_val (pe_callB (isiK K) (by rfl) m_isinstance (by decide +kernel) (pa_cons (pe_ix (ixK K) (pv 1) pe_int (fun _ _ => rfl)) (pa_cons (pe_bty (n := "bool") m_bool) pa_nil)))))))).pt (pss_one (ps_ret pe_non)) pss_nil) (pss_cons (ps_if (pw_or (pt_not (pt_chain op_le op_lt pe_int (pe_ix (ixK K) (pv 1) pe_int (fun _ _ => rfl)) (pe_callB (lenK K) (by rfl) m_len (by decide +kernel) (pa_cons (pe_ix (ixK K) (pv 0) pe_int (fun _ _ => rfl)) pa_nil)))) (pw_or1 (pt_not (pt_val (pe_callB (isiK K) (by rfl) m_isinstance (by decide +kernel) (pa_cons (pe_ix (ixK K) (pv 1) pe_int (fun _ _ => rfl)) (pa_cons (pe_bty (n := "tuple") m_tuple) pa_nil))))))).pt (pss_one (ps_ret pe_non)) pss_nil) (pss_cons (ps_asg (pe_ix (ixK K) (pe_ix (ixK K) (pv 0) pe_int (fun _ _ => rfl)) (pe_ix (ixK K) (pv 1) pe_int (fun _ _ => rfl)) (fun _ _ => rfl)) (pg_tup rfl (pgs_cons (pg_name (i := 3) sc__law_weighed.nd rfl (Or.inl rfl)) (pgs_cons (pg_name (i := 4) sc__law_weighed.nd rfl (Or.inl rfl)) (pgs_cons (pg_name (i := 5) sc__law_weighed.nd rfl (Or.inl rfl)) pgs_nil))))) (pss_cons (ps_if (pw_or (pt_cmpR (neK K hr) (pv 3) (pv 2) (nomark _)) (pw_or1 (pt_cmpR (neK K hr) (pe_callB (lenK K) (by rfl) m_len (by decide +kernel) (pa_cons (pv 5) pa_nil)) (pe_callB (lenK K) (by rfl) m_len (by decide +kernel) (pa_cons (pe_ix (ixK K) (pv 1) pe_int (fun _ _ => rfl)) pa_nil)) (nomark _)))).pt (pss_one (ps_ret pe_non)) pss_nil) (pss_cons (ps_set (i := 6) sc__law_weighed.nd rfl (Or.inl rfl) (pe_op (addK K) (pe_lst (pa_cons (pv 4) pa_nil)) (pe_lc (own := [("_law_one", 9)]) (g := gName 9) (tt := tYes) rfl sc__law_weighed.nd (pi_tup (pe_ix (ixK K) (pv 0) pe_int (fun _ _ => rfl))) (blkOk_by (N := sc__law_weighed_N) (sc := defScope s__law_weighed) (by decide +kernel)) (fun _ _ _ _ _ => pg_name (i := 9) sc__law_weighed.nd rfl (Or.inl rfl)) (fun _ _ _ _ _ => pts_nil) (fun _ _ _ _ _ => (pe_callTy call_int1 (by rfl) m_int (by decide +kernel) (pa_cons (pe_cmpR (eqK K hr) (pv 9) (pv 2) (nomark _)) pa_nil)))))) (pss_cons (ps_for PassesOwn.never rfl (pi_range1 (by rfl) m_range (pa_cons (pe_callB (lenK K) (by rfl) m_len (by decide +kernel) (pa_cons (pv 5) pa_nil)) pa_nil)) (pg_name (i := 7) sc__law_weighed.nd rfl (Or.inl rfl)) (pss_cons (ps_set (i := 8) sc__law_weighed.nd rfl (Or.inl rfl) (pe_has D__law_weighed (hr.mono (by omega)) (pa_cons (pv 0) (pa_cons (pe_ix (ixK K) (pe_ix (ixK K) (pv 1) pe_int (fun _ _ => rfl)) (pv 7) (fun _ _ => rfl)) (pa_cons (pe_ix (ixK K) (pv 5) (pv 7) (fun _ _ => rfl)) pa_nil))))) (pss_cons (ps_if (pt_cmpR op_isN (pv 8) pe_non (nomark _)) (pss_one (ps_ret pe_non)) pss_nil) (pss_one (ps_setLc (i := 6) (own := [("_law_one", 9), ("_law_other", 10)]) (g := gTup K 2 (gCons (gName 9) (gCons (gName 10) gNil))) (tt := tYes) rfl sc__law_weighed.nd rfl rfl (sw_true rfl rfl rfl (by rfl)) (pi_zip (by rfl) m_zip (pa_cons (pv 6) (pa_cons (pv 8) pa_nil))) (blkOk_by (N := sc__law_weighed_N) (sc := defScope s__law_weighed) (by decide +kernel)) (fun _ _ _ _ _ => pg_tup rfl (pgs_cons (pg_name (i := 9) sc__law_weighed.nd rfl (Or.inl rfl)) (pgs_cons (pg_name (i := 10) sc__law_weighed.nd rfl (Or.inl rfl)) pgs_nil))) (fun _ _ _ _ _ => pts_nil) (fun _ _ _ _ _ => (pe_op (addK K) (pv 9) (pv 10)))))))) (pss_one (ps_ret (pv 6))))))))), ?_⟩)
  obtain ⟨v, x, k, ns, rs, d, rfl, hm, okn, okr, dx, dl, qy, qn⟩ := h
  have lr := okr.len
  have l4 := okn.len
  cases tp : isTup d with
  | false =>
    refine q_when (b := true) (et_is (et_or (a := true) (b := true) (et_not (a := false) (et_B (ev_isD (ev_var (i := 1) rfl) (fun H' e => dx.mono e) (by rw [kit_tup, tp])))) fun z => nomatch z) rfl) (fun _ H3 e3 => ?_) fun z => nomatch z
    exact s_ret ev_c fun H4 e4 => qn (wgh_no fun i ds e => by rw [e] at tp; cases tp) H4 (e3.trans e4)
  | true =>
  obtain ⟨ds, rfl⟩ : ∃ ds, d = .tuple ds := by
    cases d with
    | tuple ds => exact ⟨ds, rfl⟩
    | _ => cases tp
  obtain ⟨tx, zs, rfl, hz, pz⟩ := da_items dx
  have lz := paired_len pz
  by_cases l2 : ds.length = 2
  rotate_left
  · refine q_when (b := true) (et_is (et_or (a := false) (b := true) (et_not (a := true) (et_B (ev_isD (ev_var (i := 1) rfl) (fun H' e => dx.mono e) (by rw [kit_tup, tp])))) fun _ => et_is (et_or (a := true) (b := true) (et_is (et_B (ev_op (ev_lenL (ev_var (i := 1) rfl) (.inr hz)) ev_c (rv_l (rv_ne rfl)))) (by rw [← lz]; simp; omega)) fun z => nomatch z) rfl) rfl) (fun _ H3 e3 => ?_) fun z => nomatch z
    exact s_ret ev_c fun H4 e4 => qn (wgh_no fun i es e => by injection e with e; rw [e] at l2; exact l2 rfl) H4 (e3.trans e4)
  obtain ⟨d0, d1, x0, x1, rfl, rfl, p0, p1⟩ := paired_two pz l2
  cases t0 : isInt d0 && !isBl d0 with
  | false =>
    refine q_when (b := true) (et_is (et_or (a := false) (b := true) (et_not (a := true) (et_B (ev_isD (ev_var (i := 1) rfl) (fun H' e => dx.mono e) (by rw [kit_tup, tp])))) fun _ => et_is (et_or (a := false) (b := true) (et_is (et_B (ev_op (ev_lenL (ev_var (i := 1) rfl) (.inr hz)) ev_c (rv_l (rv_ne rfl)))) rfl) fun _ => et_is (et_or (a := !isInt d0) (b := isBl d0) (et_not (et_B (ev_isD (ev_op (ev_var (i := 1) rfl) ev_c (rv_ixTn (i := 0) hz rfl)) (fun H' e => p0.mono e) (kit_int d0)))) fun _ => et_B (ev_isD (ev_op (ev_var (i := 1) rfl) ev_c (rv_ixTn (i := 0) hz rfl)) (fun H' e => p0.mono e) (kit_bl d0))) (by revert t0; cases isInt d0 <;> cases isBl d0 <;> simp)) rfl) rfl) (fun _ H3 e3 => ?_) fun z => nomatch z
    exact s_ret ev_c fun H4 e4 => qn (wgh_no fun i es e => by injection e with e; simp only [List.cons.injEq] at e; rw [e.1] at t0; cases t0) H4 (e3.trans e4)
  | true =>
  obtain ⟨i, rfl⟩ := int_ofO t0
  obtain rfl := da_intI p0
  refine q_when (b := false) (et_is (et_or (a := false) (b := false) (et_not (a := true) (et_B (ev_isD (ev_var (i := 1) rfl) (fun H' e => dx.mono e) (by rw [kit_tup, tp])))) fun _ => et_is (et_or (a := false) (b := false) (et_is (et_B (ev_op (ev_lenL (ev_var (i := 1) rfl) (.inr hz)) ev_c (rv_l (rv_ne rfl)))) rfl) fun _ => et_is (et_or (a := false) (b := false) (et_not (a := true) (et_B (ev_isD (ev_op (ev_var (i := 1) rfl) ev_c (rv_ixTn (i := 0) hz rfl)) (fun H' e => p0.mono e) (kit_int (.int i))))) fun _ => et_B (ev_isD (ev_op (ev_var (i := 1) rfl) ev_c (rv_ixTn (i := 0) hz rfl)) (fun H' e => p0.mono e) (kit_bl (.int i)))) rfl) rfl) rfl) (fun z => nomatch z) fun _ H1 e1 => ?_
  have hz1 := ex_t e1 hz
  have hm1 := hm.mono e1
  have chn : Ev _ [some v, some (.ref tx), some (nmV k), none, none, none, none, none, none, none, none] H1 (.bl (decide (0 ≤ i) && decide (i < (rs.length : Nat)))) := ev_chainI (f := fun a b => decide (a ≤ b)) (g := fun a b => decide (a < b)) ev_c (ev_op (ev_var (i := 1) rfl) ev_c (rv_ixTn (i := 0) hz1 rfl)) (len_recs (K := K) (s := 0) hm1 rfl)
  by_cases rg : 0 ≤ i ∧ i < (rs.length : Int)
  rotate_left
  · refine q_when (b := true) (et_is (et_or (a := true) (b := true) (et_is (et_not (et_B chn)) (by rw [← Bool.decide_and, decide_eq_false rg] <;> rfl)) fun z => nomatch z) rfl) (fun _ H3 e3 => ?_) fun z => nomatch z
    exact s_ret ev_c fun H4 e4 => qn (wgh_out (by show (decide (0 ≤ i) && decide (i ≤ (rs.length : Int) - 1)) = false; rw [← Bool.decide_and]; exact decide_eq_false fun z => rg ⟨z.1, by omega⟩)) H4 ((e1.trans e3).trans e4)
  obtain ⟨m, rfl⟩ := Int.eq_ofNat_of_zero_le rg.1
  cases t1 : isTup d1 with
  | false =>
    refine q_when (b := true) (et_is (et_or (a := false) (b := true) (et_is (et_not (et_B chn)) (by rw [← Bool.decide_and, decide_eq_true rg] <;> rfl)) fun _ => et_not (a := false) (et_B (ev_isD (ev_op (ev_var (i := 1) rfl) ev_c (rv_ixTn (i := 1) hz1 rfl)) (fun H' e => p1.mono (e1.trans e)) (by rw [kit_tup, t1])))) rfl) (fun _ H3 e3 => ?_) fun z => nomatch z
    exact s_ret ev_c fun H4 e4 => qn (wgh_nt t1) H4 ((e1.trans e3).trans e4)
  | true =>
  obtain ⟨ds1, rfl⟩ : ∃ ds, d1 = .tuple ds := by
    cases d1 with
    | tuple ds => exact ⟨ds, rfl⟩
    | _ => cases t1
  obtain ⟨ty1, zs1, rfl, hy1, pz1⟩ := da_items p1
  have lz1 := paired_len pz1
  refine q_when (b := false) (et_is (et_or (a := false) (b := false) (et_is (et_not (et_B chn)) (by rw [← Bool.decide_and, decide_eq_true rg] <;> rfl)) fun _ => et_not (a := true) (et_B (ev_isD (ev_op (ev_var (i := 1) rfl) ev_c (rv_ixTn (i := 1) hz1 rfl)) (fun H' e => p1.mono (e1.trans e)) (by rw [kit_tup, t1])))) rfl) (fun z => nomatch z) fun _ H2 e2 => ?_
  clear chn
  have ex2 := e1.trans e2
  have hm2 := hm1.mono e2
  have hz2 := ex_t e2 hz1
  obtain ⟨r, hr⟩ : ∃ r, rs[m]? = some r := ⟨_, List.getElem?_eq_getElem (by omega)⟩
  obtain ⟨b, c, hB, hb1, hb2⟩ := rec_at (K := K) (σ := [some v, some (.ref tx), some (nmV k), none, none, none, none, none, none, none, none]) (s := 0) hm2 rfl hr (ev_op (ev_var (i := 1) rfl) ev_c (rv_ixTn (i := 0) hz2 rfl))
  have okr0 := okr.ok r (List.mem_of_getElem? hr)
  have ok3 := okr0.len
  refine q_asgTup3 hB hb1 fun H3 e3 => ?_
  dsimp only [List.set]
  have hz3 := ex_t e3 hz2
  have hc3 := ex_t e3 hb2
  have ex3 := ex2.trans e3
  have iy : Ev _ [some v, some (.ref tx), some (nmV k), some (nmV r.1), some (.int (r.2.1 : Nat)), some (.ref c), none, none, none, none, none] H3 (.ref ty1) := ev_op (ev_var (i := 1) rfl) ev_c (rv_ixTn (i := 1) hz3 rfl)
  by_cases hk : r.1 = k
  rotate_left
  · refine q_when (b := true) (et_is (et_or (a := true) (b := true) (et_is (et_B (ev_op (ev_var (i := 3) rfl) (ev_var (i := 2) rfl) (rv_l (rv_ne rfl)))) (by simp [nmV_eq, hk])) fun z => nomatch z) rfl) (fun _ H5 e5 => ?_) fun z => nomatch z
    exact s_ret ev_c fun H6 e6 => qn (wgh_kind hr hk) H6 ((ex3.trans e5).trans e6)
  by_cases hl : ds1.length = r.2.2.length
  rotate_left
  · refine q_when (b := true) (et_is (et_or (a := false) (b := true) (et_is (et_B (ev_op (ev_var (i := 3) rfl) (ev_var (i := 2) rfl) (rv_l (rv_ne rfl)))) (by simp [nmV_eq, hk])) fun _ => et_is (et_B (ev_op (ev_lenL (ev_var (i := 5) rfl) (.inr hc3)) (ev_lenL iy (.inr (ex_t ex3 hy1))) (rv_l (rv_ne rfl)))) (by rw [← lz1]; simp; omega)) rfl) (fun _ H5 e5 => ?_) fun z => nomatch z
    exact s_ret ev_c fun H6 e6 => qn (wgh_len hr hl) H6 ((ex3.trans e5).trans e6)
  refine q_when (b := false) (et_is (et_or (a := false) (b := false) (et_is (et_B (ev_op (ev_var (i := 3) rfl) (ev_var (i := 2) rfl) (rv_l (rv_ne rfl)))) (by simp [nmV_eq, hk])) fun _ => et_is (et_B (ev_op (ev_lenL (ev_var (i := 5) rfl) (.inr hc3)) (ev_lenL iy (.inr (ex_t ex3 hy1))) (rv_l (rv_ne rfl)))) (by rw [← lz1, hl]; simp)) rfl) (fun z => nomatch z) fun _ H4 e4 => ?_
  clear iy
  have ex4 := ex3.trans e4
  have hm4 := hm.mono ex4
  obtain ⟨pc, qk, yy, rfl, hpc, hqk, dy⟩ := hm4
  have eq0 : wgh rs (.tuple [.int (m : Nat), .tuple ds1]) k = (stk rs (ds1.zip r.2.2)).map (addW (r.2.1, oneK k)) := by
    rw [wgh_at (Int.natCast_nonneg m) (by simpa using hr), if_pos ⟨hk, hl⟩]
  refine q_asgL (i := 6) (xs := wL ns (r.2.1, oneK k)) (el_is (el_catLL (K := K) (el_lst (ea_cons (ev_var (i := 4) rfl) ea_nil) (by simp)) (el_lcT (K := K) (xs := ns.map nmV) (j := 9) (vs := [9]) (fun i => (ns[i]?).elim .non fun m => natV (oneK k m)) (ev_op (ev_var (i := 0) rfl) ev_c (rv_ixTn (i := 0) hpc rfl)) hqk (by simp; omega) (fun _ => rfl) fun i x H5 e5 hx => ?_) (by simp; have := given_len (ns.map nmV).length (fun _ => true) fun i => (ns[i]?).elim V.non fun m => natV (oneK k m); simp at this; omega)) ?_) fun l H5 n5 e5 h5 => ?_
  · rw [List.getElem?_map] at hx
    obtain ⟨m', hm', rfl⟩ := Option.map_eq_some_iff.mp hx
    rw [hm']
    refine ev_is (ev_intB (b := decide (m' = k)) (ev_is (ev_op (ev_var (i := 9) rfl) (ev_var (i := 2) rfl) (rv_l (rv_eq rfl))) (by congr 1; rw [decide_eq_decide]; exact nmV_eq))) ?_
    show V.int _ = V.int _
    unfold oneK
    by_cases c : m' = k
    · rw [if_pos c, decide_eq_true c] <;> rfl
    · rw [if_neg c, decide_eq_false c] <;> rfl
  · unfold given wL wN
    rw [List.filter_eq_self.mpr (fun _ _ => rfl), List.length_map]
    rw [range_get (fun m => natV (oneK k m)) .non ns]
    simp [natV]
  have ex5 := ex4.trans e5
  refine q_forR1 (n := ((r.2.2.map nmV).length : Int)) (ea_cons (ev_lenL (ev_var (i := 5) rfl) (.inr (ex_t (e4.trans e5) hc3))) ea_nil) (by simp; omega) (fun j σ' H' => ∃ (a : WC) (l' : Addr) (v7 v8 v9 v10 : Option V), σ' = [some (.ref pc), some (.ref tx), some (nmV k), some (nmV r.1), some (.int (r.2.1 : Nat)), some (.ref c), some (.ref l'), v7, v8, v9, v10] ∧ H' l' = some (.lst (wL ns a)) ∧ H l' = none ∧ Ex H5 H' ∧ wgh rs (.tuple [.int (m : Nat), .tuple ds1]) k = (stk rs ((ds1.zip r.2.2).drop j)).map (addW a))
    (fun H6 e6 => ⟨_, l, _, _, _, _, rfl, e6 _ _ h5, fresh_back ex4 n5, e6, eq0⟩) (fun j σ' H6 hj z => ?_) fun σ' H6 z => ?_
  · obtain ⟨a, l', v7, v8, v9, v10, rfl, hl6, nl6, ex6, eqj⟩ := z
    have hc0 := ex_t (e4.trans e5) hc3
    have ex56 := ex6
    have ex6 := ex5.trans ex56
    have jl : j < ds1.length := by simp at hj; omega
    have jl2 : j < r.2.2.length := by simp at hj; omega
    obtain ⟨dj, hdj⟩ : ∃ dj, ds1[j]? = some dj := ⟨_, List.getElem?_eq_getElem jl⟩
    obtain ⟨pj, hpj⟩ : ∃ pj, r.2.2[j]? = some pj := ⟨_, List.getElem?_eq_getElem jl2⟩
    obtain ⟨xj, hxj, dxj⟩ := paired_at1 pz1 hdj
    have hdr : (ds1.zip r.2.2).drop j = (dj, pj) :: (ds1.zip r.2.2).drop (j + 1) := by
      have jz : j < (ds1.zip r.2.2).length := by rw [List.length_zip]; omega
      rw [List.drop_eq_getElem_cons jz]
      congr 1
      have : (ds1.zip r.2.2)[j]? = some (dj, pj) := by rw [List.getElem?_zip_eq_some]; exact ⟨hdj, hpj⟩
      rw [List.getElem?_eq_getElem jz] at this
      exact Option.some.inj this
    have dn : DepLe n dj := dl _ _ rfl dj (List.mem_of_getElem? hdj)
    cases n with
    | zero => exact dn.elim
    | succ n =>
    refine q_callA (vs := [.ref pc, xj, nmV pj]) (ea_cons (ev_var (i := 0) rfl) (ea_cons (ev_op (ev_op (ev_var (i := 1) rfl) ev_c (rv_ixTn (i := 1) (ex_t ex6 hz) rfl)) (ev_var (i := 7) rfl) (rv_ixTn (i := j) (ex_t ex6 hy1) hxj)) (ea_cons (ev_op (ev_var (i := 5) rfl) (ev_var (i := 7) rfl) (rv_ixTn (i := j) (v := nmV pj) (ex_t ex56 hc0) (by rw [List.getElem?_map, hpj] <;> rfl))) ea_nil))) fun H7 e7 => ?_
    have ex7 := ex6.trans e7
    refine ⟨.ref pc, xj, pj, ns, rs, dj, rfl, hm.mono ex7, okn, okr, dxj.mono ex7, dn, fun z li H8 hw nli e8 hli => ?_, fun hw H8 e8 => ?_⟩
    · dsimp only [List.set]
      rw [hdr, stk_cons] at eqj
      simp only [hw] at eqj
      rw [map_addW] at eqj
      refine q_when (b := false) (et_is (et_B (ev_op (ev_var (i := 8) rfl) ev_c rv_isN)) rfl) (fun z => nomatch z) fun _ H9 e9 => ?_
      have hl9 := e9 _ _ (e8 _ _ (e7 _ _ hl6))
      have hli9 := e9 _ _ hli
      have ex9 := (ex7.trans e8).trans e9
      refine s_asgL (i := 6) (xs := wL ns (addW a z)) (el_is (el_lcZip (K := K) (j1 := 9) (j2 := 10) (vs := [9, 10]) (xs := wL ns a) (ys := wL ns z) (fun i => ((wN ns (addW a z))[i]?).elim .non natV) (ea_cons (ev_var (i := 6) rfl) (ea_cons (ev_var (i := 8) rfl) ea_nil)) (sq_of hl9) (sq_of hli9) (by unfold wL; rw [List.length_map, List.length_map, wN_len, wN_len]) (by unfold wL; rw [List.length_map, wN_len]; omega) (fun _ _ => rfl) fun i x y H10 e10 hx hy => ?_) ?_) fun l2 H10 n10 e10 h10 => ?_
      · unfold wL at hx hy
        rw [List.getElem?_map] at hx hy
        obtain ⟨p, hp, rfl⟩ := Option.map_eq_some_iff.mp hx
        obtain ⟨q', hq', rfl⟩ := Option.map_eq_some_iff.mp hy
        have e : (wN ns (addW a z))[i]? = some (p + q') := by rw [wN_add, List.getElem?_zipWith, hp, hq'] <;> rfl
        rw [e]
        exact ev_is (ev_op (ev_var (i := 9) rfl) (ev_var (i := 10) rfl) rv_addI) rfl
      · unfold given wL
        rw [List.filter_eq_self.mpr (fun _ _ => rfl), List.length_map, wN_len, ← wN_len ns (addW a z)]
        exact range_get natV .non _
      · exact ⟨addW a z, l2, _, _, _, _, rfl, h10, fresh_back ex9 n10, (((ex56.trans e7).trans e8).trans e9).trans e10, eqj⟩
    · dsimp only [List.set]
      rw [hdr, stk_cons] at eqj
      simp only [hw] at eqj
      refine q_when (b := true) (et_is (et_B (ev_op (ev_var (i := 8) rfl) ev_c rv_isN)) rfl) (fun _ H9 e9 => ?_) fun z => nomatch z
      exact s_ret ev_c fun H10 e10 => qn eqj H10 (((ex7.trans e8).trans e9).trans e10)
  · obtain ⟨a, l', v7, v8, v9, v10, rfl, hl6, nl6, ex6, eqj⟩ := z
    have ed : (ds1.zip r.2.2).drop ((r.2.2.map nmV).length : Int).toNat = [] := List.drop_eq_nil_of_le (by rw [List.length_zip]; simp; omega)
    rw [ed] at eqj
    have eqf : wgh rs (.tuple [.int (m : Nat), .tuple ds1]) k = some a := by
      rw [eqj]
      show some (addW a zeroW) = some a
      rw [addW_zero]
    exact s_ret (ev_var (i := 6) rfl) fun H7 e7 => qy a l' H7 eqf nl6 ((ex5.trans ex6).trans e7) (e7 _ _ hl6)
end
end K62
set_option Elab.async false
set_option linter.all false
set_option maxRecDepth 100000
set_option maxHeartbeats 4000000
namespace K62
open PySem PySem.Spec PyProof.Rows L2 Evl SwX
section
variable {P : Program} {w : World} {K : PySem.W.Frag} {mg : Str → Option Value} {base : Heap} {f : Addr} {fd : FuncData}
theorem paired_mapG {α β γ : Type} {F : γ → β → Prop} {g : α → γ} : ∀ {is : List α} {vs : List β}, Paired (fun d v => F (g d) v) is vs → Paired F (is.map g) vs
  | _, _, .nil => .nil
  | _, _, .cons a r => .cons a (paired_mapG r)
theorem repT3K {X : Cx} (K : PySem.W.Frag) (h : X.K = K := by rfl) : OpR X (binaryOp .Mult) (rRepT3 K) := h ▸ op_repT3
theorem less_less {D a : Addr} {H : Hp} : less D (less a H) = less a (less D H) := by
  funext b
  unfold less
  by_cases e1 : b = D <;> by_cases e2 : b = a <;> simp [e1, e2]
/-- [te for x in a new list of data], data again -/
theorem yi_lcD {a : Addr} {σ : L2.St} {H : Hp} {ds : List PyData} {h : PyData → PyData} {tl te : TE} {j : Nat} {vs : List Nat} (hl : Yi tl σ H (LstOf (DaA K a) ds)) (hz : ds.length ≤ 1000) (hw : ∀ x, wipe ((wipe σ vs).set j (some x)) vs = wipe σ vs)
    (he : ∀ (D : Addr) (x : V) (d : PyData) H1, Ex H (less D H1) → H1 D ≠ none → H D = none → Da K (less D (less a H1)) x d → ∀ Q : VK, (∀ v H2, Ex H1 H2 → Da K (less D (less a H2)) v (h d) → Q v H2) → te ((wipe σ vs).set j (some x)) H1 Q) :
    Yi (tLc (iList K tl) (gName j) tYes te vs) σ H (LstOf (DaA K a) (ds.map h)) := fun H0 e0 Q q => hl H0 e0 _ fun l H1 e1 z => by
  obtain ⟨p, xs, rfl, hp, pr⟩ := z
  refine ⟨p, rfl, ⟨xs, sq_of hp⟩, fun D hD => ?_⟩
  have lx := paired_len pr
  have x01 := e0.trans e1
  have hDn : H D = none := fresh_back x01 hD
  refine lc_list (xs := xs) (fun i H' => ∃ acc, H' D = some (.lst acc) ∧ Ex H1 (less D H') ∧ Paired (fun d v => Da K (less D (less a H')) v (h d)) (ds.take i) acc) ⟨[], upd_same, by rw [less_upd_same]; exact ex_less hD (Ex.refl H1), .nil⟩ (fun i H' _ z => ?_) (fun i x H' hi z => ⟨hw x, ?_⟩) fun H' z => ?_
  · obtain ⟨acc, _, x1, _⟩ := z
    exact sq_of (less_ex _ _ (x1 _ _ hp))
  · obtain ⟨acc, hacc, x1, pa⟩ := z
    obtain ⟨d, hd, dx⟩ := paired_at2 pr hi
    have la := paired_len pa
    have il := (List.getElem?_eq_some_iff.mp hd).1
    show te ((wipe σ vs).set j (some x)) H' fun y H4 => ∃ acc, H4 D = some (.lst acc) ∧ acc.length < sizeLine ∧ ∃ acc', upd H4 D (.lst (acc ++ [y])) D = some (.lst acc') ∧ Ex H1 (less D (upd H4 D (.lst (acc ++ [y])))) ∧ Paired (fun d v => Da K (less D (less a (upd H4 D (.lst (acc ++ [y]))))) v (h d)) (ds.take (i + 1)) acc'
    refine he D x d H' (x01.trans x1) (by rw [hacc]; exact fun z => by cases z) hDn (by rw [less_less]; exact Da.mono (less_mono x1) dx) _ fun y H4 e4 dy => ?_
    have er : less D (less a (upd H4 D (.lst (acc ++ [y])))) = less D (less a H4) := by rw [less_less, less_upd_same, less_less]
    refine ⟨acc, e4 _ _ hacc, sz_lt (by rw [← la, List.length_take]; omega), acc ++ [y], upd_same, by rw [less_upd_same]; exact x1.trans (less_mono e4), ?_⟩
    rw [er, List.take_add_one, hd]
    exact paired_app (paired_mono (F := fun d v H => Da K (less D (less a H)) v (h d)) e4 (fun _ _ _ _ e z => Da.mono (less_mono (less_mono e)) z) pa) (.cons dy .nil)
  · obtain ⟨acc, hacc, x1, pa⟩ := z
    rw [← lx, List.take_length] at pa
    have x1' : Ex H1 H' := x1.trans less_ex
    refine q (.ref D) H' (e1.trans x1') ⟨D, acc, rfl, hacc, paired_mapG (F := fun d v => DaA K a d v H') ?_⟩
    exact paired_mono (F := fun d v (G : Hp) => Da K G v (h d)) (less_ex (a := D)) (fun _ _ _ _ e z => Da.mono e z) pa
theorem pair_DA {D a : Addr} {σ : L2.St} {H1 : Hp} {i j : Nat} {x y : V} {dx dy : PyData} {Q : VK} (hi : σ[i]? = some (some x)) (hj : σ[j]? = some (some y)) (nD : H1 D ≠ none) (na : H1 a ≠ none) (hx : Da K (less D (less a H1)) x dx) (hy : Da K (less D (less a H1)) y dy) (q : ∀ v H2, Ex H1 H2 → Da K (less D (less a H2)) v (.tuple [dx, dy]) → Q v H2) : tTup (tCons (tVar i) (tCons (tVar j) tNil)) σ H1 Q := by
  refine ⟨x, hi, y, hj, show 2 ≤ sizeLine by decide, fun c hc => q (.ref c) _ (Ex.new hc) ?_⟩
  have cD : c ≠ D := fun e => nD (by rw [← e]; exact hc)
  have ca : c ≠ a := fun e => na (by rw [← e]; exact hc)
  have up : Ex (less D (less a H1)) (less D (less a (upd H1 c (.tup [x, y])))) := less_mono (less_mono (Ex.new hc))
  exact da_tuple (.inl (.inl (by rw [less_ne cD, less_ne ca, upd_same]))) (.cons (hx.mono up) (.cons (hy.mono up) .nil))
theorem cut_neg1 (xs : List V) : cutV xs none (some (-1)) = xs.take (xs.length - 1) := by
  unfold cutV
  rw [HT.sIx_none, List.drop_zero, Nat.sub_zero]
  congr 1
  have e : HT.sIx xs.length xs.length (some (-1)) = ((-1 : Int) + (xs.length : Int)).toNat := by
    unfold HT.sIx
    exact if_pos (by decide)
  rw [e]
  omega
theorem yi_dneg1 {a : Addr} {σ : L2.St} {H : Hp} {te : TE} {v : V} {ds : List PyData} (pu : Pur H a) {th : TO} (ha : Ev te σ H v) (hv : DaA K a (.tuple ds) v H) (hh : EvO th σ H (some (-1))) {tl : TO} (hl : EvO tl σ H none) : Yi (tSl (rSlY K) te tl th) σ H (DaA K a (.tuple (ds.take (ds.length - 1)))) := by
  obtain ⟨p, xs, rfl, hp, pr⟩ := daA_items hv
  refine (yi_slT ha (sqt_more hp) hl hh).imp fun y H2 e2 z => ?_
  obtain ⟨q1, rfl, h1⟩ := z
  rw [cut_neg1, ← paired_len pr] at h1
  exact da_tuple (sqt_less h1 (pu.keep e2)) (paired_take (ds.length - 1) (paired_mono (F := fun d v H => DaA K a d v H) e2 (fun d v H H' e h => daA_mono d v H H' e h) pr))
theorem rep_flat {α : Type} (x : α) (n : Nat) : (List.replicate n [x]).flatten = List.replicate n x := by
  induction n with
  | zero => rfl
  | succ n ih => rw [List.replicate_succ, List.flatten_cons, ih]; rfl
theorem paired_rep {α β : Type} {F : α → β → Prop} {x : α} {y : β} (h : F x y) : ∀ n, Paired F (List.replicate n x) (List.replicate n y)
  | 0 => .nil
  | n + 1 => .cons h (paired_rep h n)
/-- (x,) * n -/
theorem yi_rep {a : Addr} {σ : L2.St} {H : Hp} {ta tb : TE} {d : PyData} {n : Nat} (pu : Pur H a) (ha : Yi ta σ H (DaA K a (.tuple [d]))) (hb : Ev tb σ H (.int (n : Nat))) (l : n ≤ 1000) : Yi (tOp (rRepT3 K) ta tb) σ H (DaA K a (.tuple (List.replicate n d))) := fun H1 e1 Q q =>
  ha H1 e1 _ fun x H2 e2 hx => hb H2 (e1.trans e2) _ fun H3 e3 => by
    obtain ⟨p, xs, rfl, hp, pr⟩ := daA_items (daA_mono _ _ _ _ e3 hx)
    cases pr with
    | cons h0 r =>
      cases r
      have pu3 := pu.keep ((e1.trans e2).trans e3)
      refine ⟨p, (n : Int), _, rfl, rfl, sqt_more hp, by simp, by omega, by omega, by simp, fun n1 => ?_, fun n1 c hc => ?_⟩
      · have : n = 1 := by omega
        subst this
        exact q _ H3 (e2.trans e3) (da_tuple hp (.cons h0 .nil))
      · refine q _ _ ((e2.trans e3).trans (Ex.new hc)) ?_
        have ne := pu3.ne hc
        rw [Int.toNat_natCast, rep_flat]
        refine da_tuple (.inl (.inl (by rw [less_ne ne, upd_same]))) (paired_rep ?_ n)
        exact daA_mono _ _ _ _ (Ex.new hc) h0
theorem q_ifDr {σ : L2.St} {H G : Hp} {t : TT} {tu tz : TS} {D : Ends} {a : Addr} {R : Bool → Prop} (h : DrT a t σ G R) (e : Ex G H) (p : Pur H a) (h1 : R true → ∀ H1, Ex G H1 → Pur H1 a → tu { D with nx := tz D } σ H1) (h2 : R false → ∀ H1, Ex G H1 → Pur H1 a → tz D σ H1) : tSeq (tIfS t tu tNext) tz D σ H := h H e p _ fun b H1 r e1 p1 => by
  cases b with
  | true => exact h1 r H1 e1 p1
  | false => exact h2 r H1 e1 p1
theorem q_asgTup2 {te : TE} {tz : TS} {D : Ends} {σ : L2.St} {H : Hp} {i j : Nat} {b : Addr} {x y : V} (h : Ev te σ H (.ref b)) (hb : SqT K H b [x, y]) (k : ∀ H1, Ex H H1 → tz D ((σ.set i (some x)).set j (some y)) H1) :
    tSeq (tAsg te (gTup K 2 (gCons (gName i) (gCons (gName j) gNil)))) tz D σ H := h H (Ex.refl H) _ fun H1 e => ⟨b, _, rfl, ex_t e hb, rfl, _, _, rfl, _, _, rfl, rfl, k H1 e⟩
theorem add_DA {a : Addr} {H : Hp} {v1 v2 : V} {ds es : List PyData} {Q : VK} (pu : Pur H a) (h1 : DaA K a (.tuple ds) v1 H) (h2 : DaA K a (.tuple es) v2 H) (l : ds.length + es.length ≤ 100000) (q : ∀ v H', Ex H H' → DaA K a (.tuple (ds ++ es)) v H' → Q v H') : rAddX K v1 v2 H Q :=
  yi_dadd (σ := []) (ta := tC v1) (tb := tC v2) pu (yi_daA ev_c h1) (yi_daA ev_c h2) l H (Ex.refl H) Q q
theorem depthAll_le {xs : List PyData} {n : Nat} (h : ∀ x ∈ xs, x.depth ≤ n) : PyData.depthAll xs ≤ n := by
  have := depth_all (f := id) (l := xs) h
  simpa using this
theorem depth_mem {xs : List PyData} {x : PyData} (h : x ∈ xs) : x.depth ≤ PyData.depthAll xs := by
  induction xs with
  | nil => cases h
  | cons y ys ih =>
    simp only [PyData.depthAll]
    rcases List.mem_cons.mp h with rfl | h
    · omega
    · have := ih h
      omega
theorem th_pl {rs : List Rul} : ∀ (n : Nat) {k : Nm} {d : PyData}, ThOk rs n k d → d.hasDict = false ∧ d.canLay0 = true ∧ d.depth ≤ 2 * n
  | 0, _, _, h => h.elim
  | n + 1, k, d, ⟨i, r, ds, e, hr, hk, pr⟩ => by
    have each : ∀ x ∈ ds, x.hasDict = false ∧ x.canLay0 = true ∧ x.depth ≤ 2 * n := fun x hx => by
      obtain ⟨j, hj⟩ := List.getElem?_of_mem hx
      obtain ⟨p, _, t⟩ := paired_at2 pr hj
      exact th_pl n t
    have a1 : PyData.hasDictAll ds = false := by have := nodict_all (f := id) (l := ds) fun x hx => (each x hx).1; simpa using this
    have a2 : PyData.canLayAll0 ds = true := by have := lay_all (f := id) (l := ds) fun x hx => (each x hx).2.1; simpa using this
    have a3 : PyData.depthAll ds ≤ 2 * n := depthAll_le fun x hx => (each x hx).2.2
    subst e
    refine ⟨by simp [PyData.hasDict, PyData.hasDictAll, a1], by simp [PyData.canLay0, PyData.canLayAll0, a2], ?_⟩
    rw [dep_t]
    have : PyData.depthAll [.int (i : Nat), .tuple ds] ≤ 2 * n + 1 := depthAll_le fun x hx => by
      simp only [List.mem_cons, List.not_mem_nil, or_false] at hx
      rcases hx with rfl | rfl
      · exact Nat.zero_le _
      · rw [dep_t]; omega
    omega
theorem eqv_nil (ds : List PyData) : PyData.eqv (.tuple ds) (.tuple []) = decide (ds = []) := by
  cases ds with
  | nil => simp [PyData.eqv, PyData.eqvAll]
  | cons x xs => simp [PyData.eqv, PyData.eqvAll]
/-- a thing with a place of it turned -/
def spBent (K : PySem.W.Frag) : Nat → Sp
  | 0 => fun _ _ _ _ => False
  | n + 1 => fun vs H Q _ => ∃ (a : Addr) (x : V) (rs : List Rul) (k : Nm) (d : PyData), vs = [.ref a, x] ∧ Pur H a ∧ Da K (less a H) x d ∧ ThOk rs (n + 1) k d ∧ n ≤ 20 ∧ rs.length ≤ 10 ∧ (∀ r ∈ rs, r.2.2.length ≤ 3) ∧ ∀ v' d' H', d'.depth ≤ d.depth + 2 → Da K (less a H') v' d' → Ex (less a H) H' → Pur H' a → Q v' H'
abbrev s__law_bent : Stmt := top 55
abbrev sc__law_bent_N : List Str := ["_law_source_here", "_law_thing_here", "_law_index", "_law_inner", "_law_place", "_law_some", "_law_at", "_law_row"]
theorem sc__law_bent : FnScope sc__law_bent_N ["_law_source_here", "_law_thing_here"] (defScope s__law_bent) := ⟨rfl, rfl, rfl, by decide +kernel, rfl, by decide +kernel, by decide +kernel⟩
theorem ok_bent {n : Nat} (m_len : mg "len" = none) (m_str : mg "str" = none) (m_list : mg "list" = none) (D__law_draw : Has P w K mg base "_law_draw" 1 ["_law_source_here", "_law_many"] spDraw) (D__law_bent : Has P w K mg base "_law_bent" (n + 1) ["_law_source_here", "_law_thing_here"] (spBent K n)) (F : FnP K "_law_bent" s__law_bent f fd) : FnOk P w K mg base CX0 (n + 2) f fd ["_law_source_here", "_law_thing_here"] (spBent K (n + 1)) := by
  refine F.ok sc__law_bent (fun vs H Q E h => by obtain ⟨a, x, rs, k, d, rfl, _⟩ := h; rfl) (fun cdv A outer s H vs Q E hr h => ⟨_, PSs.nox
    (pss_cons (ps_asg (pv 1) (pg_tup rfl (pgs_cons (pg_name (i := 2) sc__law_bent.nd rfl (Or.inr rfl)) (pgs_cons (pg_name (i := 3) sc__law_bent.nd rfl (Or.inr rfl)) pgs_nil)))) (pss_cons (ps_if (pw_and (pt_cmpR (neK K hr) (pv 3) (pe_tup pa_nil) (nomark _)) (pw_and1 (pt_cmpR op_gt (pe_has D__law_draw (hr.mono (by omega)) (pa_cons (pv 0) (pa_cons pe_int pa_nil))) pe_int (nomark _)))).pt (pss_cons (ps_set (i := 4) sc__law_bent.nd rfl (Or.inl rfl) (pe_has D__law_draw (hr.mono (by omega)) (pa_cons (pv 0) (pa_cons (pe_callB (lenK K) (by rfl) m_len (by decide +kernel) (pa_cons (pv 3) pa_nil)) pa_nil)))) (pss_one (ps_ret (pe_tup (pa_cons (pv 2) (pa_cons (pe_op (addK K) (pe_op (addK K) (pe_slice (slK K) (pv 3) po_none (po_some (pv 4))) (pe_tup (pa_cons (pe_has D__law_bent (hr.mono (by omega)) (pa_cons (pv 0) (pa_cons (pe_ix (ixK K) (pv 3) (pv 4) (fun _ _ => rfl)) pa_nil))) pa_nil))) (pe_slice (slK K) (pv 3) (po_some (pe_op (addK K) (pv 4) pe_int)) po_none)) pa_nil)))))) pss_nil) (pss_cons (ps_setLc (i := 5) (own := [("_law_at", 6)]) (g := gName 6) (tt := tYes) rfl sc__law_bent.nd rfl rfl (sw_true rfl rfl rfl (by rfl)) (pi_list (pe_lst (pa_cons (pe_op (addK K) (pv 2) pe_int) (pa_cons (pe_op op_sub (pv 2) pe_int) (pa_cons (pe_op op_sub (pe_un un_neg pe_int) (pv 2)) (pa_cons pe_bl (pa_cons pe_non (pa_cons (pe_callTy call_strY (by rfl) m_str (by decide +kernel) (pa_cons (pv 2) pa_nil)) (pa_cons (pe_tup (pa_cons (pv 2) pa_nil)) pa_nil))))))))) (blkOk_by (N := sc__law_bent_N) (sc := defScope s__law_bent) (by decide +kernel)) (fun _ _ _ _ _ => pg_name (i := 6) sc__law_bent.nd rfl (Or.inl rfl)) (fun _ _ _ _ _ => pts_nil) (fun _ _ _ _ _ => (pe_tup (pa_cons (pv 6) (pa_cons (pv 3) pa_nil))))) (pss_cons (ps_set (i := 5) sc__law_bent.nd rfl (Or.inl rfl) (pe_op (addK K) (pv 5) (pe_lc (own := [("_law_row", 7)]) (g := gName 7) (tt := tYes) rfl sc__law_bent.nd (pi_list (pe_lst (pa_cons (pe_callTy call_list_of (by rfl) m_list (by decide +kernel) (pa_cons (pv 3) pa_nil)) (pa_cons (pe_op (addK K) (pv 3) (pe_tup (pa_cons (pv 1) pa_nil))) (pa_cons (pe_slice (slK K) (pv 3) po_none (po_some (pe_un un_neg pe_int))) (pa_cons (pe_revT (pv 3)) (pa_cons pe_non (pa_cons (pv 1) pa_nil)))))))) (blkOk_by (N := sc__law_bent_N) (sc := defScope s__law_bent) (by decide +kernel)) (fun _ _ _ _ _ => pg_name (i := 7) sc__law_bent.nd rfl (Or.inl rfl)) (fun _ _ _ _ _ => pts_nil) (fun _ _ _ _ _ => (pe_tup (pa_cons (pv 2) (pa_cons (pv 7) pa_nil))))))) (pss_cons (ps_set (i := 5) sc__law_bent.nd rfl (Or.inl rfl) (pe_op (addK K) (pv 5) (pe_lst (pa_cons (pe_tup (pa_cons (pv 2) (pa_cons (pe_op (repT3K K) (pe_tup (pa_cons (pe_tup (pa_cons pe_int (pa_cons (pe_tup pa_nil) pa_nil))) pa_nil)) (pe_callB (lenK K) (by rfl) m_len (by decide +kernel) (pa_cons (pv 3) pa_nil))) pa_nil))) (pa_cons (pe_lst (pa_cons (pv 2) (pa_cons (pv 3) pa_nil))) (pa_cons (pe_tup (pa_cons (pv 2) pa_nil)) (pa_cons (pe_tup (pa_cons (pv 2) (pa_cons (pv 3) (pa_cons (pe_tup pa_nil) pa_nil)))) (pa_cons pe_non (pa_cons (pv 2) pa_nil))))))))) (pss_one (ps_ret (pe_ix (ixK K) (pe_op (addK K) (pv 5) (pe_lst (pa_cons (pv 1) pa_nil))) (pe_has D__law_draw (hr.mono (by omega)) (pa_cons (pv 0) (pa_cons pe_int pa_nil))) (fun _ _ => rfl))))))))), ?_⟩)
  obtain ⟨a, x, rs, k, d, rfl, pu, dx, th, n20, l10, r3, q⟩ := h
  obtain ⟨i, r, ds, rfl, hr0, hk, pr⟩ := th
  obtain ⟨tx, zs, rfl, hz, pz⟩ := da_items dx
  obtain ⟨d0, d1, x0, y, ed, rfl, p0, p1⟩ := paired_two pz rfl
  simp only [List.cons.injEq, and_true] at ed
  obtain ⟨rfl, rfl⟩ := ed
  obtain rfl := da_intI p0
  have il : i < rs.length := (List.getElem?_eq_some_iff.mp hr0).1
  have dsl : ds.length ≤ 3 := by rw [← paired_len pr]; exact r3 r (List.mem_of_getElem? hr0)
  generalize eD : (PyData.tuple [.int (i : Nat), .tuple ds]) = d at dx q
  refine q_asgTup2 (ev_var (i := 1) rfl) (sqt_more hz) fun H1 e1 => ?_
  have g1 : Ex (less a H) (less a H1) := less_mono e1
  have pu1 := pu.keep e1
  have dy : DaA K a (.tuple ds) y H1 := p1.mono g1
  have dx1 : DaA K a d (.ref tx) H1 := dx.mono g1
  obtain ⟨ty, ys, rfl, hy, py⟩ := daA_items dy
  have ly := paired_len py
  have each : ∀ x ∈ ds, x.hasDict = false ∧ x.canLay0 = true ∧ x.depth ≤ 2 * n := fun x hx => by
    obtain ⟨j, hj⟩ := List.getElem?_of_mem hx
    obtain ⟨p, _, t⟩ := paired_at2 pr hj
    exact th_pl n t
  have depD : d.depth = PyData.depthAll ds + 2 := by
    rw [← eD, dep_t]
    simp only [PyData.depthAll, dep_t, PyData.depth]
    omega
  have plD : n ≤ 20 → Pl (.tuple ds) := fun n20 => ⟨by simp only [PyData.hasDict]; have := nodict_all (f := id) (l := ds) fun x hx => (each x hx).1; simpa using this, shaped_of (by simp only [PyData.canLay0]; have := lay_all (f := id) (l := ds) fun x hx => (each x hx).2.1; simpa using this) (by rw [dep_t]; have := depthAll_le fun x hx => (each x hx).2.2; omega)⟩
  have plE : Pl (.tuple []) := ⟨rfl, shaped_of rfl (by decide)⟩
  dsimp only [List.set]
  refine q_ifDr (a := a) (G := less a H1) (R := fun b => b = true → ds ≠ []) (dt_and (R1 := fun b => b = true → ds ≠ []) (R2 := fun _ => True) (dt_ev (b := !decide (ds = [])) (et_B (ev_opU (ev_var (i := 3) rfl) (eu_tup ea_nil (by simp)) fun u H8 h8 e8 => rv_neDat (b := decide (ds = [])) (d := .tuple ds) (e := .tuple []) (Da.mono e8 dy) (da_tuple (st_of h8) .nil) (plD n20) plE (eqv_nil ds))) (fun h => by simpa using h)) (fun _ => dt_B (dr_op (P1 := fun v => ∃ k : Int, v = .int k) (P2 := fun v => v = .int 0) ((dr_draw (m := 3) less_at rfl ev_c (by decide) (by decide)).imp fun v h => by obtain ⟨k, rfl, _⟩ := h; exact ⟨k, rfl⟩) (dr_ev ev_c rfl) fun x y hx hy => by
      obtain ⟨k, rfl⟩ := hx
      subst hy
      exact ⟨_, ⟨_, rfl, trivial⟩, fun H => rv_I0⟩)) (fun _ z => nomatch z) fun b r1 _ _ => r1 rfl) less_ex pu1 (fun rb H2 e2 p2 => ?_) fun _ H2 e2 p2 => ?_
  · have dne := rb rfl
    have dpos : 0 < ds.length := List.length_pos_iff.mpr dne
    have g2 : Ex (less a H1) (less a H2) := ex_less less_at e2
    refine q_asgDr (i := 4) (a := a) (G := less a H2) (P := fun v => ∃ j : Nat, j < ds.length ∧ v = natV j) ((dr_draw (m := (ds.length : Int)) less_at rfl (ev_is (ev_lenL (ev_var (i := 3) rfl) (.inr (ex_t g2 hy))) (by rw [ly])) (by omega) (by omega)).imp fun v h => by obtain ⟨k, rfl, k0, k1⟩ := h; exact ⟨k.toNat, by omega, by show V.int k = V.int (k.toNat : Int); rw [Int.toNat_of_nonneg k0]⟩) less_ex p2 fun v4 H3 pv e3 p3 => ?_
    obtain ⟨j, jl, rfl⟩ := pv
    dsimp only [List.set]
    have g3 : Ex (less a H1) (less a H3) := g2.trans (ex_less less_at e3)
    have dy3 : DaA K a (.tuple ds) (.ref ty) H3 := dy.mono g3
    obtain ⟨dj, hdj⟩ : ∃ dj, ds[j]? = some dj := ⟨_, List.getElem?_eq_getElem jl⟩
    obtain ⟨xj, hxj, dxj⟩ := paired_at1 py hdj
    obtain ⟨pj, hpj, tj⟩ := paired_at2 pr hdj
    cases n with
    | zero => exact tj.elim
    | succ n =>
    refine ⟨.int (i : Nat), rfl, ?_⟩
    refine yi_dtake (K := K) (n := j) (σ := [some (.ref a), some (.ref tx), some (.int (i : Nat)), some (.ref ty), some (natV j), none, none, none]) p3 (ev_var (i := 3) rfl) dy3 (eo_some (ev_var (i := 4) rfl)) eo_none H3 (Ex.refl H3) _ fun v1 H4 e4 dv1 => ?_
    have g4 : Ex (less a H1) (less a H4) := g3.trans (less_mono e4)
    refine ⟨.ref a, rfl, ?_⟩
    refine (ev_op (ev_var (i := 3) rfl) (ev_var (i := 4) rfl) (rv_ixTn (i := j) (ex_t less_ex (ex_t g4 hy)) hxj) : Ev _ [some (.ref a), some (.ref tx), some (.int (i : Nat)), some (.ref ty), some (natV j), none, none, none] H4 xj) H4 (Ex.refl H4) _ fun H5 e5 => ?_
    have g5 : Ex (less a H1) (less a H5) := g4.trans (less_mono e5)
    have p5 := (p3.keep e4).keep e5
    refine ⟨a, xj, rs, pj, dj, rfl, p5, Da.mono g5 dxj, tj, by omega, l10, r3, fun v' d' H6 dep dv' e6 p6 => ⟨show 1 ≤ sizeLine by decide, fun c hc => ?_⟩⟩
    have g6 : Ex (less a H5) (less a H6) := ex_less less_at e6
    have ca : c ≠ a := p6.ne hc
    have g7 : Ex (less a H6) (less a (upd H6 c (.tup [v']))) := less_mono (Ex.new hc)
    have p7 := p6.keep (Ex.new hc (o := .tup [v']))
    have dc : DaA K a (.tuple [d']) (.ref c) (upd H6 c (.tup [v'])) := da_tuple (.inl (.inl (by rw [less_ne ca, upd_same]))) (.cons (dv'.mono g7) .nil)
    have dv17 : DaA K a (.tuple (ds.take j)) v1 (upd H6 c (.tup [v'])) := dv1.mono (((less_mono e5).trans g6).trans g7)
    have dy7 : DaA K a (.tuple ds) (.ref ty) (upd H6 c (.tup [v'])) := dy.mono ((g5.trans g6).trans g7)
    have x7 : Ex (less a H) (less a (upd H6 c (.tup [v']))) := (((g1.trans g5).trans g6).trans g7)
    generalize upd H6 c (.tup [v']) = H7 at p7 dc dv17 dy7 x7 ⊢
    refine add_DA p7 dv17 dc (by simp; omega) fun v2 H8 e8 dv2 => ?_
    refine yi_ddrop (K := K) (n := j + 1) (σ := [some (.ref a), some (.ref tx), some (.int (i : Nat)), some (.ref ty), some (natV j), none, none, none]) (p7.keep e8) (ev_var (i := 3) rfl) (dy7.mono (less_mono e8)) (eo_some (ev_is (ev_op (ev_var (i := 4) rfl) ev_c rv_addI) (by show V.int _ = V.int ((j + 1 : Nat) : Int); rw [Int.natCast_add]; rfl))) eo_none H8 (Ex.refl H8) _ fun v3 H9 e9 dv3 => ?_
    refine add_DA ((p7.keep e8).keep e9) (dv2.mono (less_mono e9)) dv3 (by simp; omega) fun v4 H10 e10 dv4 => ⟨show 2 ≤ sizeLine by decide, fun c2 hc2 => ?_⟩
    have p10 := ((p7.keep e8).keep e9).keep e10
    have c2a : c2 ≠ a := p10.ne hc2
    have x10 : Ex (less a H) (less a H10) := x7.trans (less_mono ((e8.trans e9).trans e10))
    refine q (.ref c2) (.tuple [.int (i : Nat), .tuple (ds.take j ++ [d'] ++ ds.drop (j + 1))]) _ ?_ (da_tuple (.inl (.inl (by rw [less_ne c2a, upd_same]))) (.cons (.int _) (.cons (dv4.mono (less_mono (Ex.new hc2))) .nil))) ((x10.trans less_ex).trans (Ex.new hc2)) (p10.keep (Ex.new hc2))
    have dR : PyData.depthAll (ds.take j ++ [d'] ++ ds.drop (j + 1)) ≤ PyData.depthAll ds + 2 := depthAll_le fun x hx => by
      rcases List.mem_append.mp hx with hx | hx
      · rcases List.mem_append.mp hx with hx | hx
        · have := depth_mem (List.mem_of_mem_take hx)
          omega
        · simp only [List.mem_cons, List.not_mem_nil, or_false] at hx
          rw [hx]
          have := depth_mem (List.mem_of_getElem? hdj)
          omega
      · have := depth_mem (List.mem_of_mem_drop hx)
        omega
    rw [depD, dep_t]
    simp only [PyData.depthAll, dep_t, PyData.depth]
    omega
  · obtain ⟨oa, hoa⟩ := p2.is
    have g2 : Ex (less a H1) (less a H2) := ex_less less_at e2
    have dy2 : DaA K a (.tuple ds) (.ref ty) H2 := dy.mono g2
    have dx2 : DaA K a d (.ref tx) H2 := dx1.mono g2
    have sub : ∀ z w : Int, Ev (tOp (rI0 fun i j => .int (i - j)) (tC (.int z)) (tC (.int w))) [] H2 (.int (z - w)) := fun z w => ev_op ev_c ev_c rv_I0
    refine q_asgY (i := 5) (yi_lcD (K := K) (a := a) (ds := [.int ((i : Int) + 1), .int ((i : Int) - 1), .int (-1 - (i : Int)), .bool true, .none, .str (SX.S (TL.numL i)), .tuple [.int (i : Int)]]) (h := fun d => .tuple [d, .tuple ds]) (yi_lst daA_mono (ys_cons daA_mono (yi_dat (ev_op (ev_var (i := 2) rfl) ev_c rv_addI) fun _ => .int _) (ys_cons daA_mono (yi_dat (ev_op (ev_var (i := 2) rfl) ev_c rv_I0) fun _ => .int _) (ys_cons daA_mono (yi_dat (ev_op (ev_un ev_c ru_neg) (ev_var (i := 2) rfl) rv_I0) fun _ => .int _) (ys_cons daA_mono (yi_dat ev_c fun _ => .bl true) (ys_cons daA_mono (yi_dat ev_c fun _ => .non) (ys_cons daA_mono (yi_dat (ev_strN (ev_var (i := 2) rfl) (by omega)) fun _ => .str _) (ys_cons daA_mono (yi_dtup hoa (ys_cons daA_mono (yi_dat (ev_var (i := 2) rfl) fun _ => .int _) ys_nil) (by simp)) ys_nil))))))) (by simp)) (by simp) (fun _ => rfl) fun D xx dd H3 e3 nD hD dxx Q q => pair_DA (i := 6) (j := 3) (y := .ref ty) rfl rfl nD (by rw [less_ex _ _ (e3 _ _ hoa)]; exact fun z => by cases z) dxx (by rw [less_less]; exact Da.mono (less_mono e3) dy2) q) fun v5 H3 e3 l5 => ?_
    have hoa3 := e3 _ _ hoa
    have p3 := p2.keep e3
    have dy3 : DaA K a (.tuple ds) (.ref ty) H3 := dy2.mono (less_mono e3)
    have dx3 : DaA K a d (.ref tx) H3 := dx2.mono (less_mono e3)
    refine q_asgY (i := 5) (yi_catX daA_mono ((yi_ev (ev_var (i := 5) rfl)).imp fun v H' e z => by rw [z]; exact l5.mono daA_mono e) (yi_lcD (K := K) (a := a) (ds := [.list ds, .tuple (ds ++ [d]), .tuple (ds.take (ds.length - 1)), .tuple ds.reverse, .none, d]) (h := fun d => .tuple [.int (i : Nat), d]) (yi_lst daA_mono (ys_cons daA_mono (yi_dlist p3 (ev_var (i := 3) rfl) dy3) (ys_cons daA_mono (yi_dadd p3 (yi_daA (ev_var (i := 3) rfl) dy3) (yi_dtup hoa3 (ys_cons daA_mono (yi_daA (ev_var (i := 1) rfl) dx3) ys_nil) (by simp)) (by simp; omega)) (ys_cons daA_mono (yi_dneg1 p3 (ev_var (i := 3) rfl) dy3 (eo_some (ev_un ev_c ru_neg)) eo_none) (ys_cons daA_mono (yi_drev p3 (ev_var (i := 3) rfl) dy3) (ys_cons daA_mono (yi_dat ev_c fun _ => .non) (ys_cons daA_mono (yi_daA (ev_var (i := 1) rfl) dx3) ys_nil)))))) (by simp)) (by simp) (fun _ => rfl) fun D xx dd H4 e4 nD hD dxx Q q => pair_DA (i := 2) (j := 7) (x := .int (i : Nat)) rfl rfl nD (by rw [less_ex _ _ (e4 _ _ hoa3)]; exact fun z => by cases z) (.int _) dxx q) (by simp)) fun v5' H4 e4 l5' => ?_
    have hoa4 := e4 _ _ hoa3
    have p4 := p3.keep e4
    have dy4 : DaA K a (.tuple ds) (.ref ty) H4 := dy3.mono (less_mono e4)
    have dx4 : DaA K a d (.ref tx) H4 := dx3.mono (less_mono e4)
    refine q_asgY (i := 5) (yi_catX daA_mono ((yi_ev (ev_var (i := 5) rfl)).imp fun v H' e z => by rw [z]; exact l5'.mono daA_mono e) (yi_lst (is := [.tuple [.int (i : Nat), .tuple (List.replicate ds.length (.tuple [.int 0, .tuple []]))], .list [.int (i : Nat), .tuple ds], .tuple [.int (i : Nat)], .tuple [.int (i : Nat), .tuple ds, .tuple []], .none, .int (i : Nat)]) daA_mono (ys_cons daA_mono (yi_dtup hoa4 (ys_cons daA_mono (yi_dat (ev_var (i := 2) rfl) fun _ => .int _) (ys_cons daA_mono (yi_rep p4 (yi_dtup hoa4 (ys_cons daA_mono (yi_dtup hoa4 (ys_cons daA_mono (yi_dat ev_c fun _ => .int _) (ys_cons daA_mono (yi_dtup hoa4 ys_nil (by simp)) ys_nil)) (by simp)) ys_nil) (by simp)) (ev_is (ev_lenL (ev_var (i := 3) rfl) (.inr (ex_t less_ex (ex_t (g2.trans (less_mono (e3.trans e4))) hy)))) (by rw [ly])) (by omega)) ys_nil)) (by simp)) (ys_cons daA_mono (yi_dlst hoa4 (ys_cons daA_mono (yi_dat (ev_var (i := 2) rfl) fun _ => .int _) (ys_cons daA_mono (yi_daA (ev_var (i := 3) rfl) dy4) ys_nil)) (by simp)) (ys_cons daA_mono (yi_dtup hoa4 (ys_cons daA_mono (yi_dat (ev_var (i := 2) rfl) fun _ => .int _) ys_nil) (by simp)) (ys_cons daA_mono (yi_dtup hoa4 (ys_cons daA_mono (yi_dat (ev_var (i := 2) rfl) fun _ => .int _) (ys_cons daA_mono (yi_daA (ev_var (i := 3) rfl) dy4) (ys_cons daA_mono (yi_dtup hoa4 ys_nil (by simp)) ys_nil))) (by simp)) (ys_cons daA_mono (yi_dat ev_c fun _ => .non) (ys_cons daA_mono (yi_dat (ev_var (i := 2) rfl) fun _ => .int _) ys_nil)))))) (by simp)) (by simp)) fun v5'' H5 e5 l5'' => ?_
    have hoa5 := e5 _ _ hoa4
    have p5 := p4.keep e5
    have dx5 : DaA K a d (.ref tx) H5 := dx4.mono (less_mono e5)
    have x5 : Ex (less a H) (less a H5) := (g1.trans g2).trans (less_mono ((e3.trans e4).trans e5))
    refine (yi_catX (js := [d]) daA_mono ((yi_ev (ev_var (i := 5) rfl)).imp fun v H' e z => by rw [z]; exact l5''.mono daA_mono e) (yi_lst daA_mono (ys_cons daA_mono (yi_daA (ev_var (i := 1) rfl) dx5) ys_nil) (by simp)) (by simp) : Yi _ [some (.ref a), some (.ref tx), some (.int (i : Nat)), some (.ref ty), none, some v5'', none, none] H5 _) H5 (Ex.refl H5) _ fun v6 H6 e6 l6 => ?_
    obtain ⟨pl, vs, rfl, hpl, prl⟩ := l6
    have p6 := p5.keep e6
    have lvs := paired_len prl
    have pla : pl ≠ a := fun e => by
      obtain ⟨z1, z2, z3, hz, _⟩ := p6
      rw [← e, hpl] at hz
      cases hz
      simp at lvs
    refine (dr_draw (σ := [some (.ref a), some (.ref tx), some (.int (i : Nat)), some (.ref ty), none, some v5'', none, none]) (a := a) (G := less a H6) (m := 20) less_at rfl ev_c (by decide) (by decide)) H6 less_ex p6 _ fun vk H7 pk e7 p7 => ?_
    obtain ⟨kk, rfl, k0, k1⟩ := pk
    obtain ⟨v, hv, hv2⟩ := atI_nat (xs := vs) k0 (by rw [← lvs]; simpa using k1)
    obtain ⟨d', hd', dv⟩ := paired_at2 prl hv2
    refine .inl ⟨pl, vs, kk, v, rfl, rfl, sq_of (e7 _ _ (by rw [less_ne pla]; exact hpl)), hv, ?_⟩
    have dm := List.mem_of_getElem? hd'
    refine q v d' H7 ?_ (Da.mono (ex_less less_at e7) dv) ((x5.trans (less_mono e6)).trans e7) p7
    have A1 : PyData.depthAll (ds ++ [d]) ≤ PyData.depthAll ds + 2 := depthAll_le fun x hx => by
      rcases List.mem_append.mp hx with hx | hx
      · have := depth_mem hx
        omega
      · simp only [List.mem_cons, List.not_mem_nil, or_false] at hx
        rw [hx, depD]
        exact Nat.le_refl _
    have A2 : PyData.depthAll (ds.take (ds.length - 1)) ≤ PyData.depthAll ds := depthAll_le fun x hx => depth_mem (List.mem_of_mem_take hx)
    have A3 : PyData.depthAll ds.reverse ≤ PyData.depthAll ds := depthAll_le fun x hx => depth_mem (List.mem_reverse.mp hx)
    have A4 : PyData.depthAll (List.replicate ds.length (.tuple [.int 0, .tuple []])) ≤ 2 := depthAll_le fun x hx => by
      rw [(List.mem_replicate.mp hx).2]
      simp [dep_t, PyData.depthAll, PyData.depth]
    rw [depD]
    simp only [List.map_cons, List.map_nil, List.cons_append, List.nil_append, List.mem_cons, List.not_mem_nil, or_false] at dm
    rcases dm with h | h | h | h | h | h | h | h | h | h | h | h | h | h | h | h | h | h | h | h <;> rw [h] <;> simp only [dep_t, dep_l, PyData.depthAll, PyData.depth, depD] <;> omega
end
end K62
set_option Elab.async false
set_option linter.all false
set_option maxRecDepth 100000
set_option maxHeartbeats 4000000
namespace K62
open PySem PySem.Spec PyProof.Rows L2 Evl SwX
section
variable {P : Program} {w : World} {K : PySem.W.Frag} {mg : Str → Option Value} {base : Heap} {f : Addr} {fd : FuncData}
/-! ### data put together -/
def YD (K : PySem.W.Frag) (te : TE) (σ : L2.St) (H : Hp) (d : PyData) : Prop := Yi te σ H fun v H' => Da K H' v d
def YDs (K : PySem.W.Frag) (ta : TA) (σ : L2.St) (H : Hp) (ds : List PyData) : Prop := Ys ta σ H fun vs H' => Paired (fun d v => Da K H' v d) ds vs
theorem yd_ev {σ : L2.St} {H : Hp} {te : TE} {v : V} {d : PyData} (h : Ev te σ H v) (q : ∀ H', Ex H H' → Da K H' v d) : YD K te σ H d := fun H1 e Q k => h H1 e Q fun H2 e2 => k v H2 e2 (q H2 (e.trans e2))
theorem yds_nil {σ : L2.St} {H : Hp} : YDs K tNil σ H [] := fun H1 e Q k => k [] H1 (Ex.refl H1) .nil
theorem yds_cons {σ : L2.St} {H : Hp} {te : TE} {ta : TA} {d : PyData} {ds : List PyData} (h : YD K te σ H d) (t : YDs K ta σ H ds) : YDs K (tCons te ta) σ H (d :: ds) := fun H1 e Q k => h H1 e _ fun v H2 e2 dv => t H2 (e.trans e2) _ fun vs H3 e3 pr => k (v :: vs) H3 (e2.trans e3) (.cons (dv.mono e3) pr)
theorem yd_tup {σ : L2.St} {H : Hp} {ta : TA} {ds : List PyData} (h : YDs K ta σ H ds) (l : ds.length ≤ 1000) : YD K (tTup ta) σ H (.tuple ds) := fun H1 e Q k => h H1 e _ fun vs H2 e2 pr => ⟨sz_of (by rw [← paired_len pr]; omega), fun c hc => k (.ref c) _ (e2.trans (Ex.new hc)) (da_tuple (.inl (.inl upd_same)) (paired_mono (F := fun d v H => Da K H v d) (Ex.new hc) (fun _ _ _ _ e h => Da.mono e h) pr))⟩
theorem q_asgD {σ : L2.St} {H : Hp} {te : TE} {tz : TS} {D : Ends} {d : PyData} {i : Nat} (h : YD K te σ H d) (k : ∀ v H1, Ex H H1 → Da K H1 v d → tz D (σ.set i (some v)) H1) : tSeq (tAsg te (gName i)) tz D σ H := h H (Ex.refl H) _ k
theorem s_asgD {σ : L2.St} {H : Hp} {te : TE} {D : Ends} {d : PyData} {i : Nat} (h : YD K te σ H d) (k : ∀ v H1, Ex H H1 → Da K H1 v d → D.nx (σ.set i (some v)) H1) : tAsg te (gName i) D σ H := h H (Ex.refl H) _ k
theorem q_asgPD {σ : L2.St} {H : Hp} {ta tb : TE} {tz : TS} {D : Ends} {x : V} {d : PyData} {i j : Nat} (h1 : Ev ta σ H x) (h2 : YD K tb σ H d) (k : ∀ v H1, Ex H H1 → Da K H1 v d → tz D ((σ.set i (some x)).set j (some v)) H1) : tSeq (tAsg (tTup (tCons ta (tCons tb tNil))) (gTup K 2 (gCons (gName i) (gCons (gName j) gNil)))) tz D σ H :=
  h1 H (Ex.refl H) _ fun H1 e1 => h2 H1 e1 _ fun v H2 e2 dv => ⟨show 2 ≤ sizeLine by decide, fun p hp => ⟨p, [x, v], rfl, st_of upd_same, rfl, _, _, rfl, _, _, rfl, rfl, k v _ ((e1.trans e2).trans (Ex.new hp)) (dv.mono (Ex.new hp))⟩⟩
/-! ### accepts, asked -/
theorem ev_accW {σ : L2.St} {H : Hp} {E : XK} {ta : TA} {tv : TE} {ns : List Nm} {rs : List Rul} {k : Nm} {W : Int} {d : PyData} {b : Bool} (h : EvA ta σ H [.str "weighs", .str (SX.S (textL ns rs)), nmV k, .int W]) (hv : YD K tv σ H d) (kn : k ∈ ns) (okn : NamesOk ns) (okr : RulesOk ns rs) (hb : shownB rs d k W none = b) :
    Ev (tCall (spAcc K) [] E (tCons (tTup ta) (tCons tv tNil))) σ H (.bl b) := fun H1 e1 Q q => by
  show tTup ta σ H1 fun x H2 => tv σ H2 fun y H3 => spAcc K [x, y] H3 Q E
  exact eu_tup h (by simp) H1 e1 _ fun p H2 n2 e2 h2 => hv H2 (e1.trans e2) _ fun v H3 e3 dv => ⟨.ref p, v, ns, rs, k, W, none, d, rfl, ⟨p, rfl, st_of (e3 _ _ h2)⟩, kn, trivial, dv, okn, okr, fun H4 e4 => by rw [hb]; exact q H4 ((e2.trans e3).trans e4)⟩
theorem ev_accH {σ : L2.St} {H : Hp} {E : XK} {ta : TA} {tv : TE} {ns : List Nm} {rs : List Rul} {k m : Nm} {W N : Int} {d : PyData} {b : Bool} (h : EvA ta σ H [.str "holds", .str (SX.S (textL ns rs)), nmV k, nmV m, .int W, .int N]) (hv : YD K tv σ H d) (kn : k ∈ ns) (mn : m ∈ ns) (okn : NamesOk ns) (okr : RulesOk ns rs) (hb : shownB rs d k W (some (m, N)) = b) :
    Ev (tCall (spAcc K) [] E (tCons (tTup ta) (tCons tv tNil))) σ H (.bl b) := fun H1 e1 Q q => by
  show tTup ta σ H1 fun x H2 => tv σ H2 fun y H3 => spAcc K [x, y] H3 Q E
  exact eu_tup h (by simp) H1 e1 _ fun p H2 n2 e2 h2 => hv H2 (e1.trans e2) _ fun v H3 e3 dv => ⟨.ref p, v, ns, rs, k, W, some (m, N), d, rfl, ⟨p, rfl, st_of (e3 _ _ h2)⟩, kn, mn, dv, okn, okr, fun H4 e4 => by rw [hb]; exact q H4 ((e2.trans e3).trans e4)⟩
theorem wgh_th {rs : List Rul} (lo : ∀ r ∈ rs, 1 ≤ r.2.1) : ∀ (n : Nat) {k : Nm} {d : PyData}, ThOk rs n k d → ∃ z, wgh rs d k = some z ∧ 1 ≤ z.1
  | 0, _, _, h => h.elim
  | n + 1, k, d, ⟨i, r, ds, e, hr, hk, pr⟩ => by
    subst e
    have key : ∀ {ps : List Nm} {es : List PyData}, Paired (fun p d => ThOk rs n p d) ps es → ∃ y, stk rs (es.zip ps) = some y := by
      intro ps es h
      induction h with
      | nil => exact ⟨zeroW, rfl⟩
      | @cons p d ps es t _ ih =>
        obtain ⟨y, hy⟩ := ih
        obtain ⟨z, hz, _⟩ := wgh_th lo n t
        refine ⟨addW z y, ?_⟩
        rw [List.zip_cons_cons, stk_cons]
        simp only [hz]
        rw [hy]
        rfl
    obtain ⟨y, hy⟩ := key pr
    refine ⟨addW (r.2.1, oneK k) y, ?_, ?_⟩
    · rw [wgh_at (Int.natCast_nonneg i) (by simpa using hr), if_pos ⟨hk, (paired_len pr).symm⟩, hy]
      rfl
    · show 1 ≤ r.2.1 + y.1
      have := lo r (List.mem_of_getElem? hr)
      omega
theorem th_dep {rs : List Rul} : ∀ (n : Nat) {k : Nm} {d : PyData}, ThOk rs n k d → DepLe n d
  | 0, _, _, h => h.elim
  | n + 1, k, d, ⟨i, r, ds, e, hr, hk, pr⟩ => fun d0 es e2 x hx => by
    rw [e] at e2
    injection e2 with e2
    simp only [List.cons.injEq, and_true, PyData.tuple.injEq] at e2
    obtain ⟨_, rfl⟩ := e2
    obtain ⟨j, hj⟩ := List.getElem?_of_mem hx
    obtain ⟨p, _, t⟩ := paired_at2 pr hj
    exact th_dep n t
theorem th_other {rs : List Rul} {n : Nat} {k k' : Nm} {d : PyData} (h : ThOk rs n k d) (ne : k' ≠ k) : wgh rs d k' = none := by
  cases n with
  | zero => exact h.elim
  | succ n =>
    obtain ⟨i, r, ds, rfl, hr, hk, pr⟩ := h
    exact wgh_kind hr (by rw [hk]; exact fun e => ne e.symm)
def rReprB : List V → Hp → VK → Prop := fun xs H Q => ∃ b : Bool, xs = [.bl b] ∧ Q (.str (if b then "True" else "False")) H
theorem call_reprB {X : Cx} : CallR X (.builtin "repr") rReprB := by
  intro pins s σ H xs us Q I r h
  obtain ⟨b, rfl, q⟩ := h
  obtain ⟨u, rfl, hu⟩ := vals1 r
  cases (show u = Value.bool b from hu)
  exact PySem.P.repr_of_bool ⟨.str _, H, I.tok _, ⟨_, rfl⟩, q⟩
theorem ev_reprB {σ : L2.St} {H : Hp} {te : TE} {b : Bool} (h : Ev te σ H (.bl b)) : Ev (tCB rReprB (tCons te tNil)) σ H (.str (if b then "True" else "False")) := fun H1 e1 Q q =>
  h H1 e1 _ fun H2 e2 => ⟨b, rfl, q H2 e2⟩
theorem el_listD {σ : L2.St} {H : Hp} {te : TE} {p : Addr} {kvs : List (Key × V)} (h : Ev te σ H (.ref p)) (hp : H p = some (.dK kvs)) : EvL (tCB rListD (tCons te tNil)) σ H (kvs.map fun kv => kV kv.1) := fun H1 e1 Q q =>
  h H1 e1 _ fun H2 e2 => ⟨p, kvs, rfl, e2 _ _ (e1 _ _ hp), fun c hc => q c _ (fresh_back e2 hc) (e2.trans (Ex.new hc)) upd_same⟩
theorem dep_le : ∀ (n : Nat) {d : PyData}, d.depth < n → DepLe n d
  | 0, _, h => absurd h (Nat.not_lt_zero _)
  | n + 1, d, h => fun d0 ds e x hx => by
    subst e
    rw [dep_t] at h
    simp only [PyData.depthAll, dep_t] at h
    have := depth_mem hx
    exact dep_le n (by omega)
theorem wgh_pos {rs : List Rul} (lo : ∀ r ∈ rs, 1 ≤ r.2.1) {d : PyData} {k : Nm} {z : WC} (h : wgh rs d k = some z) : 1 ≤ z.1 := by
  by_cases c : ∃ i ds, d = .tuple [.int i, .tuple ds]
  · obtain ⟨i, ds, rfl⟩ := c
    rw [wgh_tup] at h
    cases hr : rs[i.toNat]? with
    | none => rw [hr] at h; cases h
    | some r =>
      rw [hr] at h
      have h' : (if 0 ≤ i ∧ r.1 = k ∧ ds.length = r.2.2.length then (stk rs (ds.zip r.2.2)).map (addW (r.2.1, oneK k)) else none) = some z := h
      split at h'
      · cases hs : stk rs (ds.zip r.2.2) with
        | none => rw [hs] at h'; cases h'
        | some y =>
          rw [hs] at h'
          cases h'
          show 1 ≤ r.2.1 + y.1
          have := lo r (List.mem_of_getElem? hr)
          omega
      · cases h'
  · rw [wgh_no fun i ds e => c ⟨i, ds, e⟩] at h
    cases h
def FoundAt (ns : List Nm) (o : Option WC) (v : V) (H H' : Hp) : Prop := match o with
  | none => v = .non
  | some z => ∃ l, v = .ref l ∧ H l = none ∧ H' l = some (.lst (wL ns z))
/-- what fits: as heavy, and light enough -/
def fitB : Option WC → WC → Bool
  | none, _ => false
  | some z, t => decide (((z.1 : Nat) : Int) = ((t.1 : Nat) : Int)) && decide (((t.1 : Nat) : Int) < 101)
def fitC (o : Option WC) (t : WC) (m : Nm) : Bool := fitB o t && (match o with
  | none => false
  | some z => decide (((z.2 m : Nat) : Int) = ((t.2 m : Nat) : Int)))
theorem shown_fit {rs : List Rul} {d : PyData} {k : Nm} {t : WC} {o : Option WC} (h : wgh rs d k = o) (t1 : 1 ≤ t.1) : shownB rs d k ((t.1 : Nat) : Int) none = fitB o t := by
  unfold shownB
  rw [h]
  have e1 : decide ((1 : Int) ≤ ((t.1 : Nat) : Int)) = true := decide_eq_true (by omega)
  have e2 : decide (((t.1 : Nat) : Int) ≤ 100) = decide (((t.1 : Nat) : Int) < 101) := by rw [decide_eq_decide]; omega
  rw [e1, e2]
  cases o with
  | none => simp [fitB]
  | some z => simp [fitB, Bool.and_comm]
theorem shown_fitC {rs : List Rul} {d : PyData} {k m : Nm} {t : WC} {o : Option WC} (h : wgh rs d k = o) (t1 : 1 ≤ t.1) : shownB rs d k ((t.1 : Nat) : Int) (some (m, ((t.2 m : Nat) : Int))) = fitC o t m := by
  unfold shownB
  rw [h]
  have e1 : decide ((1 : Int) ≤ ((t.1 : Nat) : Int)) = true := decide_eq_true (by omega)
  have e2 : decide (((t.1 : Nat) : Int) ≤ 100) = decide (((t.1 : Nat) : Int) < 101) := by rw [decide_eq_decide]; omega
  rw [e1, e2]
  cases o with
  | none => simp [fitC, fitB]
  | some z =>
    show ((true && decide (((t.1 : Nat) : Int) < 101)) && (decide (((z.1 : Nat) : Int) = ((t.1 : Nat) : Int)) && decide (((z.2 m : Nat) : Int) = ((t.2 m : Nat) : Int)))) = ((decide (((z.1 : Nat) : Int) = ((t.1 : Nat) : Int)) && decide (((t.1 : Nat) : Int) < 101)) && decide (((z.2 m : Nat) : Int) = ((t.2 m : Nat) : Int)))
    generalize decide (((t.1 : Nat) : Int) < 101) = A
    generalize decide (((z.1 : Nat) : Int) = ((t.1 : Nat) : Int)) = B
    generalize decide (((z.2 m : Nat) : Int) = ((t.2 m : Nat) : Int)) = C
    cases A <;> cases B <;> cases C <;> rfl
theorem el_rep {σ : L2.St} {H : Hp} {ta : TE} {xs : List V} (h : EvL ta σ H xs) (l : xs.length ≤ 1000) : EvL (tOp rRep ta (tC (.int 3))) σ H (List.replicate 3 xs).flatten := fun H1 e1 Q q =>
  h H1 e1 _ fun p H2 n2 e2 h2 => ⟨p, 3, xs, rfl, rfl, h2, by decide, by decide, by rw [sizeLine_eq]; show xs.length * 3 ≤ _; omega, fun c hc => q c _ (fresh_back e2 hc) (e2.trans (Ex.new hc)) upd_same⟩
def spRight : Sp := fun vs H Q _ => ∃ a : Addr, vs = [.ref a] ∧ Pur H a ∧ ∀ H', Ex (less a H) H' → Q (.bl true) H'
abbrev s__law_right : Stmt := top 56
abbrev sc__law_right_N : List Str := ["_law_source_here", "_law_mine", "_law_ready", "_law_text_here", "_law_kind", "_law_thing_here", "_law_at", "_law_bent_here", "_law_first", "_law_found", "_law_told", "_law_fits"]
theorem sc__law_right : FnScope sc__law_right_N ["_law_source_here"] (defScope s__law_right) := ⟨rfl, rfl, rfl, by decide +kernel, rfl, by decide +kernel, by decide +kernel⟩
theorem ok_right (S : SysIn K) (m_list : mg "list" = none) (m_repr : mg "repr" = none) (D_accepts : Has P w K mg base "accepts" 5 ["claim", "certificate"] (spAcc K)) (D__law_catalogue : Has P w K mg base "_law_catalogue" 4 ["_law_source_here"] (spCat K)) (D__law_made_of : Has P w K mg base "_law_made_of" 1 ["_law_mine"] (spMade K)) (D__law_text : Has P w K mg base "_law_text" 1 ["_law_mine"] (spText K)) (D__law_draw : Has P w K mg base "_law_draw" 1 ["_law_source_here", "_law_many"] spDraw) (D__law_thing : Has P w K mg base "_law_thing" 8 ["_law_source_here", "_law_mine", "_law_ready", "_law_kind", "_law_deep"] (spThing K 7)) (D__law_bent : Has P w K mg base "_law_bent" 8 ["_law_source_here", "_law_thing_here"] (spBent K 7)) (D__law_weighed : Has P w K mg base "_law_weighed" 18 ["_law_mine", "_law_thing_here", "_law_kind"] (spWeigh K 17)) (F : FnP K "_law_right" s__law_right f fd) : FnG P w K mg base CX0 19 f fd ["_law_source_here"] spRight := by
  refine SwX.FunD.okG F sc__law_right (fun vs H Q E h => by obtain ⟨a, rfl, _⟩ := h; rfl) (fun cdv A outer s H vs Q E hr calm h => ⟨_, PSs.nox
    (pss_cons (ps_set (i := 1) sc__law_right.nd rfl (Or.inl rfl) (pe_has D__law_catalogue (hr.mono (by decide)) (pa_cons (pv 0) pa_nil))) (pss_cons (ps_par (i := 2) (j := 3) (by rfl) sc__law_right.nd rfl rfl (by decide) rfl rfl (pa_cons (pe_has D__law_made_of (hr.mono (by decide)) (pa_cons (pv 1) pa_nil)) (pa_cons (pe_has D__law_text (hr.mono (by decide)) (pa_cons (pv 1) pa_nil)) pa_nil)) (by rfl)) (pss_cons (ps_for PassesOwn.never rfl (pi_list (pe_op op_rep (pe_callTy (call_list_dK rfl) (by rfl) m_list (by decide +kernel) (pa_cons (pv 2) pa_nil)) pe_int)) (pg_name (i := 4) sc__law_right.nd rfl (Or.inl rfl)) (pss_cons (ps_par (i := 5) (j := 6) (by rfl) sc__law_right.nd rfl rfl (by decide) rfl rfl (pa_cons (pe_has D__law_thing (hr.mono (by decide)) (pa_cons (pv 0) (pa_cons (pv 1) (pa_cons (pv 2) (pa_cons (pv 4) (pa_cons (pe_has D__law_draw (hr.mono (by decide)) (pa_cons (pv 0) (pa_cons pe_int pa_nil))) pa_nil)))))) (pa_cons (pe_has D__law_draw (hr.mono (by decide)) (pa_cons (pv 0) (pa_cons pe_int pa_nil))) pa_nil)) (by rfl)) (pss_cons (ps_set (i := 7) sc__law_right.nd rfl (Or.inl rfl) (pe_has D__law_bent (hr.mono (by decide)) (pa_cons (pv 0) (pa_cons (pv 5) pa_nil)))) (pss_cons (ps_par (i := 8) (j := 9) (by rfl) sc__law_right.nd rfl rfl (by decide) rfl rfl (pa_cons (pe_has D__law_weighed (hr.mono (by decide)) (pa_cons (pv 1) (pa_cons (pv 5) (pa_cons (pv 4) pa_nil)))) (pa_cons (pe_has D__law_weighed (hr.mono (by decide)) (pa_cons (pv 1) (pa_cons (pv 7) (pa_cons (pv 4) pa_nil)))) pa_nil)) (by rfl)) (pss_one (ps_for PassesOwn.never rfl (pi_list (pe_lst (pa_cons (pv 8) (pa_cons (pe_ifExp (pt_cmpR op_notN (pv 9) pe_non (nomark _)) (pv 9) (pv 8)) pa_nil)))) (pg_name (i := 10) sc__law_right.nd rfl (Or.inl rfl)) (pss_cons (ps_set (i := 11) sc__law_right.nd rfl (Or.inl rfl) (pe_and (pe_cmpR op_notN (pv 9) pe_non (nomark _)) (pe_and (pe_cmpR (eqK K hr) (pe_ix (ixK K) (pv 9) pe_int (fun _ _ => rfl)) (pe_ix (ixK K) (pv 10) pe_int (fun _ _ => rfl)) (nomark _)) (pe_one (pe_cmpR op_lt (pe_ix (ixK K) (pv 10) pe_int (fun _ _ => rfl)) pe_int (nomark _)))))) (pss_cons (ps_if (pt_cmpR (neK K hr) (pe_callB call_reprB (by rfl) m_repr (by decide +kernel) (pa_cons (pe_has D_accepts (hr.mono (by decide)) (pa_cons (pe_tup (pa_cons pe_str (pa_cons (pv 3) (pa_cons (pv 4) (pa_cons (pe_ix (ixK K) (pv 10) pe_int (fun _ _ => rfl)) pa_nil))))) (pa_cons (pv 7) pa_nil))) pa_nil)) (pe_callB call_reprB (by rfl) m_repr (by decide +kernel) (pa_cons (pv 11) pa_nil)) (nomark _)) (pss_one (ps_ret pe_bl)) pss_nil) (pss_cons (ps_set (i := 11) sc__law_right.nd rfl (Or.inl rfl) (pe_and (pv 11) (pe_one (pe_cmpR (eqK K hr) (pe_ix (ixK K) (pv 9) (pe_op (addK K) pe_int (pv 6)) (fun _ _ => rfl)) (pe_ix (ixK K) (pv 10) (pe_op (addK K) pe_int (pv 6)) (fun _ _ => rfl)) (nomark _))))) (pss_one (ps_if (pt_cmpR (neK K hr) (pe_callB call_reprB (by rfl) m_repr (by decide +kernel) (pa_cons (pe_has D_accepts (hr.mono (by decide)) (pa_cons (pe_tup (pa_cons pe_str (pa_cons (pv 3) (pa_cons (pv 4) (pa_cons (pe_ix (ixK K) (pe_ix (ixK K) (pv 1) pe_int (fun _ _ => rfl)) (pv 6) (fun _ _ => rfl)) (pa_cons (pe_ix (ixK K) (pv 10) pe_int (fun _ _ => rfl)) (pa_cons (pe_ix (ixK K) (pv 10) (pe_op (addK K) pe_int (pv 6)) (fun _ _ => rfl)) pa_nil))))))) (pa_cons (pv 7) pa_nil))) pa_nil)) (pe_callB call_reprB (by rfl) m_repr (by decide +kernel) (pa_cons (pv 11) pa_nil)) (nomark _)) (pss_one (ps_ret pe_bl)) pss_nil))))))))))) (pss_one (ps_ret pe_bl))))), ?_⟩)
  obtain ⟨a, rfl, pu, q⟩ := h
  refine ⟨.ref a, rfl, a, rfl, pu, fun v ns rs H1 okn n3 okr hm1 x1 p1 => ?_⟩
  dsimp only [List.set]
  have l10 := okr.len
  have lo : ∀ r ∈ rs, 1 ≤ r.2.1 := fun r hr => (okr.ok r hr).lo
  have hmH : MineAt K ns rs v H1 := hm1.mono less_ex
  -- ready, text
  refine ⟨v, rfl, v, ns, rs, rfl, hmH, okn, okr, fun c al H2 nc e2 hc rd => ?_⟩
  refine ⟨v, rfl, v, ns, rs, rfl, hmH.mono e2, okn, okr, fun H3 e3 => ⟨_, _, rfl, ?_⟩⟩
  dsimp only [List.set]
  have ca : c ≠ a := p1.ne nc
  have p3 := (p1.keep e2).keep e3
  have x3 : Ex (less a H) H3 := ((ex_less less_at x1).trans less_ex).trans (e2.trans e3)
  have hm3 : MineAt K ns rs v (less a H3) := hm1.mono (ex_less less_at (less_ex.trans (e2.trans e3)))
  have hc3 : less a H3 c = some (.dK (kvsOf al)) := by rw [less_ne ca]; exact e3 _ _ hc
  have fw : al.length ≤ 3 := by have := rd.few okr; omega
  have mem : ∀ k ∈ al.map (·.1), k ∈ ns := (rd.keys (ns := ns) fun r hr => (okr.ok r hr).wd).2
  have eks : (kvsOf al).map (fun kv => kV kv.1) = al.map fun p => nmV p.1 := by unfold kvsOf; rw [List.map_map]; rfl
  have eln : (al.map fun p => nmV p.1).length ≤ 3 := by rw [List.length_map]; exact fw
  refine q_forNLn (K := K) (xs := (List.replicate 3 (al.map fun p => nmV p.1)).flatten) (el_is (el_rep (el_listD (ev_var (i := 2) rfl) (e3 _ _ hc)) (by unfold kvsOf; simp; omega)) (by rw [eks])) (fun pl j σ' H' => ∃ (v4 v5 v6 v7 v8 v9 v10 v11 : Option V), σ' = [some (.ref a), some v, some (.ref c), some (.str (SX.S (textL ns rs))), v4, v5, v6, v7, v8, v9, v10, v11] ∧ H' pl = some (.lst (List.replicate 3 (al.map fun p => nmV p.1)).flatten) ∧ pl ≠ a ∧ Ex (less a H3) H' ∧ Pur H' a)
    (fun pl H4 n4 e4 h4 => ⟨_, _, _, _, _, _, _, _, rfl, h4, p3.ne n4, less_ex.trans e4, p3.keep e4⟩) (fun pl j σ' H' _ z => by obtain ⟨_, _, _, _, _, _, _, _, _, z, _⟩ := z; exact sq_of z) (fun pl j x σ' H4 hx z => ?_) fun pl σ' H4 z => ?_
  rotate_left
  · obtain ⟨v4, v5, v6, v7, v8, v9, v10, v11, rfl, _, _, x4, _⟩ := z
    exact s_ret ev_c fun H5 e5 => q H5 (((ex_less less_at x3).trans x4).trans e5)
  obtain ⟨v4, v5, v6, v7, v8, v9, v10, v11, rfl, hl4, npl, x4, p4⟩ := z
  obtain ⟨k, hkm, rfl⟩ : ∃ k, k ∈ al.map (·.1) ∧ x = nmV k := by
    have hx := List.mem_of_getElem? hx
    obtain ⟨l, hl, hx⟩ := List.mem_flatten.mp hx
    rw [(List.mem_replicate.mp hl).2] at hx
    obtain ⟨p, hp, rfl⟩ := List.mem_map.mp hx
    exact ⟨p.1, List.mem_map.mpr ⟨p, hp, rfl⟩, rfl⟩
  dsimp only [List.set]
  have g4 : Ex (less a H3) (less a H4) := ex_less less_at x4
  -- the thing, a place
  refine ⟨.ref a, rfl, v, rfl, .ref c, rfl, nmV k, rfl, ?_⟩
  refine (dr_draw (σ := [some (.ref a), some v, some (.ref c), some (.str (SX.S (textL ns rs))), some (nmV k), v5, v6, v7, v8, v9, v10, v11]) (a := a) (G := less a H4) (m := 5) less_at rfl ev_c (by decide) (by decide)) H4 less_ex p4 _ fun vd H5 pd e5 p5 => ?_
  obtain ⟨e, rfl, e0, e1⟩ := pd
  have g5 : Ex (less a H3) (less a H5) := g4.trans (ex_less less_at e5)
  have hc5 : H5 c = some (.dK (kvsOf al)) := (less_ex (a := a)) _ _ (g5 _ _ hc3)
  have fit : Fits al e k 7 := by
    by_cases z : 0 < e
    · exact .inl ⟨z, hkm, by omega⟩
    · obtain ⟨l1, i, l2, el⟩ := key_split hkm
      refine .inr ⟨by omega, l1, i, l2, el, ?_⟩
      rw [el] at fw
      simp at fw
      omega
  refine ⟨a, c, v, k, ns, rs, al, e, rfl, p5, ca, hm3.mono g5, okn, okr, hc5, rd, fit, fun vt d H6 td dt e6 p6 => ?_⟩
  have dt6 : Da K (less a H6) vt d := dt.mono (nw_less (pur_some p5))
  refine (dr_draw (σ := [some (.ref a), some v, some (.ref c), some (.str (SX.S (textL ns rs))), some (nmV k), v5, v6, v7, v8, v9, v10, v11]) (a := a) (G := less a H6) (m := 3) less_at rfl ev_c (by decide) (by decide)) H6 less_ex p6 _ fun vn H7 pn e7 p7 => ?_
  obtain ⟨nn, rfl, n0, n1⟩ := pn
  obtain ⟨n, rfl⟩ := Int.eq_ofNat_of_zero_le n0
  refine ⟨_, _, rfl, ?_⟩
  have ln : n < ns.length := by omega
  obtain ⟨m, hmn⟩ : ∃ m, ns[n]? = some m := ⟨_, List.getElem?_eq_getElem ln⟩
  have mn : m ∈ ns := List.mem_of_getElem? hmn
  have kn : k ∈ ns := mem k hkm
  have g7 : Ex (less a H3) (less a H7) := (g5.trans (ex_less less_at e6)).trans (ex_less less_at e7)
  have dt7 : Da K (less a H7) vt d := dt6.mono (ex_less less_at e7)
  have hpl7 : less a H7 pl = some (.lst (List.replicate 3 (al.map fun p => nmV p.1)).flatten) := (ex_less less_at e7) _ _ ((ex_less less_at e6) _ _ ((ex_less less_at e5) _ _ (by rw [less_ne npl]; exact hl4)))
  -- turned
  refine q_callA (vs := [.ref a, vt]) (ea_cons (ev_var (i := 0) rfl) (ea_cons (ev_var (i := 5) rfl) ea_nil)) fun H8 e8 => ?_
  have g8 : Ex (less a H7) (less a H8) := less_mono e8
  refine ⟨a, vt, rs, k, d, rfl, p7.keep e8, dt7.mono g8, td, by decide, l10, fun r hr => (okr.ok r hr).len, fun vb d' H9 dep db e9 p9 => ?_⟩
  have g9 : Ex (less a H7) (less a H9) := g8.trans (ex_less less_at e9)
  have dt9 : Da K (less a H9) vt d := dt7.mono g9
  have hm9 : MineAt K ns rs v (less a H9) := (hm3.mono g7).mono g9
  have d14 : d.depth ≤ 14 := (th_pl 7 td).2.2
  obtain ⟨z, hz, z1⟩ := wgh_th lo 7 td
  dsimp only [List.set]
  -- weighed
  have run1 : ∀ (H9 : Hp) (σ : L2.St) (tv : TE) (w : V) (dd : PyData) (Q : VK), MineAt K ns rs v H9 → Ev tv σ H9 w → Da K H9 w dd → dd.depth ≤ 16 → σ[1]? = some (some v) → σ[4]? = some (some (nmV k)) →
      (∀ o vf H', wgh rs dd k = o → Ex H9 H' → FoundAt ns o vf H9 H' → Q vf H') → tCall (spWeigh K 17) [] E0 (tCons (tVar 1) (tCons tv (tCons (tVar 4) tNil))) σ H9 Q := fun H9 σ tv w dd Q hm hv hd dep s1 s4 q1 => by
    refine ⟨v, s1, ?_⟩
    refine hv H9 (Ex.refl H9) _ fun H10 e10 => ⟨nmV k, s4, ?_⟩
    exact ⟨v, w, k, ns, rs, dd, rfl, hm.mono e10, okn, okr, hd.mono e10, dep_le 17 (by omega), fun z l H' hw nl e' hl => q1 (some z) (.ref l) H' hw (e10.trans e') ⟨l, rfl, fresh_back e10 nl, hl⟩, fun hw H' e' => q1 none .non H' hw (e10.trans e') rfl⟩
  refine run1 H9 [some (.ref a), some v, some (.ref c), some (.str (SX.S (textL ns rs))), some (nmV k), some vt, some (.int (n : Int)), some vb, v8, v9, v10, v11] (tVar 5) vt d _ (hm9.mono less_ex) (ev_var (i := 5) rfl) (dt9.mono less_ex) (by omega) rfl rfl fun o1 vf1 H10 ho1 e10 fo1 => ?_
  rw [hz] at ho1
  subst ho1
  obtain ⟨lf, rfl, nlf, hlf⟩ := fo1
  refine run1 H10 [some (.ref a), some v, some (.ref c), some (.str (SX.S (textL ns rs))), some (nmV k), some vt, some (.int (n : Int)), some vb, v8, v9, v10, v11] (tVar 7) vb d' _ ((hm9.mono less_ex).mono e10) (ev_var (i := 7) rfl) ((db.mono less_ex).mono e10) (by omega) rfl rfl fun o vf H11 ho e11 fo => ⟨_, _, rfl, ?_⟩
  have p11 := (p9.keep e10).keep e11
  have g11 : Ex (less a H9) (less a H11) := less_mono (e10.trans e11)
  have nlfa : lf ≠ a := p9.ne nlf
  have hlf11 : less a H11 lf = some (.lst (wL ns z)) := by rw [less_ne nlfa]; exact e11 _ _ hlf
  have db11 : Da K (less a H11) vb d' := db.mono g11
  have hm11 : MineAt K ns rs v (less a H11) := hm9.mono g11
  -- what is told of: the first, what was found or else the first
  obtain ⟨zt2, lt2, v12, z2, hlt2, o2⟩ : ∃ (zt2 : WC) (lt2 : Addr) (v12 : V), 1 ≤ zt2.1 ∧ less a H11 lt2 = some (.lst (wL ns zt2)) ∧ ((o = none ∧ vf = .non ∧ lt2 = lf) ∨ (∃ z', o = some z' ∧ vf = .ref lt2 ∧ zt2 = z')) := by
    cases o with
    | none => exact ⟨z, lf, .non, z1, hlf11, .inl ⟨rfl, fo, rfl⟩⟩
    | some z' =>
      obtain ⟨l, rfl, nl, hl⟩ := fo
      have nla : l ≠ a := (p9.keep e10).ne nl
      exact ⟨z', l, .non, wgh_pos lo ho, by rw [less_ne nla]; exact hl, .inr ⟨z', rfl, rfl, rfl⟩⟩
  have wm : ∀ t : WC, (wL ns t)[1 + n]? = some (natV (t.2 m)) := fun t => by
    unfold wL wN
    rw [List.getElem?_map, Nat.add_comm, List.getElem?_cons_succ, List.getElem?_map, hmn] <;> rfl
  have natV_eq : ∀ {x y : Nat}, (natV x = natV y) ↔ ((x : Int) = (y : Int)) := ⟨fun h => V.int.inj h, fun h => by show V.int _ = V.int _; rw [h]⟩
  refine s_forNL (K := K) (xs := [.ref lf, .ref lt2]) (el_lst (ea_cons (ev_var (i := 8) rfl) (ea_cons (ev_if (b := o.isSome) (et_is (et_B (ev_op (ev_var (i := 9) rfl) ev_c rv_notN)) (by
    rcases o2 with ⟨rfl, rfl, _⟩ | ⟨z', rfl, rfl, _⟩ <;> rfl)) (fun h => ev_is (ev_var (i := 9) rfl) (by
    rcases o2 with ⟨rfl, rfl, _⟩ | ⟨z', rfl, rfl, _⟩
    · cases h
    · rfl)) (fun h => ev_is (ev_var (i := 8) rfl) (by
    rcases o2 with ⟨rfl, rfl, e⟩ | ⟨z', rfl, rfl, _⟩
    · rw [e]
    · cases h))) ea_nil)) (by simp)) (fun p2 i σ' H' => ∃ (v10 v11 : Option V), σ' = [some (.ref a), some v, some (.ref c), some (.str (SX.S (textL ns rs))), some (nmV k), some vt, some (.int (n : Int)), some vb, some (.ref lf), some vf, v10, v11] ∧ Ex (less a H11) H' ∧ Pur H' a ∧ H' p2 = some (.lst [.ref lf, .ref lt2]))
    (fun p2 H12 n12 e12 h12 => ⟨_, _, rfl, less_ex.trans e12, p11.keep e12, h12⟩) (fun p2 i σ' H' _ z => by obtain ⟨_, _, _, _, _, z⟩ := z; exact sq_of z) (fun p2 i x σ' H12 hx zz => ?_) fun p2 σ' H12 zz => ?_
  rotate_left
  · obtain ⟨v10, v11, rfl, x12, p12, _⟩ := zz
    have g12 : Ex (less a H7) H12 := (g9.trans g11).trans x12
    exact ⟨_, _, _, _, _, _, _, _, rfl, g12 _ _ hpl7, npl, g7.trans g12, p12⟩
  obtain ⟨v10, v11, rfl, x12, p12, hp2⟩ := zz
  obtain ⟨zt, lt, rfl, zt1, hlt⟩ : ∃ (zt : WC) (lt : Addr), x = .ref lt ∧ 1 ≤ zt.1 ∧ less a H11 lt = some (.lst (wL ns zt)) := by
    have hx := List.mem_of_getElem? hx
    simp only [List.mem_cons, List.not_mem_nil, or_false] at hx
    rcases hx with rfl | rfl
    · exact ⟨z, lf, rfl, z1, hlf11⟩
    · exact ⟨zt2, lt2, rfl, z2, hlt2⟩
  show tSeq _ _ _ _ _
  dsimp only [List.set]
  rcases o2 with ⟨rfl, rfl, _⟩ | ⟨z', rfl, rfl, rfl⟩
  · clear fo
    refine q_asg (i := 11) (v := .bl (fitB none zt)) (ev_is (ev_andV (a := false) (b := false) (ev_is (ev_op (ev_var (i := 9) rfl) ev_c rv_notN) rfl) fun z => nomatch z) rfl) fun H13 e13 => ?_
    have x13 := x12.trans e13
    refine q_when (b := false) (et_is (et_B (ev_op (ev_reprB (ev_accW (K := K) (k := k) (W := ((zt.1 : Nat) : Int)) (b := (fitB none zt)) (ea_cons ev_c (ea_cons (ev_var (i := 3) rfl) (ea_cons (ev_var (i := 4) rfl) (ea_cons (ev_op (ev_var (i := 10) rfl) ev_c (rv_ixLn (i := 0) (sq_of (x13 _ _ hlt)) rfl)) ea_nil)))) (yd_ev (ev_var (i := 7) rfl) fun H' e => Da.mono (x13.trans e) db11) kn okn okr (shown_fit ho zt1))) (ev_reprB (ev_var (i := 11) rfl)) (rv_l (rv_ne rfl)))) (by simp)) (fun z => nomatch z) fun _ H14 e14 => ?_
    have x14 := x13.trans e14
    refine q_asg (i := 11) (v := .bl (fitC none zt m)) (ev_is (ev_andV (a := false) (b := false) (ev_var (i := 11) rfl) fun z => nomatch z) rfl) fun H15 e15 => ?_
    have x15 := x14.trans e15
    have hm15 : MineAt K ns rs v H15 := hm11.mono x15
    obtain ⟨pc', qk', y', epc, hpc', hqk', _⟩ := id hm15
    subst epc
    refine s_when (b := false) (et_is (et_B (ev_op (ev_reprB (ev_accH (K := K) (k := k) (m := m) (W := ((zt.1 : Nat) : Int)) (N := ((zt.2 m : Nat) : Int)) (b := fitC none zt m) (ea_cons ev_c (ea_cons (ev_var (i := 3) rfl) (ea_cons (ev_var (i := 4) rfl) (ea_cons (ev_op (ev_op (ev_var (i := 1) rfl) ev_c (rv_ixTn (i := 0) hpc' rfl)) (ev_var (i := 6) rfl) (rv_ixTn (i := n) (v := nmV m) hqk' (by rw [List.getElem?_map, hmn] <;> rfl))) (ea_cons (ev_op (ev_var (i := 10) rfl) ev_c (rv_ixLn (i := 0) (sq_of (x15 _ _ hlt)) rfl)) (ea_cons (ev_op (ev_var (i := 10) rfl) (ev_is (w := .int ((1 + n : Nat) : Int)) (ev_op ev_c (ev_var (i := 6) rfl) rv_addI) (by show V.int _ = V.int ((1 + n : Nat) : Int); rw [Int.natCast_add]; rfl)) (rv_ixLn (i := 1 + n) (sq_of (x15 _ _ hlt)) (wm zt))) ea_nil)))))) (yd_ev (ev_var (i := 7) rfl) fun H' e => Da.mono (x15.trans e) db11) kn mn okn okr (shown_fitC ho zt1))) (ev_reprB (ev_var (i := 11) rfl)) (rv_l (rv_ne rfl)))) (by simp)) (fun z => nomatch z) fun _ H16 e16 => ?_
    exact ⟨_, _, rfl, x15.trans e16, p12.keep (((e13.trans e14).trans e15).trans e16), (((e13.trans e14).trans e15).trans e16) _ _ hp2⟩
  · have hl11 := hlt2
    refine q_asg (i := 11) (v := .bl (fitB (some zt2) zt)) (ev_is (ev_andV (a := true) (b := decide (natV zt2.1 = natV zt.1) && decide (((zt.1 : Nat) : Int) < 101)) (ev_is (ev_op (ev_var (i := 9) rfl) ev_c rv_notN) rfl) fun _ => ev_andV (a := decide (natV zt2.1 = natV zt.1)) (b := decide (((zt.1 : Nat) : Int) < 101)) (ev_op (ev_op (ev_var (i := 9) rfl) ev_c (rv_ixLn (i := 0) (sq_of (x12 _ _ hl11)) rfl)) (ev_op (ev_var (i := 10) rfl) ev_c (rv_ixLn (i := 0) (sq_of (x12 _ _ hlt)) rfl)) (rv_l (rv_eq rfl))) fun _ => ev_op (ev_op (ev_var (i := 10) rfl) ev_c (rv_ixLn (i := 0) (v := natV zt.1) (sq_of (x12 _ _ hlt)) rfl)) ev_c rv_I0) (by
      show V.bl _ = V.bl (decide (((zt2.1 : Nat) : Int) = ((zt.1 : Nat) : Int)) && decide (((zt.1 : Nat) : Int) < 101))
      rw [Bool.true_and]
      congr 2
      rw [decide_eq_decide]
      exact natV_eq)) fun H13 e13 => ?_
    have x13 := x12.trans e13
    refine q_when (b := false) (et_is (et_B (ev_op (ev_reprB (ev_accW (K := K) (k := k) (W := ((zt.1 : Nat) : Int)) (b := (fitB (some zt2) zt)) (ea_cons ev_c (ea_cons (ev_var (i := 3) rfl) (ea_cons (ev_var (i := 4) rfl) (ea_cons (ev_op (ev_var (i := 10) rfl) ev_c (rv_ixLn (i := 0) (sq_of (x13 _ _ hlt)) rfl)) ea_nil)))) (yd_ev (ev_var (i := 7) rfl) fun H' e => Da.mono (x13.trans e) db11) kn okn okr (shown_fit ho zt1))) (ev_reprB (ev_var (i := 11) rfl)) (rv_l (rv_ne rfl)))) (by simp)) (fun z => nomatch z) fun _ H14 e14 => ?_
    have x14 := x13.trans e14
    refine q_asg (i := 11) (v := .bl (fitC (some zt2) zt m)) (ev_is (ev_andV (a := fitB (some zt2) zt) (b := decide (natV (zt2.2 m) = natV (zt.2 m))) (ev_var (i := 11) rfl) fun _ => ev_op (ev_op (ev_var (i := 9) rfl) (ev_is (w := .int ((1 + n : Nat) : Int)) (ev_op ev_c (ev_var (i := 6) rfl) rv_addI) (by show V.int _ = V.int ((1 + n : Nat) : Int); rw [Int.natCast_add]; rfl)) (rv_ixLn (i := 1 + n) (sq_of (x14 _ _ hl11)) (wm zt2))) (ev_op (ev_var (i := 10) rfl) (ev_is (w := .int ((1 + n : Nat) : Int)) (ev_op ev_c (ev_var (i := 6) rfl) rv_addI) (by show V.int _ = V.int ((1 + n : Nat) : Int); rw [Int.natCast_add]; rfl)) (rv_ixLn (i := 1 + n) (sq_of (x14 _ _ hlt)) (wm zt))) (rv_l (rv_eq rfl))) (by
      show V.bl _ = V.bl (fitB (some zt2) zt && decide (((zt2.2 m : Nat) : Int) = ((zt.2 m : Nat) : Int)))
      congr 2
      rw [decide_eq_decide]
      exact natV_eq)) fun H15 e15 => ?_
    have x15 := x14.trans e15
    have hm15 : MineAt K ns rs v H15 := hm11.mono x15
    obtain ⟨pc', qk', y', epc, hpc', hqk', _⟩ := id hm15
    subst epc
    refine s_when (b := false) (et_is (et_B (ev_op (ev_reprB (ev_accH (K := K) (k := k) (m := m) (W := ((zt.1 : Nat) : Int)) (N := ((zt.2 m : Nat) : Int)) (b := fitC (some zt2) zt m) (ea_cons ev_c (ea_cons (ev_var (i := 3) rfl) (ea_cons (ev_var (i := 4) rfl) (ea_cons (ev_op (ev_op (ev_var (i := 1) rfl) ev_c (rv_ixTn (i := 0) hpc' rfl)) (ev_var (i := 6) rfl) (rv_ixTn (i := n) (v := nmV m) hqk' (by rw [List.getElem?_map, hmn] <;> rfl))) (ea_cons (ev_op (ev_var (i := 10) rfl) ev_c (rv_ixLn (i := 0) (sq_of (x15 _ _ hlt)) rfl)) (ea_cons (ev_op (ev_var (i := 10) rfl) (ev_is (w := .int ((1 + n : Nat) : Int)) (ev_op ev_c (ev_var (i := 6) rfl) rv_addI) (by show V.int _ = V.int ((1 + n : Nat) : Int); rw [Int.natCast_add]; rfl)) (rv_ixLn (i := 1 + n) (sq_of (x15 _ _ hlt)) (wm zt))) ea_nil)))))) (yd_ev (ev_var (i := 7) rfl) fun H' e => Da.mono (x15.trans e) db11) kn mn okn okr (shown_fitC ho zt1))) (ev_reprB (ev_var (i := 11) rfl)) (rv_l (rv_ne rfl)))) (by simp)) (fun z => nomatch z) fun _ H16 e16 => ?_
    exact ⟨_, _, rfl, x15.trans e16, p12.keep (((e13.trans e14).trans e15).trans e16), (((e13.trans e14).trans e15).trans e16) _ _ hp2⟩
end
end K62
set_option Elab.async false
set_option linter.all false
set_option maxRecDepth 100000
set_option maxHeartbeats 4000000
namespace K62
open PySem PySem.Spec PyProof.Rows L2 Evl SwX
section
variable {P : Program} {w : World} {K : PySem.W.Frag} {mg : Str → Option Value} {base : Heap} {f : Addr} {fd : FuncData}
def cnt (ns : List Int) : Int := if (if (4 : Int) < ns.length then (4 : Int) else ns.length) > 2 then (if (4 : Int) < ns.length then (4 : Int) else ns.length) else 2
theorem cnt_le (ns : List Int) : cnt ns ≤ 4 := by
  unfold cnt
  split <;> (try split) <;> omega
theorem cnt_ok (ns : List Int) : 0 ≤ cnt ns ∧ cnt ns ≤ 100000 := by
  unfold cnt
  split <;> (try split) <;> omega
def spLaw (K : PySem.W.Frag) : Sp := fun vs H Q _ => ∃ (a : Addr) (ns : List Int), vs = [.ref a] ∧ SqL K H a (ns.map V.int) ∧ ∀ H', Q (.bl true) H'
abbrev s_law : Stmt := top 57
abbrev sc_law_N : List Str := ["_law_script", "_law_at"]
theorem sc_law : FnScope sc_law_N ["_law_script"] (defScope s_law) := ⟨rfl, rfl, rfl, by decide +kernel, rfl, by decide +kernel, by decide +kernel⟩
theorem ok_law (D__law_cell : Has P w K mg base "_law_cell" 1 ["_law_script", "_law_at"] (spSeed K)) (D__law_source : Has P w K mg base "_law_source" 1 ["_law_cell_here"] spPurse) (D__law_right : HasG P w K mg base "_law_right" 19 ["_law_source_here"] spRight)
    (m_len : mg "len" = none) (m_range : mg "range" = none) (m_max : mg "max" = none) (m_min : mg "min" = none) (F : FnP K "law" s_law f fd) : FnG P w K mg base CX0 20 f fd ["_law_script"] (spLaw K) := by
  refine SwX.FunD.okG F sc_law (fun vs H Q E h => by obtain ⟨a, ns, rfl, _⟩ := h; rfl) (fun cdv A outer s H vs Q E hr calm h => ⟨_, PSs.nox
    (pss_cons (ps_for PassesOwn.never rfl (pi_range1 (by rfl) m_range (pa_cons (pe_callB (call_max2 rfl) (by rfl) m_max (by decide +kernel) (pa_cons pe_int (pa_cons (pe_callB (call_min2 rfl) (by rfl) m_min (by decide +kernel) (pa_cons (pe_callB (lenK K) (by rfl) m_len (by decide +kernel) (pa_cons (pv 0) pa_nil)) (pa_cons pe_int pa_nil))) pa_nil))) pa_nil)) (pg_name (i := 1) sc_law.nd rfl (Or.inl rfl)) (pss_one (ps_if (pt_not (pt_val (pe_hasG D__law_right (hr.mono (by decide)) calm (pa_cons (pe_has D__law_source (hr.mono (by decide)) (pa_cons (pe_has D__law_cell (hr.mono (by decide)) (pa_cons (pv 0) (pa_cons (pv 1) pa_nil))) pa_nil)) pa_nil)))) (pss_one (ps_ret pe_bl)) pss_nil))) (pss_one (ps_ret pe_bl))), ?_⟩)
  obtain ⟨a, ns, rfl, hS, q⟩ := h
  refine q_forR1 (n := cnt ns) (ea_cons (ev_is (ev_max2 ev_c (ev_min2 (ev_lenL (ev_var (i := 0) rfl) (.inl hS)) ev_c)) (by rw [List.length_map]; rfl)) ea_nil) (cnt_ok ns) (fun _ σ' H' => ∃ v1, σ' = [some (.ref a), v1] ∧ SqL K H' a (ns.map V.int)) (fun H2 e2 => ⟨_, rfl, ex_l e2 hS⟩) (fun i σ' H2 hi z => ?_) fun σ' H2 _ => s_ret ev_c fun H3 e3 => q H3
  obtain ⟨v1, rfl, hs⟩ := z
  have small := cnt_ok ns
  have := cnt_le ns
  refine s_when (b := false) (et_not (a := true) (et_B fun H4 e4 Q' k => ?_)) (fun z => nomatch z) fun _ H3 e3 => ⟨_, rfl, ex_l e3 hs⟩
  refine ⟨.ref a, rfl, .int i, rfl, a, ns, i, rfl, ex_l e4 hs, by omega, by omega, fun n H5 e5 => ⟨n, rfl, fun b H6 hb e6 p6 => ⟨b, rfl, p6, fun H7 e7 => k H7 (e5.trans ((ex_less hb e6).trans e7))⟩⟩⟩
end
end K62
set_option Elab.async false
set_option linter.all false
set_option maxRecDepth 100000
set_option maxHeartbeats 0
namespace K62
open PySem PySem.Spec PyProof.Rows L2 SwX
theorem fn_not {P : Program} {w : World} {K : PySem.W.Frag} {mg : Str → Option Value} {base : Heap} {f : Addr} {fd : FuncData} {k : Nat} {ps : List Str} {sp : Sp} (h : ∀ vs H Q E, sp vs H Q E → False) : FnOk P w K mg base CX0 k f fd ps sp := ⟨fun vs H Q E z => (h vs H Q E z).elim, fun _ _ _ _ _ _ _ _ _ _ _ _ _ z => (h _ _ _ _ z).elim⟩
theorem hasG0_of {P : Program} {w : World} {K : PySem.W.Frag} {mg : Str → Option Value} {base : Heap} {x : Str} {f : Addr} {fd : FuncData} {k : Nat} {sp : Sp} (h : FnG P w K mg base CX0 k f fd [] sp) (m : mg x = some (.ref f)) (kp : PySem.W.keepIn K (.ref f) = true) (b : Binds K fd [] []) : HasG P w K mg base x k [] sp := ⟨_, _, h, m, kp, b⟩
section
variable {P : Program} {w : World} {K : PySem.W.Frag} {h : Heap} {mg : Str → Option Value} {base : Heap} {f : Addr} {fd : FuncData}
theorem facts {f : Addr} (X : K.In h) (G : h.Ns mainGlobals mg) (hfa : mg ("law" : Str) = some (.ref f)) (c : SaysZ fa fn tf chk h K) (dd : SaysD2 ts w K) :
    ∃ (K : PySem.W.Frag) (fd : FuncData) (sp : Sp) (cs : List (Addr × Addr)), K.In h ∧ (∀ p ∈ cs, h.get? p.2 = some tab0) ∧ (∀ p ∈ cs, K.lookup p.2 = none) ∧ (∀ p ∈ cs, PySem.W.CodeHd h p.1 p.2) ∧ (∀ (s : Shared) (u : Value), BindsTo s fd ⟨[u], []⟩ [("_law_script", u)]) ∧
        (∀ (H : Hp) (a : Addr) (ns : List Int), ns.length ≤ 63 → (∀ p ∈ cs, H p.2 = some (.tbl #[])) → SqL K H a (ns.map V.int) → sp [.ref a] H (fun v _ => v = .bl true) fun _ _ _ => False) ∧
        ∀ base : Heap, K.In base → base.Ns mainGlobals mg → (∀ p ∈ cs, LamX.TabB base mg p.1 p.2) → FnG P w K mg base CX0 20 f fd ["_law_script"] sp := by
  obtain ⟨sys, ck, sd, hd, ot, em⟩ := c
  unfold chk at ck
  obtain ⟨es, nS, DS⟩ := dd.tab 0
  have v4 := He.valsB_ok ck (q := ("weighs", .int 4)) (by simp)
  have v6 := He.valsB_ok ck (q := ("holds", .int 6)) (by simp)
  have s4 : ∃ t, PySem.W.nsIn K (He.ga K "SIZES") "weighs" = some (some (.int 4 t)) := by
    obtain ⟨u, e, t, rfl⟩ := v4
    exact ⟨t, e⟩
  have s6 : ∃ t, PySem.W.nsIn K (He.ga K "SIZES") "holds" = some (some (.int 6 t)) := by
    obtain ⟨u, e, t, rfl⟩ := v6
    exact ⟨t, e⟩
  obtain ⟨fd0, F0⟩ := sd.def_ 0 (d := dL "is_integer" 10) rfl
  obtain ⟨fd1, F1⟩ := sd.def_ 1 (d := dL "is_between" 11) rfl
  obtain ⟨fd2, F2⟩ := sd.def_ 2 (d := dL "is_name" 12) rfl
  obtain ⟨fd3, F3⟩ := sd.def_ 3 (d := dL "number_of" 13) rfl
  obtain ⟨fd4, F4⟩ := sd.def_ 4 (d := dL "told_recipe" 25) rfl
  obtain ⟨fd5, F5⟩ := sd.def_ 5 (d := dL "told_catalogue" 26) rfl
  obtain ⟨fd6, F6⟩ := sd.def_ 6 (d := dL "counts_of" 27) rfl
  obtain ⟨fd7, F7⟩ := sd.def_ 7 (d := dL "is_thing_shown" 39) rfl
  obtain ⟨fd8, F8⟩ := sd.def_ 8 (d := dL "accepts" 42) rfl
  obtain ⟨fd9, F9⟩ := sd.def_ 9 (d := dL "_law_cell" 44) rfl
  obtain ⟨fd10, F10⟩ := sd.def_ 10 (d := dL "_law_source" 45) rfl
  obtain ⟨fd11, F11⟩ := sd.def_ 11 (d := dL "_law_draw" 46) rfl
  obtain ⟨fd12, F12⟩ := sd.def_ 12 (d := dL "_law_name" 47) rfl
  obtain ⟨fd13, F13⟩ := sd.def_ 13 (d := dL "_law_mixed" 48) rfl
  obtain ⟨fd14, F14⟩ := sd.def_ 14 (d := dL "_law_recipes" 49) rfl
  obtain ⟨fd15, F15⟩ := sd.def_ 15 (d := dL "_law_catalogue" 50) rfl
  obtain ⟨fd16, F16⟩ := sd.def_ 16 (d := dL "_law_text" 51) rfl
  obtain ⟨fd17, F17⟩ := sd.def_ 17 (d := dL "_law_made_of" 52) rfl
  obtain ⟨fd18, F18⟩ := sd.def_ 18 (d := dL "_law_thing" 53) rfl
  obtain ⟨fd19, F19⟩ := sd.def_ 19 (d := dL "_law_weighed" 54) rfl
  obtain ⟨fd20, F20⟩ := sd.def_ 20 (d := dL "_law_bent" 55) rfl
  obtain ⟨fd21, F21⟩ := sd.def_ 21 (d := dL "_law_right" 56) rfl
  obtain ⟨fd22, F22⟩ := sd.def_ 22 (d := dL "law" 57) rfl
  have k_is_integer := He.glo_ok X G (sd.fact 0 (f := .glo "is_integer") rfl)
  have k_is_between := He.glo_ok X G (sd.fact 1 (f := .glo "is_between") rfl)
  have k_is_name := He.glo_ok X G (sd.fact 2 (f := .glo "is_name") rfl)
  have k_number_of := He.glo_ok X G (sd.fact 3 (f := .glo "number_of") rfl)
  have k_told_recipe := He.glo_ok X G (sd.fact 4 (f := .glo "told_recipe") rfl)
  have k_told_catalogue := He.glo_ok X G (sd.fact 5 (f := .glo "told_catalogue") rfl)
  have k_counts_of := He.glo_ok X G (sd.fact 6 (f := .glo "counts_of") rfl)
  have k_is_thing_shown := He.glo_ok X G (sd.fact 7 (f := .glo "is_thing_shown") rfl)
  have k_accepts := He.glo_ok X G (sd.fact 8 (f := .glo "accepts") rfl)
  have k__law_cell := He.glo_ok X G (sd.fact 9 (f := .glo "_law_cell") rfl)
  have k__law_source := He.glo_ok X G (sd.fact 10 (f := .glo "_law_source") rfl)
  have k__law_draw := He.glo_ok X G (sd.fact 11 (f := .glo "_law_draw") rfl)
  have k__law_name := He.glo_ok X G (sd.fact 12 (f := .glo "_law_name") rfl)
  have k__law_mixed := He.glo_ok X G (sd.fact 13 (f := .glo "_law_mixed") rfl)
  have k__law_recipes := He.glo_ok X G (sd.fact 14 (f := .glo "_law_recipes") rfl)
  have k__law_catalogue := He.glo_ok X G (sd.fact 15 (f := .glo "_law_catalogue") rfl)
  have k__law_text := He.glo_ok X G (sd.fact 16 (f := .glo "_law_text") rfl)
  have k__law_made_of := He.glo_ok X G (sd.fact 17 (f := .glo "_law_made_of") rfl)
  have k__law_thing := He.glo_ok X G (sd.fact 18 (f := .glo "_law_thing") rfl)
  have k__law_weighed := He.glo_ok X G (sd.fact 19 (f := .glo "_law_weighed") rfl)
  have k__law_bent := He.glo_ok X G (sd.fact 20 (f := .glo "_law_bent") rfl)
  have k__law_right := He.glo_ok X G (sd.fact 21 (f := .glo "_law_right") rfl)
  have k_law := He.glo_ok X G (sd.fact 22 (f := .glo "law") rfl)
  have m_len := He.free_ok X G (sd.fact 23 (f := .free "len") rfl)
  have m_str := He.free_ok X G (sd.fact 24 (f := .free "str") rfl)
  have m_repr := He.free_ok X G (sd.fact 25 (f := .free "repr") rfl)
  have m_isinstance := He.free_ok X G (sd.fact 26 (f := .free "isinstance") rfl)
  have m_range := He.free_ok X G (sd.fact 27 (f := .free "range") rfl)
  have m_all := He.free_ok X G (sd.fact 28 (f := .free "all") rfl)
  have m_max := He.free_ok X G (sd.fact 29 (f := .free "max") rfl)
  have m_min := He.free_ok X G (sd.fact 30 (f := .free "min") rfl)
  have m_int := He.free_ok X G (sd.fact 31 (f := .free "int") rfl)
  have m_bool := He.free_ok X G (sd.fact 32 (f := .free "bool") rfl)
  have m_list := He.free_ok X G (sd.fact 33 (f := .free "list") rfl)
  have m_tuple := He.free_ok X G (sd.fact 34 (f := .free "tuple") rfl)
  have m_divmod := He.free_ok X G (sd.fact 35 (f := .free "divmod") rfl)
  have m_set := He.free_ok X G (sd.fact 36 (f := .free "set") rfl)
  have m_zip := He.free_ok X G (sd.fact 37 (f := .free "zip") rfl)
  have g_MOST_KINDS := He.int_ok X G (sd.fact 38 (f := .int "MOST_KINDS" 4) rfl)
  have g_MOST_RECIPES := He.int_ok X G (sd.fact 39 (f := .int "MOST_RECIPES" 10) rfl)
  have g_MOST_PARTS := He.int_ok X G (sd.fact 40 (f := .int "MOST_PARTS" 3) rfl)
  have g_MOST_OWN := He.int_ok X G (sd.fact 41 (f := .int "MOST_OWN" 9) rfl)
  have g_MOST_TOGETHER := He.int_ok X G (sd.fact 42 (f := .int "MOST_TOGETHER" 1000) rfl)
  have g_MOST_BUILT := He.int_ok X G (sd.fact 43 (f := .int "MOST_BUILT" 100) rfl)
  have g_LONGEST_NAME := He.int_ok X G (sd.fact 44 (f := .int "LONGEST_NAME" 8) rfl)
  have g_DIGITS := He.str_ok X G (sd.fact 45 (f := .str "DIGITS" "0123456789") rfl)
  have g_LETTERS := He.str_ok X G (sd.fact 46 (f := .str "LETTERS" "abcdefghijklmnopqrstuvwxyz") rfl)
  have k_SIZES := He.glo_ok X G (sd.fact 47 (f := .glo "SIZES") rfl)
  have e := hfa.symm.trans k_law
  cases e
  have b := FunD.bindsA (ps := ["_law_script"]) F22 fun _ _ _ _ _ _ us hl => match us, hl with | [_], _ => rfl
  refine ⟨K, fd22, spLaw K, [], X, (fun p hp => (nomatch hp)), (fun p hp => (nomatch hp)), (fun p hp => (nomatch hp)), fun s v => b s [v] rfl, fun H a ns hl hT hS => ⟨a, ns, rfl, hS, fun _ => rfl⟩, fun base _ _ TB => ?_⟩
  have D_is_integer : Has P w K mg base "is_integer" 1 ["value"] (spIsIntD K) := ⟨_, fd0, ok_is_integer m_isinstance m_int m_bool F0, k_is_integer, F0.kp, (FunD.bindsN (ps := ["value"]) F0 fun _ _ _ _ _ _ us hl => match us, hl with | [_], _ => rfl)⟩
  have D_is_between : Has P w K mg base "is_between" 2 ["value", "low", "high"] (spBtwO K) := ⟨_, fd1, ok_is_between D_is_integer F1, k_is_between, F1.kp, (FunD.bindsN (ps := ["value", "low", "high"]) F1 fun _ _ _ _ _ _ us hl => match us, hl with | [_, _, _], _ => rfl)⟩
  have D_is_name : Has P w K mg base "is_name" 1 ["value"] (spIsName) := ⟨_, fd2, ok_is_name m_isinstance m_str m_len m_all g_LONGEST_NAME g_LETTERS g_DIGITS F2, k_is_name, F2.kp, (FunD.bindsN (ps := ["value"]) F2 fun _ _ _ _ _ _ us hl => match us, hl with | [_], _ => rfl)⟩
  have D_number_of : Has P w K mg base "number_of" 1 ["word"] (spNumber) := ⟨_, fd3, ok_number_of m_len m_all m_int g_DIGITS F3, k_number_of, F3.kp, (FunD.bindsN (ps := ["word"]) F3 fun _ _ _ _ _ _ us hl => match us, hl with | [_], _ => rfl)⟩
  have D_told_recipe : Has P w K mg base "told_recipe" 3 ["line", "kinds"] (spToldR K) := ⟨_, fd4, ok_told_recipe m_len m_all m_tuple g_MOST_PARTS g_MOST_OWN D_number_of D_is_between F4, k_told_recipe, F4.kp, (FunD.bindsN (ps := ["line", "kinds"]) F4 fun _ _ _ _ _ _ us hl => match us, hl with | [_, _], _ => rfl)⟩
  have D_told_catalogue : Has P w K mg base "told_catalogue" 4 ["text"] (spToldC K) := ⟨_, fd5, ok_told_catalogue m_isinstance m_str m_tuple m_len m_all m_set g_MOST_KINDS g_MOST_RECIPES D_is_name D_told_recipe F5, k_told_catalogue, F5.kp, (FunD.bindsN (ps := ["text"]) F5 fun _ _ _ _ _ _ us hl => match us, hl with | [_], _ => rfl)⟩
  have D_counts_of : Has P w K mg base "counts_of" 3 ["thing", "kind", "recipes", "most"] (spCounts K) := ⟨_, fd6, ok_counts_of m_len m_isinstance m_tuple m_list m_zip D_is_between F6, k_counts_of, F6.kp, (FunD.bindsN (ps := ["thing", "kind", "recipes", "most"]) F6 fun _ _ _ _ _ _ us hl => match us, hl with | [_, _, _, _], _ => rfl)⟩
  have D_is_thing_shown : Has P w K mg base "is_thing_shown" 4 ["catalogue", "claim", "thing"] (spShown K) := ⟨_, fd7, ok_is_thing_shown D_is_integer g_MOST_BUILT D_is_between D_counts_of F7, k_is_thing_shown, F7.kp, (FunD.bindsN (ps := ["catalogue", "claim", "thing"]) F7 fun _ _ _ _ _ _ us hl => match us, hl with | [_, _, _], _ => rfl)⟩
  have D_accepts : Has P w K mg base "accepts" 5 ["claim", "certificate"] (spAcc K) := ⟨_, fd8, ok_accepts m_isinstance m_tuple m_str m_len k_SIZES DS s4 s6 D_told_catalogue D_is_thing_shown F8, k_accepts, F8.kp, (FunD.bindsN (ps := ["claim", "certificate"]) F8 fun _ _ _ _ _ _ us hl => match us, hl with | [_, _], _ => rfl)⟩
  have D__law_cell : Has P w K mg base "_law_cell" 1 ["_law_script", "_law_at"] (spSeed K) := ⟨_, fd9, ok_cell F9 m_len m_int, k__law_cell, F9.kp, (FunD.bindsN (ps := ["_law_script", "_law_at"]) F9 fun _ _ _ _ _ _ us hl => match us, hl with | [_, _], _ => rfl)⟩
  have D__law_source : Has P w K mg base "_law_source" 1 ["_law_cell_here"] (spPurse) := ⟨_, fd10, ok_source F10 m_int, k__law_source, F10.kp, (FunD.bindsN (ps := ["_law_cell_here"]) F10 fun _ _ _ _ _ _ us hl => match us, hl with | [_], _ => rfl)⟩
  have D__law_draw : Has P w K mg base "_law_draw" 1 ["_law_source_here", "_law_many"] (spDraw) := ⟨_, fd11, ok_draw F11 m_int m_divmod, k__law_draw, F11.kp, (FunD.bindsN (ps := ["_law_source_here", "_law_many"]) F11 fun _ _ _ _ _ _ us hl => match us, hl with | [_, _], _ => rfl)⟩
  have D__law_name : Has P w K mg base "_law_name" 2 ["_law_source_here", "_law_at"] (spName) := ⟨_, fd12, ok_name D__law_draw F12 m_range m_str, k__law_name, F12.kp, (FunD.bindsN (ps := ["_law_source_here", "_law_at"]) F12 fun _ _ _ _ _ _ us hl => match us, hl with | [_, _], _ => rfl)⟩
  have D__law_mixed : Has P w K mg base "_law_mixed" 2 ["_law_source_here", "_law_rows"] (spMixed K) := ⟨_, fd13, ok_mixed m_len D__law_draw F13, k__law_mixed, F13.kp, (FunD.bindsN (ps := ["_law_source_here", "_law_rows"]) F13 fun _ _ _ _ _ _ us hl => match us, hl with | [_, _], _ => rfl)⟩
  have D__law_recipes : Has P w K mg base "_law_recipes" 3 ["_law_source_here", "_law_names"] (spRecs K) := ⟨_, fd14, ok_recipes m_range m_tuple D__law_draw D__law_mixed F14, k__law_recipes, F14.kp, (FunD.bindsN (ps := ["_law_source_here", "_law_names"]) F14 fun _ _ _ _ _ _ us hl => match us, hl with | [_, _], _ => rfl)⟩
  have D__law_catalogue : Has P w K mg base "_law_catalogue" 4 ["_law_source_here"] (spCat K) := ⟨_, fd15, ok_catalogue m_range m_tuple D__law_draw D__law_name D__law_recipes F15, k__law_catalogue, F15.kp, (FunD.bindsN (ps := ["_law_source_here"]) F15 fun _ _ _ _ _ _ us hl => match us, hl with | [_], _ => rfl)⟩
  have D__law_text : Has P w K mg base "_law_text" 1 ["_law_mine"] (spText K) := ⟨_, fd16, ok_ltext F16 m_str, k__law_text, F16.kp, (FunD.bindsN (ps := ["_law_mine"]) F16 fun _ _ _ _ _ _ us hl => match us, hl with | [_], _ => rfl)⟩
  have D__law_made_of : Has P w K mg base "_law_made_of" 1 ["_law_mine"] (spMade K) := ⟨_, fd17, ok_made m_range m_len F17, k__law_made_of, F17.kp, (FunD.bindsN (ps := ["_law_mine"]) F17 fun _ _ _ _ _ _ us hl => match us, hl with | [_], _ => rfl)⟩
  have L__law_thing : ∀ n : Nat, FnOk P w K mg base CX0 (n + 1) _ fd18 ["_law_source_here", "_law_mine", "_law_ready", "_law_kind", "_law_deep"] (spThing K n) := fun n => by
    induction n with
    | zero => exact fn_not fun _ _ _ _ z => z
    | succ n ih => exact ok_lthing m_len m_range m_tuple D__law_draw ⟨_, fd18, ih, k__law_thing, F18.kp, (FunD.bindsN (ps := ["_law_source_here", "_law_mine", "_law_ready", "_law_kind", "_law_deep"]) F18 fun _ _ _ _ _ _ us hl => match us, hl with | [_, _, _, _, _], _ => rfl)⟩ F18
  have D__law_thing : Has P w K mg base "_law_thing" 8 ["_law_source_here", "_law_mine", "_law_ready", "_law_kind", "_law_deep"] (spThing K 7) := ⟨_, fd18, L__law_thing 7, k__law_thing, F18.kp, (FunD.bindsN (ps := ["_law_source_here", "_law_mine", "_law_ready", "_law_kind", "_law_deep"]) F18 fun _ _ _ _ _ _ us hl => match us, hl with | [_, _, _, _, _], _ => rfl)⟩
  have L__law_weighed : ∀ n : Nat, FnOk P w K mg base CX0 (n + 1) _ fd19 ["_law_mine", "_law_thing_here", "_law_kind"] (spWeigh K n) := fun n => by
    induction n with
    | zero => exact fn_not fun _ _ _ _ z => z
    | succ n ih => exact ok_weighed m_isinstance m_tuple m_len m_int m_bool m_range m_zip ⟨_, fd19, ih, k__law_weighed, F19.kp, (FunD.bindsN (ps := ["_law_mine", "_law_thing_here", "_law_kind"]) F19 fun _ _ _ _ _ _ us hl => match us, hl with | [_, _, _], _ => rfl)⟩ F19
  have D__law_weighed : Has P w K mg base "_law_weighed" 18 ["_law_mine", "_law_thing_here", "_law_kind"] (spWeigh K 17) := ⟨_, fd19, L__law_weighed 17, k__law_weighed, F19.kp, (FunD.bindsN (ps := ["_law_mine", "_law_thing_here", "_law_kind"]) F19 fun _ _ _ _ _ _ us hl => match us, hl with | [_, _, _], _ => rfl)⟩
  have L__law_bent : ∀ n : Nat, FnOk P w K mg base CX0 (n + 1) _ fd20 ["_law_source_here", "_law_thing_here"] (spBent K n) := fun n => by
    induction n with
    | zero => exact fn_not fun _ _ _ _ z => z
    | succ n ih => exact ok_bent m_len m_str m_list D__law_draw ⟨_, fd20, ih, k__law_bent, F20.kp, (FunD.bindsN (ps := ["_law_source_here", "_law_thing_here"]) F20 fun _ _ _ _ _ _ us hl => match us, hl with | [_, _], _ => rfl)⟩ F20
  have D__law_bent : Has P w K mg base "_law_bent" 8 ["_law_source_here", "_law_thing_here"] (spBent K 7) := ⟨_, fd20, L__law_bent 7, k__law_bent, F20.kp, (FunD.bindsN (ps := ["_law_source_here", "_law_thing_here"]) F20 fun _ _ _ _ _ _ us hl => match us, hl with | [_, _], _ => rfl)⟩
  have D__law_right : HasG P w K mg base "_law_right" 19 ["_law_source_here"] (spRight) := ⟨_, fd21, ok_right sys m_list m_repr D_accepts D__law_catalogue D__law_made_of D__law_text D__law_draw D__law_thing D__law_bent D__law_weighed F21, k__law_right, F21.kp, (FunD.bindsN (ps := ["_law_source_here"]) F21 fun _ _ _ _ _ _ us hl => match us, hl with | [_], _ => rfl)⟩
  exact ok_law D__law_cell D__law_source D__law_right m_len m_range m_max m_min F22
end
end K62
open PySem PySem.W PySem.Calls PyProof.Rows
theorem PySem.Challenge.cw_sealedweights_k62_bent_things_holds : PySem.Challenge.rw_sealedweights_k62_bent_things.Holds := by
  w_on; o_law
  refine HandSHeadRun.head_any (r := K62.R) (q := view K62.R.prog [57]) (H := K62.hk) (ob := K62.ob) (M := 20000) (loose := K62.names) (d := HandSHeadRun.topDef K62.R.prog 57) (kwd := []) K62.ob_eq
    (by kernel_rfl) (fun s => by kernel_rfl) K62.run (by kernel_rfl) (by kernel_rfl) (by kernel_rfl) (by rfl) (by first | assumption | decide +kernel) (by decide +kernel) ⟨rfl, rfl, rfl, rfl, rfl, by decide +kernel⟩ ?hw ?hc
  case hw => w_witness2
  case hc =>
    refine SwX.walk_ofT (l := PySem.Challenge.rw_sealedweights_k62_bent_things) (n := 63) (k := 20) (x := "_law_script") (CX := L2.CX0) rfl (by decide) (by kernel_rfl) ⟨rfl, by decide, by decide⟩ ?F (fun _ _ _ _ z => z)
    intro w mg fa h Y G hmg0
    obtain ⟨K, KX, c, dd⟩ := Y
    have hmg : mg ("law" : PySem.Str) = some (.ref fa) := by
      have e : (HandSHeadRun.topDef K62.R.prog 57).name = ("law" : PySem.Str) := by kernel_rfl
      rw [← e]
      exact hmg0
    exact K62.facts (P := (PySem.Challenge.rw_sealedweights_k62_bent_things).prog) (w := w) KX G hmg c dd
